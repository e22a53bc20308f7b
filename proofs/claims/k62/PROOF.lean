import PyProof.Rows.All
import Wide.All
import OpenK.AllK
import Wide.FinOn
import HandS.ForMost
import HandS.Exc
import HandS.ExcOwn
import HandS.WordsExc
import HandS.CallSlots
import HandS.HeadEnd
import HandS.Evl
import HandS.HeadHook1
import HandS.IsInst
import HandS.TupAny
import HandS.Flow
import HandS.Property
import HandS.SortInts
import HandS.Defaults
import KE.KSetDisp
import HandS.SetFor
import HandS.Strs
import HandS.SetBool
import HandS.DictComp
import HandS.Iter
import HandS.Conv
import HandS.Small
import HandS.MakeKw
import HandS.HeadHook2
import HandS.HeadHook4
import HandS.Head2
import HandS.Style
import HandS.ExcIs
import HandS.ExcField
import PyProof.ReprBulk
import PyProof.Rows.StrJoinMade
import KE.SortData
import KE.KDictDisplayH
import KE.KDictCopyH
import KE.KDictSum
import HandS.DictTup
import PyProof.Transfer
import HandS.Deep
import HandS.Head0
import HandS.Head1
import PySem.Challenge.RW_loneseats_k62_plays_to_stretches
section
set_option Elab.async false
set_option linter.all false
set_option maxRecDepth 100000
set_option maxHeartbeats 4000000
/-! functions called where no guard is under way -/
namespace DM
open PySem L2 PySem.Spec PyProof.Rows
structure RoomG (k : Nat) (A : Around) : Prop where
  room : Room k A
  gs : A.guards = some []
section
variable {j k : Nat} {A : Around}
theorem RoomG.mono (r : RoomG k A) (h : j ≤ k) : RoomG j A := ⟨r.room.mono h, r.gs⟩
theorem RoomG.units (r : RoomG k A) : A.units + 64 < cLine := r.room.units
theorem RoomG.deeper (r : RoomG (k + 1) A) (env : Env) : RoomG k (A.deeper env) := ⟨r.room.deeper env, r.gs⟩
theorem make_guards {C : Addr} {us : List Value} {kw : List (Str × Value)} : (A.under (.builtin "type.__call__" ⟨.ref C :: us, kw⟩)).guards = A.guards := by
  have e : (Code.builtin "type.__call__" ⟨.ref C :: us, kw⟩).guards = [] := by
    unfold Code.guards
    rw [if_neg]
    simp [Code.isGuard, guardIds]
  show pushGuards (Code.builtin "type.__call__" ⟨.ref C :: us, kw⟩).guards A.guards = _
  rw [e]
  cases A.guards <;> rfl
theorem RoomG.make (r : RoomG (k + 1) A) (C : Addr) (us : List Value) (kw : List (Str × Value)) : RoomG k (A.under (.builtin "type.__call__" ⟨.ref C :: us, kw⟩)) := ⟨r.room.make C us kw, by rw [make_guards]; exact r.gs⟩
end
structure FnG (P : Program) (w : World) (K : PySem.W.Frag) (mg : Str → Option Value) (base : Heap) (CX : CXT) (k : Nat) (f : Addr) (fd : FuncData) (ps : List Str) (sp : Sp) : Prop where
  len : ∀ vs H Q E, sp vs H Q E → vs.length = ps.length
  go : ∀ (A : Around) (out : List Env) (st : Shared) (H : Hp) (ar : Args) (us : List Value) (vs : List V) (Q : VK) (E : XK), RoomG k A → Env0 P w K mg base A out st H → BindsTo st fd ar (ps.zip us) → Vals vs us → sp vs H Q E → codeAny (model P w) A (.call (.ref f) ar) (CR CX out P w H st Q E) st
section
variable {P : Program} {w : World} {K : PySem.W.Frag} {mg : Str → Option Value} {base : Heap} {CX : CXT} {j k : Nat} {f : Addr} {fd : FuncData} {ps : List Str} {sp sp' : Sp}
theorem FnG.of (F : FnOk P w K mg base CX k f fd ps sp) : FnG P w K mg base CX k f fd ps sp := ⟨F.len, fun A out st H ar us vs Q E r => F.run A out st H ar us vs Q E r.room⟩
theorem FnG.mono (F : FnG P w K mg base CX j f fd ps sp) (h : j ≤ k) : FnG P w K mg base CX k f fd ps sp := ⟨F.len, fun A out st H ar us vs Q E r => F.go A out st H ar us vs Q E (r.mono h)⟩
theorem FnG.imp (F : FnG P w K mg base CX k f fd ps sp) (h : ∀ vs H Q E, sp' vs H Q E → sp vs H Q E) : FnG P w K mg base CX k f fd ps sp' :=
  ⟨fun vs H Q E q => F.len vs H Q E (h _ _ _ _ q), fun A out st H ar us vs Q E r e b v z => F.go A out st H ar us vs Q E r e b v (h _ _ _ _ z)⟩
end
/-- a def by the walk of its body -/
theorem fnG_of {CX : CXT} {P : Program} {w : World} {K : PySem.W.Frag} {mg : Str → Option Value} {base : Heap} {k : Nat} {f : Addr} {nm ql : Str} {pr : Arguments} {bd : List Stmt} {sc : Scope} {d1 d2 d3 d4 cdv d5 d6 : Value} {o1 o2 : Option Addr} {os : Array (Option Value)} {N ps : List Str} {sp : Sp}
    (lk : K.lookup f = some ⟨d6, o2, .func (PySem.W.fnOf nm ql pr bd sc d1 d2 d3 d4 o1 cdv d5), os⟩) (hc : PySem.W.codeIn K cdv ql = true) (S : FnScope N ps sc) (len : ∀ vs H Q E, sp vs H Q E → vs.length = ps.length)
    (hb : ∀ (A : Around) (out : List Env) (st : Shared) (H : Hp) (vs : List V) (Q : VK) (E : XK), RoomG k (A.deeper (envOfC ql sc st.heap.objs.size f cdv)) → sp vs H Q E → ∃ t, PSs (cxOf CX P w K mg base N ql sc f cdv A out st H E) bd t ∧ t { nx := fun _ H' => Q .non H', rt := Q } (start N vs) H) :
    FnG P w K mg base CX (k + 1) f (PySem.W.fnOf nm ql pr bd sc d1 d2 d3 d4 o1 cdv d5) ps sp := by
  refine ⟨len, fun A out st H ar us vs Q E hr e0 hbi rv hsp => ?_⟩
  have kin := e0.mod.kin.keeps (h' := st.heap) fun b o e => (e0.bs b o e).1
  have nol := e0.mod.nolimit.keeps (h' := st.heap) fun b o e => (e0.bs b o e).1
  have kinds : ∀ y ∈ ps.zip us, sc.names.lookup y.1 = some .local ∨ (sc.names.lookup y.1 = some .cell ∧ ((cellsFrom (st.heap.objs.size + 1) sc.names []).lookup y.1).isSome = true) := by
    rintro ⟨n, v⟩ hy
    exact (S.par n (List.of_mem_zip hy).1).elim .inl fun q => .inr ⟨q, PySem.W.cellsFrom_some _ _ _ (.inl q)⟩
  refine codeAny_call_function hr.room.depth (kin _ _ lk) rfl S.co S.gen rfl (PySem.W.codeRec_of kin hc) (hbi _ _ _ _ (wpAny_newFunctionEnv_cells S.kind kinds fun env he s1 x => ?_))
  subst he
  refine ⟨nol.keeps x.toInCall.keep, codeAny_func ?_⟩
  obtain ⟨t, ht, hq⟩ := hb A out st H vs Q E (hr.deeper _) hsp
  refine wpAny_mono (ht.run [] s1 (start N vs) H _ (inv_start S hr.room.hd e0 (len _ _ _ _ hsp) rv x) hq) (fun fl s' hs => ?_) fun e s' hs => hs
  cases fl with
  | ret u =>
    obtain ⟨v, σ', H', J, r', q⟩ := hs
    exact ⟨v, H', J.os, J.bare, J.base, J.hok, r', q⟩
  | next =>
    obtain ⟨σ', H', J, q⟩ := hs
    exact ⟨V.non, H', J.os, J.bare, J.base, J.hok, rfl, q⟩
  | brk => exact hs.elim fun _ z => z.elim fun _ z => z.2.elim
  | cont => exact hs.elim fun _ z => z.elim fun _ z => z.2.elim
section
variable {X : Cx} {CX : CXT} {k : Nat} {f C : Addr} {fd : FuncData} {ps : List Str} {sp : Sp} {dvs : List V} {ds : List Value} {E : L2.St → XK} {x m : Str} {p pos apos : Pos} {e o : Expr} {es : List Expr} {ta : TE} {t : TA}
theorem run_fnG {pins : List (Addr × Obj)} {σ : L2.St} {H : Hp} {s : Shared} {Q : VK} {us : List Value} {vs : List V} (F : FnG X.prog X.w X.K X.mg X.base CX k f fd ps sp) (hr : RoomG k X.A) (hb : Binds X.K fd ps ds) (hd : Vals dvs ds) (hx : PassesAt CX X σ (E σ)) (I : Inv X pins σ H s) (r : Vals vs us) (h : sp (vs ++ dvs) H Q (E σ)) :
    wpAny (model X.prog X.w) X.A (call (.ref f) us) (EP X pins σ Q) X.xe s := by
  have rr := r.append hd
  refine wpAny_call (codeAny_mono (F.go X.A X.stack s H ⟨us, []⟩ _ _ Q (E σ) hr I.env0 (hb s us I.kIn (rr.length ▸ F.len _ _ _ _ h)) rr h) fun z s' hq => ?_)
  match z, hq with
  | .error e, hq => exact hx pins H s e s' I hq
  | .ok (.ret u), hq => exact I.after hq
theorem pe_callG (F : FnG X.prog X.w X.K X.mg X.base CX k f fd ps sp) (hr : RoomG k X.A) (hg : Gl X x) (hm : X.mg x = some (.ref f)) (hk : PySem.W.keepIn X.K (.ref f) = true) (hb : Binds X.K fd ps ds) (hd : Vals dvs ds) (hx : ∀ σ, PassesAt CX X σ (E σ)) (ha : PA X (e :: es) t) (hdb : (x == ("__debug__" : Str)) = false)
    (he : starEach (e :: es) X.env = (false, eval e X.env) :: starEach es X.env) (hpl : (backTo pos (starEach es X.env)).any (·.1) = false) : PE X (.Call (.Name x p) (e :: es) [] pos) (tCallSD sp dvs E t) :=
  ⟨fun pins s σ H Q I h => wpAny_Call_Name_kw (ld_glob I hg hm (PySem.W.callWith_K (h₀ := X.base) I.ok.mod.kin hk (thn (ha.run pos pins s σ H _ I h) fun us s1 ⟨vs, H1, I1, r, q⟩ => ⟨I1.kIn, run_fnG F hr hb hd (hx σ) I1 r q⟩) he hpl) hdb)⟩
end
/-- the law's own call -/
theorem law_runG {P : Program} {w : World} {K : PySem.W.Frag} {mg mb : Str → Option Value} {CX : CXT} {k : Nat} {fa a : Addr} {fd : FuncData} {x : Str} {sp : Sp} {st : Shared} {vs : List Value} {ns : List Int}
    (kin : K.In st.heap) (nm : st.heap.Ns mainGlobals mg) (nb : st.heap.Ns builtinsNs mb) (bb : ∀ x : Str, x ≠ "__name__" → mb x = bootBuiltins x) (nol : st.heap.NoLimit) (g0 : st.gens = #[]) (ob : st.heap.get? a = some { cls := .type "list", data := .seq vs.toArray }) (hi : IntsAre vs ns) (hl : ns.length ≤ sizeLine) (hr : RoomG k callerA)
    (F : ∀ base : Heap, K.In base → base.Ns mainGlobals mg → FnG P w K mg base CX k fa fd [x] sp) (bn : ∀ (s : Shared) (u : Value), BindsTo s fd ⟨[u], []⟩ [(x, u)]) (hsp : ∀ H : Hp, SqL K H a (ns.map V.int) → sp [.ref a] H (fun v _ => v = .bl true) fun _ _ _ => False) (hCX : ∀ H e s', CX [] H st (fun _ _ _ => False) e s' → False) :
    codeAny (model P w) callerA (.call (.ref fa) ⟨[.ref a], []⟩) (fun r s' => r = .ok (.ret (.bool true)) ∧ OldK st.heap s'.heap ∧ s'.os = st.os ∧ AllBare s'.gens) st := by
  have go : ∀ H : Hp, Only H → SqL K H a (ns.map V.int) → HOk P w H st.heap → (∀ b, H b ≠ none → b = a) → (H a ≠ none → K.lookup a = none) → codeAny (model P w) callerA (.call (.ref fa) ⟨[.ref a], []⟩) (fun r s' => r = .ok (.ret (.bool true)) ∧ OldK st.heap s'.heap ∧ s'.os = st.os ∧ AllBare s'.gens) st := fun H hO hS hok hA hK => by
    have free : ∀ {b : Addr} {o : Obj} {es : Array DictEntry} {ep : Nat}, st.heap.get? b = some o → o.data = .dict es ep → H b = none := fun {b o es ep} e d => Classical.byContradiction fun q => by
      obtain rfl := hA b q
      rw [ob] at e
      cases e
      cases (show Data.seq vs.toArray _ = Data.dict es ep from d)
    have ns' : ∀ {b : Addr} {m : Str → Option Value}, st.heap.Ns b m → (hidT st.heap H).Ns b m := fun ⟨o, es, ep, e, d, r⟩ => ⟨o, es, ep, hidT_get e (free e d), d, r⟩
    have kb : K.In (hidT st.heap H) := fun b o e => hidT_get (kin b o e) (Classical.byContradiction fun q => by
      obtain rfl := hA b q
      rw [hK q] at e
      cases e)
    obtain ⟨mc, l1, l2⟩ := nol
    have e0 : Env0 P w K mg (hidT st.heap H) callerA [] st H := ⟨rfl, ⟨kb, ns' nm, ⟨mb, ns' nb, bb⟩, ⟨mc, ns' l1, l2⟩⟩, fun b o e => of_hidT e, Nat.le_of_eq (hidT_size _ _), trivial, (fun b z => nomatch (show b ∈ ([] : List Addr) from z)), hok, .of_eq g0⟩
    refine codeAny_mono ((F _ kb (ns' nm)).go callerA [] st H ⟨[.ref a], []⟩ [.ref a] [.ref a] _ _ hr e0 (bn st (.ref a)) (.cons rfl .nil) (hsp H hS)) fun r s' h => ?_
    match r, h with
    | .error e, h => exact (hCX H e s' h).elim
    | .ok (.ret u), h =>
      obtain ⟨v, H', z1, z2, un, ok2, r', q⟩ := h
      obtain rfl : v = .bl true := q
      obtain rfl : u = Value.bool true := r'
      refine ⟨rfl, OldK.of_keep fun b o e => ?_, z1, z2⟩
      rcases hO b with q | ⟨o2, xs, q⟩
      · exact un.keep b o e q (fun z => nomatch (show b ∈ ([] : List Addr) from z)) (by simp)
      · have w1 := (hok b _ q).1
        rw [e] at w1
        cases w1
        exact (ok2 b _ (un.frzs b _ _ q)).1
  have rv := vals_ints hi
  cases hk : K.lookup a with
  | some o =>
    have e := kin a o hk
    rw [ob] at e
    cases e
    exact go (fun _ => none) (fun _ => .inl rfl) (.inr ⟨_, vs.toArray, _, hk, rfl, rfl, rfl, by rw [List.size_toArray, hi.length]; exact hl, by simpa using rv⟩) (fun b u z => nomatch (show (none : Option HO) = some u from z)) (fun b z => absurd rfl z) fun z => absurd rfl z
  | none =>
    have at_ : ∀ b, b = a → (fun b => if b = a then some (HO.frz { cls := .type "list", data := .seq vs.toArray } (.lst (ns.map V.int))) else none) b = some (.frz { cls := .type "list", data := .seq vs.toArray } (.lst (ns.map V.int))) := fun b h => if_pos h
    have off : ∀ b, b ≠ a → (fun b => if b = a then some (HO.frz { cls := .type "list", data := .seq vs.toArray } (.lst (ns.map V.int))) else none) b = none := fun b h => if_neg h
    refine go _ (fun b => ?_) (.inl (.inr ⟨{ cls := .type "list", data := .seq vs.toArray }, at_ a rfl⟩)) (fun b u z => ?_) (fun b z => Classical.byContradiction fun y => z (off b y)) fun _ => hk
    · by_cases h : b = a
      · exact .inr ⟨_, _, at_ b h⟩
      · exact .inl (off b h)
    · by_cases h : b = a
      · have z' := (at_ b h).symm.trans z
        cases z'
        subst h
        exact ⟨ob, by rw [List.length_map]; exact hl, vs, _, rv, ob⟩
      · have z' := (off b h).symm.trans z
        cases z'
end DM
end
section
set_option Elab.async false
set_option linter.all false
set_option maxRecDepth 100000
set_option maxHeartbeats 4000000
namespace DM
open PySem L2 Evl

/-! ### data as values -/
inductive D where
  | non | bl (b : Bool) | int (i : Int) | str (x : Str) | lst (xs : List D) | tup (xs : List D)
  | ktp (xs : List D) | dct (kvs : List (Key × D)) | dtt (kvs : List (List Key × D)) | ins (c : Str) (fs : List (Str × D)) | new (x : Addr) (c : Str) (fs : List (Str × D)) | scr (ns : List Int) | exo (a : Addr) (dd : Option Addr) (fs : List (Str × D)) | bag

/-- the drawing bag: its address and that of its cells -/
abbrev Bg := Option (Addr × Addr)
def LN : Nat := 100000
theorem LN_size {n : Nat} (h : n ≤ LN) : n ≤ sizeLine := Nat.le_trans h (by decide)

mutual
def Rp (K : PySem.W.Frag) (b : Bg) (H : Hp) : D → V → Prop
  | .non, v => v = .non
  | .bl c, v => v = .bl c
  | .int i, v => v = .int i
  | .str x, v => v = .str x ∧ x.length ≤ LN
  | .lst ds, v => ∃ a xs, v = .ref a ∧ H a = some (.lst xs) ∧ ds.length ≤ LN ∧ RpL K b H ds xs
  | .tup ds, v => ∃ a xs, v = .ref a ∧ H a = some (.tup xs) ∧ ds.length ≤ LN ∧ RpL K b H ds xs
  | .ktp ds, v => ∃ a xs, v = .ref a ∧ SqT K H a xs ∧ ds.length ≤ LN ∧ RpL K b H ds xs
  | .dct ds, v => ∃ a kvs, v = .ref a ∧ Rd H a (.dK kvs) ∧ ds.length ≤ LN ∧ RpK K b H ds kvs
  | .dtt ds, v => ∃ a kvs, v = .ref a ∧ Rd H a (.dT kvs) ∧ ds.length ≤ LN ∧ RpT K b H ds kvs
  | .ins c ds, v => ∃ a dx fs, v = .ref a ∧ H a = some (.ins (He.ga K c) dx fs) ∧ RpF K b H ds fs
  | .new x c ds, v => v = .ref x ∧ ∃ dx fs, H x = some (.ins (He.ga K c) dx fs) ∧ RpF K b H ds fs
  | .scr ns, v => ∃ a, v = .ref a ∧ SqL K H a (ns.map V.int)
  | .exo a dd ds, v => v = .ref a ∧ ((ds = [] ∧ dd = none) ∨ (ds ≠ [] ∧ ∃ q fs, dd = some q ∧ H q = some (.xd fs) ∧ RpF K b H ds fs))
  | .bag, v => ∃ p, b = some p ∧ v = .ref p.1
def RpL (K : PySem.W.Frag) (b : Bg) (H : Hp) : List D → List V → Prop
  | [], xs => xs = []
  | d :: ds, xs => ∃ x r, xs = x :: r ∧ Rp K b H d x ∧ RpL K b H ds r
def RpK (K : PySem.W.Frag) (b : Bg) (H : Hp) : List (Key × D) → List (Key × V) → Prop
  | [], xs => xs = []
  | (k, d) :: ds, xs => ∃ x r, xs = (k, x) :: r ∧ Rp K b H d x ∧ RpK K b H ds r
def RpT (K : PySem.W.Frag) (b : Bg) (H : Hp) : List (List Key × D) → List (List Key × V) → Prop
  | [], xs => xs = []
  | (k, d) :: ds, xs => ∃ x r, xs = (k, x) :: r ∧ Rp K b H d x ∧ RpT K b H ds r
def RpF (K : PySem.W.Frag) (b : Bg) (H : Hp) : List (Str × D) → List (Str × V) → Prop
  | [], xs => xs = []
  | (k, d) :: ds, xs => ∃ x r, xs = (k, x) :: r ∧ Rp K b H d x ∧ RpF K b H ds r
end

section
variable {K : PySem.W.Frag} {b : Bg} {H H' : Hp}
theorem ex_rd {u : HO} {a : Addr} (e : Ex H H') (h : Rd H a u) : Rd H' a u := h.elim (fun z => .inl (e _ _ z)) fun ⟨o, z⟩ => .inr ⟨o, e _ _ z⟩
theorem ex_l {a : Addr} {xs : List V} (e : Ex H H') (h : SqL K H a xs) : SqL K H' a xs := h.elim (fun z => .inl (ex_rd e z)) .inr
mutual
theorem Rp.mono (e : Ex H H') : ∀ (d : D) (v : V), Rp K b H d v → Rp K b H' d v
  | .non, v, h => by unfold Rp at h ⊢; exact h
  | .bl c, v, h => by unfold Rp at h ⊢; exact h
  | .int i, v, h => by unfold Rp at h ⊢; exact h
  | .str x, v, h => by unfold Rp at h ⊢; exact h
  | .lst ds, v, h => by
    unfold Rp at h ⊢
    obtain ⟨a, xs, h1, h2, h3, h4⟩ := h
    exact ⟨a, xs, h1, e _ _ h2, h3, RpL.mono e ds xs h4⟩
  | .tup ds, v, h => by
    unfold Rp at h ⊢
    obtain ⟨a, xs, h1, h2, h3, h4⟩ := h
    exact ⟨a, xs, h1, e _ _ h2, h3, RpL.mono e ds xs h4⟩
  | .ktp ds, v, h => by
    unfold Rp at h ⊢
    obtain ⟨a, xs, h1, h2, h3, h4⟩ := h
    exact ⟨a, xs, h1, ex_t e h2, h3, RpL.mono e ds xs h4⟩
  | .dtt ds, v, h => by
    unfold Rp at h ⊢
    obtain ⟨a, xs, h1, h2, h3, h4⟩ := h
    exact ⟨a, xs, h1, ex_rd e h2, h3, RpT.mono e ds xs h4⟩
  | .dct ds, v, h => by
    unfold Rp at h ⊢
    obtain ⟨a, xs, h1, h2, h3, h4⟩ := h
    exact ⟨a, xs, h1, ex_rd e h2, h3, RpK.mono e ds xs h4⟩
  | .ins c ds, v, h => by
    unfold Rp at h ⊢
    obtain ⟨a, dx, xs, h1, h2, h4⟩ := h
    exact ⟨a, dx, xs, h1, e _ _ h2, RpF.mono e ds xs h4⟩
  | .new x c ds, v, h => by
    unfold Rp at h ⊢
    obtain ⟨h0, dx, xs, h2, h4⟩ := h
    exact ⟨h0, dx, xs, e _ _ h2, RpF.mono e ds xs h4⟩
  | .scr ns, v, h => by
    unfold Rp at h ⊢
    obtain ⟨a, h0, h1⟩ := h
    exact ⟨a, h0, ex_l e h1⟩
  | .exo a dd ds, v, h => by
    unfold Rp at h ⊢
    obtain ⟨h1, h2⟩ := h
    refine ⟨h1, h2.imp id fun ⟨n, q, fs, e1, e2, e3⟩ => ⟨n, q, fs, e1, e _ _ e2, RpF.mono e ds fs e3⟩⟩
  | .bag, v, h => by unfold Rp at h ⊢; exact h
theorem RpL.mono (e : Ex H H') : ∀ (ds : List D) (xs : List V), RpL K b H ds xs → RpL K b H' ds xs
  | [], xs, h => by unfold RpL at h ⊢; exact h
  | d :: ds, xs, h => by
    unfold RpL at h ⊢
    obtain ⟨x, r, h1, h2, h3⟩ := h
    exact ⟨x, r, h1, Rp.mono e d x h2, RpL.mono e ds r h3⟩
theorem RpK.mono (e : Ex H H') : ∀ (ds : List (Key × D)) (xs : List (Key × V)), RpK K b H ds xs → RpK K b H' ds xs
  | [], xs, h => by unfold RpK at h ⊢; exact h
  | (k, d) :: ds, xs, h => by
    unfold RpK at h ⊢
    obtain ⟨x, r, h1, h2, h3⟩ := h
    exact ⟨x, r, h1, Rp.mono e d x h2, RpK.mono e ds r h3⟩
theorem RpT.mono (e : Ex H H') : ∀ (ds : List (List Key × D)) (xs : List (List Key × V)), RpT K b H ds xs → RpT K b H' ds xs
  | [], xs, h => by unfold RpT at h ⊢; exact h
  | (k, d) :: ds, xs, h => by
    unfold RpT at h ⊢
    obtain ⟨x, r, h1, h2, h3⟩ := h
    exact ⟨x, r, h1, Rp.mono e d x h2, RpT.mono e ds r h3⟩
theorem RpF.mono (e : Ex H H') : ∀ (ds : List (Str × D)) (xs : List (Str × V)), RpF K b H ds xs → RpF K b H' ds xs
  | [], xs, h => by unfold RpF at h ⊢; exact h
  | (k, d) :: ds, xs, h => by
    unfold RpF at h ⊢
    obtain ⟨x, r, h1, h2, h3⟩ := h
    exact ⟨x, r, h1, Rp.mono e d x h2, RpF.mono e ds r h3⟩
end
theorem rp_non {v : V} : Rp K b H .non v ↔ v = .non := by unfold Rp; exact Iff.rfl
theorem rp_bl {c : Bool} {v : V} : Rp K b H (.bl c) v ↔ v = .bl c := by unfold Rp; exact Iff.rfl
theorem rp_int {i : Int} {v : V} : Rp K b H (.int i) v ↔ v = .int i := by unfold Rp; exact Iff.rfl
theorem rp_str {x : Str} {v : V} : Rp K b H (.str x) v ↔ v = .str x ∧ x.length ≤ LN := by unfold Rp; exact Iff.rfl
theorem rp_lst {ds : List D} {v : V} : Rp K b H (.lst ds) v ↔ ∃ a xs, v = .ref a ∧ H a = some (.lst xs) ∧ ds.length ≤ LN ∧ RpL K b H ds xs := by unfold Rp; exact Iff.rfl
theorem rp_tup {ds : List D} {v : V} : Rp K b H (.tup ds) v ↔ ∃ a xs, v = .ref a ∧ H a = some (.tup xs) ∧ ds.length ≤ LN ∧ RpL K b H ds xs := by unfold Rp; exact Iff.rfl
theorem rp_tupS {ds : List D} {v : V} (h : Rp K b H (.tup ds) v) : ∃ a xs, v = .ref a ∧ SqT K H a xs ∧ ds.length ≤ LN ∧ RpL K b H ds xs := let ⟨a, xs, h1, h2, h3⟩ := rp_tup.mp h; ⟨a, xs, h1, .inl (.inl h2), h3⟩
theorem rp_ktp {ds : List D} {v : V} : Rp K b H (.ktp ds) v ↔ ∃ a xs, v = .ref a ∧ SqT K H a xs ∧ ds.length ≤ LN ∧ RpL K b H ds xs := by unfold Rp; exact Iff.rfl
theorem rp_dtt {ds : List (List Key × D)} {v : V} : Rp K b H (.dtt ds) v ↔ ∃ a xs, v = .ref a ∧ Rd H a (.dT xs) ∧ ds.length ≤ LN ∧ RpT K b H ds xs := by unfold Rp; exact Iff.rfl
theorem rp_dct {ds : List (Key × D)} {v : V} : Rp K b H (.dct ds) v ↔ ∃ a xs, v = .ref a ∧ Rd H a (.dK xs) ∧ ds.length ≤ LN ∧ RpK K b H ds xs := by unfold Rp; exact Iff.rfl
theorem rp_ins {c : Str} {ds : List (Str × D)} {v : V} : Rp K b H (.ins c ds) v ↔ ∃ a dx fs, v = .ref a ∧ H a = some (.ins (He.ga K c) dx fs) ∧ RpF K b H ds fs := by unfold Rp; exact Iff.rfl
theorem rp_new {x : Addr} {c : Str} {ds : List (Str × D)} {v : V} : Rp K b H (.new x c ds) v ↔ v = .ref x ∧ ∃ dx fs, H x = some (.ins (He.ga K c) dx fs) ∧ RpF K b H ds fs := by unfold Rp; exact Iff.rfl
theorem rp_scr {ns : List Int} {v : V} : Rp K b H (.scr ns) v ↔ ∃ a, v = .ref a ∧ SqL K H a (ns.map V.int) := by unfold Rp; exact Iff.rfl
theorem rp_exo {a : Addr} {dd : Option Addr} {ds : List (Str × D)} {v : V} : Rp K b H (.exo a dd ds) v ↔ v = .ref a ∧ ((ds = [] ∧ dd = none) ∨ (ds ≠ [] ∧ ∃ q fs, dd = some q ∧ H q = some (.xd fs) ∧ RpF K b H ds fs)) := by unfold Rp; exact Iff.rfl
theorem rp_bag {v : V} : Rp K b H .bag v ↔ ∃ p, b = some p ∧ v = .ref p.1 := by unfold Rp; exact Iff.rfl
theorem rpl_nil {xs : List V} : RpL K b H [] xs ↔ xs = [] := by unfold RpL; exact Iff.rfl
theorem rpl_cons {d : D} {ds : List D} {xs : List V} : RpL K b H (d :: ds) xs ↔ ∃ x r, xs = x :: r ∧ Rp K b H d x ∧ RpL K b H ds r := by
  constructor
  · intro h; unfold RpL at h; exact h
  · intro h; unfold RpL; exact h
theorem rpk_cons {k : Key} {d : D} {ds : List (Key × D)} {xs : List (Key × V)} : RpK K b H ((k, d) :: ds) xs ↔ ∃ x r, xs = (k, x) :: r ∧ Rp K b H d x ∧ RpK K b H ds r := by
  constructor
  · intro h; unfold RpK at h; exact h
  · intro h; unfold RpK; exact h
theorem rpf_cons {k : Str} {d : D} {ds : List (Str × D)} {xs : List (Str × V)} : RpF K b H ((k, d) :: ds) xs ↔ ∃ x r, xs = (k, x) :: r ∧ Rp K b H d x ∧ RpF K b H ds r := by
  constructor
  · intro h; unfold RpF at h; exact h
  · intro h; unfold RpF; exact h
theorem rpt_cons {k : List Key} {d : D} {ds : List (List Key × D)} {xs : List (List Key × V)} : RpT K b H ((k, d) :: ds) xs ↔ ∃ x r, xs = (k, x) :: r ∧ Rp K b H d x ∧ RpT K b H ds r := by
  constructor
  · intro h; unfold RpT at h; exact h
  · intro h; unfold RpT; exact h
theorem rpt_nil {xs : List (List Key × V)} : RpT K b H [] xs ↔ xs = [] := by unfold RpT; exact Iff.rfl
theorem rpk_nil {xs : List (Key × V)} : RpK K b H [] xs ↔ xs = [] := by unfold RpK; exact Iff.rfl
theorem rpf_nil {xs : List (Str × V)} : RpF K b H [] xs ↔ xs = [] := by unfold RpF; exact Iff.rfl
theorem RpL.len : ∀ {ds : List D} {xs : List V}, RpL K b H ds xs → xs.length = ds.length
  | [], xs, h => by rw [rpl_nil.mp h] <;> rfl
  | d :: ds, xs, h => by
    obtain ⟨x, r, rfl, _, h2⟩ := rpl_cons.mp h
    rw [List.length_cons, List.length_cons, RpL.len h2]
theorem RpK.len : ∀ {ds : List (Key × D)} {xs : List (Key × V)}, RpK K b H ds xs → xs.length = ds.length
  | [], xs, h => by rw [rpk_nil.mp h] <;> rfl
  | (k, d) :: ds, xs, h => by
    obtain ⟨x, r, rfl, _, h2⟩ := rpk_cons.mp h
    rw [List.length_cons, List.length_cons, RpK.len h2]
theorem RpT.len : ∀ {ds : List (List Key × D)} {xs : List (List Key × V)}, RpT K b H ds xs → xs.length = ds.length
  | [], xs, h => by rw [rpt_nil.mp h] <;> rfl
  | (k, d) :: ds, xs, h => by
    obtain ⟨x, r, rfl, _, h2⟩ := rpt_cons.mp h
    rw [List.length_cons, List.length_cons, RpT.len h2]
theorem RpL.get : ∀ {ds : List D} {xs : List V} {i : Nat} {d : D}, RpL K b H ds xs → ds[i]? = some d → ∃ x, xs[i]? = some x ∧ Rp K b H d x
  | [], xs, i, d, h, e => by simp at e
  | d :: ds, xs, 0, d', h, e => by
    obtain ⟨x, r, rfl, h1, h2⟩ := rpl_cons.mp h
    simp at e; subst e
    exact ⟨x, rfl, h1⟩
  | d :: ds, xs, i + 1, d', h, e => by
    obtain ⟨x, r, rfl, h1, h2⟩ := rpl_cons.mp h
    obtain ⟨y, e1, e2⟩ := RpL.get (i := i) h2 (by simpa using e)
    exact ⟨y, by simpa using e1, e2⟩
theorem RpL.append : ∀ {ds es : List D} {xs ys : List V}, RpL K b H ds xs → RpL K b H es ys → RpL K b H (ds ++ es) (xs ++ ys)
  | [], es, xs, ys, h, h' => by rw [rpl_nil.mp h]; exact h'
  | d :: ds, es, xs, ys, h, h' => by
    obtain ⟨x, r, rfl, h1, h2⟩ := rpl_cons.mp h
    exact rpl_cons.mpr ⟨x, r ++ ys, rfl, h1, RpL.append h2 h'⟩
theorem RpL.one {d : D} {x : V} (h : Rp K b H d x) : RpL K b H [d] [x] := rpl_cons.mpr ⟨x, [], rfl, h, rpl_nil.mpr rfl⟩
theorem RpL.take : ∀ (n : Nat) {ds : List D} {xs : List V}, RpL K b H ds xs → RpL K b H (ds.take n) (xs.take n)
  | 0, ds, xs, h => by simp; exact rpl_nil.mpr rfl
  | n + 1, [], xs, h => by rw [rpl_nil.mp h]; simp; exact rpl_nil.mpr rfl
  | n + 1, d :: ds, xs, h => by
    obtain ⟨x, r, rfl, h1, h2⟩ := rpl_cons.mp h
    exact rpl_cons.mpr ⟨x, r.take n, rfl, h1, RpL.take n h2⟩
theorem RpL.drop : ∀ (n : Nat) {ds : List D} {xs : List V}, RpL K b H ds xs → RpL K b H (ds.drop n) (xs.drop n)
  | 0, ds, xs, h => h
  | n + 1, [], xs, h => by rw [rpl_nil.mp h]; simp; exact rpl_nil.mpr rfl
  | n + 1, d :: ds, xs, h => by
    obtain ⟨x, r, rfl, h1, h2⟩ := rpl_cons.mp h
    exact RpL.drop n h2
theorem RpL.set : ∀ {ds : List D} {xs : List V} {d : D} {x : V} (i : Nat), RpL K b H ds xs → Rp K b H d x → RpL K b H (ds.set i d) (xs.set i x)
  | [], xs, d, x, i, h, _ => by rw [rpl_nil.mp h]; simp; exact rpl_nil.mpr rfl
  | d0 :: ds, xs, d, x, 0, h, h' => by
    obtain ⟨y, r, rfl, h1, h2⟩ := rpl_cons.mp h
    exact rpl_cons.mpr ⟨x, r, rfl, h', h2⟩
  | d0 :: ds, xs, d, x, i + 1, h, h' => by
    obtain ⟨y, r, rfl, h1, h2⟩ := rpl_cons.mp h
    exact rpl_cons.mpr ⟨y, r.set i x, rfl, h1, RpL.set i h2 h'⟩
theorem RpL.ints : ∀ {ns : List Int} {xs : List V}, RpL K b H (ns.map D.int) xs → xs = ns.map V.int
  | [], xs, h => rpl_nil.mp h
  | n :: ns, xs, h => by
    obtain ⟨x, r, rfl, h1, h2⟩ := rpl_cons.mp h
    rw [rp_int.mp h1, RpL.ints h2] <;> rfl
theorem RpL.ofInts (ns : List Int) : RpL K b H (ns.map D.int) (ns.map V.int) := by
  induction ns with
  | nil => exact rpl_nil.mpr rfl
  | cons n ns ih => exact rpl_cons.mpr ⟨_, _, rfl, rp_int.mpr rfl, ih⟩
theorem RpL.bls : ∀ {ns : List Bool} {xs : List V}, RpL K b H (ns.map D.bl) xs → xs = ns.map V.bl
  | [], xs, h => rpl_nil.mp h
  | n :: ns, xs, h => by
    obtain ⟨x, r, rfl, h1, h2⟩ := rpl_cons.mp h
    rw [rp_bl.mp h1, RpL.bls h2] <;> rfl
end

/-! ### the owned part -/
def era (P : List Addr) (H : Hp) : Hp := fun a => if a ∈ P then none else H a
theorem era_out {P : List Addr} {H : Hp} {a : Addr} (h : a ∉ P) : era P H a = H a := if_neg h
theorem era_some {P : List Addr} {H : Hp} {a : Addr} {o : HO} (h : era P H a = some o) : H a = some o ∧ a ∉ P := by
  unfold era at h
  by_cases hp : a ∈ P
  · rw [if_pos hp] at h; cases h
  · rw [if_neg hp] at h; exact ⟨h, hp⟩
theorem era_le {P : List Addr} {H : Hp} : Ex (era P H) H := fun a o h => (era_some h).1
theorem era_ex {P : List Addr} {H H' : Hp} (h : ∀ a o, a ∉ P → H a = some o → H' a = some o) : Ex (era P H) (era P H') := fun a o e => by
  obtain ⟨e1, e2⟩ := era_some e
  rw [era_out e2]
  exact h a o e2 e1
theorem era_sub {P P' : List Addr} {H : Hp} (h : ∀ a ∈ P', a ∈ P) : Ex (era P H) (era P' H) := fun a o e => by
  obtain ⟨e1, e2⟩ := era_some e
  rw [era_out fun z => e2 (h a z)]
  exact e1
theorem era_upd {P : List Addr} {H : Hp} {p : Addr} {o : HO} (h : p ∈ P) : era P (upd H p o) = era P H := by
  funext a
  unfold era
  by_cases hp : a ∈ P
  · rw [if_pos hp, if_pos hp]
  · rw [if_neg hp, if_neg hp, upd_ne fun z => hp (by rw [z]; exact h)]

structure BagOk (H : Hp) (p : Addr × Addr) : Prop where
  ne : p.1 ≠ p.2
  at_ : ∃ (x0 x1 x2 : Int) (ns : List Int), H p.1 = some (.lst [.int x0, .int x1, .int x2, .ref p.2]) ∧ H p.2 = some (.lst (ns.map V.int)) ∧ 0 ≤ x2
structure Grow (b : Bg) (H H' : Hp) : Prop where
  keep : ∀ a o, (∀ p, b = some p → a ≠ p.1) → H a = some o → H' a = some o
  bag : ∀ p, b = some p → BagOk H' p
structure GoodP (b : Bg) (P : List Addr) (H : Hp) : Prop where
  bag : ∀ p, b = some p → p.1 ∈ P ∧ p.2 ∈ P ∧ BagOk H p
  al : ∀ q ∈ P, H q ≠ none
  nt : ∀ q ∈ P, ∀ xs, H q ≠ some (.tup xs)
section
variable {b : Bg} {P : List Addr} {H H1 H2 H' : Hp}
theorem GoodP.refl (g : GoodP b P H) : Grow b H H := ⟨fun _ _ _ h => h, fun p hp => (g.bag p hp).2.2⟩
theorem Grow.trans (a : Grow b H H1) (c : Grow b H1 H2) : Grow b H H2 := ⟨fun x o h e => c.keep x o h (a.keep x o h e), c.bag⟩
theorem Grow.none {a : Addr} (g : Grow b H H') (h : H' a = none) : H a = none := by
  cases e : H a with
  | none => rfl
  | some o =>
    by_cases hb : ∀ p, b = some p → a ≠ p.1
    · rw [g.keep a o hb e] at h; cases h
    · have : ∃ p, b = some p ∧ a = p.1 := by
        refine Classical.byContradiction fun z => hb fun p hp e => z ⟨p, hp, e⟩
      obtain ⟨p, hp, rfl⟩ := this
      obtain ⟨_, x0, x1, x2, ns, e1, _⟩ := g.bag p hp
      rw [e1] at h; cases h
theorem GoodP.era (g : GoodP b P H) (h : Grow b H H') : Ex (era P H) (DM.era P H') := era_ex fun a o hp e => h.keep a o (fun p hb z => hp (by rw [z]; exact (g.bag p hb).1)) e
theorem GoodP.grow (g : GoodP b P H) (h : Grow b H H') : GoodP b P H' := ⟨fun p hp => ⟨(g.bag p hp).1, (g.bag p hp).2.1, h.bag p hp⟩, fun q hq z => g.al q hq (h.none z), fun q hq xs z => by
  cases e : H q with
  | none => exact g.al q hq e
  | some o =>
    by_cases hb : ∀ p, b = some p → q ≠ p.1
    · rw [h.keep q o hb e] at z
      cases z
      exact g.nt q hq xs e
    · have : ∃ p, b = some p ∧ q = p.1 := Classical.byContradiction fun z => hb fun p hp e => z ⟨p, hp, e⟩
      obtain ⟨p, hp, rfl⟩ := this
      obtain ⟨_, x0, x1, x2, ns, e1, _⟩ := h.bag p hp
      rw [e1] at z; cases z⟩
theorem Grow.new (g : GoodP b P H) {p : Addr} {o : HO} (h : H p = Option.none) : Grow b H (upd H p o) := ⟨fun a u _ e => by rw [upd_ne (ne_of_none e h)]; exact e, fun q hq => by
  obtain ⟨_, _, ⟨ne, x0, x1, x2, ns, e1, e2, e3⟩⟩ := g.bag q hq
  exact ⟨ne, x0, x1, x2, ns, by rw [upd_ne (ne_of_none e1 h)]; exact e1, by rw [upd_ne (ne_of_none e2 h)]; exact e2, e3⟩⟩
end

/-! ### slots -/
inductive Sl where
  | no | sh (d : D) | ow (d : D)
abbrev MEnv := List Sl
/-- what is owned at p -/
def OwnC (K : PySem.W.Frag) (b : Bg) (P : List Addr) (H : Hp) (p : Addr) : D → Prop
  | .lst ds => ∃ xs, H p = some (.lst xs) ∧ ds.length ≤ LN ∧ RpL K b (era P H) ds xs
  | .dct ds => ∃ kvs, H p = some (.dK kvs) ∧ ds.length ≤ LN ∧ RpK K b (era P H) ds kvs
  | .dtt ds => ∃ kvs, H p = some (.dT kvs) ∧ ds.length ≤ LN ∧ RpT K b (era P H) ds kvs
  | .ins c ds => ∃ dx fs, H p = some (.ins (He.ga K c) dx fs) ∧ RpF K b (era P H) ds fs
  | .new x c ds => p = x ∧ ∃ dx fs, H p = some (.ins (He.ga K c) dx fs) ∧ RpF K b (era P H) ds fs
  | _ => False
theorem OwnC.rp {K : PySem.W.Frag} {b : Bg} {P P' : List Addr} {H : Hp} {p : Addr} {d : D} (h : OwnC K b P H p d) (hs : ∀ a ∈ P', a ∈ P) (hp : p ∉ P') : Rp K b (era P' H) d (.ref p) := by
  have e : Ex (era P H) (era P' H) := era_sub hs
  cases d with
  | lst ds =>
    obtain ⟨xs, h1, h2, h3⟩ := h
    exact rp_lst.mpr ⟨p, xs, rfl, by rw [era_out hp]; exact h1, h2, RpL.mono e _ _ h3⟩
  | dct ds =>
    obtain ⟨xs, h1, h2, h3⟩ := h
    exact rp_dct.mpr ⟨p, xs, rfl, .inl (by rw [era_out hp]; exact h1), h2, RpK.mono e _ _ h3⟩
  | dtt ds =>
    obtain ⟨xs, h1, h2, h3⟩ := h
    exact rp_dtt.mpr ⟨p, xs, rfl, .inl (by rw [era_out hp]; exact h1), h2, RpT.mono e _ _ h3⟩
  | ins c ds =>
    obtain ⟨dx, xs, h1, h3⟩ := h
    exact rp_ins.mpr ⟨p, dx, xs, rfl, by rw [era_out hp]; exact h1, RpF.mono e _ _ h3⟩
  | new x c ds =>
    obtain ⟨rfl, dx, xs, h1, h3⟩ := h
    exact rp_new.mpr ⟨rfl, dx, xs, by rw [era_out hp]; exact h1, RpF.mono e _ _ h3⟩
  | _ => exact h.elim
/-- contents move along -/
theorem OwnC.mono {K : PySem.W.Frag} {b : Bg} {P P' : List Addr} {H H' : Hp} {p : Addr} {d : D} (h : OwnC K b P H p d) (e : Ex (era P H) (era P' H')) (hp : ∀ o, H p = some o → H' p = some o) : OwnC K b P' H' p d := by
  cases d with
  | lst ds =>
    obtain ⟨xs, h1, h2, h3⟩ := h
    exact ⟨xs, hp _ h1, h2, RpL.mono e _ _ h3⟩
  | dct ds =>
    obtain ⟨xs, h1, h2, h3⟩ := h
    exact ⟨xs, hp _ h1, h2, RpK.mono e _ _ h3⟩
  | dtt ds =>
    obtain ⟨xs, h1, h2, h3⟩ := h
    exact ⟨xs, hp _ h1, h2, RpT.mono e _ _ h3⟩
  | ins c ds =>
    obtain ⟨dx, xs, h1, h3⟩ := h
    exact ⟨dx, xs, hp _ h1, RpF.mono e _ _ h3⟩
  | new x c ds =>
    obtain ⟨h0, dx, xs, h1, h3⟩ := h
    exact ⟨h0, dx, xs, hp _ h1, RpF.mono e _ _ h3⟩
  | _ => exact h.elim

/-- where one stands: the bag, the callers' owned objects, all owned ones -/
structure Keep where
  p : Bg → Hp → Prop
  up : ∀ b H H', Ex H H' → p b H → p b H'
def kRp (K : PySem.W.Frag) (d : D) (v : V) : Keep := ⟨fun b H => Rp K b H d v, fun b H H' e h => Rp.mono e d v h⟩
structure Cc where
  b : Bg
  P0 : List Addr
  P : List Addr
  T : List Keep
structure RelW (K : PySem.W.Frag) (c : Cc) (H : Hp) (σ : St) (ρ : MEnv) (o : Nat → Addr) : Prop where
  len : σ.length = ρ.length
  sh : ∀ (i : Nat) d, ρ[i]? = some (.sh d) → ∃ v, σ[i]? = some (some v) ∧ Rp K c.b (era c.P H) d v
  ow : ∀ (i : Nat) d, ρ[i]? = some (.ow d) → σ[i]? = some (some (.ref (o i))) ∧ o i ∈ c.P ∧ o i ∉ c.P0 ∧ OwnC K c.b c.P H (o i) d
  inj : ∀ (i j : Nat) d e, ρ[i]? = some (.ow d) → ρ[j]? = some (.ow e) → o i = o j → i = j
structure Ok (K : PySem.W.Frag) (c : Cc) (H : Hp) (σ : St) (ρ : MEnv) : Prop where
  good : GoodP c.b c.P H
  bag0 : ∀ p, c.b = some p → p.1 ∈ c.P0 ∧ p.2 ∈ c.P0
  sub : ∀ a ∈ c.P0, a ∈ c.P
  tmp : ∀ q ∈ c.T, q.p c.b (era c.P H)
  rel : ∃ o, RelW K c H σ ρ o
section
variable {K : PySem.W.Frag} {c : Cc} {H H' : Hp} {σ : St} {ρ : MEnv}
theorem Ok.grow (h : Ok K c H σ ρ) (g : Grow c.b H H') : Ok K c H' σ ρ := by
  obtain ⟨h1, h2, h3, h4, o, r⟩ := h
  have e := h1.era g
  refine ⟨h1.grow g, h2, h3, fun q hq => q.up _ _ _ e (h4 q hq), o, r.len, fun i d q => ?_, fun i d q => ?_, r.inj⟩
  · obtain ⟨v, e1, e2⟩ := r.sh i d q
    exact ⟨v, e1, Rp.mono e _ _ e2⟩
  · obtain ⟨e1, e2, e3, e4⟩ := r.ow i d q
    exact ⟨e1, e2, e3, e4.mono e fun u z => g.keep _ _ (fun p hb y => e3 (by rw [y]; exact (h2 p hb).1)) z⟩
theorem Ok.refl (h : Ok K c H σ ρ) : Grow c.b H H := h.good.refl
end

/-! ### results, exceptions -/
/-- fr: a new object that nothing else names -/
def Res (K : PySem.W.Frag) (fr : Bool) (b : Bg) (P : List Addr) (H H' : Hp) (v : V) (d : D) : Prop :=
  if fr = true then (∃ p, v = .ref p ∧ H p = none ∧ OwnC K b (p :: P) H' p d) ∨ (d = .non ∧ v = .non) else Rp K b (era P H') d v
def slO : D → Sl
  | .non => .sh .non
  | d => .ow d
def sl (f : Bool) (d : D) : Sl := if f = true then slO d else .sh d
theorem OwnC.slO {K : PySem.W.Frag} {b : Bg} {P : List Addr} {H : Hp} {p : Addr} {d : D} (h : OwnC K b P H p d) : slO d = .ow d := by
  cases d with
  | non => exact h.elim
  | _ => rfl
theorem Res.cases {K : PySem.W.Frag} {fr : Bool} {b : Bg} {P : List Addr} {H H' : Hp} {v : V} {d : D} (h : Res K fr b P H H' v d) : (∃ p, v = .ref p ∧ H p = none ∧ OwnC K b (p :: P) H' p d ∧ sl fr d = .ow d) ∨ (Rp K b (era P H') d v ∧ sl fr d = .sh d) := by
  cases fr with
  | false => exact .inr ⟨h, rfl⟩
  | true =>
    rcases (show (∃ p, v = .ref p ∧ H p = none ∧ OwnC K b (p :: P) H' p d) ∨ (d = .non ∧ v = .non) from h) with ⟨p, h1, h2, h3⟩ | ⟨rfl, rfl⟩
    · exact .inl ⟨p, h1, h2, h3, h3.slO⟩
    · exact .inr ⟨rp_non.mpr rfl, rfl⟩
theorem Res.own {K : PySem.W.Frag} {b : Bg} {P : List Addr} {H H' : Hp} {v : V} {d : D} (h : Res K true b P H H' v d) (hn : d ≠ .non) : ∃ p, v = .ref p ∧ H p = none ∧ OwnC K b (p :: P) H' p d :=
  (show (∃ p, v = .ref p ∧ H p = none ∧ OwnC K b (p :: P) H' p d) ∨ (d = .non ∧ v = .non) from h).elim id fun z => absurd z.1 hn
structure Exn where
  c : Str
  fs : List (Str × D)
def ExR (K : PySem.W.Frag) (b : Bg) (H : Hp) (cls : Value) (dd : Option Addr) (x : Exn) : Prop :=
  cls = .ref (He.ga K x.c) ∧ ((x.fs = [] ∧ dd = none) ∨ (x.fs ≠ [] ∧ ∃ q fs, dd = some q ∧ H q = some (.xd fs) ∧ RpF K b H x.fs fs))
theorem Res.rp {K : PySem.W.Frag} {fr : Bool} {b : Bg} {P : List Addr} {H H' : Hp} {v : V} {d : D} (h : Res K fr b P H H' v d) (hP : ∀ q ∈ P, H q ≠ none) : Rp K b (era P H') d v := by
  unfold Res at h
  cases fr with
  | false => exact h
  | true =>
    rcases h with ⟨p, rfl, h1, h2⟩ | ⟨rfl, rfl⟩
    · exact h2.rp (fun a ha => List.mem_cons_of_mem _ ha) fun z => hP p z h1
    · exact rp_non.mpr rfl

theorem Res.sh {K : PySem.W.Frag} {b : Bg} {P : List Addr} {H H' : Hp} {v : V} {d : D} (h : Res K false b P H H' v d) : Rp K b (era P H') d v := h
theorem Res.of {K : PySem.W.Frag} {b : Bg} {P : List Addr} {H H' : Hp} {v : V} {d : D} (h : Rp K b (era P H') d v) : Res K false b P H H' v d := h
/-! ### mirrors: expressions, tests, argument lists, functions -/
abbrev MX := MEnv → (D → Prop) → (Exn → Prop) → Prop
abbrev MT := MEnv → (Bool → Prop) → (Exn → Prop) → Prop
abbrev MA := MEnv → (List D → Prop) → (Exn → Prop) → Prop
abbrev MF := List D → (D → Prop) → (Exn → Prop) → Prop

def tM (K : PySem.W.Frag) (W : WX) (fr : Bool) (m : MX) : TE := fun σ H Q => ∃ c ρ k ex, Ok K c H σ ρ ∧ m ρ k ex ∧
  (∀ d v H', k d → Grow c.b H H' → Res K fr c.b c.P H H' v d → Q v H') ∧ (∀ x cls dd H', ex x → Grow c.b H H' → ExR K c.b (era c.P H') cls dd x → W cls dd σ H')
def tT (K : PySem.W.Frag) (W : WX) (m : MT) : TT := fun σ H Q => ∃ c ρ k ex, Ok K c H σ ρ ∧ m ρ k ex ∧
  (∀ d H', k d → Grow c.b H H' → Q d H') ∧ (∀ x cls dd H', ex x → Grow c.b H H' → ExR K c.b (era c.P H') cls dd x → W cls dd σ H')
def tA (K : PySem.W.Frag) (W : WX) (n : Nat) (m : MA) : TA := fun σ H Q => ∃ c ρ k ex, Ok K c H σ ρ ∧ m ρ k ex ∧
  (∀ ds vs H', k ds → ds.length = n → Grow c.b H H' → RpL K c.b (era c.P H') ds vs → Q vs H') ∧ (∀ x cls dd H', ex x → Grow c.b H H' → ExR K c.b (era c.P H') cls dd x → W cls dd σ H')
end DM
namespace L2
theorem PE.imp {X : Cx} {e : PySem.Expr} {t t' : TE} (h : PE X e t) (i : ∀ σ H Q, t' σ H Q → t σ H Q) : PE X e t' := ⟨fun pins s σ H Q I q => h.run pins s σ H Q I (i σ H Q q)⟩
theorem PT.imp {X : Cx} {e : PySem.Expr} {t t' : TT} (h : PT X e t) (i : ∀ σ H Q, t' σ H Q → t σ H Q) : PT X e t' := ⟨fun pins s σ H Q I q => h.run pins s σ H Q I (i σ H Q q)⟩
theorem PW.imp {X : Cx} {e : PySem.Expr} {t t' : TT} (h : PW X e t) (i : ∀ σ H Q, t' σ H Q → t σ H Q) : PW X e t' := ⟨fun wh pins s σ H Q I q => h.run wh pins s σ H Q I (i σ H Q q)⟩
theorem PA.imp {X : Cx} {e : List PySem.Expr} {t t' : TA} (h : PA X e t) (i : ∀ σ H Q, t' σ H Q → t σ H Q) : PA X e t' := ⟨fun pos pins s σ H Q I q => h.run pos pins s σ H Q I (i σ H Q q)⟩
theorem PS.imp {X : Cx} {e : PySem.Stmt} {t t' : TS} (h : PS X e t) (i : ∀ D σ H, t' D σ H → t D σ H) : PS X e t' := ⟨fun pins s σ H D I q => h.run pins s σ H D I (i D σ H q)⟩
theorem PSs.imp {X : Cx} {e : List PySem.Stmt} {t t' : TS} (h : PSs X e t) (i : ∀ D σ H, t' D σ H → t D σ H) : PSs X e t' := ⟨fun pins s σ H D I q => h.run pins s σ H D I (i D σ H q)⟩
theorem PI.imp {X : Cx} {tg e : PySem.Expr} {t t' : TI} (h : PI X tg e t) (i : ∀ σ H R, t' σ H R → t σ H R) : PI X tg e t' := ⟨fun pins s σ H R I q => h.run pins s σ H R I (i σ H R q)⟩
end L2
end
section
set_option Elab.async false
set_option linter.all false
set_option maxRecDepth 100000
set_option maxHeartbeats 4000000
namespace DM
open PySem L2 Evl

/-! ### combinators of expressions -/
def xVar (i : Nat) : MX := fun ρ k _ => match ρ[i]? with
  | some (.sh d) => k d
  | _ => False
def xC (d : D) : MX := fun _ k _ => k d
def xOp (f : D → D → (D → Prop) → Prop) (ma mb : MX) : MX := fun ρ k ex => ma ρ (fun x => mb ρ (fun y => f x y k) ex) ex
def xUn (f : D → (D → Prop) → Prop) (ma : MX) : MX := fun ρ k ex => ma ρ (fun x => f x k) ex
def aNil : MA := fun _ k _ => k []
def aCons (m : MX) (r : MA) : MA := fun ρ k ex => m ρ (fun x => r ρ (fun xs => k (x :: xs)) ex) ex
def xTup (a : MA) : MX := fun ρ k ex => a ρ (fun ds => k (.tup ds)) ex
def xLst (a : MA) : MX := fun ρ k ex => a ρ (fun ds => k (.lst ds)) ex
def xCall (m : MF) (a : MA) : MX := fun ρ k ex => a ρ (fun ds => m ds k ex) ex
def xB (m : MX) : MT := fun ρ k ex => m ρ (fun d => match d with
  | .bl c => k c
  | _ => False) ex
def tAndM (a b : MT) : MT := fun ρ k ex => a ρ (fun c => if c = true then b ρ k ex else k false) ex
def tOrM (a b : MT) : MT := fun ρ k ex => a ρ (fun c => if c = true then k true else b ρ k ex) ex
def tNotM (a : MT) : MT := fun ρ k ex => a ρ (fun c => k (!c)) ex
def xAnd (a b : MX) : MX := fun ρ k ex => a ρ (fun d => match d with
  | .bl c => if c = true then b ρ k ex else k (.bl false)
  | _ => False) ex
def xOr (a b : MX) : MX := fun ρ k ex => a ρ (fun d => match d with
  | .bl c => if c = true then k (.bl true) else b ρ k ex
  | _ => False) ex
def xNot (a : MX) : MX := fun ρ k ex => a ρ (fun d => match d with
  | .bl c => k (.bl (!c))
  | _ => False) ex
def xIf (t : MT) (a b : MX) : MX := fun ρ k ex => t ρ (fun c => if c = true then a ρ k ex else b ρ k ex) ex
/-- a comparison -/
abbrev CD := D → D → (Bool → Prop) → Prop
def xCmp (f : CD) (ma mb : MX) : MX := fun ρ k ex => ma ρ (fun x => mb ρ (fun y => f x y fun c => k (.bl c)) ex) ex
def tCmpM (f : CD) (ma mb : MX) : MT := fun ρ k ex => ma ρ (fun x => mb ρ (fun y => f x y k) ex) ex
def xChain (f g : CD) (ma mb mc : MX) : MX := fun ρ k ex => ma ρ (fun x => mb ρ (fun y => f x y fun c => if c = true then mc ρ (fun z => g y z fun c => k (.bl c)) ex else k (.bl false)) ex) ex
def tChainM (f g : CD) (ma mb mc : MX) : MT := fun ρ k ex => ma ρ (fun x => mb ρ (fun y => f x y fun c => if c = true then mc ρ (fun z => g y z k) ex else k false) ex) ex

section
variable {X : Cx} {W : WX} {e a b c' : Expr} {es : List Expr} {pos : Pos} {m ma mb mc : MX} {t u : MT} {fr : Bool}

/-- a new object's result forgotten to be new -/
theorem ce_sh (h : PE X e (tM X.K W true m)) : PE X e (tM X.K W false m) := h.imp fun σ H Q ⟨c, ρ, k, ex, ok, hm, hk, hx⟩ =>
  ⟨c, ρ, k, ex, ok, hm, fun d v H' kd g r => hk d v H' kd g (show Rp X.K c.b (era c.P H') d v from r.rp ok.good.al), hx⟩
theorem ce_var (i : Nat) {x : Str} {pos : Pos} (hN : X.N[i]? = some x := by rfl) (hv : Vis X.env.scope x := by first | exact Or.inl rfl | exact Or.inr (Or.inl rfl) | exact Or.inr (Or.inr rfl)) (hd : (x == ("__debug__" : Str)) = false := by decide)
    (hcd : (x == ("__classdict__" : Str)) = false := by decide) : PE X (.Name x pos) (tM X.K W false (xVar i)) := (pe_var hN hv hd hcd).imp fun σ H Q ⟨c, ρ, k, ex, ok, hm, hk, hx⟩ => by
  unfold xVar at hm
  cases q : ρ[i]? with
  | none => rw [q] at hm; exact hm.elim
  | some s =>
    rw [q] at hm
    cases s with
    | sh d =>
      obtain ⟨o, r⟩ := ok.rel
      obtain ⟨v, e1, e2⟩ := r.sh i d q
      exact ⟨v, e1, hk d v H hm ok.refl e2⟩
    | no => exact hm.elim
    | ow d => exact hm.elim
theorem ce_int {i : Int} {j} : PE X (.Constant (.int i) j pos) (tM X.K W false (xC (.int i))) := pe_int.imp fun σ H Q ⟨c, ρ, k, ex, ok, hm, hk, hx⟩ => hk _ _ _ hm ok.refl (Res.of (rp_int.mpr rfl))
theorem ce_bl {i : Bool} {j} : PE X (.Constant (.bool i) j pos) (tM X.K W false (xC (.bl i))) := pe_bl.imp fun σ H Q ⟨c, ρ, k, ex, ok, hm, hk, hx⟩ => hk _ _ _ hm ok.refl (Res.of (rp_bl.mpr rfl))
theorem ce_non {j} : PE X (.Constant .none j pos) (tM X.K W false (xC .non)) := pe_non.imp fun σ H Q ⟨c, ρ, k, ex, ok, hm, hk, hx⟩ => hk _ _ _ hm ok.refl (Res.of (rp_non.mpr rfl))
theorem ce_str {x : Str} {j} (h : x.length ≤ LN := by decide) : PE X (.Constant (.str x) j pos) (tM X.K W false (xC (.str x))) := pe_str.imp fun σ H Q ⟨c, ρ, k, ex, ok, hm, hk, hx⟩ => hk _ _ _ hm ok.refl (Res.of (rp_str.mpr ⟨rfl, h⟩))

/-! operators -/
def OpD (K : PySem.W.Frag) (fr : Bool) (r : R2) (f : D → D → (D → Prop) → Prop) : Prop := ∀ (bg : Bg) (P : List Addr) (H : Hp) (dx dy : D) (x y : V) (k : D → Prop) (Q : VK), GoodP bg P H → Rp K bg (era P H) dx x → Rp K bg (era P H) dy y → f dx dy k →
  (∀ d v H', k d → Grow bg H H' → Res K fr bg P H H' v d → Q v H') → r x y H Q
theorem tM_two {r : R2} {f : D → D → (D → Prop) → Prop} (hf : OpD X.K fr r f) : ∀ σ H Q, tM X.K W fr (xOp f ma mb) σ H Q → tOp r (tM X.K W false ma) (tM X.K W false mb) σ H Q := fun σ H Q ⟨c, ρ, k, ex, ok, hm, hk, hx⟩ =>
  ⟨c, ρ, _, ex, ok, hm, fun d1 v1 H1 k1 g1 r1 => ⟨c, ρ, _, ex, ok.grow g1, k1, fun d2 v2 H2 k2 g2 r2 =>
    hf c.b c.P H2 d1 d2 v1 v2 k Q ((ok.good.grow g1).grow g2) (Rp.mono ((ok.good.grow g1).era g2) _ _ r1) r2 k2 fun d v H' kd g r => hk d v H' kd ((g1.trans g2).trans g) (by
      unfold Res at r ⊢
      cases fr with
      | false => exact r
      | true =>
        exact r.imp (fun ⟨p, h1, h2, h3⟩ => ⟨p, h1, (g1.trans g2).none h2, h3⟩) id), fun x cls dd H' e g z => hx x cls dd H' e (g1.trans g) z⟩, hx⟩
theorem ce_op {op : Operator} {r : R2} {f : D → D → (D → Prop) → Prop} (ho : OpR X (binaryOp op) r) (hf : OpD X.K fr r f) (ha : PE X a (tM X.K W false ma)) (hb : PE X b (tM X.K W false mb)) : PE X (.BinOp a op b pos) (tM X.K W fr (xOp f ma mb)) :=
  (pe_op ho ha hb).imp (tM_two hf)

def dSub : D → D → (D → Prop) → Prop
  | .int i, .int j, k => k (.int (i - j))
  | _, _, _ => False
theorem opd_sub {K : PySem.W.Frag} : OpD K false (rI0 fun i j => .int (i - j)) dSub := fun bg P H dx dy x y k Q g r1 r2 hf hk => by
  cases dx <;> cases dy <;> first | exact hf.elim | skip
  rw [rp_int] at r1 r2
  exact ⟨_, _, r1, r2, hk _ _ _ hf g.refl (Res.of (rp_int.mpr rfl))⟩
def dMod : D → D → (D → Prop) → Prop
  | .int i, .int j, k => 0 < j ∧ k (.int (i % j))
  | _, _, _ => False
theorem opd_mod {K : PySem.W.Frag} : OpD K false (rI (fun _ j => 0 < j) fun i j => .int (i % j)) dMod := fun bg P H dx dy x y k Q g r1 r2 hf hk => by
  cases dx <;> cases dy <;> first | exact hf.elim | skip
  rw [rp_int] at r1 r2
  exact ⟨_, _, r1, r2, hf.1, hk _ _ _ hf.2 g.refl (Res.of (rp_int.mpr rfl))⟩
def dDiv : D → D → (D → Prop) → Prop
  | .int i, .int j, k => (0 < j ∧ j < 1073741824) ∧ k (.int (i / j))
  | _, _, _ => False
theorem opd_div {K : PySem.W.Frag} : OpD K false (rI CDiv fun i j => .int (i / j)) dDiv := fun bg P H dx dy x y k Q g r1 r2 hf hk => by
  cases dx <;> cases dy <;> first | exact hf.elim | skip
  rw [rp_int] at r1 r2
  exact ⟨_, _, r1, r2, hf.1, hk _ _ _ hf.2 g.refl (Res.of (rp_int.mpr rfl))⟩
def dMul : D → D → (D → Prop) → Prop
  | .int i, .int j, k => CMul i j ∧ k (.int (i * j))
  | _, _, _ => False
theorem opd_mul {K : PySem.W.Frag} : OpD K false (rI CMul fun i j => .int (i * j)) dMul := fun bg P H dx dy x y k Q g r1 r2 hf hk => by
  cases dx <;> cases dy <;> first | exact hf.elim | skip
  rw [rp_int] at r1 r2
  exact ⟨_, _, r1, r2, hf.1, hk _ _ _ hf.2 g.refl (Res.of (rp_int.mpr rfl))⟩
def dPow : D → D → (D → Prop) → Prop
  | .int i, .int j, k => (0 ≤ j ∧ j ≤ 1000000 ∧ i.natAbs < 2 ^ 64) ∧ k (.int (i ^ j.toNat))
  | _, _, _ => False
theorem opd_pow {K : PySem.W.Frag} : OpD K false (rI CPow fun i j => .int (i ^ j.toNat)) dPow := fun bg P H dx dy x y k Q g r1 r2 hf hk => by
  cases dx <;> cases dy <;> first | exact hf.elim | skip
  rw [rp_int] at r1 r2
  exact ⟨_, _, r1, r2, hf.1, hk _ _ _ hf.2 g.refl (Res.of (rp_int.mpr rfl))⟩
/-- a new list with known contents -/
theorem res_lst {K : PySem.W.Frag} {bg : Bg} {P : List Addr} {H : Hp} {ds : List D} {xs : List V} {p : Addr} (g : GoodP bg P H) (hp : H p = none) (hl : ds.length ≤ LN) (h : RpL K bg (era P H) ds xs) : Res K true bg P H (upd H p (.lst xs)) (.ref p) (.lst ds) :=
  show (∃ q, V.ref p = .ref q ∧ H q = none ∧ OwnC K bg (q :: P) (upd H p (.lst xs)) q (.lst ds)) ∨ _ from .inl ⟨p, rfl, hp, xs, upd_same, hl, RpL.mono (fun a o e => by
    obtain ⟨e1, e2⟩ := era_some e
    have ne : a ≠ p := ne_of_none e1 hp
    rw [era_out (by simp only [List.mem_cons, not_or]; exact ⟨ne, e2⟩), upd_ne ne]
    exact e1) _ _ h⟩
theorem rp_tupN {K : PySem.W.Frag} {bg : Bg} {P : List Addr} {H : Hp} {ds : List D} {xs : List V} {p : Addr} (g : GoodP bg P H) (hp : H p = none) (hl : ds.length ≤ LN) (h : RpL K bg (era P H) ds xs) : Rp K bg (era P (upd H p (.tup xs))) (.tup ds) (.ref p) :=
  rp_tup.mpr ⟨p, xs, rfl, by rw [era_out fun z => g.al p z hp]; exact upd_same, hl, RpL.mono (g.era (Grow.new g hp)) _ _ h⟩
theorem sqt_up {K : PySem.W.Frag} {P : List Addr} {H : Hp} {a : Addr} {xs : List V} (h : SqT K (era P H) a xs) : SqT K H a xs := ex_t era_le h
def dCat : D → D → (D → Prop) → Prop
  | .lst xs, .lst ys, k => xs.length + ys.length ≤ LN ∧ k (.lst (xs ++ ys))
  | _, _, _ => False
theorem opd_cat {K : PySem.W.Frag} : OpD K true rCat dCat := fun bg P H dx dy x y k Q g r1 r2 hf hk => by
  cases dx <;> cases dy <;> first | exact hf.elim | skip
  obtain ⟨a1, xs, rfl, h1, l1, q1⟩ := rp_lst.mp r1
  obtain ⟨a2, ys, rfl, h2, l2, q2⟩ := rp_lst.mp r2
  exact ⟨a1, a2, xs, ys, rfl, rfl, era_le _ _ h1, era_le _ _ h2, LN_size (by rw [q1.len, q2.len]; exact hf.1), fun p hp => hk _ _ _ hf.2 (Grow.new g hp) (res_lst g hp (by rw [List.length_append]; exact hf.1) (q1.append q2))⟩
theorem ce_cat (ha : PE X a (tM X.K W false ma)) (hb : PE X b (tM X.K W false mb)) : PE X (.BinOp a .Add b pos) (tM X.K W true (xOp dCat ma mb)) := ce_op op_cat opd_cat ha hb
/-- + of ints, texts, lists, tuples -/
def dAdd : D → D → (D → Prop) → Prop
  | .int i, .int j, k => k (.int (i + j))
  | .str x, .str y, k => x.length + y.length ≤ LN ∧ k (.str (x ++ y))
  | .lst xs, .lst ys, k => xs.length + ys.length ≤ LN ∧ k (.lst (xs ++ ys))
  | _, _, _ => False
theorem str_append_len (x y : Str) : (x ++ y).length = x.length + y.length := by
  show (x.cps ++ y.cps).size = x.cps.size + y.cps.size
  simp
theorem opd_add {K : PySem.W.Frag} : OpD K false (fun x y H Q => (rI0 (fun i j => .int (i + j)) x y H Q) ∨ ((∃ i j, x = .str i ∧ y = .str j ∧ i.length + j.length ≤ sizeLine ∧ Q (.str (i ++ j)) H) ∨ rCat x y H Q)) dAdd := fun bg P H dx dy x y k Q g r1 r2 hf hk => by
  cases dx <;> cases dy <;> first | exact hf.elim | skip
  · rw [rp_int] at r1 r2
    exact .inl ⟨_, _, r1, r2, hk _ _ _ hf g.refl (Res.of (rp_int.mpr rfl))⟩
  · rw [rp_str] at r1 r2
    exact .inr (.inl ⟨_, _, r1.1, r2.1, LN_size hf.1, hk _ _ _ hf.2 g.refl (Res.of (rp_str.mpr ⟨rfl, by rw [str_append_len]; exact hf.1⟩))⟩)
  · exact .inr (.inr (opd_cat bg P H _ _ x y k Q g r1 r2 hf fun d v H' kd gr r => hk d v H' kd gr (Res.of (r.rp g.al))))
theorem ce_add (ha : PE X a (tM X.K W false ma)) (hb : PE X b (tM X.K W false mb)) : PE X (.BinOp a .Add b pos) (tM X.K W false (xOp dAdd ma mb)) := ce_op (op_add.or (op_add_str.or op_cat)) opd_add ha hb
def dRep : D → D → (D → Prop) → Prop
  | .lst xs, .int j, k => (j ≤ 100000 ∧ -100000 ≤ j ∧ xs.length * j.toNat ≤ LN) ∧ k (.lst (List.replicate j.toNat xs).flatten)
  | _, _, _ => False
theorem RpL.rep {K : PySem.W.Frag} {bg : Bg} {H : Hp} {ds : List D} {xs : List V} (h : RpL K bg H ds xs) : ∀ n, RpL K bg H (List.replicate n ds).flatten (List.replicate n xs).flatten
  | 0 => by simp; exact rpl_nil.mpr rfl
  | n + 1 => by rw [List.replicate_succ, List.replicate_succ, List.flatten_cons, List.flatten_cons]; exact h.append (RpL.rep h n)
end
end DM
end
section
set_option Elab.async false
set_option linter.all false
set_option maxRecDepth 100000
set_option maxHeartbeats 4000000
namespace DM
open PySem L2 Evl

/-! ### data that == speaks of -/
mutual
def toP : D → PyData
  | .non => .none
  | .bl b => .bool b
  | .int i => .int i
  | .str x => .str x
  | .lst xs => .list (toPs xs)
  | .tup xs => .tuple (toPs xs)
  | .dct _ => .none
  | .ktp _ => .none
  | .dtt _ => .none
  | .ins _ _ => .none
  | .new _ _ _ => .none
  | .scr _ => .none
  | .exo _ _ _ => .none
  | .bag => .none
def toPs : List D → List PyData
  | [] => []
  | d :: ds => toP d :: toPs ds
end
mutual
def shp : D → Bool
  | .non => true
  | .bl _ => true
  | .int _ => true
  | .str x => PyData.strOk x
  | .lst xs => shps xs
  | .tup xs => shps xs
  | .dct _ => false
  | .ktp _ => false
  | .dtt _ => false
  | .ins _ _ => false
  | .new _ _ _ => false
  | .scr _ => false
  | .exo _ _ _ => false
  | .bag => false
def shps : List D → Bool
  | [] => true
  | d :: ds => shp d && shps ds
end
mutual
def dep : D → Nat
  | .lst xs => deps xs + 1
  | .tup xs => deps xs + 1
  | .non => 0
  | .bl _ => 0
  | .int _ => 0
  | .str _ => 0
  | .dct _ => 0
  | .ktp _ => 0
  | .dtt _ => 0
  | .ins _ _ => 0
  | .new _ _ _ => 0
  | .scr _ => 0
  | .exo _ _ _ => 0
  | .bag => 0
def deps : List D → Nat
  | [] => 0
  | d :: ds => max (dep d) (deps ds)
end
mutual
def eqD : D → D → Bool
  | .non, .non => true
  | .bl a, .bl b => a == b
  | .bl a, .int j => (if a then 1 else 0) == j
  | .int i, .bl b => i == (if b then 1 else 0)
  | .int i, .int j => i == j
  | .str x, .str y => x == y
  | .lst xs, .lst ys => eqDs xs ys
  | .tup xs, .tup ys => eqDs xs ys
  | _, _ => false
def eqDs : List D → List D → Bool
  | [], [] => true
  | x :: xs, y :: ys => eqD x y && eqDs xs ys
  | [], _ :: _ => false
  | _ :: _, [] => false
end
mutual
theorem toP_lay : ∀ d, shp d = true → (toP d).canLay0 = true
  | .non, _ => by simp [toP, PyData.canLay0]
  | .bl _, _ => by simp [toP, PyData.canLay0]
  | .int _, _ => by simp [toP, PyData.canLay0]
  | .str x, h => by simp only [toP, PyData.canLay0]; simpa [shp] using h
  | .lst xs, h => by simp only [toP, PyData.canLay0]; exact toPs_lay xs (by simpa [shp] using h)
  | .tup xs, h => by simp only [toP, PyData.canLay0]; exact toPs_lay xs (by simpa [shp] using h)
  | .dct _, h => by simp [shp] at h
  | .ktp _, h => by simp [shp] at h
  | .dtt _, h => by simp [shp] at h
  | .ins _ _, h => by simp [shp] at h
  | .new _ _ _, h => by simp [shp] at h
  | .scr _, h => by simp [shp] at h
  | .exo _ _ _, h => by simp [shp] at h
  | .bag, h => by simp [shp] at h
theorem toPs_lay : ∀ ds, shps ds = true → PyData.canLayAll0 (toPs ds) = true
  | [], _ => by simp [toPs, PyData.canLayAll0]
  | d :: ds, h => by
    simp only [shps, Bool.and_eq_true] at h
    simp only [toPs, PyData.canLayAll0, toP_lay d h.1, toPs_lay ds h.2, Bool.and_self]
end
mutual
theorem toP_dep : ∀ d, (toP d).depth = dep d
  | .non => by simp [toP, PyData.depth, dep]
  | .bl _ => by simp [toP, PyData.depth, dep]
  | .int _ => by simp [toP, PyData.depth, dep]
  | .str x => by simp [toP, PyData.depth, dep]
  | .lst xs => by simp only [toP, PyData.depth, dep, toPs_dep xs]
  | .tup xs => by simp only [toP, PyData.depth, dep, toPs_dep xs]
  | .dct _ => by simp [toP, PyData.depth, dep]
  | .ktp _ => by simp [toP, PyData.depth, dep]
  | .dtt _ => by simp [toP, PyData.depth, dep]
  | .ins _ _ => by simp [toP, PyData.depth, dep]
  | .new _ _ _ => by simp [toP, PyData.depth, dep]
  | .scr _ => by simp [toP, PyData.depth, dep]
  | .exo _ _ _ => by simp [toP, PyData.depth, dep]
  | .bag => by simp [toP, PyData.depth, dep]
theorem toPs_dep : ∀ ds, PyData.depthAll (toPs ds) = deps ds
  | [] => by simp [toPs, PyData.depthAll, deps]
  | d :: ds => by simp only [toPs, PyData.depthAll, deps, toP_dep d, toPs_dep ds]
end
mutual
theorem eqD_eqv : ∀ d e, shp d = true → shp e = true → PyData.eqv (toP d) (toP e) = eqD d e
  | .non, e, _, he => by cases e <;> simp [shp] at he <;> simp [toP, PyData.eqv, eqD]
  | .bl _, e, _, he => by cases e <;> simp [shp] at he <;> simp [toP, PyData.eqv, eqD]
  | .int _, e, _, he => by cases e <;> simp [shp] at he <;> simp [toP, PyData.eqv, eqD]
  | .str x, e, _, he => by cases e <;> simp [shp] at he <;> simp [toP, PyData.eqv, eqD]
  | .lst xs, e, h, he => by
    cases e <;> simp [shp] at he h <;> simp [toP, PyData.eqv, eqD]
    rename_i ys
    exact eqDs_eqv xs ys h he
  | .tup xs, e, h, he => by
    cases e <;> simp [shp] at he h <;> simp [toP, PyData.eqv, eqD]
    rename_i ys
    exact eqDs_eqv xs ys h he
  | .dct _, _, h, _ => by simp [shp] at h
  | .ins _ _, _, h, _ => by simp [shp] at h
  | .bag, _, h, _ => by simp [shp] at h
theorem eqDs_eqv : ∀ ds es, shps ds = true → shps es = true → PyData.eqvAll (toPs ds) (toPs es) = eqDs ds es
  | [], [], _, _ => by simp [toPs, PyData.eqvAll, eqDs]
  | [], _ :: _, _, _ => by simp [toPs, PyData.eqvAll, eqDs]
  | _ :: _, [], _, _ => by simp [toPs, PyData.eqvAll, eqDs]
  | d :: ds, e :: es, h, he => by
    simp only [shps, Bool.and_eq_true] at h he
    simp only [toPs, PyData.eqvAll, eqDs, eqD_eqv d e h.1 he.1, eqDs_eqv ds es h.2 he.2]
end
section
variable {K : PySem.W.Frag} {bg : Bg} {H : Hp}
mutual
theorem Rp.dp : ∀ (d : D) (v : V), shp d = true → Rp K bg H d v → Dp K H v (toP d)
  | .non, v, _, h => by rw [rp_non.mp h]; simp only [toP]; exact .non
  | .bl _, v, _, h => by rw [rp_bl.mp h]; simp only [toP]; exact .bl _
  | .int _, v, _, h => by rw [rp_int.mp h]; simp only [toP]; exact .int _
  | .str x, v, _, h => by rw [(rp_str.mp h).1]; simp only [toP]; exact .str _
  | .lst xs, v, s, h => by
    obtain ⟨a, ys, rfl, h1, _, h2⟩ := rp_lst.mp h
    simp only [toP]
    exact .lst (.inl (.inl h1)) (RpL.dp xs ys (by simpa [shp] using s) h2)
  | .tup xs, v, s, h => by
    obtain ⟨a, ys, rfl, h1, _, h2⟩ := rp_tupS h
    simp only [toP]
    exact .tup h1 (RpL.dp xs ys (by simpa [shp] using s) h2)
  | .dct _, _, s, _ => by simp [shp] at s
  | .ins _ _, _, s, _ => by simp [shp] at s
  | .bag, _, s, _ => by simp [shp] at s
theorem RpL.dp : ∀ (ds : List D) (xs : List V), shps ds = true → RpL K bg H ds xs → DpAll K H xs (toPs ds)
  | [], xs, _, h => by rw [rpl_nil.mp h]; simp only [toPs]; exact .nil
  | d :: ds, xs, s, h => by
    obtain ⟨x, r, rfl, h1, h2⟩ := rpl_cons.mp h
    simp only [shps, Bool.and_eq_true] at s
    simp only [toPs]
    exact .cons (Rp.dp d x s.1 h1) (RpL.dp ds r s.2 h2)
end
end
theorem shaped_of {d : D} (h : shp d = true) (hd : dep d ≤ 64) : SeqAt.shaped (toP d) = true := by
  unfold SeqAt.shaped
  rw [toP_lay d h, toP_dep d, decide_eq_true hd] <;> rfl
def okE (d : D) : Prop := shp d = true ∧ dep d ≤ 64
def dEq : CD := fun x y k => okE x ∧ okE y ∧ k (eqD x y)
def dNe : CD := fun x y k => okE x ∧ okE y ∧ k (!eqD x y)
def dLt : CD
  | .int i, .int j, k => k (decide (i < j))
  | _, _, _ => False
def dLe : CD
  | .int i, .int j, k => k (decide (i ≤ j))
  | _, _, _ => False
def dGt : CD
  | .int i, .int j, k => k (decide (j < i))
  | _, _, _ => False
def dGe : CD
  | .int i, .int j, k => k (decide (j ≤ i))
  | _, _, _ => False
def isNonD : D → Bool
  | .non => true
  | _ => false
def dIsN : CD
  | x, .non, k => k (isNonD x)
  | _, _, _ => False
def dNotN : CD
  | x, .non, k => k (!isNonD x)
  | _, _, _ => False
def flatD : D → Bool
  | .non => true
  | .bl _ => true
  | .int _ => true
  | .str _ => true
  | _ => false
def inD (x : D) (ys : List D) : Bool := ys.any fun y => eqD y x
def dIn : CD
  | x, .lst ys, k => (flatD x = true ∧ ys.all flatD = true) ∧ k (inD x ys)
  | x, .tup ys, k => (flatD x = true ∧ ys.all flatD = true) ∧ k (inD x ys)
  | x, .ktp ys, k => (flatD x = true ∧ ys.all flatD = true) ∧ k (inD x ys)
  | _, _, _ => False
def dNotIn : CD
  | x, .lst ys, k => (flatD x = true ∧ ys.all flatD = true) ∧ k (!inD x ys)
  | x, .tup ys, k => (flatD x = true ∧ ys.all flatD = true) ∧ k (!inD x ys)
  | x, .ktp ys, k => (flatD x = true ∧ ys.all flatD = true) ∧ k (!inD x ys)
  | _, _, _ => False
def CmpD (K : PySem.W.Frag) (r : R2) (f : CD) : Prop := ∀ (bg : Bg) (P : List Addr) (H : Hp) (dx dy : D) (x y : V) (k : Bool → Prop) (Q : VK), GoodP bg P H → Rp K bg (era P H) dx x → Rp K bg (era P H) dy y → f dx dy k → (∀ c, k c → Q (.bl c) H) → r x y H Q
section
variable {K : PySem.W.Frag}
theorem Dp.up {K : PySem.W.Frag} {H H' : Hp} (e : Ex H H') {bg : Bg} {d : D} {v : V} (s : shp d = true) (h : Rp K bg H d v) : Dp K H' v (toP d) := Rp.dp d v s (Rp.mono e d v h)
theorem cmpd_eq : CmpD K (rEqD K) dEq := fun bg P H dx dy x y k Q g r1 r2 hf hk =>
  ⟨toP dx, toP dy, Dp.up era_le hf.1.1 r1, Dp.up era_le hf.2.1.1 r2, shaped_of hf.1.1 hf.1.2, shaped_of hf.2.1.1 hf.2.1.2, by rw [eqD_eqv dx dy hf.1.1 hf.2.1.1]; exact hk _ hf.2.2⟩
theorem cmpd_ne : CmpD K (rNeD K) dNe := fun bg P H dx dy x y k Q g r1 r2 hf hk =>
  ⟨toP dx, toP dy, Dp.up era_le hf.1.1 r1, Dp.up era_le hf.2.1.1 r2, shaped_of hf.1.1 hf.1.2, shaped_of hf.2.1.1 hf.2.1.2, by rw [eqD_eqv dx dy hf.1.1 hf.2.1.1]; exact hk _ hf.2.2⟩
theorem cmpd_lt : CmpD K (rI0 fun i j => .bl (decide (i < j))) dLt := fun bg P H dx dy x y k Q g r1 r2 hf hk => by
  cases dx <;> cases dy <;> first | exact hf.elim | skip
  rw [rp_int] at r1 r2
  exact ⟨_, _, r1, r2, hk _ hf⟩
theorem cmpd_le : CmpD K (rI0 fun i j => .bl (decide (i ≤ j))) dLe := fun bg P H dx dy x y k Q g r1 r2 hf hk => by
  cases dx <;> cases dy <;> first | exact hf.elim | skip
  rw [rp_int] at r1 r2
  exact ⟨_, _, r1, r2, hk _ hf⟩
theorem cmpd_gt : CmpD K (rI0 fun i j => .bl (decide (j < i))) dGt := fun bg P H dx dy x y k Q g r1 r2 hf hk => by
  cases dx <;> cases dy <;> first | exact hf.elim | skip
  rw [rp_int] at r1 r2
  exact ⟨_, _, r1, r2, hk _ hf⟩
theorem cmpd_ge : CmpD K (rI0 fun i j => .bl (decide (j ≤ i))) dGe := fun bg P H dx dy x y k Q g r1 r2 hf hk => by
  cases dx <;> cases dy <;> first | exact hf.elim | skip
  rw [rp_int] at r1 r2
  exact ⟨_, _, r1, r2, hk _ hf⟩
theorem rp_isN {bg : Bg} {H : Hp} {d : D} {v : V} (h : Rp K bg H d v) : decide (v = .non) = isNonD d := by
  cases d with
  | non => rw [rp_non.mp h]; rfl
  | bl b => rw [rp_bl.mp h]; rfl
  | int i => rw [rp_int.mp h]; rfl
  | str x => rw [(rp_str.mp h).1]; rfl
  | lst ds => obtain ⟨a, xs, rfl, _⟩ := rp_lst.mp h; rfl
  | tup ds => obtain ⟨a, xs, rfl, _⟩ := rp_tup.mp h; rfl
  | ktp ds => obtain ⟨a, xs, rfl, _⟩ := rp_ktp.mp h; rfl
  | dtt ds => obtain ⟨a, xs, rfl, _⟩ := rp_dtt.mp h; rfl
  | dct ds => obtain ⟨a, xs, rfl, _⟩ := rp_dct.mp h; rfl
  | ins c ds => obtain ⟨a, dx, xs, rfl, _⟩ := rp_ins.mp h; rfl
  | new x c ds => obtain ⟨rfl, _⟩ := rp_new.mp h; rfl
  | scr ns => obtain ⟨a, rfl, _⟩ := rp_scr.mp h; rfl
  | exo a dd ds => rw [(rp_exo.mp h).1]; rfl
  | bag => obtain ⟨p, _, rfl⟩ := rp_bag.mp h; rfl
theorem cmpd_isN : CmpD K (fun x y H Q => y = .non ∧ Q (.bl (decide (x = .non))) H) dIsN := fun bg P H dx dy x y k Q g r1 r2 hf hk => by
  cases dy <;> first | (cases dx <;> exact hf.elim) | skip
  refine ⟨rp_non.mp r2, ?_⟩
  rw [rp_isN r1]
  exact hk _ (by cases dx <;> exact hf)
theorem cmpd_notN : CmpD K (fun x y H Q => y = .non ∧ Q (.bl (!decide (x = .non))) H) dNotN := fun bg P H dx dy x y k Q g r1 r2 hf hk => by
  cases dy <;> first | (cases dx <;> exact hf.elim) | skip
  refine ⟨rp_non.mp r2, ?_⟩
  rw [rp_isN r1]
  exact hk _ (by cases dx <;> exact hf)
theorem rp_flat {bg : Bg} {H : Hp} {d : D} {v : V} (h : Rp K bg H d v) (f : flatD d = true) : flatV v = true := by
  cases d <;> first | (exact absurd f Bool.false_ne_true) | skip
  · rw [rp_non.mp h]; rfl
  · rw [rp_bl.mp h]; rfl
  · rw [rp_int.mp h]; rfl
  · rw [(rp_str.mp h).1]; rfl
theorem rp_eqV {bg : Bg} {H : Hp} {d e : D} {v u : V} (h : Rp K bg H d v) (h' : Rp K bg H e u) (f : flatD d = true) (f' : flatD e = true) : eqV v u = eqD d e := by
  cases d <;> first | (exact absurd f Bool.false_ne_true) | skip
  · rw [rp_non.mp h]
    cases e <;> first | (exact absurd f' Bool.false_ne_true) | (rw [rp_non.mp h']; simp [eqV, eqD]) | (rw [rp_bl.mp h']; simp [eqV, eqD]) | (rw [rp_int.mp h']; simp [eqV, eqD]) | (rw [(rp_str.mp h').1]; simp [eqV, eqD])
  · rw [rp_bl.mp h]
    cases e <;> first | (exact absurd f' Bool.false_ne_true) | (rw [rp_non.mp h']; simp [eqV, eqD]) | (rw [rp_bl.mp h']; simp [eqV, eqD]) | (rw [rp_int.mp h']; simp [eqV, eqD]) | (rw [(rp_str.mp h').1]; simp [eqV, eqD])
  · rw [rp_int.mp h]
    cases e <;> first | (exact absurd f' Bool.false_ne_true) | (rw [rp_non.mp h']; simp [eqV, eqD]) | (rw [rp_bl.mp h']; simp [eqV, eqD]) | (rw [rp_int.mp h']; simp [eqV, eqD]) | (rw [(rp_str.mp h').1]; simp [eqV, eqD])
  · rw [(rp_str.mp h).1]
    cases e <;> first | (exact absurd f' Bool.false_ne_true) | (rw [rp_non.mp h']; simp [eqV, eqD]) | (rw [rp_bl.mp h']; simp [eqV, eqD]) | (rw [rp_int.mp h']; simp [eqV, eqD]) | (rw [(rp_str.mp h').1]; simp [eqV, eqD])
theorem RpL.inV {bg : Bg} {H : Hp} {d : D} {v : V} (h : Rp K bg H d v) (f : flatD d = true) : ∀ {ds : List D} {xs : List V}, RpL K bg H ds xs → ds.all flatD = true → xs.all flatV = true ∧ L2.inV v xs = inD d ds
  | [], xs, r, _ => by rw [rpl_nil.mp r]; exact ⟨rfl, rfl⟩
  | e :: es, xs, r, a => by
    obtain ⟨x, q, rfl, h1, h2⟩ := rpl_cons.mp r
    rw [List.all_cons, Bool.and_eq_true] at a
    obtain ⟨i1, i2⟩ := RpL.inV h f h2 a.2
    refine ⟨by rw [List.all_cons, rp_flat h1 a.1, i1] <;> rfl, ?_⟩
    unfold L2.inV inD at *
    rw [List.any_cons, List.any_cons, i2, rp_eqV h1 h a.1 f]
theorem cmpd_in : CmpD K (rIn K false) dIn := fun bg P H dx dy x y k Q g r1 r2 hf hk => by
  cases dy with
  | lst ys =>
    have hf' : (flatD dx = true ∧ ys.all flatD = true) ∧ k (inD dx ys) := by cases dx <;> exact hf
    obtain ⟨a, xs, rfl, h1, _, h2⟩ := rp_lst.mp r2
    obtain ⟨i1, i2⟩ := RpL.inV r1 hf'.1.1 h2 hf'.1.2
    refine ⟨a, xs, rfl, .inl (.inl (.inl (era_le _ _ h1))), rp_flat r1 hf'.1.1, i1, ?_⟩
    show Q (.bl (L2.inV x xs)) H
    rw [i2]
    exact hk _ hf'.2
  | tup ys =>
    have hf' : (flatD dx = true ∧ ys.all flatD = true) ∧ k (inD dx ys) := by cases dx <;> exact hf
    obtain ⟨a, xs, rfl, h1, _, h2⟩ := rp_tupS r2
    obtain ⟨i1, i2⟩ := RpL.inV r1 hf'.1.1 h2 hf'.1.2
    refine ⟨a, xs, rfl, .inr (sqt_up h1), rp_flat r1 hf'.1.1, i1, ?_⟩
    show Q (.bl (L2.inV x xs)) H
    rw [i2]
    exact hk _ hf'.2
  | ktp ys =>
    have hf' : (flatD dx = true ∧ ys.all flatD = true) ∧ k (inD dx ys) := by cases dx <;> exact hf
    obtain ⟨a, xs, rfl, h1, _, h2⟩ := rp_ktp.mp r2
    obtain ⟨i1, i2⟩ := RpL.inV r1 hf'.1.1 h2 hf'.1.2
    refine ⟨a, xs, rfl, .inr (sqt_up h1), rp_flat r1 hf'.1.1, i1, ?_⟩
    show Q (.bl (L2.inV x xs)) H
    rw [i2]
    exact hk _ hf'.2
  | _ => cases dx <;> exact hf.elim
theorem cmpd_notIn : CmpD K (rIn K true) dNotIn := fun bg P H dx dy x y k Q g r1 r2 hf hk => by
  cases dy with
  | lst ys =>
    have hf' : (flatD dx = true ∧ ys.all flatD = true) ∧ k (!inD dx ys) := by cases dx <;> exact hf
    obtain ⟨a, xs, rfl, h1, _, h2⟩ := rp_lst.mp r2
    obtain ⟨i1, i2⟩ := RpL.inV r1 hf'.1.1 h2 hf'.1.2
    refine ⟨a, xs, rfl, .inl (.inl (.inl (era_le _ _ h1))), rp_flat r1 hf'.1.1, i1, ?_⟩
    show Q (.bl (!L2.inV x xs)) H
    rw [i2]
    exact hk _ hf'.2
  | tup ys =>
    have hf' : (flatD dx = true ∧ ys.all flatD = true) ∧ k (!inD dx ys) := by cases dx <;> exact hf
    obtain ⟨a, xs, rfl, h1, _, h2⟩ := rp_tupS r2
    obtain ⟨i1, i2⟩ := RpL.inV r1 hf'.1.1 h2 hf'.1.2
    refine ⟨a, xs, rfl, .inr (sqt_up h1), rp_flat r1 hf'.1.1, i1, ?_⟩
    show Q (.bl (!L2.inV x xs)) H
    rw [i2]
    exact hk _ hf'.2
  | ktp ys =>
    have hf' : (flatD dx = true ∧ ys.all flatD = true) ∧ k (!inD dx ys) := by cases dx <;> exact hf
    obtain ⟨a, xs, rfl, h1, _, h2⟩ := rp_ktp.mp r2
    obtain ⟨i1, i2⟩ := RpL.inV r1 hf'.1.1 h2 hf'.1.2
    refine ⟨a, xs, rfl, .inr (sqt_up h1), rp_flat r1 hf'.1.1, i1, ?_⟩
    show Q (.bl (!L2.inV x xs)) H
    rw [i2]
    exact hk _ hf'.2
  | _ => cases dx <;> exact hf.elim
end

section
variable {X : Cx} {W : WX} {e a b c' : Expr} {es : List Expr} {pos : Pos} {m ma mb mc : MX} {t u : MT} {fr : Bool} {r r' : R2} {f f' : CD} {op op' : CmpOp}
theorem ce_cmp (ho : OpR X (compareOp op) r) (hf : CmpD X.K r f) (ha : PE X a (tM X.K W false ma)) (hb : PE X b (tM X.K W false mb)) (hm : behindInMarks op b = false := by first | exact nomark _ | rfl) : PE X (.Compare a [op] [b] pos) (tM X.K W false (xCmp f ma mb)) :=
  (pe_cmpR ho ha hb hm).imp fun σ H Q ⟨c, ρ, k, ex, ok, hm, hk, hx⟩ =>
    ⟨c, ρ, _, ex, ok, hm, fun d1 v1 H1 k1 g1 r1 => ⟨c, ρ, _, ex, ok.grow g1, k1, fun d2 v2 H2 k2 g2 r2 =>
      hf c.b c.P H2 d1 d2 v1 v2 _ Q ((ok.good.grow g1).grow g2) (Rp.mono ((ok.good.grow g1).era g2) _ _ r1) r2 k2 fun cc kc => hk _ _ _ kc (g1.trans g2) (Res.of (rp_bl.mpr rfl)), fun x cls dd H' e g z => hx x cls dd H' e (g1.trans g) z⟩, hx⟩
theorem ct_cmp (ho : OpR X (compareOp op) r) (hf : CmpD X.K r f) (ha : PE X a (tM X.K W false ma)) (hb : PE X b (tM X.K W false mb)) (hm : behindInMarks op b = false := by first | exact nomark _ | rfl) : PT X (.Compare a [op] [b] pos) (tT X.K W (tCmpM f ma mb)) :=
  (pt_cmpR ho ha hb hm).imp fun σ H Q ⟨c, ρ, k, ex, ok, hm, hk, hx⟩ =>
    ⟨c, ρ, _, ex, ok, hm, fun d1 v1 H1 k1 g1 r1 => ⟨c, ρ, _, ex, ok.grow g1, k1, fun d2 v2 H2 k2 g2 r2 =>
      hf c.b c.P H2 d1 d2 v1 v2 _ _ ((ok.good.grow g1).grow g2) (Rp.mono ((ok.good.grow g1).era g2) _ _ r1) r2 k2 fun cc kc => ⟨cc, rfl, hk _ _ kc (g1.trans g2)⟩, fun x cls dd H' e g z => hx x cls dd H' e (g1.trans g) z⟩, hx⟩
theorem ce_chain (ho : OpR X (compareOp op) r) (hf : CmpD X.K r f) (ho' : OpR X (compareOp op') r') (hf' : CmpD X.K r' f') (ha : PE X a (tM X.K W false ma)) (hb : PE X b (tM X.K W false mb)) (hc : PE X c' (tM X.K W false mc))
    (hm : lastMarks [op, op'] [b, c'] = false := by with_unfolding_all rfl) : PE X (.Compare a [op, op'] [b, c'] pos) (tM X.K W false (xChain f f' ma mb mc)) :=
  (pe_chain ho ho' ha hb hc hm).imp fun σ H Q ⟨c, ρ, k, ex, ok, hm, hk, hx⟩ =>
    ⟨c, ρ, _, ex, ok, hm, fun d1 v1 H1 k1 g1 r1 => ⟨c, ρ, _, ex, ok.grow g1, k1, fun d2 v2 H2 k2 g2 r2 =>
      hf c.b c.P H2 d1 d2 v1 v2 _ _ ((ok.good.grow g1).grow g2) (Rp.mono ((ok.good.grow g1).era g2) _ _ r1) r2 k2 fun cc kc => ⟨cc, rfl, by
        cases cc with
        | false => exact hk _ _ _ kc (g1.trans g2) (Res.of (rp_bl.mpr rfl))
        | true => exact ⟨c, ρ, _, ex, (ok.grow g1).grow g2, kc, fun d3 v3 H3 k3 g3 r3 =>
            hf' c.b c.P H3 d2 d3 v2 v3 _ Q (((ok.good.grow g1).grow g2).grow g3) (Rp.mono (((ok.good.grow g1).grow g2).era g3) _ _ r2) r3 k3 fun cc kc => hk _ _ _ kc ((g1.trans g2).trans g3) (Res.of (rp_bl.mpr rfl)), fun x cls dd H' e g z => hx x cls dd H' e ((g1.trans g2).trans g) z⟩⟩, fun x cls dd H' e g z => hx x cls dd H' e (g1.trans g) z⟩, hx⟩
theorem ct_chain (ho : OpR X (compareOp op) r) (hf : CmpD X.K r f) (ho' : OpR X (compareOp op') r') (hf' : CmpD X.K r' f') (ha : PE X a (tM X.K W false ma)) (hb : PE X b (tM X.K W false mb)) (hc : PE X c' (tM X.K W false mc))
    (hm : lastMarks [op, op'] [b, c'] = false := by with_unfolding_all rfl) : PT X (.Compare a [op, op'] [b, c'] pos) (tT X.K W (tChainM f f' ma mb mc)) :=
  (pt_chain ho ho' ha hb hc hm).imp fun σ H Q ⟨c, ρ, k, ex, ok, hm, hk, hx⟩ =>
    ⟨c, ρ, _, ex, ok, hm, fun d1 v1 H1 k1 g1 r1 => ⟨c, ρ, _, ex, ok.grow g1, k1, fun d2 v2 H2 k2 g2 r2 =>
      hf c.b c.P H2 d1 d2 v1 v2 _ _ ((ok.good.grow g1).grow g2) (Rp.mono ((ok.good.grow g1).era g2) _ _ r1) r2 k2 fun cc kc => ⟨cc, rfl, by
        cases cc with
        | false => exact ⟨false, rfl, hk _ _ kc (g1.trans g2)⟩
        | true => exact ⟨c, ρ, _, ex, (ok.grow g1).grow g2, kc, fun d3 v3 H3 k3 g3 r3 =>
            hf' c.b c.P H3 d2 d3 v2 v3 _ _ (((ok.good.grow g1).grow g2).grow g3) (Rp.mono (((ok.good.grow g1).grow g2).era g3) _ _ r2) r3 k3 fun cc kc => ⟨cc, rfl, hk _ _ kc ((g1.trans g2).trans g3)⟩, fun x cls dd H' e g z => hx x cls dd H' e ((g1.trans g2).trans g) z⟩⟩, fun x cls dd H' e g z => hx x cls dd H' e (g1.trans g) z⟩, hx⟩

/-! tests and bools -/
theorem tT_of (hm : ∀ whole, isTrue e X.env whole = (do let v ← whole; standAt e.pos; holding [v] (truthy v)) := by intro _; rfl) (h : PE X e (tM X.K W false m)) : PT X e (tT X.K W (xB m)) :=
  (pt_val h hm).imp fun σ H Q ⟨c, ρ, k, ex, ok, hm, hk, hx⟩ => ⟨c, ρ, _, ex, ok, hm, fun d v H' kd g r => by
    cases d with
    | bl cc => exact ⟨cc, rp_bl.mp r.sh, hk _ _ kd g⟩
    | _ => exact kd.elim, hx⟩
theorem cw_and1 (ha : PT X a (tT X.K W t)) : PW X (.BoolOp .And [a] pos) (tT X.K W t) := pw_and1 ha
theorem cw_or1 (ha : PT X a (tT X.K W t)) : PW X (.BoolOp .Or [a] pos) (tT X.K W t) := pw_or1 ha
theorem cw_and {rest : List Expr} (ha : PT X a (tT X.K W t)) (hb : PW X (.BoolOp .And (b :: rest) pos) (tT X.K W u)) : PW X (.BoolOp .And (a :: b :: rest) pos) (tT X.K W (tAndM t u)) :=
  (pw_and ha hb).imp fun σ H Q ⟨c, ρ, k, ex, ok, hm, hk, hx⟩ => ⟨c, ρ, _, ex, ok, hm, fun cc H1 kc g1 => by
    cases cc with
    | true => exact ⟨c, ρ, k, ex, ok.grow g1, kc, fun d H' kd g => hk d H' kd (g1.trans g), fun x cls dd H' e g z => hx x cls dd H' e (g1.trans g) z⟩
    | false => exact hk _ _ kc g1, hx⟩
theorem cw_or {rest : List Expr} (ha : PT X a (tT X.K W t)) (hb : PW X (.BoolOp .Or (b :: rest) pos) (tT X.K W u)) : PW X (.BoolOp .Or (a :: b :: rest) pos) (tT X.K W (tOrM t u)) :=
  (pw_or ha hb).imp fun σ H Q ⟨c, ρ, k, ex, ok, hm, hk, hx⟩ => ⟨c, ρ, _, ex, ok, hm, fun cc H1 kc g1 => by
    cases cc with
    | false => exact ⟨c, ρ, k, ex, ok.grow g1, kc, fun d H' kd g => hk d H' kd (g1.trans g), fun x cls dd H' e g z => hx x cls dd H' e (g1.trans g) z⟩
    | true => exact hk _ _ kc g1, hx⟩
theorem ct_not (ha : PT X a (tT X.K W t)) : PT X (.UnaryOp .Not a pos) (tT X.K W (tNotM t)) := (pt_not ha).imp fun σ H Q ⟨c, ρ, k, ex, ok, hm, hk, hx⟩ => ⟨c, ρ, _, ex, ok, hm, fun cc H1 kc g1 => hk _ _ kc g1, hx⟩
theorem ce_one {op} (h : PE X a (tM X.K W fr m)) : PE X (.BoolOp op [a] pos) (tM X.K W fr m) := pe_one h
theorem ce_and {rest : List Expr} (ha : PE X a (tM X.K W false ma)) (hb : PE X (.BoolOp .And (b :: rest) pos) (tM X.K W false mb)) : PE X (.BoolOp .And (a :: b :: rest) pos) (tM X.K W false (xAnd ma mb)) :=
  (pe_and ha hb).imp fun σ H Q ⟨c, ρ, k, ex, ok, hm, hk, hx⟩ => ⟨c, ρ, _, ex, ok, hm, fun d1 v1 H1 k1 g1 r1 => by
    cases d1 with
    | bl cc =>
      refine ⟨cc, rp_bl.mp r1.sh, ?_⟩
      cases cc with
      | true => exact ⟨c, ρ, k, ex, ok.grow g1, k1, fun d v H' kd g r => hk d v H' kd (g1.trans g) r, fun x cls dd H' e g z => hx x cls dd H' e (g1.trans g) z⟩
      | false => exact hk _ _ _ k1 g1 (Res.of (rp_bl.mpr rfl))
    | _ => exact k1.elim, hx⟩
theorem ce_or {rest : List Expr} (ha : PE X a (tM X.K W false ma)) (hb : PE X (.BoolOp .Or (b :: rest) pos) (tM X.K W false mb)) : PE X (.BoolOp .Or (a :: b :: rest) pos) (tM X.K W false (xOr ma mb)) :=
  (pe_or ha hb).imp fun σ H Q ⟨c, ρ, k, ex, ok, hm, hk, hx⟩ => ⟨c, ρ, _, ex, ok, hm, fun d1 v1 H1 k1 g1 r1 => by
    cases d1 with
    | bl cc =>
      refine ⟨cc, rp_bl.mp r1.sh, ?_⟩
      cases cc with
      | false => exact ⟨c, ρ, k, ex, ok.grow g1, k1, fun d v H' kd g r => hk d v H' kd (g1.trans g) r, fun x cls dd H' e g z => hx x cls dd H' e (g1.trans g) z⟩
      | true => exact hk _ _ _ k1 g1 (Res.of (rp_bl.mpr rfl))
    | _ => exact k1.elim, hx⟩
theorem ce_not (ha : PE X a (tM X.K W false ma)) : PE X (.UnaryOp .Not a pos) (tM X.K W false (xNot ma)) :=
  (pe_not ha).imp fun σ H Q ⟨c, ρ, k, ex, ok, hm, hk, hx⟩ => ⟨c, ρ, _, ex, ok, hm, fun d1 v1 H1 k1 g1 r1 => by
    cases d1 with
    | bl cc => exact ⟨cc, rp_bl.mp r1.sh, hk _ _ _ k1 g1 (Res.of (rp_bl.mpr rfl))⟩
    | _ => exact k1.elim, hx⟩
theorem Res.back {K : PySem.W.Frag} {bg : Bg} {P : List Addr} {H H1 H' : Hp} {v : V} {d : D} (g : Grow bg H H1) (h : Res K fr bg P H1 H' v d) : Res K fr bg P H H' v d := by
  unfold Res at h ⊢
  cases fr with
  | false => exact h
  | true =>
    exact h.imp (fun ⟨p, h1, h2, h3⟩ => ⟨p, h1, g.none h2, h3⟩) id
theorem ce_if {c' : Expr} (hc : PT X c' (tT X.K W t)) (ha : PE X a (tM X.K W fr ma)) (hb : PE X b (tM X.K W fr mb)) : PE X (.IfExp c' a b pos) (tM X.K W fr (xIf t ma mb)) :=
  (pe_ifExp hc ha hb).imp fun σ H Q ⟨c, ρ, k, ex, ok, hm, hk, hx⟩ => ⟨c, ρ, _, ex, ok, hm, fun cc H1 kc g1 => by
    cases cc with
    | true => exact ⟨c, ρ, k, ex, ok.grow g1, kc, fun d v H' kd g r => hk d v H' kd (g1.trans g) (r.back g1), fun x cls dd H' e g z => hx x cls dd H' e (g1.trans g) z⟩
    | false => exact ⟨c, ρ, k, ex, ok.grow g1, kc, fun d v H' kd g r => hk d v H' kd (g1.trans g) (r.back g1), fun x cls dd H' e g z => hx x cls dd H' e (g1.trans g) z⟩, hx⟩

/-! arguments, displays -/
variable {n : Nat} {mr : MA}
theorem ca_nil : PA X [] (tA X.K W 0 aNil) := pa_nil.imp fun σ H Q ⟨c, ρ, k, ex, ok, hm, hk, hx⟩ => hk [] [] H hm rfl ok.refl (rpl_nil.mpr rfl)
theorem ca_cons (ha : PE X e (tM X.K W false m)) (hr : PA X es (tA X.K W n mr)) (hs : starEach (e :: es) X.env = (false, eval e X.env) :: starEach es X.env := by rfl) : PA X (e :: es) (tA X.K W (n + 1) (aCons m mr)) :=
  (pa_cons ha hr hs).imp fun σ H Q ⟨c, ρ, k, ex, ok, hm, hk, hx⟩ => ⟨c, ρ, _, ex, ok, hm, fun d1 v1 H1 k1 g1 r1 => ⟨c, ρ, _, ex, ok.grow g1, k1, fun ds vs H2 k2 l2 g2 r2 =>
    hk (d1 :: ds) (v1 :: vs) H2 k2 (by rw [List.length_cons, l2]) (g1.trans g2) (rpl_cons.mpr ⟨v1, vs, rfl, Rp.mono ((ok.good.grow g1).era g2) _ _ r1, r2⟩), fun x cls dd H' e g z => hx x cls dd H' e (g1.trans g) z⟩, hx⟩
theorem ce_tup {x1} (h : PA X es (tA X.K W n mr)) (hn : n ≤ LN := by decide) : PE X (.Tuple es x1 pos) (tM X.K W false (xTup mr)) :=
  (pe_tup h).imp fun σ H Q ⟨c, ρ, k, ex, ok, hm, hk, hx⟩ => ⟨c, ρ, _, ex, ok, hm, fun ds vs H1 k1 l1 g1 r1 => ⟨LN_size (by rw [r1.len, l1]; exact hn), fun p hp => hk _ _ _ k1 (g1.trans (Grow.new (ok.good.grow g1) hp)) (Res.of (rp_tupN (ok.good.grow g1) hp (by rw [l1]; exact hn) r1))⟩, hx⟩
theorem ce_lst (h : PA X es (tA X.K W n mr)) (hn : n ≤ LN := by decide) : PE X (.List es pos) (tM X.K W true (xLst mr)) :=
  (pe_lst h).imp fun σ H Q ⟨c, ρ, k, ex, ok, hm, hk, hx⟩ => ⟨c, ρ, _, ex, ok, hm, fun ds vs H1 k1 l1 g1 r1 => ⟨LN_size (by rw [r1.len, l1]; exact hn), fun p hp => hk _ _ _ k1 (g1.trans (Grow.new (ok.good.grow g1) hp)) ((res_lst (ok.good.grow g1) hp (by rw [l1]; exact hn) r1).back g1)⟩, hx⟩
end
end DM
end
section
set_option Elab.async false
set_option linter.all false
set_option maxRecDepth 100000
set_option maxHeartbeats 4000000
namespace L2
open PySem
section
variable {X : Cx} {CX : CXT} {k : Nat} {f C : Addr} {fd : FuncData} {ps : List Str} {sp : Sp} {dvs : List V} {ds : List Value} {E : St → XK} {x m : Str} {p pos apos : Pos} {e o : Expr} {es : List Expr} {ta : TE} {t : TA}
theorem pe_cSl0 (F : DM.FnG X.prog X.w X.K X.mg X.base CX k f fd ps sp) (hr : DM.RoomG k X.A) (hg : Gl X x) (hm : X.mg x = some (.ref f)) (hk : PySem.W.keepIn X.K (.ref f) = true) (hb : Binds X.K fd ps ds) (hd : Vals dvs ds) (hx : ∀ σ, PassesAt CX X σ (E σ))
    (hdb : (x == ("__debug__" : Str)) = false := by decide) : PE X (.Call (.Name x p) [] [] pos) (tCallSD sp dvs E tNil) := by
  refine ⟨fun pins s σ H Q I h => ?_⟩
  refine wpAny_Call_Name_kw (ld_glob I hg hm ?_ hdb)
  exact PySem.W.callWith_K0 I.kIn hk (DM.run_fnG (us := []) F hr hb hd (hx σ) I .nil h)
def tMSl (C : Addr) (m : Str) (sp : Sp) (dvs : List V) (E : St → XK) (ta : TE) (t : TA) : TE := fun σ H Q => ta σ H fun x H1 => ∃ a dx fs, x = .ref a ∧ H1 a = some (.ins C dx fs) ∧ fs.lookup m = none ∧
  t σ H1 fun vs H2 => sp (x :: (vs ++ dvs)) H2 Q (E σ)
theorem pe_mSl {pl : Sem Bool} (he : PE X o ta) (c : Cls X.K C) (hm : Meth X.K C m f) (F : DM.FnG X.prog X.w X.K X.mg X.base CX k f fd ps sp) (hr : DM.RoomG k X.A) (hb : Binds X.K fd ps ds) (hd : Vals dvs ds) (hx : ∀ σ, PassesAt CX X σ (E σ)) (ha : PA X (e :: es) t)
    (hst : starEach (e :: es) X.env = (false, eval e X.env) :: starEach es X.env := by rfl) (hpl : (backTo pos (starEach es X.env)).any (·.1) = false := by rfl)
    (ht : eval (.Call (.Attribute o m apos) (e :: es) [] pos) X.env = (do
      let ov ← eval o X.env
      standAt apos.atName
      let (f, first) ← holding [ov] (getMethod ov m pl)
      callWith pos f first (backTo pos (starEach (e :: es) X.env)) (backToKw pos (keywordEach [] X.env))) := by rfl) :
    PE X (.Call (.Attribute o m apos) (e :: es) [] pos) (tMSl C m sp dvs E ta t) := by
  refine ⟨fun pins s σ H Q I h => ?_⟩
  refine PySem.W.methodCall_KW (pl := pl) (thn (he.run pins s σ H _ I h) fun u s1 ⟨x, H1, I1, rx, a, dx, fs, ex, ea, l, q⟩ => ?_) ht
  subst ex
  obtain rfl : u = Value.ref a := rx
  refine getmeth_ok I1 ea c hm l ?_
  refine PySem.W.callWith_K (first := [.ref a]) (h₀ := X.base) I.ok.mod.kin hm.kp (thn (ha.run pos pins s1 σ H1 _ I1 q) fun us s2 ⟨vs, H2, I2, r, q2⟩ => ⟨I2.kIn, ?_⟩) hst hpl
  exact DM.run_fnG (us := .ref a :: us) (vs := .ref a :: vs) F hr hb hd (hx σ) I2 (.cons rfl r) q2
theorem pe_mSl0 {pl : Sem Bool} (he : PE X o ta) (c : Cls X.K C) (hm : Meth X.K C m f) (F : DM.FnG X.prog X.w X.K X.mg X.base CX k f fd ps sp) (hr : DM.RoomG k X.A) (hb : Binds X.K fd ps ds) (hd : Vals dvs ds) (hx : ∀ σ, PassesAt CX X σ (E σ))
    (ht : eval (.Call (.Attribute o m apos) [] [] pos) X.env = (do
      let ov ← eval o X.env
      standAt apos.atName
      let (f, first) ← holding [ov] (getMethod ov m pl)
      callWith pos f first (backTo pos (starEach [] X.env)) (backToKw pos (keywordEach [] X.env))) := by rfl) :
    PE X (.Call (.Attribute o m apos) [] [] pos) (tMSl C m sp dvs E ta tNil) := by
  refine ⟨fun pins s σ H Q I h => ?_⟩
  refine PySem.W.methodCall_KW (pl := pl) (thn (he.run pins s σ H _ I h) fun u s1 ⟨x, H1, I1, rx, a, dx, fs, ex, ea, l, q⟩ => ?_) ht
  subst ex
  obtain rfl : u = Value.ref a := rx
  refine getmeth_ok I1 ea c hm l ?_
  exact PySem.W.callWith_K0 (first := [.ref a]) I1.kIn hm.kp (DM.run_fnG (us := [.ref a]) (vs := [.ref a]) F hr hb hd (hx σ) I1 (.cons rfl .nil) q)
end
end L2
namespace L2
theorem call_lenR {X : Cx} : CallR X (.builtin "len") (fun xs H Q => ∃ a kvs, xs = [V.ref a] ∧ Rd H a (.dK kvs) ∧ Q (.int kvs.length) H) := by
  intro pins s σ H xs us Q I r h
  obtain ⟨a, kvs, rfl, ha, q⟩ := h
  obtain ⟨u, rfl, ru⟩ := vals1 r
  cases ru
  exact d_len I ha fun t s' I' => ⟨.int kvs.length, H, I', ⟨t, rfl⟩, q⟩
end L2
namespace DM
open PySem L2 Evl

/-! ### functions -/
def spM (K : PySem.W.Frag) (n : Nat) (fr : Bool) (m : MF) : Sp := fun vs H Q E => vs.length = n ∧ ∃ bg P ds k ex, GoodP bg P H ∧ RpL K bg (era P H) ds vs ∧ m ds k ex ∧
  (∀ d v H', k d → Grow bg H H' → Res K fr bg P H H' v d → Q v H') ∧ (∀ x cls dd H', ex x → Grow bg H H' → ExR K bg (era P H') cls dd x → E cls dd H')
/-- a def of the module -/
structure GFn (P : Program) (w : World) (K : PySem.W.Frag) (mg : Str → Option Value) (base : Heap) (x : Str) (ps : List Str) (k : Nat) (fr : Bool) (m : MF) : Prop where
  ok : ∃ fd, Binds K fd ps [] ∧ FnG P w K mg base (L2.CX P w) k (He.ga K x) fd ps (spM K ps.length fr m)
  at_ : mg x = some (.ref (He.ga K x))
  kp : PySem.W.keepIn K (.ref (He.ga K x)) = true
theorem GFn.mono {P : Program} {w : World} {K : PySem.W.Frag} {mg : Str → Option Value} {base : Heap} {x : Str} {ps : List Str} {j k : Nat} {fr : Bool} {m : MF} (G : GFn P w K mg base x ps j fr m) (h : j ≤ k) : GFn P w K mg base x ps k fr m :=
  ⟨let ⟨fd, b, F⟩ := G.ok; ⟨fd, b, F.mono h⟩, G.at_, G.kp⟩
/-- a new result may be taken for any -/
theorem FnG.sh {P : Program} {w : World} {K : PySem.W.Frag} {mg : Str → Option Value} {base : Heap} {k n : Nat} {f : Addr} {fd : FuncData} {ps : List Str} {m : MF} {CX : CXT} (F : FnG P w K mg base CX k f fd ps (spM K n true m)) : FnG P w K mg base CX k f fd ps (spM K n false m) :=
  F.imp fun vs H Q E ⟨l, bg, P, ds, k, ex, g, r, hm, hk, hx⟩ => ⟨l, bg, P, ds, k, ex, g, r, hm, fun d v H' kd gr q => hk d v H' kd gr (Res.of (q.rp g.al)), hx⟩
/-- a method of a class of the module: self first -/
structure MFn (P : Program) (w : World) (K : PySem.W.Frag) (mg : Str → Option Value) (base : Heap) (c m : Str) (ps : List Str) (k : Nat) (fr : Bool) (f : MF) : Prop where
  ok : ∃ fd, Binds K fd ps [] ∧ FnG P w K mg base (L2.CX P w) k (He.ma K (He.ga K c) m) fd ps (spM K ps.length fr f)
  me : Meth K (He.ga K c) m (He.ma K (He.ga K c) m)
  cl : Cls K (He.ga K c)
theorem MFn.mono {P : Program} {w : World} {K : PySem.W.Frag} {mg : Str → Option Value} {base : Heap} {c m : Str} {ps : List Str} {j k : Nat} {fr : Bool} {f : MF} (G : MFn P w K mg base c m ps j fr f) (h : j ≤ k) : MFn P w K mg base c m ps k fr f :=
  ⟨let ⟨fd, b, F⟩ := G.ok; ⟨fd, b, F.mono h⟩, G.me, G.cl⟩

def xMeth (c m : Str) (f : MF) (mo : MX) (ma : MA) : MX := fun ρ k ex => mo ρ (fun d => match d with
  | .ins c' fs => (c' = c ∧ fs.lookup m = none) ∧ ma ρ (fun ds => f (.ins c' fs :: ds) k ex) ex
  | _ => False) ex
theorem RpF.lookup {K : PySem.W.Frag} {bg : Bg} {H : Hp} {f : Str} : ∀ {ds : List (Str × D)} {fs : List (Str × V)}, RpF K bg H ds fs → (ds.lookup f = none → fs.lookup f = none) ∧ ∀ d, ds.lookup f = some d → ∃ v, fs.lookup f = some v ∧ Rp K bg H d v
  | [], fs, h => by rw [rpf_nil.mp h]; exact ⟨fun _ => rfl, fun d e => by simp at e⟩
  | (g, d) :: ds, fs, h => by
    obtain ⟨x, r, rfl, h1, h2⟩ := rpf_cons.mp h
    obtain ⟨i1, i2⟩ := RpF.lookup (f := f) h2
    rw [List.lookup_cons, List.lookup_cons]
    cases q : (f == g) with
    | true => exact ⟨fun e => (by simp at e), fun d' e => ⟨x, rfl, by simp at e; rw [← e]; exact h1⟩⟩
    | false => exact ⟨i1, i2⟩

section
variable {X : Cx} {W : WX} {e o a b : Expr} {es : List Expr} {p pos apos : Pos} {m ma mb mo : MX} {mr : MA} {fr : Bool} {k n : Nat} {x : Str} {ps : List Str} {f : MF}
theorem ce_call (G : GFn X.prog X.w X.K X.mg X.base x ps k fr f) (hr : RoomG k X.A) (tk : Takes X W) (ha : PA X (e :: es) (tA X.K W n mr)) (hn : n = ps.length := by rfl) (hg : Gl X x := by rfl) (hdb : (x == ("__debug__" : Str)) = false := by decide)
    (he : starEach (e :: es) X.env = (false, eval e X.env) :: starEach es X.env := by rfl) (hpl : (backTo pos (starEach es X.env)).any (·.1) = false := by rfl) : PE X (.Call (.Name x p) (e :: es) [] pos) (tM X.K W fr (xCall f mr)) := by
  obtain ⟨fd, B, F⟩ := G.ok
  refine (pe_callG (E := WE W) F hr hg G.at_ G.kp B .nil (fun σ => passAt tk σ) ha hdb he hpl).imp fun σ H Q ⟨c, ρ, k, ex, ok, hm, hk, hx⟩ => ?_
  refine ⟨c, ρ, _, ex, ok, hm, fun ds vs H1 k1 l1 g1 r1 => ?_, hx⟩
  dsimp only
  rw [List.append_nil]
  exact ⟨by rw [r1.len, l1, hn], c.b, c.P, ds, k, ex, ok.good.grow g1, r1, k1, fun d v H' kd g r => hk d v H' kd (g1.trans g) (r.back g1), fun x cls dd H' e g z => hx x cls dd H' e (g1.trans g) z⟩
theorem ce_call0 (G : GFn X.prog X.w X.K X.mg X.base x [] k fr f) (hr : RoomG k X.A) (tk : Takes X W) (hg : Gl X x := by rfl) (hdb : (x == ("__debug__" : Str)) = false := by decide) : PE X (.Call (.Name x p) [] [] pos) (tM X.K W fr (xCall f aNil)) := by
  obtain ⟨fd, B, F⟩ := G.ok
  refine (pe_cSl0 (E := WE W) F hr hg G.at_ G.kp B .nil (fun σ => passAt tk σ) hdb).imp fun σ H Q ⟨c, ρ, k, ex, ok, hm, hk, hx⟩ => ?_
  exact ⟨rfl, c.b, c.P, [], k, ex, ok.good, rpl_nil.mpr rfl, hm, fun d v H' kd g r => hk d v H' kd g r, hx⟩
theorem ce_meth {c mt : Str} (G : MFn X.prog X.w X.K X.mg X.base c mt ps k fr f) (hr : RoomG k X.A) (tk : Takes X W) {pl : Sem Bool} (ho : PE X o (tM X.K W false mo)) (ha : PA X (e :: es) (tA X.K W n mr)) (hn : n + 1 = ps.length := by rfl)
    (hst : starEach (e :: es) X.env = (false, eval e X.env) :: starEach es X.env := by rfl) (hpl : (backTo pos (starEach es X.env)).any (·.1) = false := by rfl)
    (ht : eval (.Call (.Attribute o mt apos) (e :: es) [] pos) X.env = (do
      let ov ← eval o X.env
      standAt apos.atName
      let (f, first) ← holding [ov] (getMethod ov mt pl)
      callWith pos f first (backTo pos (starEach (e :: es) X.env)) (backToKw pos (keywordEach [] X.env))) := by rfl) :
    PE X (.Call (.Attribute o mt apos) (e :: es) [] pos) (tM X.K W fr (xMeth c mt f mo mr)) := by
  obtain ⟨fd, B, F⟩ := G.ok
  refine (pe_mSl (E := WE W) ho G.cl G.me F hr B .nil (fun σ => passAt tk σ) ha hst hpl ht).imp fun σ H Q ⟨c, ρ, k, ex, ok, hm, hk, hx⟩ => ?_
  refine ⟨c, ρ, _, ex, ok, hm, fun d0 v0 H1 k1 g1 r1 => ?_, hx⟩
  cases d0 with
  | ins c' fs =>
    obtain ⟨⟨rfl, hl⟩, k1⟩ := k1
    have r1' := r1.sh
    obtain ⟨a, dx, gs, rfl, h1, h2⟩ := rp_ins.mp r1'
    refine ⟨a, dx, gs, rfl, era_le _ _ h1, h2.lookup.1 hl, c, ρ, _, ex, ok.grow g1, k1, fun ds vs H2 k2 l2 g2 r2 => ?_, fun x cls dd H' e g z => hx x cls dd H' e (g1.trans g) z⟩
    dsimp only
    rw [List.append_nil]
    exact ⟨by rw [List.length_cons, r2.len, l2, hn], c.b, c.P, _, k, ex, (ok.good.grow g1).grow g2, rpl_cons.mpr ⟨_, _, rfl, Rp.mono ((ok.good.grow g1).era g2) _ _ r1', r2⟩, k2, fun d v H' kd g r => hk d v H' kd ((g1.trans g2).trans g) (r.back (g1.trans g2)), fun x cls dd H' e g z => hx x cls dd H' e ((g1.trans g2).trans g) z⟩
  | _ => exact k1.elim
theorem ce_meth0 {c mt : Str} (G : MFn X.prog X.w X.K X.mg X.base c mt ps k fr f) (hr : RoomG k X.A) (tk : Takes X W) {pl : Sem Bool} (ho : PE X o (tM X.K W false mo)) (hn : 1 = ps.length := by rfl)
    (ht : eval (.Call (.Attribute o mt apos) [] [] pos) X.env = (do
      let ov ← eval o X.env
      standAt apos.atName
      let (f, first) ← holding [ov] (getMethod ov mt pl)
      callWith pos f first (backTo pos (starEach [] X.env)) (backToKw pos (keywordEach [] X.env))) := by rfl) :
    PE X (.Call (.Attribute o mt apos) [] [] pos) (tM X.K W fr (xMeth c mt f mo aNil)) := by
  obtain ⟨fd, B, F⟩ := G.ok
  refine (pe_mSl0 (E := WE W) ho G.cl G.me F hr B .nil (fun σ => passAt tk σ) ht).imp fun σ H Q ⟨c, ρ, k, ex, ok, hm, hk, hx⟩ => ?_
  refine ⟨c, ρ, _, ex, ok, hm, fun d0 v0 H1 k1 g1 r1 => ?_, hx⟩
  cases d0 with
  | ins c' fs =>
    obtain ⟨⟨rfl, hl⟩, k1⟩ := k1
    have r1' := r1.sh
    obtain ⟨a, dx, gs, rfl, h1, h2⟩ := rp_ins.mp r1'
    refine ⟨a, dx, gs, rfl, era_le _ _ h1, h2.lookup.1 hl, ?_⟩
    exact ⟨hn, c.b, c.P, _, k, ex, ok.good.grow g1, rpl_cons.mpr ⟨_, _, rfl, r1', rpl_nil.mpr rfl⟩, k1, fun d v H' kd g r => hk d v H' kd (g1.trans g) (r.back g1), fun x cls dd H' e g z => hx x cls dd H' e (g1.trans g) z⟩
  | _ => exact k1.elim

/-! attributes -/
def dFld (c f : Str) : D → (D → Prop) → Prop
  | .ins c' fs, k => c' = c ∧ (match fs.lookup f with
    | some d => k d
    | none => False)
  | _, _ => False
theorem ce_fld {c fl : Str} (cl : Cls X.K (He.ga X.K c)) (na : NoAttr X.K (He.ga X.K c) fl) (ho : PE X o (tM X.K W false mo)) (hb : attributeBase o fl X.env (eval o X.env) = eval o X.env := by rfl) : PE X (.Attribute o fl pos) (tM X.K W false (xUn (dFld c fl) mo)) := by
  refine (pe_fld ho hb).imp fun σ H Q ⟨c, ρ, k, ex, ok, hm, hk, hx⟩ => ⟨c, ρ, _, ex, ok, hm, fun d0 v0 H1 k1 g1 r1 => ?_, hx⟩
  cases d0 with
  | ins c' fs =>
    obtain ⟨rfl, k1⟩ := k1
    obtain ⟨a, dx, gs, rfl, h1, h2⟩ := rp_ins.mp r1.sh
    cases q : fs.lookup fl with
    | none => rw [q] at k1; exact k1.elim
    | some d =>
      rw [q] at k1
      obtain ⟨v, e1, e2⟩ := h2.lookup.2 d q
      exact ⟨a, _, dx, gs, v, rfl, era_le _ _ h1, cl, na, e1, hk d v H1 k1 g1 (Res.of e2)⟩
  | _ => exact k1.elim
/-- a property whose getter reads an attribute -/
structure PFn (P : Program) (w : World) (K : PySem.W.Frag) (mg : Str → Option Value) (base : Heap) (c f fl : Str) (k : Nat) : Prop where
  ok : ∃ fd pa g, Binds K fd ["self"] [] ∧ PropOf K (He.ga K c) f pa g ∧ FnOk P w K mg base CX0 k g fd ["self"] (getSp (He.ga K c) fl)
  cl : Cls K (He.ga K c)
theorem ce_prop {c fl f' : Str} (G : PFn X.prog X.w X.K X.mg X.base c f' fl k) (hr : RoomG (k + 1) X.A) (ho : PE X o (tM X.K W false mo)) (hab : attributeBase o f' X.env (eval o X.env) = eval o X.env := by rfl) : PE X (.Attribute o f' pos) (tM X.K W false (xUn (dFld c fl) mo)) := by
  obtain ⟨fd, pa, g, B, hp, F⟩ := G.ok
  refine (pe_prop ho G.cl hp F hr.room B .nil (E := E0) (fun _ _ _ _ _ _ _ h => h.elim) hab).imp fun σ H Q ⟨c, ρ, k, ex, ok, hm, hk, hx⟩ => ⟨c, ρ, _, ex, ok, hm, fun d0 v0 H1 k1 g1 r1 => ?_, hx⟩
  cases d0 with
  | ins c' fs =>
    obtain ⟨rfl, k1⟩ := k1
    obtain ⟨a, dx, gs, rfl, h1, h2⟩ := rp_ins.mp r1.sh
    cases q : fs.lookup fl with
    | none => rw [q] at k1; exact k1.elim
    | some d =>
      rw [q] at k1
      obtain ⟨v, e1, e2⟩ := h2.lookup.2 d q
      exact ⟨a, dx, gs, rfl, era_le _ _ h1, a, dx, gs, v, rfl, era_le _ _ h1, e1, hk d v H1 k1 g1 (Res.of e2)⟩
  | _ => exact k1.elim

/-! subscripts -/
theorem RpL.atI {K : PySem.W.Frag} {bg : Bg} {H : Hp} {ds : List D} {xs : List V} {i : Int} {d : D} (r : RpL K bg H ds xs) (h : L2.atI ds i = some d) : ∃ v, L2.atI xs i = some v ∧ Rp K bg H d v := by
  unfold L2.atI at h ⊢
  rw [r.len]
  cases q : ixN ds.length i with
  | none => rw [q] at h; cases h
  | some j =>
    rw [q] at h
    exact r.get h
def dIx : D → D → (D → Prop) → Prop
  | .lst xs, .int i, k => (match L2.atI xs i with
    | some d => k d
    | none => False)
  | .tup xs, .int i, k => (match L2.atI xs i with
    | some d => k d
    | none => False)
  | .str x, .int i, k => (match L2.atI x.cps.toList i with
    | some c => k (.str ⟨#[c]⟩)
    | none => False)
  | _, _, _ => False
theorem opd_ix {K : PySem.W.Frag} : OpD K false (rIx K) dIx := fun bg P H dx dy x y k Q g r1 r2 hf hk => by
  cases dx with
  | lst xs =>
    cases dy with
    | int i =>
      have hf' : (match L2.atI xs i with | some d => k d | none => False) := hf
      cases q : L2.atI xs i with
      | none => rw [q] at hf'; exact hf'.elim
      | some d =>
        rw [q] at hf'
        obtain ⟨a, ys, rfl, h1, _, h2⟩ := rp_lst.mp r1
        obtain ⟨v, e1, e2⟩ := h2.atI q
        exact .inl ⟨a, ys, i, v, rfl, rp_int.mp r2, .inl (.inl (era_le _ _ h1)), e1, hk d v H hf' g.refl (Res.of e2)⟩
    | _ => exact hf.elim
  | tup xs =>
    cases dy with
    | int i =>
      have hf' : (match L2.atI xs i with | some d => k d | none => False) := hf
      cases q : L2.atI xs i with
      | none => rw [q] at hf'; exact hf'.elim
      | some d =>
        rw [q] at hf'
        obtain ⟨a, ys, rfl, h1, _, h2⟩ := rp_tupS r1
        obtain ⟨v, e1, e2⟩ := h2.atI q
        exact .inr (.inl ⟨a, ys, i, v, rfl, rp_int.mp r2, sqt_up h1, e1, hk d v H hf' g.refl (Res.of e2)⟩)
    | _ => exact hf.elim
  | str z =>
    cases dy with
    | int i =>
      have hf' : (match L2.atI z.cps.toList i with | some c => k (.str ⟨#[c]⟩) | none => False) := hf
      cases q : L2.atI z.cps.toList i with
      | none => rw [q] at hf'; exact hf'.elim
      | some cc =>
        rw [q] at hf'
        obtain ⟨rfl, hl⟩ := rp_str.mp r1
        exact .inr (.inr ⟨z, i, cc, rfl, rp_int.mp r2, LN_size hl, q, hk _ _ H hf' g.refl (Res.of (rp_str.mpr ⟨rfl, by show 1 ≤ LN; decide⟩))⟩)
    | _ => exact hf.elim
  | _ => cases dy <;> exact hf.elim
theorem ce_ix (ha : PE X a (tM X.K W false ma)) (hb : PE X b (tM X.K W false mb)) (hs : PlainIx b := by intro _ _; rfl) : PE X (.Subscript a b pos) (tM X.K W false (xOp dIx ma mb)) := (pe_ix ix_seq ha hb hs).imp (tM_two opd_ix)

/-! built-ins -/
def CallD (K : PySem.W.Frag) (fr : Bool) (r : List V → Hp → VK → Prop) (f : List D → (D → Prop) → Prop) : Prop := ∀ (bg : Bg) (P : List Addr) (H : Hp) (ds : List D) (vs : List V) (k : D → Prop) (Q : VK), GoodP bg P H → RpL K bg (era P H) ds vs → f ds k →
  (∀ d v H', k d → Grow bg H H' → Res K fr bg P H H' v d → Q v H') → r vs H Q
def xB1 (f : List D → (D → Prop) → Prop) (ma : MA) : MX := fun ρ k ex => ma ρ (fun ds => f ds k) ex
theorem tM_cb {r : List V → Hp → VK → Prop} {g : List D → (D → Prop) → Prop} (hf : CallD X.K fr r g) : ∀ σ H Q, tM X.K W fr (xB1 g mr) σ H Q → tCB r (tA X.K W n mr) σ H Q := fun σ H Q ⟨c, ρ, k, ex, ok, hm, hk, hx⟩ =>
  ⟨c, ρ, _, ex, ok, hm, fun ds vs H1 k1 l1 g1 r1 => hf c.b c.P H1 ds vs k Q (ok.good.grow g1) r1 k1 fun d v H' kd g r => hk d v H' kd (g1.trans g) (r.back g1), hx⟩
theorem ce_cb {id : String} {r : List V → Hp → VK → Prop} {g : List D → (D → Prop) → Prop} (hc : CallR X (.builtin id) r) (hf : CallD X.K fr r g) (hm : X.mg x = none) (hv : bootBuiltins x = some (.builtin id)) (ha : PA X (e :: es) (tA X.K W n mr)) (hg : Gl X x := by rfl) (hn : x ≠ "__name__" := by decide)
    (hdb : (x == ("__debug__" : Str)) = false := by decide) (he : starEach (e :: es) X.env = (false, eval e X.env) :: starEach es X.env := by rfl) (hpl : (backTo pos (starEach es X.env)).any (·.1) = false := by rfl) :
    PE X (.Call (.Name x p) (e :: es) [] pos) (tM X.K W fr (xB1 g mr)) := (pe_callB hc hg hm hv ha hn hdb he hpl).imp (tM_cb hf)
theorem ce_ty {id : String} {r : List V → Hp → VK → Prop} {g : List D → (D → Prop) → Prop} (hc : CallR X (.type id) r) (hf : CallD X.K fr r g) (hm : X.mg x = none) (hv : bootBuiltins x = some (.type id)) (ha : PA X (e :: es) (tA X.K W n mr)) (hg : Gl X x := by rfl) (hn : x ≠ "__name__" := by decide)
    (hdb : (x == ("__debug__" : Str)) = false := by decide) (he : starEach (e :: es) X.env = (false, eval e X.env) :: starEach es X.env := by rfl) (hpl : (backTo pos (starEach es X.env)).any (·.1) = false := by rfl) :
    PE X (.Call (.Name x p) (e :: es) [] pos) (tM X.K W fr (xB1 g mr)) := (pe_callTy hc hg hm hv ha hn hdb he hpl).imp (tM_cb hf)
end

/-! len -/
def bLen : List D → (D → Prop) → Prop
  | [.lst xs], k => k (.int xs.length)
  | [.tup xs], k => k (.int xs.length)
  | [.ktp xs], k => k (.int xs.length)
  | [.str x], k => k (.int x.length)
  | [.dct kvs], k => k (.int kvs.length)
  | _, _ => False
theorem one_of {f : List D → (D → Prop) → Prop} {ds : List D} {k : D → Prop} (h : f ds k) (h0 : f [] k → False) (h2 : ∀ a b r, f (a :: b :: r) k → False) : ∃ d, ds = [d] ∧ f [d] k := by
  match ds, h with
  | [], h => exact (h0 h).elim
  | [d], h => exact ⟨d, rfl, h⟩
  | a :: b :: r, h => exact (h2 a b r h).elim
theorem calld_len {K : PySem.W.Frag} : CallD K false (fun xs H Q => (∃ p ys, xs = [.ref p] ∧ (SqL K H p ys ∨ SqT K H p ys) ∧ Q (.int ys.length) H) ∨ ((∃ z, xs = [.str z] ∧ z.length ≤ sizeLine ∧ Q (.int z.length) H) ∨ ∃ a kvs, xs = [V.ref a] ∧ Rd H a (.dK kvs) ∧ Q (.int kvs.length) H)) bLen := fun bg P H ds vs k Q g r hf hk => by
  obtain ⟨d, rfl, hf⟩ := one_of hf (fun h => h) (fun a b r h => by cases a <;> exact h)
  obtain ⟨v, r', rfl, h1, h2⟩ := rpl_cons.mp r
  cases rpl_nil.mp h2
  cases d with
  | lst xs =>
    obtain ⟨a, ys, rfl, h1, _, h3⟩ := rp_lst.mp h1
    exact .inl ⟨a, ys, rfl, .inl (.inl (.inl (era_le _ _ h1))), hk _ _ H hf g.refl (Res.of (by rw [h3.len]; exact rp_int.mpr rfl))⟩
  | tup xs =>
    obtain ⟨a, ys, rfl, h1, _, h3⟩ := rp_tupS h1
    exact .inl ⟨a, ys, rfl, .inr (sqt_up h1), hk _ _ H hf g.refl (Res.of (by rw [h3.len]; exact rp_int.mpr rfl))⟩
  | ktp xs =>
    obtain ⟨a, ys, rfl, h1, _, h3⟩ := rp_ktp.mp h1
    exact .inl ⟨a, ys, rfl, .inr (sqt_up h1), hk _ _ H hf g.refl (Res.of (by rw [h3.len]; exact rp_int.mpr rfl))⟩
  | str z =>
    obtain ⟨rfl, hl⟩ := rp_str.mp h1
    exact .inr (.inl ⟨z, rfl, LN_size hl, hk _ _ H hf g.refl (Res.of (rp_int.mpr rfl))⟩)
  | dct kvs =>
    obtain ⟨a, ys, rfl, h1, _, h3⟩ := rp_dct.mp h1
    exact .inr (.inr ⟨a, ys, rfl, ex_rd era_le h1, hk _ _ H hf g.refl (Res.of (by rw [h3.len]; exact rp_int.mpr rfl))⟩)
  | _ => exact hf.elim
theorem cr_len {X : Cx} : CallR X (.builtin "len") (fun xs H Q => (∃ p ys, xs = [.ref p] ∧ (SqL X.K H p ys ∨ SqT X.K H p ys) ∧ Q (.int ys.length) H) ∨ ((∃ z, xs = [.str z] ∧ z.length ≤ sizeLine ∧ Q (.int z.length) H) ∨ ∃ a kvs, xs = [V.ref a] ∧ Rd H a (.dK kvs) ∧ Q (.int kvs.length) H)) :=
  call_len_seq.or (call_len_str.or call_lenR)
/-! all, sum -/
def boolsD : List D → Option (List Bool)
  | [] => some []
  | .bl b :: r => (boolsD r).map (b :: ·)
  | _ :: _ => none
theorem boolsD_eq : ∀ {ds : List D} {bs : List Bool}, boolsD ds = some bs → ds = bs.map D.bl
  | [], bs, h => by cases h; rfl
  | d :: r, bs, h => by
    cases d <;> simp [boolsD] at h
    obtain ⟨cs, h1, rfl⟩ := h
    rw [boolsD_eq h1] <;> rfl
theorem boolsD_map (bs : List Bool) : boolsD (bs.map D.bl) = some bs := by
  induction bs with
  | nil => rfl
  | cons b bs ih => simp [boolsD, ih]
def intsD : List D → Option (List Int)
  | [] => some []
  | .int b :: r => (intsD r).map (b :: ·)
  | _ :: _ => none
theorem intsD_eq : ∀ {ds : List D} {bs : List Int}, intsD ds = some bs → ds = bs.map D.int
  | [], bs, h => by cases h; rfl
  | d :: r, bs, h => by
    cases d <;> simp [intsD] at h
    obtain ⟨cs, h1, rfl⟩ := h
    rw [intsD_eq h1] <;> rfl
theorem intsD_map (bs : List Int) : intsD (bs.map D.int) = some bs := by
  induction bs with
  | nil => rfl
  | cons b bs ih => simp [intsD, ih]
def bAll : List D → (D → Prop) → Prop
  | [.lst xs], k => ∃ bs : List Bool, xs = bs.map D.bl ∧ k (.bl (bs.all id))
  | _, _ => False
theorem calld_all {K : PySem.W.Frag} : CallD K false (rAll K) bAll := fun bg P H ds vs k Q g r hf hk => by
  obtain ⟨d, rfl, hf⟩ := one_of hf (fun h => h) (fun a b r h => by cases a <;> exact h)
  obtain ⟨v, r', rfl, h1, h2⟩ := rpl_cons.mp r
  cases rpl_nil.mp h2
  cases d with
  | lst xs =>
    obtain ⟨bs, rfl, hf2⟩ := hf
    obtain ⟨a, ys, rfl, h1, _, h3⟩ := rp_lst.mp h1
    exact ⟨a, bs, rfl, .inl (.inl (by rw [← h3.bls]; exact era_le _ _ h1)), hk _ _ H hf2 g.refl (Res.of (rp_bl.mpr rfl))⟩
  | _ => exact hf.elim
def bSum : List D → (D → Prop) → Prop
  | [.lst xs], k => ∃ ns : List Int, xs = ns.map D.int ∧ k (.int ns.sum)
  | _, _ => False
theorem calld_sum {K : PySem.W.Frag} : CallD K false (rSum K) bSum := fun bg P H ds vs k Q g r hf hk => by
  obtain ⟨d, rfl, hf⟩ := one_of hf (fun h => h) (fun a b r h => by cases a <;> exact h)
  obtain ⟨v, r', rfl, h1, h2⟩ := rpl_cons.mp r
  cases rpl_nil.mp h2
  cases d with
  | lst xs =>
    obtain ⟨bs, rfl, hf2⟩ := hf
    obtain ⟨a, ys, rfl, h1, _, h3⟩ := rp_lst.mp h1
    exact ⟨a, bs, rfl, .inl (.inl (by rw [← h3.ints]; exact era_le _ _ h1)), hk _ _ H hf2 g.refl (Res.of (rp_int.mpr rfl))⟩
  | _ => exact hf.elim
/-! list(x), tuple(x), sorted -/
def bList : List D → (D → Prop) → Prop
  | [.lst xs], k => k (.lst xs)
  | [.tup xs], k => k (.lst xs)
  | _, _ => False
theorem calld_list {K : PySem.W.Frag} : CallD K true (fun xs H Q => ∃ p ys, xs = [.ref p] ∧ (SqL K H p ys ∨ SqT K H p ys) ∧ ∀ l, H l = none → Q (.ref l) (upd H l (.lst ys))) bList := fun bg P H ds vs k Q g r hf hk => by
  obtain ⟨d, rfl, hf⟩ := one_of hf (fun h => h) (fun a b r h => by cases a <;> exact h)
  obtain ⟨v, r', rfl, h1, h2⟩ := rpl_cons.mp r
  cases rpl_nil.mp h2
  cases d with
  | lst xs =>
    obtain ⟨a, ys, rfl, h1, hl, h3⟩ := rp_lst.mp h1
    exact ⟨a, ys, rfl, .inl (.inl (.inl (era_le _ _ h1))), fun l hn => hk _ _ _ hf (Grow.new g hn) (res_lst g hn hl h3)⟩
  | tup xs =>
    obtain ⟨a, ys, rfl, h1, hl, h3⟩ := rp_tupS h1
    exact ⟨a, ys, rfl, .inr (sqt_up h1), fun l hn => hk _ _ _ hf (Grow.new g hn) (res_lst g hn hl h3)⟩
  | _ => exact hf.elim
def bTuple : List D → (D → Prop) → Prop
  | [.lst xs], k => k (.tup xs)
  | [.tup xs], k => k (.tup xs)
  | _, _ => False
theorem calld_tuple {K : PySem.W.Frag} : CallD K false (fun xs H Q => ∃ p ys, xs = [.ref p] ∧ ((SqL K H p ys ∧ ∀ l, H l = none → Q (.ref l) (upd H l (.tup ys))) ∨ (SqT K H p ys ∧ Q (.ref p) H))) bTuple := fun bg P H ds vs k Q g r hf hk => by
  obtain ⟨d, rfl, hf⟩ := one_of hf (fun h => h) (fun a b r h => by cases a <;> exact h)
  obtain ⟨v, r', rfl, h1, h2⟩ := rpl_cons.mp r
  cases rpl_nil.mp h2
  cases d with
  | lst xs =>
    obtain ⟨a, ys, rfl, h1, hl, h3⟩ := rp_lst.mp h1
    exact ⟨a, ys, rfl, .inl ⟨.inl (.inl (era_le _ _ h1)), fun l hn => hk _ _ _ hf (Grow.new g hn) (Res.of (rp_tupN g hn hl h3))⟩⟩
  | tup xs =>
    have h1' := h1
    obtain ⟨a, ys, rfl, h1, hl, h3⟩ := rp_tupS h1
    exact ⟨a, ys, rfl, .inr ⟨sqt_up h1, hk _ _ _ hf g.refl (Res.of h1')⟩⟩
  | _ => exact hf.elim
def bSortI : List D → (D → Prop) → Prop
  | [.lst xs], k => ∃ ns : List Int, xs = ns.map D.int ∧ k (.lst ((ns.mergeSort).map D.int))
  | _, _ => False
theorem perm_sorted_eq {a b : List Int} (p : a.Perm b) (s : a.Pairwise (· ≤ ·)) (t : b.Pairwise (· ≤ ·)) : a = b := List.Perm.eq_of_pairwise (fun x y _ _ h1 h2 => Int.le_antisymm h1 h2) s t p
theorem mergeSort_sorted (ns : List Int) : (ns.mergeSort).Pairwise (· ≤ ·) := by
  have h := List.pairwise_mergeSort (le := fun a b : Int => decide (a ≤ b)) (fun a b c h1 h2 => by simp at *; omega) (fun a b => by simp; omega) ns
  exact h.imp fun h => by simpa using h
theorem calld_sorted {K : PySem.W.Frag} : CallD K true (rSortedI K) bSortI := fun bg P H ds vs k Q g r hf hk => by
  obtain ⟨d, rfl, hf⟩ := one_of hf (fun h => h) (fun a b r h => by cases a <;> exact h)
  obtain ⟨v, r', rfl, h1, h2⟩ := rpl_cons.mp r
  cases rpl_nil.mp h2
  cases d with
  | lst xs =>
    obtain ⟨ns, rfl, hf2⟩ := hf
    obtain ⟨a, ys, rfl, h1, hl, h3⟩ := rp_lst.mp h1
    refine ⟨a, ns, rfl, .inl (.inl (by rw [← h3.ints]; exact era_le _ _ h1)), fun ns' l hp hs hn => ?_⟩
    have e : ns' = ns.mergeSort := perm_sorted_eq (hp.trans (List.mergeSort_perm ns _).symm) hs (mergeSort_sorted ns)
    rw [e]
    refine hk _ _ _ hf2 (Grow.new g hn) (res_lst g hn ?_ (RpL.ofInts _))
    rw [List.length_map, List.length_mergeSort]
    simpa using hl
  | _ => exact hf.elim
def bAbs : List D → (D → Prop) → Prop
  | [.int i], k => k (.int (if i < 0 then -i else i))
  | _, _ => False
theorem calld_abs {K : PySem.W.Frag} : CallD K false (fun xs H Q => ∃ i, xs = [.int i] ∧ Q (.int (if i < 0 then -i else i)) H) bAbs := fun bg P H ds vs k Q g r hf hk => by
  obtain ⟨d, rfl, hf⟩ := one_of hf (fun h => h) (fun a b r h => by cases a <;> exact h)
  obtain ⟨v, r', rfl, h1, h2⟩ := rpl_cons.mp r
  cases rpl_nil.mp h2
  cases d with
  | int i =>
    rw [rp_int] at h1
    exact ⟨i, by rw [h1], hk _ _ H hf g.refl (Res.of (rp_int.mpr rfl))⟩
  | _ => exact hf.elim
end DM
end
section
set_option Elab.async false
set_option linter.all false
set_option maxRecDepth 100000
set_option maxHeartbeats 4000000
namespace DM
open PySem L2 Evl

/-! ### statements -/
structure MD where
  nx : MEnv → Prop
  rt : D → Prop
  bk : MEnv → Prop
  ct : MEnv → Prop
  ex : MEnv → Exn → Prop
abbrev MS := MD → MEnv → Prop
structure Gd where
  b : Bg
  P0 : List Addr
  H0 : Hp
  T : List Keep
structure StOk (K : PySem.W.Frag) (g : Gd) (P : List Addr) (H : Hp) (σ : St) (ρ : MEnv) : Prop where
  grow : Grow g.b g.H0 H
  ok : Ok K ⟨g.b, g.P0, P, g.T⟩ H σ ρ
  new : ∀ p ∈ P, p ∈ g.P0 ∨ g.H0 p = none
structure Lk (K : PySem.W.Frag) (W : WX) (fr : Bool) (g : Gd) (M : MD) (De : Ends) : Prop where
  nx : ∀ P σ H ρ, StOk K g P H σ ρ → M.nx ρ → De.nx σ H
  rt : ∀ d v H, M.rt d → Grow g.b g.H0 H → Res K fr g.b g.P0 g.H0 H v d → De.rt v H
  bk : ∀ P σ H ρ, StOk K g P H σ ρ → M.bk ρ → De.bk σ H
  ct : ∀ P σ H ρ, StOk K g P H σ ρ → M.ct ρ → De.ct σ H
  ex : ∀ P σ H ρ x cls dd, StOk K g P H σ ρ → M.ex ρ x → ExR K g.b (era P H) cls dd x → W cls dd σ H
def sM (K : PySem.W.Frag) (W : WX) (fr : Bool) (m : MS) : TS := fun De σ H => ∃ g P ρ M, StOk K g P H σ ρ ∧ m M ρ ∧ Lk K W fr g M De
section
variable {K : PySem.W.Frag} {W : WX} {fr : Bool} {g : Gd} {P : List Addr} {H H' : Hp} {σ : St} {ρ : MEnv} {M : MD} {De : Ends} {m : MX} {t : MT}
theorem StOk.go (s : StOk K g P H σ ρ) (h : Grow g.b H H') : StOk K g P H' σ ρ := ⟨s.grow.trans h, s.ok.grow h, s.new⟩
theorem StOk.good (s : StOk K g P H σ ρ) : GoodP g.b P H := s.ok.good
theorem useE {f : Bool} {k : D → Prop} {Q : VK} (s : StOk K g P H σ ρ) (l : Lk K W fr g M De) (hm : m ρ k (M.ex ρ)) (hk : ∀ d v H', k d → Grow g.b H H' → Res K f g.b P H H' v d → StOk K g P H' σ ρ → Q v H') : tM K W f m σ H Q :=
  ⟨⟨g.b, g.P0, P, g.T⟩, ρ, k, M.ex ρ, s.ok, hm, fun d v H' kd gr r => hk d v H' kd gr r (s.go gr), fun x cls dd H' e gr z => l.ex P σ H' ρ x cls dd (s.go gr) e z⟩
theorem useT {k : Bool → Prop} {Q : Bool → Hp → Prop} (s : StOk K g P H σ ρ) (l : Lk K W fr g M De) (hm : t ρ k (M.ex ρ)) (hk : ∀ d H', k d → StOk K g P H' σ ρ → Q d H') : tT K W t σ H Q :=
  ⟨⟨g.b, g.P0, P, g.T⟩, ρ, k, M.ex ρ, s.ok, hm, fun d H' kd gr => hk d H' kd (s.go gr), fun x cls dd H' e gr z => l.ex P σ H' ρ x cls dd (s.go gr) e z⟩
theorem Ok.set {c : Cc} {i : Nat} {d : D} {v : V} (h : Ok K c H σ ρ) (r : Rp K c.b (era c.P H) d v) : Ok K c H (σ.set i (some v)) (ρ.set i (.sh d)) := by
  obtain ⟨h1, h2, h3, h4, o, q⟩ := h
  have hne : ∀ (j : Nat) s, (ρ.set i (.sh d))[j]? = some s → j ≠ i → ρ[j]? = some s := fun j s e ne => by rw [List.getElem?_set_ne (Ne.symm ne)] at e; exact e
  have hown : ∀ (j : Nat) e, (ρ.set i (.sh d))[j]? = some (.ow e) → j ≠ i := fun j e z y => by
    subst y
    by_cases hl : j < ρ.length
    · rw [List.getElem?_set_self hl] at z; cases z
    · rw [List.getElem?_eq_none (by simpa using hl)] at z; cases z
  refine ⟨h1, h2, h3, h4, o, by rw [List.length_set, List.length_set]; exact q.len, fun j e z => ?_, fun j e z => ?_, fun j l e f y z => q.inj j l e f (hne j _ y (hown j _ y)) (hne l _ z (hown l _ z))⟩
  · by_cases hj : j = i
    · subst hj
      by_cases hl : j < ρ.length
      · rw [List.getElem?_set_self hl] at z
        cases z
        exact ⟨v, by rw [List.getElem?_set_self (by rw [q.len]; exact hl)], r⟩
      · rw [List.getElem?_eq_none (by simpa using hl)] at z; cases z
    · rw [List.getElem?_set_ne (Ne.symm hj)]
      exact q.sh j e (hne j _ z hj)
  · have hj := hown j e z
    rw [List.getElem?_set_ne (Ne.symm hj)]
    exact q.ow j e (hne j _ z hj)
theorem OwnC.al {b : Bg} {p : Addr} {d : D} (r : OwnC K b P H p d) : H p ≠ none := by
  intro z
  cases d with
  | lst ds => obtain ⟨xs, h1, _⟩ := r; rw [z] at h1; cases h1
  | dct ds => obtain ⟨xs, h1, _⟩ := r; rw [z] at h1; cases h1
  | dtt ds => obtain ⟨xs, h1, _⟩ := r; rw [z] at h1; cases h1
  | ins c ds => obtain ⟨dx, xs, h1, _⟩ := r; rw [z] at h1; cases h1
  | new x c ds => obtain ⟨_, dx, xs, h1, _⟩ := r; rw [z] at h1; cases h1
  | _ => exact r.elim
theorem OwnC.nt {b : Bg} {p : Addr} {d : D} (r : OwnC K b P H p d) (xs : List V) : H p ≠ some (.tup xs) := by
  intro z
  cases d with
  | lst ds => obtain ⟨xs, h1, _⟩ := r; rw [z] at h1; cases h1
  | dct ds => obtain ⟨xs, h1, _⟩ := r; rw [z] at h1; cases h1
  | dtt ds => obtain ⟨xs, h1, _⟩ := r; rw [z] at h1; cases h1
  | ins c ds => obtain ⟨dx, xs, h1, _⟩ := r; rw [z] at h1; cases h1
  | new x c ds => obtain ⟨_, dx, xs, h1, _⟩ := r; rw [z] at h1; cases h1
  | _ => exact r.elim
/-- what stood moves behind a new owned object -/
theorem era_put {c : Cc} {p : Addr} (h : GoodP c.b c.P H) (g : Grow c.b H H') (hp : H p = none) : Ex (era c.P H) (era (p :: c.P) H') := fun a o e => by
  obtain ⟨e1, e2⟩ := era_some e
  have ne : a ≠ p := ne_of_none e1 hp
  rw [era_out (by simp only [List.mem_cons, not_or]; exact ⟨ne, e2⟩)]
  exact g.keep a o (fun q hb z => e2 (by rw [z]; exact (h.bag q hb).1)) e1
theorem Ok.put {c : Cc} {i : Nat} {d : D} {p : Addr} (h : Ok K c H σ ρ) (g : Grow c.b H H') (hp : H p = none) (r : OwnC K c.b (p :: c.P) H' p d) : Ok K ⟨c.b, c.P0, p :: c.P, c.T⟩ H' (σ.set i (some (.ref p))) (ρ.set i (.ow d)) := by
  obtain ⟨h1, h2, h3, h4, o, q⟩ := h
  have e := era_put h1 g hp
  have hP : p ∉ c.P := fun z => h1.al p z hp
  have hne : ∀ (j : Nat) s, (ρ.set i (.ow d))[j]? = some s → j ≠ i → ρ[j]? = some s := fun j s e ne => by rw [List.getElem?_set_ne (Ne.symm ne)] at e; exact e
  refine ⟨⟨fun x hx => ⟨List.mem_cons_of_mem _ (h1.bag x hx).1, List.mem_cons_of_mem _ (h1.bag x hx).2.1, g.bag x hx⟩, fun a ha z => ?_, fun a ha xs z => ?_⟩, h2, fun a ha => List.mem_cons_of_mem _ (h3 a ha), fun y hy => y.up _ _ _ e (h4 y hy), fun j => if j = i then p else o j, ?_⟩
  · rcases List.mem_cons.mp ha with y | y
    · rw [y] at z; exact r.al z
    · exact h1.al a y (g.none z)
  · rcases List.mem_cons.mp ha with y | y
    · rw [y] at z; exact r.nt _ z
    · exact (h1.grow g).nt a y xs z
  · refine ⟨by rw [List.length_set, List.length_set]; exact q.len, fun j e' z => ?_, fun j e' z => ?_, fun j l e' f y z w => ?_⟩
    · by_cases hj : j = i
      · subst hj
        by_cases hl : j < ρ.length
        · rw [List.getElem?_set_self hl] at z; cases z
        · rw [List.getElem?_eq_none (by simpa using hl)] at z; cases z
      · rw [List.getElem?_set_ne (Ne.symm hj)]
        obtain ⟨v, v1, v2⟩ := q.sh j e' (hne j _ z hj)
        exact ⟨v, v1, Rp.mono e _ _ v2⟩
    · by_cases hj : j = i
      · subst hj
        by_cases hl : j < ρ.length
        · rw [List.getElem?_set_self hl] at z
          cases z
          rw [if_pos rfl, List.getElem?_set_self (by rw [q.len]; exact hl)]
          exact ⟨rfl, List.mem_cons_self, fun z => hP (h3 p z), r⟩
        · rw [List.getElem?_eq_none (by simpa using hl)] at z; cases z
      · rw [List.getElem?_set_ne (Ne.symm hj), if_neg hj]
        obtain ⟨v1, v2, v3, v4⟩ := q.ow j e' (hne j _ z hj)
        exact ⟨v1, List.mem_cons_of_mem _ v2, v3, v4.mono e fun u w => g.keep _ _ (fun x hb y => v3 (by rw [y]; exact (h2 x hb).1)) w⟩
    · have oj : ∀ (j : Nat) e', (ρ.set i (.ow d))[j]? = some (.ow e') → j ≠ i → o j ∈ c.P := fun j e' z hj => (q.ow j e' (hne j _ z hj)).2.1
      by_cases hj : j = i
      · by_cases hl : l = i
        · rw [hj, hl]
        · rw [if_pos hj, if_neg hl] at w
          exact absurd (w ▸ oj l f z hl) hP
      · by_cases hl : l = i
        · rw [if_neg hj, if_pos hl] at w
          exact absurd (w ▸ oj j e' y hj) hP
        · rw [if_neg hj, if_neg hl] at w
          exact q.inj j l e' f (hne j _ y hj) (hne l _ z hl) w
/-- a slot owned is written anew -/
theorem Ok.wr {c : Cc} {i : Nat} {d d' : D} {p : Addr} {o' : HO} (h : Ok K c H σ ρ) (hi : ρ[i]? = some (.ow d)) (hσ : σ[i]? = some (some (.ref p))) (r : OwnC K c.b c.P (upd H p o') p d') : Ok K c (upd H p o') σ (ρ.set i (.ow d')) := by
  obtain ⟨h1, h2, h3, h4, o, q⟩ := h
  obtain ⟨v1, v2, v3, v4⟩ := q.ow i d hi
  have ep : o i = p := by rw [v1] at hσ; cases hσ; rfl
  subst ep
  have hl : i < ρ.length := (List.getElem?_eq_some_iff.mp hi).1
  have ee : era c.P (upd H (o i) o') = era c.P H := era_upd v2
  have hne : ∀ (j : Nat) s, (ρ.set i (.ow d'))[j]? = some s → j ≠ i → ρ[j]? = some s := fun j s e ne => by rw [List.getElem?_set_ne (Ne.symm ne)] at e; exact e
  have hat : ∀ (j : Nat) s, (ρ.set i (.ow d'))[j]? = some (.ow s) → ∃ s', ρ[j]? = some (.ow s') := fun j s e => by
    by_cases hj : j = i
    · rw [hj]; exact ⟨d, hi⟩
    · exact ⟨s, hne j _ e hj⟩
  refine ⟨⟨fun x hx => ⟨(h1.bag x hx).1, (h1.bag x hx).2.1, ?_⟩, fun a ha z => ?_, fun a ha xs z => ?_⟩, h2, h3, fun y hy => by rw [ee]; exact h4 y hy, o, by rw [List.length_set]; exact q.len, fun j e z => ?_, fun j e z => ?_, fun j l e f y z w => ?_⟩
  · obtain ⟨ne, x0, x1, x2, ns, b1, b2, b3⟩ := (h1.bag x hx).2.2
    have n1 : x.1 ≠ o i := fun z => v3 (z ▸ (h2 x hx).1)
    have n2 : x.2 ≠ o i := fun z => v3 (z ▸ (h2 x hx).2)
    exact ⟨ne, x0, x1, x2, ns, by rw [upd_ne n1]; exact b1, by rw [upd_ne n2]; exact b2, b3⟩
  · by_cases e : a = o i
    · rw [e, upd_same] at z; cases z
    · rw [upd_ne e] at z; exact h1.al a ha z
  · by_cases e : a = o i
    · rw [e] at z; exact r.nt xs z
    · rw [upd_ne e] at z; exact h1.nt a ha xs z
  · have hj : j ≠ i := fun y => by
      subst y
      rw [List.getElem?_set_self hl] at z; cases z
    rw [ee]
    exact q.sh j e (hne j _ z hj)
  · by_cases hj : j = i
    · subst hj
      rw [List.getElem?_set_self hl] at z
      cases z
      exact ⟨v1, v2, v3, r⟩
    · obtain ⟨w1, w2, w3, w4⟩ := q.ow j e (hne j _ z hj)
      have nj : o j ≠ o i := fun y => hj (q.inj j i e d (hne j _ z hj) hi y)
      exact ⟨w1, w2, w3, w4.mono (by rw [ee]; exact Ex.refl _) fun u w => by rw [upd_ne nj]; exact w⟩
  · obtain ⟨s, ys⟩ := hat j e y
    obtain ⟨t', zs⟩ := hat l f z
    exact q.inj j l s t' ys zs w
/-- an owned slot given up -/
theorem Ok.freeze {c : Cc} {i : Nat} {d : D} (h : Ok K c H σ ρ) (hi : ρ[i]? = some (.ow d)) : ∃ P', (∀ a ∈ P', a ∈ c.P) ∧ Ok K ⟨c.b, c.P0, P', c.T⟩ H σ (ρ.set i (.sh d)) := by
  obtain ⟨h1, h2, h3, h4, o, q⟩ := h
  obtain ⟨v1, v2, v3, v4⟩ := q.ow i d hi
  have hl : i < ρ.length := (List.getElem?_eq_some_iff.mp hi).1
  have sub : ∀ a ∈ c.P.filter (fun a => decide (a ≠ o i)), a ∈ c.P := fun a ha => (List.mem_filter.mp ha).1
  have mem : ∀ a ∈ c.P, a ≠ o i → a ∈ c.P.filter (fun a => decide (a ≠ o i)) := fun a ha ne => List.mem_filter.mpr ⟨ha, decide_eq_true ne⟩
  have ee : Ex (era c.P H) (era (c.P.filter (fun a => decide (a ≠ o i))) H) := era_sub sub
  have hne : ∀ (j : Nat) s, (ρ.set i (.sh d))[j]? = some s → j ≠ i → ρ[j]? = some s := fun j s e ne => by rw [List.getElem?_set_ne (Ne.symm ne)] at e; exact e
  have hown : ∀ (j : Nat) e, (ρ.set i (.sh d))[j]? = some (.ow e) → j ≠ i := fun j e z y => by
    subst y
    rw [List.getElem?_set_self hl] at z; cases z
  refine ⟨c.P.filter (fun a => decide (a ≠ o i)), sub, ⟨fun x hx => ⟨mem _ (h1.bag x hx).1 fun z => v3 (z ▸ (h2 x hx).1), mem _ (h1.bag x hx).2.1 fun z => v3 (z ▸ (h2 x hx).2), (h1.bag x hx).2.2⟩, fun a ha => h1.al a (sub a ha), fun a ha => h1.nt a (sub a ha)⟩, h2, fun a ha => mem a (h3 a ha) fun z => v3 (z ▸ ha), fun y hy => y.up _ _ _ ee (h4 y hy), o, by rw [List.length_set]; exact q.len, fun j e z => ?_, fun j e z => ?_, fun j l e f y z w => q.inj j l e f (hne j _ y (hown j _ y)) (hne l _ z (hown l _ z)) w⟩
  · by_cases hj : j = i
    · subst hj
      rw [List.getElem?_set_self hl] at z
      cases z
      exact ⟨_, v1, v4.rp sub fun y => by simpa using (List.mem_filter.mp y).2⟩
    · obtain ⟨v, w1, w2⟩ := q.sh j e (hne j _ z hj)
      exact ⟨v, w1, Rp.mono ee _ _ w2⟩
  · have hj := hown j e z
    obtain ⟨w1, w2, w3, w4⟩ := q.ow j e (hne j _ z hj)
    exact ⟨w1, mem _ w2 fun y => hj (q.inj j i e d (hne j _ z hj) hi y), w3, w4.mono ee fun _ w => w⟩
theorem Ok.forget {c : Cc} {i : Nat} (h : Ok K c H σ ρ) : Ok K c H σ (ρ.set i .no) := by
  obtain ⟨h1, h2, h3, h4, o, q⟩ := h
  have hne : ∀ (j : Nat) s, s ≠ .no → (ρ.set i .no)[j]? = some s → ρ[j]? = some s := fun j s ns e => by
    by_cases hj : j = i
    · subst hj
      by_cases hl : j < ρ.length
      · rw [List.getElem?_set_self hl] at e; cases e; exact absurd rfl ns
      · rw [List.getElem?_eq_none (by simpa using hl)] at e; cases e
    · rw [List.getElem?_set_ne (Ne.symm hj)] at e; exact e
  exact ⟨h1, h2, h3, h4, o, by rw [List.length_set]; exact q.len, fun j e z => q.sh j e (hne j _ (fun y => by cases y) z), fun j e z => q.ow j e (hne j _ (fun y => by cases y) z), fun j l e f y z w => q.inj j l e f (hne j _ (fun y => by cases y) y) (hne l _ (fun y => by cases y) z) w⟩

/-! ### combinators -/
def sNext : MS := fun M ρ => M.nx ρ
def sSeq (m n : MS) : MS := fun M ρ => m { M with nx := n M } ρ
def sDrop (m : MX) : MS := fun M ρ => m ρ (fun _ => M.nx ρ) (M.ex ρ)
def sRet (m : MX) : MS := fun M ρ => m ρ M.rt (M.ex ρ)
def sAsg (i : Nat) (m : MX) : MS := fun M ρ => m ρ (fun d => M.nx (ρ.set i (.sh d))) (M.ex ρ)
def sOwn (i : Nat) (m : MX) : MS := fun M ρ => m ρ (fun d => M.nx (ρ.set i (slO d))) (M.ex ρ)
def sIf (t : MT) (m n : MS) : MS := fun M ρ => t ρ (fun c => if c = true then m M ρ else n M ρ) (M.ex ρ)
def sNever : MS := fun _ _ => False
def sFreeze (i : Nat) (m : MS) : MS := fun M ρ => match ρ[i]? with
  | some (.ow d) => m M (ρ.set i (.sh d))
  | some (.sh _) => m M ρ
  | _ => False
def sRetOwn (i : Nat) : MS := fun M ρ => match ρ[i]? with
  | some (.ow d) => M.rt d
  | some (.sh .non) => M.rt .non
  | _ => False
def sForget (i : Nat) (m : MS) : MS := fun M ρ => m M (ρ.set i .no)
end
section
variable {X : Cx} {W : WX} {fr : Bool} {e a b : Expr} {st : Stmt} {rest s1 s2 : List Stmt} {pos : Pos} {m n : MS} {mx : MX} {t : MT}
theorem css_nil : PSs X [] (sM X.K W fr sNext) := pss_nil.imp fun De σ H ⟨g, P, ρ, M, s, hm, l⟩ => l.nx P σ H ρ s hm
theorem css_one (h : PS X st (sM X.K W fr m)) : PSs X [st] (sM X.K W fr m) := pss_one h
theorem css_cons (h1 : PS X st (sM X.K W fr m)) (h2 : PSs X rest (sM X.K W fr n)) : PSs X (st :: rest) (sM X.K W fr (sSeq m n)) := (pss_cons h1 h2).imp fun De σ H ⟨g, P, ρ, M, s, hm, l⟩ =>
  ⟨g, P, ρ, { M with nx := n M }, s, hm, fun P' σ' H' ρ' s' q => ⟨g, P', ρ', M, s', q, l⟩, l.rt, l.bk, l.ct, l.ex⟩
theorem css_freeze (i : Nat) (h : PSs X rest (sM X.K W fr m)) : PSs X rest (sM X.K W fr (sFreeze i m)) := h.imp fun De σ H ⟨g, P, ρ, M, s, hm, l⟩ => by
  unfold sFreeze at hm
  split at hm
  · rename_i d hd
    obtain ⟨P', sub, ok⟩ := s.ok.freeze hd
    exact ⟨g, P', _, M, ⟨s.grow, ok, fun p hp => s.new p (sub p hp)⟩, hm, l⟩
  · exact ⟨g, P, ρ, M, s, hm, l⟩
  · exact hm.elim
theorem css_forget (i : Nat) (h : PSs X rest (sM X.K W fr m)) : PSs X rest (sM X.K W fr (sForget i m)) := h.imp fun De σ H ⟨g, P, ρ, M, s, hm, l⟩ => ⟨g, P, _, M, ⟨s.grow, s.ok.forget, s.new⟩, hm, l⟩
theorem cs_expr (h : PE X e (tM X.K W false mx)) (hs : swapsWith e none pos.line X.env = pure false := by rfl) : PS X (.Expr e pos) (sM X.K W fr (sDrop mx)) := (ps_expr h hs).imp fun De σ H ⟨g, P, ρ, M, s, hm, l⟩ =>
  useE s l hm fun d v H' kd gr r s' => l.nx P σ H' ρ s' kd
theorem Res.out {K : PySem.W.Frag} {g : Gd} {P : List Addr} {H H' : Hp} {σ : St} {ρ : MEnv} {v : V} {d : D} (s : StOk K g P H σ ρ) (gr : Grow g.b H H') (r : Res K fr g.b P H H' v d) : Res K fr g.b g.P0 g.H0 H' v d := by
  unfold Res at r ⊢
  cases fr with
  | false => exact Rp.mono (era_sub s.ok.sub) _ _ r
  | true =>
    refine r.imp (fun ⟨p, h1, h2, h3⟩ => ⟨p, h1, s.grow.none h2, h3.mono (era_sub fun a ha => ?_) fun _ w => w⟩) id
    rcases List.mem_cons.mp ha with z | z
    · exact z ▸ List.mem_cons_self
    · exact List.mem_cons_of_mem _ (s.ok.sub a z)
theorem cs_ret (h : PE X e (tM X.K W fr mx)) : PS X (.Return (some e) pos) (sM X.K W fr (sRet mx)) := (ps_ret h).imp fun De σ H ⟨g, P, ρ, M, s, hm, l⟩ =>
  useE s l hm fun d v H' kd gr r s' => l.rt d v H' kd s'.grow (r.out s gr)
/-- return x, x owned -/
theorem cs_retOwn (i : Nat) {x : Str} {pos pos' : Pos} (hN : X.N[i]? = some x := by rfl) (hv : Vis X.env.scope x := by first | exact Or.inl rfl | exact Or.inr (Or.inl rfl) | exact Or.inr (Or.inr rfl)) (hd : (x == ("__debug__" : Str)) = false := by decide)
    (hcd : (x == ("__classdict__" : Str)) = false := by decide) : PS X (.Return (some (.Name x pos')) pos) (sM X.K W true (sRetOwn i)) := (ps_ret (pe_var hN hv hd hcd)).imp fun De σ H ⟨g, P, ρ, M, s, hm, l⟩ => by
  unfold sRetOwn at hm
  split at hm
  · rename_i d hd
    obtain ⟨o, q⟩ := s.ok.rel
    obtain ⟨v1, v2, v3, v4⟩ := q.ow i d hd
    refine ⟨_, v1, l.rt d _ H hm s.grow ?_⟩
    show (∃ p, V.ref (o i) = .ref p ∧ g.H0 p = none ∧ OwnC X.K g.b (p :: g.P0) H p d) ∨ _
    refine .inl ⟨o i, rfl, (s.new _ v2).elim (fun z => absurd z v3) id, v4.mono (era_sub fun a ha => ?_) fun _ w => w⟩
    rcases List.mem_cons.mp ha with z | z
    · rw [z]; exact v2
    · exact s.ok.sub a z
  · rename_i hd
    obtain ⟨o, q⟩ := s.ok.rel
    obtain ⟨v, v1, v2⟩ := q.sh i _ hd
    rw [rp_non.mp v2] at v1
    exact ⟨_, v1, l.rt .non _ H hm s.grow (show _ ∨ _ from .inr ⟨rfl, rfl⟩)⟩
  · exact hm.elim
theorem cs_asg (i : Nat) {x : Str} {pos' : Pos} (hN : X.N.Nodup) (h : PE X e (tM X.K W false mx)) (hi : X.N[i]? = some x := by rfl) (hx : Loc X.env.scope x := by first | exact .inl rfl | exact .inr rfl) (hs : swapsWith e (some (.Name x pos')) pos.line X.env = pure false := by rfl) (hf : X.fn x = true ∨ X.env.scope.names.lookup x = some .local := by first | exact .inl rfl | exact .inr rfl) :
    PS X (.Assign [.Name x pos'] e pos) (sM X.K W fr (sAsg i mx)) := (ps_set hN hi hx h hs hf).imp fun De σ H ⟨g, P, ρ, M, s, hm, l⟩ =>
  useE s l hm fun d v H' kd gr r s' => l.nx P _ H' _ ⟨s'.grow, s'.ok.set r.sh, s'.new⟩ kd
theorem cs_own (i : Nat) {x : Str} {pos' : Pos} (hN : X.N.Nodup) (h : PE X e (tM X.K W true mx)) (hi : X.N[i]? = some x := by rfl) (hx : Loc X.env.scope x := by first | exact .inl rfl | exact .inr rfl) (hs : swapsWith e (some (.Name x pos')) pos.line X.env = pure false := by rfl) (hf : X.fn x = true ∨ X.env.scope.names.lookup x = some .local := by first | exact .inl rfl | exact .inr rfl) :
    PS X (.Assign [.Name x pos'] e pos) (sM X.K W fr (sOwn i mx)) := (ps_set hN hi hx h hs hf).imp fun De σ H ⟨g, P, ρ, M, s, hm, l⟩ =>
  useE s l hm fun d v H' kd gr r s' => by
    rcases r.cases with ⟨p, rfl, h1, h2, es⟩ | ⟨h1, es⟩
    · have es : slO d = .ow d := es
      rw [es] at kd
      refine l.nx (p :: P) _ H' _ ⟨s'.grow, s.ok.put gr h1 h2, fun a ha => ?_⟩ kd
      rcases List.mem_cons.mp ha with z | z
      · exact .inr (z ▸ s.grow.none h1)
      · exact s.new a z
    · have es : slO d = .sh d := es
      rw [es] at kd
      exact l.nx P _ H' _ ⟨s'.grow, s'.ok.set h1, s'.new⟩ kd
theorem cs_if {c : Expr} (hc : PT X c (tT X.K W t)) (h1 : PSs X s1 (sM X.K W fr m)) (h2 : PSs X s2 (sM X.K W fr n)) : PS X (.If c s1 s2 pos) (sM X.K W fr (sIf t m n)) := (ps_if hc h1 h2).imp fun De σ H ⟨g, P, ρ, M, s, hm, l⟩ =>
  useT s l hm fun d H' kd s' => by
    cases d with
    | true => exact ⟨g, P, ρ, M, s', kd, l⟩
    | false => exact ⟨g, P, ρ, M, s', kd, l⟩
/-- return a if c else b, as if c: return a else: return b -/
theorem cs_retIf {c : Expr} {pos' : Pos} (hc : PT X c (tT X.K W t)) (h1 : PS X (.Return (some a) pos) (sM X.K W fr m)) (h2 : PS X (.Return (some b) pos) (sM X.K W fr n)) : True := trivial
theorem cs_never : PS X st (sM X.K W fr sNever) := ps_never.imp fun De σ H ⟨g, P, ρ, M, s, hm, l⟩ => hm
theorem cs_pass : PS X (.Pass pos) (sM X.K W fr sNext) := ps_pass.imp fun De σ H ⟨g, P, ρ, M, s, hm, l⟩ => l.nx P σ H ρ s hm
end

/-! ### a def by its body -/
def mFn (n : Nat) (fr : Bool) (body : MS) : MF := fun ds k ex => body { nx := fun _ => if fr = true then False else k .non, rt := k, bk := fun _ => False, ct := fun _ => False, ex := fun _ x => ex x } (ds.map Sl.sh ++ List.replicate (n - ds.length) Sl.no)
theorem kds_code {K : PySem.W.Frag} {cd : Value} {q : Str} (h : PySem.W.codeIn K cd q = true) : PySem.W.kdsCode K cd = true := by
  unfold PySem.W.codeIn at h
  unfold PySem.W.kdsCode
  split at h
  · split at h
    · rename_i e; dsimp only; rw [e]
    · cases h
  · cases h
theorem RpL.slots {K : PySem.W.Frag} {bg : Bg} {H : Hp} : ∀ {ds : List D} {vs : List V} (i : Nat) (d : D), RpL K bg H ds vs → ds[i]? = some d → ∃ v, vs[i]? = some v ∧ Rp K bg H d v := fun i d h e => h.get e
section
variable {P : Program} {w : World} {K : PySem.W.Frag} {mg : Str → Option Value} {base : Heap} {x qual : Str} {params : Arguments} {body : List Stmt} {scope : Scope} {dvs : List V} {kws : List (Str × V)} {f : Addr} {fd : FuncData} {N ps : List Str} {k : Nat} {fr : Bool} {m : MS}
theorem fn_mk (F : FunD K x qual params body scope dvs kws f fd) (S : FnScope N ps scope)
    (hb : ∀ (cdv : Value) (A : Around) (outer : List Env) (s : Shared) (H : Hp) (E : XK), PySem.W.kdsCode K cdv = true → RoomG k (A.deeper (PyProof.Rows.envOfC qual scope s.heap.objs.size f cdv)) →
      PSs (cxOf (L2.CX P w) P w K mg base N qual scope f cdv A outer s H E) body (sM K (fun cls d _ H => E cls d H) fr m)) : FnG P w K mg base (L2.CX P w) (k + 1) f fd ps (spM K ps.length fr (mFn N.length fr m)) := by
  obtain ⟨oc, od, dV, kV, doc, pm, an, cdv, ct, osl, rfl, lk, hcd, _, _⟩ := F.ex
  refine fnG_of lk hcd S (fun vs H Q E h => h.1) fun A outer s H vs Q E hr h => ⟨_, hb cdv A outer s H E (kds_code hcd) hr, ?_⟩
  obtain ⟨hl, bg, P, ds, k, ex, g, r, hm, hk, hx⟩ := h
  have hlen : vs.length = ds.length := r.len
  have hpl : ps.length ≤ N.length := by have := congrArg List.length S.pre; rw [List.length_take] at this; omega
  refine ⟨⟨bg, P, H, []⟩, P, _, _, ⟨g.refl, ⟨g, fun p hp => ⟨(g.bag p hp).1, (g.bag p hp).2.1⟩, fun _ h => h, fun _ h => (nomatch h), fun _ => 0, ?_, fun i d e => ?_, fun i d e => ?_, fun i j d e y z _ => ?_⟩, fun p hp => .inl hp⟩, hm, fun P' σ' H' ρ' s' q => ?_, fun d v H' kd gr rr => hk d v H' kd gr rr, fun _ _ _ _ _ z => z.elim, fun _ _ _ _ _ z => z.elim, fun P' σ' H' ρ' x cls dd s' e z => hx x cls dd H' e s'.grow ?_⟩
  · unfold L2.start
    rw [List.length_append, List.length_append, List.length_map, List.length_map, List.length_replicate, List.length_replicate, hlen]
  · have hi : i < ds.length := by
      by_cases hi : i < ds.length
      · exact hi
      · rw [List.getElem?_append_right (by simpa using hi), List.getElem?_replicate] at e
        split at e <;> cases e
    rw [List.getElem?_append_left (by simpa using hi), List.getElem?_map] at e
    cases q : ds[i]? with
    | none => rw [q] at e; cases e
    | some d' =>
      rw [q] at e
      cases e
      obtain ⟨v, h1, h2⟩ := r.get q
      refine ⟨v, ?_, h2⟩
      unfold L2.start
      rw [List.getElem?_append_left (by rw [List.length_map, hlen]; exact hi), List.getElem?_map, h1] <;> rfl
  · by_cases hi : i < ds.length
    · rw [List.getElem?_append_left (by simpa using hi), List.getElem?_map] at e
      cases q : ds[i]? with
      | none => rw [q] at e; cases e
      | some d' => rw [q] at e; cases e
    · rw [List.getElem?_append_right (by simpa using hi), List.getElem?_replicate] at e
      split at e <;> cases e
  · by_cases hi : i < ds.length
    · rw [List.getElem?_append_left (by simpa using hi), List.getElem?_map] at y
      cases q : ds[i]? with
      | none => rw [q] at y; cases y
      | some d' => rw [q] at y; cases y
    · rw [List.getElem?_append_right (by simpa using hi), List.getElem?_replicate] at y
      split at y <;> cases y
  · cases fr with
    | true => exact (show False from q).elim
    | false => exact hk .non .non H' q s'.grow (Res.of (rp_non.mpr rfl))
  · obtain ⟨z1, z2⟩ := z
    refine ⟨z1, ?_⟩
    rcases z2 with z2 | ⟨nn, q, fs, e1, e2, e3⟩
    · exact .inl z2
    · have ee : Ex (era P' H') (era P H') := era_sub s'.ok.sub
      exact .inr ⟨nn, q, fs, e1, ee _ _ e2, RpF.mono ee _ _ e3⟩
end
end DM
end
section
set_option Elab.async false
set_option linter.all false
set_option maxRecDepth 100000
set_option maxHeartbeats 4000000
namespace L2
open PySem
section
variable {X : Cx} {tg : Expr}
def iSeqA (K : PySem.W.Frag) (tl : TE) : TI := fun σ H R => tl σ H fun x H1 => (∃ a, x = .ref a ∧ (∃ xs, SqL K H1 a xs) ∧ R (Itl K a) H1) ∨ (∃ a, x = .ref a ∧ (∃ xs, SqT K H1 a xs) ∧ R (Itt K a) H1)
theorem pi_seqA {l : Expr} {tl : TE} (hl : PE X l tl) : PI X tg l (iSeqA X.K tl) := by
  refine ⟨fun pins s σ H R I h => ?_⟩
  refine thn (hl.run pins s σ H _ I h) fun v s1 ⟨x, H1, I1, r1, q1⟩ => ?_
  rcases q1 with ⟨a, e, ⟨xs, hq⟩, q⟩ | ⟨a, e, ⟨xs, hq⟩, q⟩
  · subst e
    cases r1
    obtain ⟨its, rv, p, hz⟩ := I1.list hq
    refine wpAny_pyIter_list p.isList ?_
    refine ⟨s1.heap.objs.size, [s1.heap.objs.size], _, _, H1, rfl, I1.kept (t' := s1.toks) fun b o e => Heap.get?_push_of_some _ e, turn_list a _, ⟨_, Heap.get?_push_size _ rfl, rfl, rfl⟩, fun b hb => ?_, q⟩
    have e : b = s1.heap.objs.size := by simpa using hb
    subst e
    exact I1.fpOk (Nat.le_refl _) (I1.hok.fresh (Nat.le_refl _))
  · subst e
    cases r1
    obtain ⟨its, rv, p, hz⟩ := I1.tuple hq
    refine wpAny_pyIter_tuple (show s1.heap.IsTuple a its.toArray from p) ?_
    refine ⟨s1.heap.objs.size, [s1.heap.objs.size], _, _, H1, rfl, I1.kept (t' := s1.toks) fun b o e => Heap.get?_push_of_some _ e, turn_tuple a _, ⟨_, Heap.get?_push_size _ rfl, rfl, rfl⟩, fun b hb => ?_, q⟩
    have e : b = s1.heap.objs.size := by simpa using hb
    subst e
    exact I1.fpOk (Nat.le_refl _) (I1.hok.fresh (Nat.le_refl _))
end
end L2
namespace DM
open PySem L2 Evl

/-! ### what is walked -/
def Feeds (K : PySem.W.Frag) (J : It) (T : List Keep) (ds : List D) : Prop := ∀ (b : Bg) (P : List Addr) (H : Hp), GoodP b P H → (∀ q ∈ T, q.p b (era P H)) →
  (∀ (i : Nat) d, ds[i]? = some d → J.go i H ∧ ∀ x H2, J.yld i H x H2 → Grow b H H2 ∧ Rp K b (era P H2) d x) ∧ J.stop ds.length H
def iM (K : PySem.W.Frag) (W : WX) (m : MA) : TI := fun σ H R => ∃ c ρ k ex, Ok K c H σ ρ ∧ m ρ k ex ∧
  (∀ ds J T H', k ds → Grow c.b H H' → (∀ q ∈ T, q.p c.b (era c.P H')) → Feeds K J T ds → R J H') ∧ (∀ x cls dd H', ex x → Grow c.b H H' → ExR K c.b (era c.P H') cls dd x → W cls dd σ H')
def iSeqD : D → (List D → Prop) → Prop
  | .lst ds, k => k ds
  | .tup ds, k => k ds
  | .ktp ds, k => k ds
  | _, _ => False
def mSeq (m : MX) : MA := fun ρ k ex => m ρ (fun d => iSeqD d k) ex
def rangeD (lo : Int) (n : Nat) : List D := (List.range n).map fun (i : Nat) => D.int (lo + (i : Int))
def mRange1 (m : MX) : MA := fun ρ k ex => m ρ (fun d => match d with
  | .int j => (-(2 ^ 62) ≤ j ∧ j < 2 ^ 62) ∧ k (rangeD 0 j.toNat)
  | _ => False) ex
def mRange2 (ma mb : MX) : MA := fun ρ k ex => ma ρ (fun x => mb ρ (fun y => match x, y with
  | .int i, .int j => (-(2 ^ 62) ≤ i ∧ i < 2 ^ 62 ∧ -(2 ^ 62) ≤ j ∧ j < 2 ^ 62) ∧ k (rangeD i (j - i).toNat)
  | _, _ => False) ex) ex
theorem feeds_list {K : PySem.W.Frag} {a : Addr} {ds : List D} : Feeds K (Itl K a) [kRp K (.lst ds) (.ref a)] ds := fun b P H g h => by
  obtain ⟨a', xs, e, h1, _, h2⟩ := rp_lst.mp (h _ List.mem_cons_self)
  cases e
  have hs : SqL K H a xs := .inl (.inl (era_le _ _ h1))
  have uniq : ∀ ys, SqL K H a ys → True := fun _ _ => trivial
  refine ⟨fun i d e => ?_, xs, hs, by rw [h2.len]; exact Nat.le_refl _⟩
  obtain ⟨x, e1, e2⟩ := h2.get e
  refine ⟨⟨xs, x, hs, e1⟩, fun y H2 hy => ?_⟩
  obtain ⟨rfl, f⟩ := hy
  have ey : y = x := Option.some.inj ((f xs hs).symm.trans e1)
  rw [ey]
  exact ⟨g.refl, e2⟩
theorem feeds_tup {K : PySem.W.Frag} {a : Addr} {ds : List D} : Feeds K (Itt K a) [kRp K (.tup ds) (.ref a)] ds := fun b P H g h => by
  obtain ⟨a', xs, e, h1, _, h2⟩ := rp_tupS (h _ List.mem_cons_self)
  cases e
  have hs : SqT K H a xs := sqt_up h1
  refine ⟨fun i d e => ?_, xs, hs, by rw [h2.len]; exact Nat.le_refl _⟩
  obtain ⟨x, e1, e2⟩ := h2.get e
  refine ⟨⟨xs, x, hs, e1⟩, fun y H2 hy => ?_⟩
  obtain ⟨rfl, f⟩ := hy
  have ey : y = x := Option.some.inj ((f xs hs).symm.trans e1)
  rw [ey]
  exact ⟨g.refl, e2⟩
theorem feeds_range {K : PySem.W.Frag} {lo : Int} {n : Nat} : Feeds K (Itr lo n) [] (rangeD lo n) := fun b P H g h => by
  refine ⟨fun i d e => ?_, ?_⟩
  · unfold rangeD at e
    rw [List.getElem?_map] at e
    by_cases hi : i < n
    · rw [List.getElem?_range hi] at e
      cases e
      refine ⟨hi, fun x H2 hy => ?_⟩
      obtain ⟨rfl, rfl⟩ := hy
      exact ⟨g.refl, rp_int.mpr rfl⟩
    · rw [List.getElem?_eq_none (by simpa using hi)] at e; cases e
  · show n ≤ (rangeD lo n).length
    unfold rangeD
    rw [List.length_map, List.length_range]
    exact Nat.le_refl _
theorem feeds_ktp {K : PySem.W.Frag} {a : Addr} {ds : List D} : Feeds K (Itt K a) [kRp K (.ktp ds) (.ref a)] ds := fun b P H g h => by
  obtain ⟨a', xs, e, h1, _, h2⟩ := rp_ktp.mp (h _ List.mem_cons_self)
  cases e
  have hs : SqT K H a xs := sqt_up h1
  refine ⟨fun i d e => ?_, xs, hs, by rw [h2.len]; exact Nat.le_refl _⟩
  obtain ⟨x, e1, e2⟩ := h2.get e
  refine ⟨⟨xs, x, hs, e1⟩, fun y H2 hy => ?_⟩
  obtain ⟨rfl, f⟩ := hy
  have ey : y = x := Option.some.inj ((f xs hs).symm.trans e1)
  rw [ey]
  exact ⟨g.refl, e2⟩
section
variable {X : Cx} {W : WX} {fr : Bool} {e a b tg : Expr} {p pos : Pos} {m ma mb : MX}
theorem ci_seq (h : PE X e (tM X.K W false m)) : PI X tg e (iM X.K W (mSeq m)) := (pi_seqA h).imp fun σ H R ⟨c, ρ, k, ex, ok, hm, hk, hx⟩ => ⟨c, ρ, _, ex, ok, hm, fun d v H1 kd g r => by
  cases d with
  | lst ds =>
    obtain ⟨a, xs, rfl, h1, _, h2⟩ := rp_lst.mp r.sh
    exact .inl ⟨a, rfl, ⟨xs, .inl (.inl (era_le _ _ h1))⟩, hk ds _ _ H1 kd g (fun q hq => by rw [List.mem_singleton.mp hq]; exact r.sh) feeds_list⟩
  | tup ds =>
    obtain ⟨a, xs, rfl, h1, _, h2⟩ := rp_tupS r.sh
    exact .inr ⟨a, rfl, ⟨xs, sqt_up h1⟩, hk ds _ _ H1 kd g (fun q hq => by rw [List.mem_singleton.mp hq]; exact r.sh) feeds_tup⟩
  | ktp ds =>
    obtain ⟨a, xs, rfl, h1, _, h2⟩ := rp_ktp.mp r.sh
    exact .inr ⟨a, rfl, ⟨xs, sqt_up h1⟩, hk ds _ _ H1 kd g (fun q hq => by rw [List.mem_singleton.mp hq]; exact r.sh) feeds_ktp⟩
  | _ => exact kd.elim, hx⟩
theorem ci_range1 (hm : X.mg "range" = none) (h : PE X a (tM X.K W false m)) (hg : Gl X "range" := by rfl) (hs : starEach [a] X.env = [(false, eval a X.env)] := by rfl) : PI X tg (.Call (.Name "range" p) [a] [] pos) (iM X.K W (mRange1 m)) :=
  (pi_range1 hg hm (pa_cons h pa_nil hs) hs).imp fun σ H R ⟨c, ρ, k, ex, ok, hm, hk, hx⟩ => ⟨c, ρ, _, ex, ok, hm, fun d v H1 kd g r => by
    cases d with
    | int j => exact ⟨j, by rw [rp_int.mp r.sh], kd.1.1, kd.1.2, hk _ _ [] H1 kd.2 g (fun q hq => nomatch hq) feeds_range⟩
    | _ => exact kd.elim, hx⟩
theorem ci_range2 (hm : X.mg "range" = none) (ha : PE X a (tM X.K W false ma)) (hb : PE X b (tM X.K W false mb)) (hg : Gl X "range" := by rfl) (hs : starEach [a, b] X.env = [(false, eval a X.env), (false, eval b X.env)] := by rfl) (hs2 : starEach [b] X.env = [(false, eval b X.env)] := by rfl) :
    PI X tg (.Call (.Name "range" p) [a, b] [] pos) (iM X.K W (mRange2 ma mb)) :=
  (pi_range2 hg hm (pa_cons ha (pa_cons hb pa_nil hs2) (by rw [hs, hs2])) hs hs2).imp fun σ H R ⟨c, ρ, k, ex, ok, hm, hk, hx⟩ => ⟨c, ρ, _, ex, ok, hm, fun d v H1 kd g r => ⟨c, ρ, _, ex, ok.grow g, kd, fun d2 v2 H2 k2 g2 r2 => by
    cases d with
    | int i =>
      cases d2 with
      | int j => exact ⟨i, j, by rw [rp_int.mp r.sh, rp_int.mp r2.sh], k2.1, hk _ _ [] H2 k2.2 (g.trans g2) (fun q hq => nomatch hq) feeds_range⟩
      | _ => exact k2.elim
    | _ => cases d2 <;> exact k2.elim, fun x cls dd H' e gr z => hx x cls dd H' e (g.trans gr) z⟩, hx⟩
end

/-! ### targets -/
abbrev MG := D → MEnv → (MEnv → Prop) → Prop
def gM (K : PySem.W.Frag) (G : MG) : TG := fun v σ H Q => ∃ c ρ d k, Ok K c H σ ρ ∧ Rp K c.b (era c.P H) d v ∧ G d ρ k ∧ ∀ ρ' σ', k ρ' → Ok K c H σ' ρ' → Q σ' H
def gN (i : Nat) : MG := fun d ρ k => k (ρ.set i (.sh d))
def setAll : MEnv → List Nat → List D → MEnv
  | ρ, j :: js, d :: ds => setAll (ρ.set j (.sh d)) js ds
  | ρ, _, _ => ρ
def gT (js : List Nat) : MG := fun d ρ k => match d with
  | .tup ds => ds.length = js.length ∧ k (setAll ρ js ds)
  | _ => False
def gNs : List Nat → TGs
  | [] => gNil
  | j :: js => gCons (gName j) (gNs js)
theorem gNs_ok {K : PySem.W.Frag} {c : Cc} {H : Hp} : ∀ {js : List Nat} {ds : List D} {xs : List V} {σ : St} {ρ : MEnv} {Q : St → Hp → Prop}, Ok K c H σ ρ → RpL K c.b (era c.P H) ds xs → ds.length = js.length → (∀ σ', Ok K c H σ' (setAll ρ js ds) → Q σ' H) → gNs js xs σ H Q
  | [], [], xs, σ, ρ, Q, ok, r, _, h => ⟨rpl_nil.mp r, h σ ok⟩
  | [], _ :: _, xs, σ, ρ, Q, ok, r, l, h => by cases l
  | _ :: _, [], xs, σ, ρ, Q, ok, r, l, h => by cases l
  | j :: js, d :: ds, xs, σ, ρ, Q, ok, r, l, h => by
    obtain ⟨x, q, rfl, h1, h2⟩ := rpl_cons.mp r
    exact ⟨x, q, rfl, gNs_ok (ok.set h1) h2 (by simpa using l) h⟩
section
variable {X : Cx} {W : WX} {fr : Bool} {e tg : Expr} {es : List Expr} {pos : Pos} {G : MG} {mx ma mb : MX} {mi : MA} {m : MS}
theorem gm_name (i : Nat) {x : Str} (hN : X.N.Nodup) (hi : X.N[i]? = some x := by rfl) (hx : Loc X.env.scope x := by first | exact .inl rfl | exact .inr rfl) (hf : X.fn x = true ∨ X.env.scope.names.lookup x = some .local := by first | exact .inl rfl | exact .inr rfl) : PG X (.Name x pos) (gM X.K (gN i)) :=
  ⟨fun pins s σ H v u Q I r h => (pg_name hN hi hx hf).run pins s σ H v u Q I r (by
    obtain ⟨c, ρ, d, k, ok, rd, hg, hk⟩ := h
    exact hk _ _ hg (ok.set rd))⟩
theorem gm_tup (js : List Nat) {k n : Nat} (hc : X.calm = true) (h : PGs X es (gNs js)) (hn : (assignEach es X.env).length = n := by rfl) (hj : js.length = n := by rfl) (hst : (assignEach es X.env).findIdx? (·.1) = none := by rfl) : PG X (.Tuple es k pos) (gM X.K (gT js)) :=
  ⟨fun pins s σ H v u Q I r hh => (pg_tup hc h hn hst).run pins s σ H v u Q I r (by
    obtain ⟨c, ρ, d, k, ok, rd, hg, hk⟩ := hh
    cases d with
    | tup ds =>
      obtain ⟨hl, hg⟩ := hg
      obtain ⟨a, xs, rfl, h1, _, h2⟩ := rp_tupS rd
      exact ⟨a, xs, rfl, sqt_up h1, by rw [h2.len, hl, hj], gNs_ok ok h2 hl fun σ' ok' => hk _ _ hg ok'⟩
    | _ => exact hg.elim)⟩
/-- target = e -/
def sAsgG (G : MG) (m : MX) : MS := fun M ρ => m ρ (fun d => G d ρ M.nx) (M.ex ρ)
theorem cs_asgG (h : PE X e (tM X.K W false mx)) (hg : PG X tg (gM X.K G)) (hs : swapsWithSole [tg] e pos.line X.env = pure false := by rfl) (hw : swappedStores [tg] e X.env = pure none := by rfl) (h1 : (assignEach [tg] X.env).map (·.2) = [assign tg X.env] := by rfl) :
    PS X (.Assign [tg] e pos) (sM X.K W fr (sAsgG G mx)) := (ps_asg h hg hs hw h1).imp fun De σ H ⟨g, P, ρ, M, s, hm, l⟩ =>
  useE s l hm fun d v H' kd gr r s' => ⟨_, ρ, d, _, s'.ok, r.sh, kd, fun ρ' σ' k' ok' => l.nx P σ' H' ρ' ⟨s'.grow, ok', s'.new⟩ k'⟩
/-! a, b = e1, e2 -/
def sPar (i : Nat) (f : Bool) (j : Nat) (g : Bool) (ma mb : MX) : MS := fun M ρ => ma ρ (fun x => mb ρ (fun y => M.nx ((ρ.set i (sl f x)).set j (sl g y))) (M.ex ρ)) (M.ex ρ)
/-- a new owned object kept aside -/
theorem Ok.add {K : PySem.W.Frag} {c : Cc} {H H' : Hp} {σ : St} {ρ : MEnv} {p : Addr} (h : Ok K c H σ ρ) (g : Grow c.b H H') (hp : H p = none) (ha : H' p ≠ none) (hn : ∀ xs, H' p ≠ some (.tup xs) := by intro xs; rw [upd_same]; exact fun z => nomatch z) : Ok K ⟨c.b, c.P0, p :: c.P, c.T⟩ H' σ ρ := by
  obtain ⟨h1, h2, h3, h4, o, q⟩ := h
  have e := era_put h1 g hp
  refine ⟨⟨fun x hx => ⟨List.mem_cons_of_mem _ (h1.bag x hx).1, List.mem_cons_of_mem _ (h1.bag x hx).2.1, g.bag x hx⟩, fun a ha' z => ?_, fun a ha' xs z => ?_⟩, h2, fun a ha => List.mem_cons_of_mem _ (h3 a ha), fun y hy => y.up _ _ _ e (h4 y hy), o, q.len, fun j e' z => ?_, fun j e' z => ?_, q.inj⟩
  · rcases List.mem_cons.mp ha' with y | y
    · rw [y] at z; exact ha z
    · exact h1.al a y (g.none z)
  · rcases List.mem_cons.mp ha' with y | y
    · rw [y] at z; exact hn xs z
    · exact (h1.grow g).nt a y xs z
  · obtain ⟨v, v1, v2⟩ := q.sh j e' z
    exact ⟨v, v1, Rp.mono e _ _ v2⟩
  · obtain ⟨v1, v2, v3, v4⟩ := q.ow j e' z
    exact ⟨v1, List.mem_cons_of_mem _ v2, v3, v4.mono e fun u w => g.keep _ _ (fun x hb y => v3 (by rw [y]; exact (h2 x hb).1)) w⟩
theorem GoodP.cons {bg : Bg} {P : List Addr} {H : Hp} {p : Addr} (g : GoodP bg P H) (ha : H p ≠ none) (hn : ∀ xs, H p ≠ some (.tup xs)) : GoodP bg (p :: P) H := ⟨fun x hx => ⟨List.mem_cons_of_mem _ (g.bag x hx).1, List.mem_cons_of_mem _ (g.bag x hx).2.1, (g.bag x hx).2.2⟩, fun a ha' => by
  rcases List.mem_cons.mp ha' with y | y
  · rw [y]; exact ha
  · exact g.al a y, fun a ha' => by
  rcases List.mem_cons.mp ha' with y | y
  · rw [y]; exact hn
  · exact g.nt a y⟩
theorem OwnC.grow {K : PySem.W.Frag} {bg : Bg} {P : List Addr} {H H' : Hp} {p : Addr} {d : D} (h : OwnC K bg P H p d) (g : GoodP bg P H) (gr : Grow bg H H') (hb : ∀ q, bg = some q → p ≠ q.1) : OwnC K bg P H' p d := h.mono (g.era gr) fun o w => gr.keep _ _ hb w
theorem cs_par {i j : Nat} {x y : Str} {a b : Expr} {px py pt : Pos} {kt k2 pt2} (f f' : Bool) (hN : X.N.Nodup) (ha : PE X a (tM X.K W f ma)) (hb : PE X b (tM X.K W f' mb)) (hc : X.calm = true := by rfl) (hi : X.N[i]? = some x := by rfl) (hj : X.N[j]? = some y := by rfl) (hij : i ≠ j := by decide)
    (hx : X.env.scope.names.lookup x = some .local := by rfl) (hy : X.env.scope.names.lookup y = some .local := by rfl)
    (hw : swappedStores [.Tuple [.Name x px, .Name y py] kt pt] (.Tuple [a, b] k2 pt2) X.env = pure (some [x, y]) := by rfl)
    (hs : swapsWithSole [.Tuple [.Name x px, .Name y py] kt pt] (.Tuple [a, b] k2 pt2) pos.line X.env = pure false := by rfl)
    (hs1 : starEach (a :: [b]) X.env = (false, eval a X.env) :: starEach [b] X.env := by rfl) (hs2 : starEach (b :: []) X.env = (false, eval b X.env) :: starEach [] X.env := by rfl) :
    PS X (.Assign [.Tuple [.Name x px, .Name y py] kt pt] (.Tuple [a, b] k2 pt2) pos) (sM X.K W fr (sPar i f j f' ma mb)) := (ps_par hc hN hi hj hij hx hy (pa_cons ha (pa_cons hb pa_nil hs2) hs1) hw hs).imp fun De σ H ⟨g, P, ρ, M, s, hm, l⟩ => by
  refine useE s l hm fun d1 v1 H1 k1 g1 r1 s1 => ?_
  rcases r1.cases with ⟨p, rfl, h1, h2, e1⟩ | ⟨q1, e1⟩
  · rw [e1] at k1
    have oa := s.ok.add g1 h1 h2.al h2.nt
    have nb : ∀ q, g.b = some q → p ≠ q.1 := fun q hq z => s.good.al p (by rw [z]; exact (s.good.bag q hq).1) h1
    have new' : ∀ a ∈ p :: P, a ∈ g.P0 ∨ g.H0 a = none := fun a ha => by
      rcases List.mem_cons.mp ha with z | z
      · exact .inr (z ▸ s.grow.none h1)
      · exact s.new a z
    have sa : StOk X.K g (p :: P) H1 σ ρ := ⟨s1.grow, oa, new'⟩
    refine useE sa l k1 fun d2 v2 H2 k2 g2 r2 s2 => ⟨_, v2, rfl, ?_⟩
    have h2' : OwnC X.K g.b (p :: P) H2 p d1 := h2.grow sa.good g2 nb
    have op := s.ok.put (i := i) (g1.trans g2) h1 h2'
    rcases r2.cases with ⟨q, rfl, h3, h4, e2⟩ | ⟨q2, e2⟩
    · rw [e2] at k2
      have op1 := s.ok.put (i := i) g1 h1 h2
      refine l.nx (q :: p :: P) _ H2 _ ⟨s2.grow, op1.put g2 h3 h4, fun a ha => ?_⟩ k2
      rcases List.mem_cons.mp ha with z | z
      · exact .inr (z ▸ s1.grow.none h3)
      · exact new' a z
    · rw [e2] at k2
      exact l.nx (p :: P) _ H2 _ ⟨s2.grow, op.set q2, new'⟩ k2
  · rw [e1] at k1
    refine useE s1 l k1 fun d2 v2 H2 k2 g2 r2 s2 => ⟨v1, v2, rfl, ?_⟩
    have o1 := s2.ok.set (i := i) (Rp.mono (s1.good.era g2) _ _ q1)
    rcases r2.cases with ⟨p, rfl, h1, h2, e2⟩ | ⟨q2, e2⟩
    · rw [e2] at k2
      refine l.nx (p :: P) _ H2 _ ⟨s2.grow, (s1.ok.set (i := i) q1).put g2 h1 h2, fun a ha => ?_⟩ k2
      rcases List.mem_cons.mp ha with z | z
      · exact .inr (z ▸ s1.grow.none h1)
      · exact s.new a z
    · rw [e2] at k2
      exact l.nx P _ H2 _ ⟨s2.grow, o1.set q2, s2.new⟩ k2
/-! ### for -/
def forGo (G : MG) (m : MS) : List D → MD → MEnv → Prop
  | [], M, ρ => M.nx ρ
  | d :: ds, M, ρ => G d ρ fun ρ' => m { M with nx := forGo G m ds M, ct := forGo G m ds M, bk := M.nx } ρ'
def sFor (G : MG) (mi : MA) (m : MS) : MS := fun M ρ => mi ρ (fun ds => forGo G m ds M ρ) (M.ex ρ)
theorem StOk.drop {K : PySem.W.Frag} {g : Gd} {T : List Keep} {P : List Addr} {H : Hp} {σ : St} {ρ : MEnv} (s : StOk K { g with T := T ++ g.T } P H σ ρ) : StOk K g P H σ ρ :=
  ⟨s.grow, ⟨s.ok.good, s.ok.bag0, s.ok.sub, fun q hq => s.ok.tmp q (List.mem_append_right _ hq), let ⟨o, r⟩ := s.ok.rel; ⟨o, r.len, r.sh, r.ow, r.inj⟩⟩, s.new⟩
theorem cs_for {body : List Stmt} {iter : Expr} (hp : PassesOwn (model X.prog X.w) X.A X.env X.xe) (hi : PI X tg iter (iM X.K W mi)) (hg : PG X tg (gM X.K G)) (hb : PSs X body (sM X.K W fr m)) (hc : X.calm = true := by rfl) (hs : ∀ x, foldedSetIterable iter X.env x = pure x := by intro _; rfl) :
    PS X (.For tg iter body [] pos) (sM X.K W fr (sFor G mi m)) := (ps_for hp hc hi hg hb hs).imp fun De σ H ⟨g, P, ρ, M, s, hm, l⟩ => by
  refine ⟨⟨g.b, g.P0, P, g.T⟩, ρ, _, M.ex ρ, s.ok, hm, fun ds J T H1 kd gr hT feeds => ?_, fun x cls dd H' e gr z => l.ex P σ H' ρ x cls dd (s.go gr) e z⟩
  have s1 : StOk X.K { g with T := T ++ g.T } P H1 σ ρ := by
    have s0 := s.go gr
    exact ⟨s0.grow, ⟨s0.ok.good, s0.ok.bag0, s0.ok.sub, fun q hq => (List.mem_append.mp hq).elim (fun z => hT q z) (fun z => s0.ok.tmp q z), let ⟨o, r⟩ := s0.ok.rel; ⟨o, r.len, r.sh, r.ow, r.inj⟩⟩, s0.new⟩
  refine ⟨fun i mm σ' H' => mm = ds.length - i ∧ i ≤ ds.length ∧ ∃ P' ρ', StOk X.K { g with T := T ++ g.T } P' H' σ' ρ' ∧ forGo G m (ds.drop i) M ρ', ⟨ds.length, rfl, Nat.zero_le _, P, ρ, s1, kd⟩, ?_⟩
  rintro i mm σ' H' ⟨rfl, hi, P', ρ', s2, hq⟩
  obtain ⟨f1, f2⟩ := feeds g.b P' H' s2.ok.good (fun q hq => s2.ok.tmp q (List.mem_append_left _ hq))
  by_cases hlt : i < ds.length
  · rw [List.drop_eq_getElem_cons hlt] at hq
    obtain ⟨go, yl⟩ := f1 i ds[i] (List.getElem?_eq_getElem hlt)
    refine .inr ⟨go, fun σ3 H3 => ∃ P3 ρ3, StOk X.K { g with T := T ++ g.T } P3 H3 σ3 ρ3 ∧ forGo G m (ds.drop (i + 1)) M ρ3, fun σ3 H3 ⟨P3, ρ3, s3, q3⟩ => ⟨ds.length - (i + 1), by omega, rfl, hlt, P3, ρ3, s3, q3⟩, fun x H2 hy => ?_⟩
    obtain ⟨gy, ry⟩ := yl x H2 hy
    refine ⟨_, ρ', ds[i], _, (s2.go gy).ok, ry, hq, fun ρ'' σ'' k'' ok'' => ?_⟩
    exact ⟨{ g with T := T ++ g.T }, P', ρ'', _, ⟨(s2.go gy).grow, ok'', s2.new⟩, k'', fun P3 σ3 H3 ρ3 s3 q3 => ⟨P3, ρ3, s3, q3⟩, fun d v H kd gr r => l.rt d v H kd gr r, fun P3 σ3 H3 ρ3 s3 q3 => l.nx P3 σ3 H3 ρ3 s3.drop q3, fun P3 σ3 H3 ρ3 s3 q3 => ⟨P3, ρ3, s3, q3⟩, fun P3 σ3 H3 ρ3 x cls dd s3 e z => l.ex P3 σ3 H3 ρ3 x cls dd s3.drop e z⟩
  · have e : i = ds.length := by omega
    subst e
    rw [List.drop_length] at hq
    exact .inl ⟨f2, l.nx P' σ' H' ρ' s2.drop hq⟩
end
end DM
end
section
set_option Elab.async false
set_option linter.all false
set_option maxRecDepth 100000
set_option maxHeartbeats 4000000
namespace DM
open PySem L2 Evl

/-! ### wiping -/
theorem wipe_in {σ : St} {i : Nat} : ∀ {vs : List Nat}, i ∈ vs → (wipe σ vs)[i]? = if i < σ.length then some none else none
  | v :: vs, h => by
    unfold wipe
    by_cases hv : v = i
    · subst hv
      by_cases hl : v < σ.length
      · rw [List.getElem?_set_self (by rw [wipe_length]; exact hl), if_pos hl]
      · rw [List.getElem?_eq_none (by rw [List.length_set, wipe_length]; omega), if_neg hl]
    · rw [List.getElem?_set_ne hv]
      exact wipe_in ((List.mem_cons.mp h).resolve_left fun z => hv z.symm)
theorem wipe_set {σ : St} {i : Nat} {x : Option V} {vs : List Nat} (h : i ∈ vs) : wipe (σ.set i x) vs = wipe σ vs := by
  refine List.ext_getElem? fun t => ?_
  by_cases ht : t ∈ vs
  · rw [wipe_in ht, wipe_in ht, List.length_set]
  · rw [wipe_out ht, wipe_out ht, List.getElem?_set_ne (show i ≠ t from fun z => ht (z ▸ h))]
theorem wipe_wipe {σ : St} {vs : List Nat} : wipe (wipe σ vs) vs = wipe σ vs := by
  refine List.ext_getElem? fun t => ?_
  by_cases ht : t ∈ vs
  · rw [wipe_in ht, wipe_in ht, wipe_length]
  · rw [wipe_out ht]
def wipeM (ρ : MEnv) : List Nat → MEnv
  | [] => ρ
  | v :: vs => (wipeM ρ vs).set v .no
theorem Ok.void {K : PySem.W.Frag} {c : Cc} {H : Hp} {σ : St} {ρ : MEnv} {i : Nat} (h : Ok K c H σ ρ) : Ok K c H (σ.set i none) (ρ.set i .no) := by
  obtain ⟨h1, h2, h3, h4, o, q⟩ := h
  have hne : ∀ (j : Nat) s, s ≠ .no → (ρ.set i .no)[j]? = some s → ρ[j]? = some s ∧ j ≠ i := fun j s ns e => by
    by_cases hj : j = i
    · subst hj
      by_cases hl : j < ρ.length
      · rw [List.getElem?_set_self hl] at e; cases e; exact absurd rfl ns
      · rw [List.getElem?_eq_none (by simpa using hl)] at e; cases e
    · rw [List.getElem?_set_ne (Ne.symm hj)] at e; exact ⟨e, hj⟩
  refine ⟨h1, h2, h3, h4, o, by rw [List.length_set, List.length_set]; exact q.len, fun j e z => ?_, fun j e z => ?_, fun j l e f y z w => q.inj j l e f (hne j _ (fun y => by cases y) y).1 (hne l _ (fun y => by cases y) z).1 w⟩
  · obtain ⟨z1, z2⟩ := hne j _ (fun y => by cases y) z
    rw [List.getElem?_set_ne (Ne.symm z2)]
    exact q.sh j e z1
  · obtain ⟨z1, z2⟩ := hne j _ (fun y => by cases y) z
    rw [List.getElem?_set_ne (Ne.symm z2)]
    exact q.ow j e z1
theorem Ok.wipe {K : PySem.W.Frag} {c : Cc} {H : Hp} {σ : St} {ρ : MEnv} (h : Ok K c H σ ρ) : ∀ vs : List Nat, Ok K c H (L2.wipe σ vs) (wipeM ρ vs)
  | [] => h
  | v :: vs => (Ok.wipe h vs).void
theorem Ok.tmps {K : PySem.W.Frag} {c : Cc} {H : Hp} {σ : St} {ρ : MEnv} (h : Ok K c H σ ρ) {T : List Keep} (hT : ∀ q ∈ T, q.p c.b (era c.P H)) : Ok K ⟨c.b, c.P0, c.P, T ++ c.T⟩ H σ ρ :=
  ⟨h.good, h.bag0, h.sub, fun q hq => (List.mem_append.mp hq).elim (fun z => hT q z) (fun z => h.tmp q z), let ⟨o, r⟩ := h.rel; ⟨o, r.len, r.sh, r.ow, r.inj⟩⟩

/-! ### targets of comprehensions -/
inductive Tg where
  | nm (j : Nat)
  | tp (js : List Nat)
def Tg.slots : Tg → List Nat
  | .nm j => [j]
  | .tp js => js
def Tg.g (K : PySem.W.Frag) : Tg → TG
  | .nm j => gName j
  | .tp js => gTup K js.length (gNs js)
def Tg.m : Tg → D → MEnv → (MEnv → Prop) → Prop
  | .nm j, d, ρ, k => k (ρ.set j (.sh d))
  | .tp js, .tup ds, ρ, k => ds.length = js.length ∧ k (setAll ρ js ds)
  | .tp _, _, _, _ => False
theorem gNs_wipe {K : PySem.W.Frag} {c : Cc} {H : Hp} {vs : List Nat} : ∀ {js : List Nat} {ds : List D} {xs : List V} {σ : St} {ρ : MEnv} {Q : St → Hp → Prop}, Ok K c H σ ρ → RpL K c.b (era c.P H) ds xs → ds.length = js.length → (∀ j ∈ js, j ∈ vs) → (∀ σ', L2.wipe σ' vs = L2.wipe σ vs → Ok K c H σ' (setAll ρ js ds) → Q σ' H) → gNs js xs σ H Q
  | [], [], xs, σ, ρ, Q, ok, r, _, _, h => ⟨rpl_nil.mp r, h σ rfl ok⟩
  | [], _ :: _, xs, σ, ρ, Q, ok, r, l, _, h => by cases l
  | _ :: _, [], xs, σ, ρ, Q, ok, r, l, _, h => by cases l
  | j :: js, d :: ds, xs, σ, ρ, Q, ok, r, l, hv, h => by
    obtain ⟨x, q, rfl, h1, h2⟩ := rpl_cons.mp r
    exact ⟨x, q, rfl, gNs_wipe (ok.set h1) h2 (by simpa using l) (fun i hi => hv i (List.mem_cons_of_mem _ hi)) fun σ' e ok' => h σ' (e.trans (wipe_set (hv j List.mem_cons_self))) ok'⟩
theorem Tg.ok {K : PySem.W.Frag} {c : Cc} {H : Hp} {vs : List Nat} {σ : St} {ρ : MEnv} {d : D} {v : V} {k : MEnv → Prop} {Q : St → Hp → Prop} (tg : Tg) (ok : Ok K c H σ ρ) (r : Rp K c.b (era c.P H) d v) (hv : ∀ j ∈ tg.slots, j ∈ vs) (hm : tg.m d ρ k)
    (h : ∀ σ' ρ', L2.wipe σ' vs = L2.wipe σ vs → k ρ' → Ok K c H σ' ρ' → Q σ' H) : tg.g K v σ H Q := by
  cases tg with
  | nm j => exact h _ _ (wipe_set (hv j List.mem_cons_self)) hm (ok.set r)
  | tp js =>
    cases d with
    | tup ds =>
      obtain ⟨a, xs, rfl, h1, _, h2⟩ := rp_tupS r
      exact ⟨a, xs, rfl, sqt_up h1, by rw [h2.len, hm.1], gNs_wipe ok h2 hm.1 hv fun σ' e ok' => h σ' _ e hm.2 ok'⟩
    | _ => exact hm.elim

/-! ### list comprehensions -/
abbrev W0 : WX := fun _ _ _ _ => False
abbrev no1 : Exn → Prop := fun _ => False
def tYesM : MT := fun _ k _ => k true
def lcGo (tg : Tg) (mt : MT) (me : MX) (ρ : MEnv) (k : D → Prop) : List D → List D → Prop
  | [], acc => k (.lst acc)
  | d :: ds, acc => tg.m d ρ fun ρ' => mt ρ' (fun c => if c = true then me ρ' (fun y => lcGo tg mt me ρ k ds (acc ++ [y])) no1 else lcGo tg mt me ρ k ds acc) no1
def xLc (vs : List Nat) (tg : Tg) (mi : MA) (mt : MT) (me : MX) : MX := fun ρ k ex => mi ρ (fun ds => ds.length ≤ LN ∧ lcGo tg mt me (wipeM ρ vs) k ds []) ex
theorem lc_turns {K : PySem.W.Frag} {vs : List Nat} {tg : Tg} {mt : MT} {me : MX} (hv : ∀ j ∈ tg.slots, j ∈ vs) {c : Cc} {ρ : MEnv} {σ : St} {H1 : Hp} {k : D → Prop} {Q : VK} {J : It} {T : List Keep} {ds : List D} (ok : Ok K c H1 σ ρ) (hlen : ds.length ≤ LN) (kd : lcGo tg mt me (wipeM ρ vs) k ds [])
    (hT : ∀ q ∈ T, q.p c.b (era c.P H1)) (feeds : Feeds K J T ds) (hk : ∀ d v H', k d → Grow c.b H1 H' → Res K true c.b c.P H1 H' v d → Q v H') : tLc (fun _ _ R => R J H1) (tg.g K) (tT K W0 mt) (tM K W0 false me) vs σ H1 Q := by
  intro Dd hD
  have g := ok.refl
  have g0 := ok.good.grow g
  have gD : Grow c.b H1 (upd H1 Dd (.lst [])) := Grow.new g0 hD
  have okT : Ok K ⟨c.b, c.P0, Dd :: c.P, T ++ c.T⟩ (upd H1 Dd (.lst [])) (L2.wipe σ vs) (wipeM ρ vs) := ((ok.tmps hT).add gD hD (by rw [upd_same]; exact fun z => nomatch z)).wipe vs
  refine ⟨fun i mm H' => mm = ds.length - i ∧ i ≤ ds.length ∧ Grow c.b H1 H' ∧ Ok K ⟨c.b, c.P0, Dd :: c.P, T ++ c.T⟩ H' (L2.wipe σ vs) (wipeM ρ vs) ∧ ∃ acc accV, H' Dd = some (.lst accV) ∧ RpL K c.b (era (Dd :: c.P) H') acc accV ∧ acc.length ≤ i ∧ lcGo tg mt me (wipeM ρ vs) k (ds.drop i) acc,
    ⟨ds.length, rfl, Nat.zero_le _, gD, okT, [], [], upd_same, rpl_nil.mpr rfl, Nat.le_refl _, kd⟩, ?_⟩
  rintro i mm H' ⟨rfl, hi, g2, ok2, acc, accV, hDv, hR, hal, hq⟩
  obtain ⟨f1, f2⟩ := feeds c.b (Dd :: c.P) H' ok2.good (fun q hq => ok2.tmp q (List.mem_append_left _ hq))
  by_cases hlt : i < ds.length
  · rw [List.drop_eq_getElem_cons hlt] at hq
    obtain ⟨go, yl⟩ := f1 i ds[i] (List.getElem?_eq_getElem hlt)
    refine .inr ⟨go, fun H3 => Grow c.b H1 H3 ∧ Ok K ⟨c.b, c.P0, Dd :: c.P, T ++ c.T⟩ H3 (L2.wipe σ vs) (wipeM ρ vs) ∧ ∃ acc accV, H3 Dd = some (.lst accV) ∧ RpL K c.b (era (Dd :: c.P) H3) acc accV ∧ acc.length ≤ i + 1 ∧ lcGo tg mt me (wipeM ρ vs) k (ds.drop (i + 1)) acc,
      fun H3 ⟨a1, a2, a3⟩ => ⟨ds.length - (i + 1), by omega, rfl, hlt, a1, a2, a3⟩, fun x H2 hy => ?_⟩
    obtain ⟨gy, ry⟩ := yl x H2 hy
    have nb : ∀ q, c.b = some q → Dd ≠ q.1 := fun q hq z => g0.al Dd (by rw [z]; exact (g0.bag q hq).1) hD
    refine Tg.ok tg (ok2.grow gy) ry hv hq fun σ2 ρ2 ew hq2 ok3 => ⟨ew.trans wipe_wipe, ?_⟩
    refine ⟨_, ρ2, _, no1, ok3, hq2, fun b H3 kb g3 => ?_, fun _ _ _ _ z => z.elim⟩
    have okb := (ok2.grow gy).grow g3
    have hD3 : H3 Dd = some (.lst accV) := g3.keep _ _ nb (gy.keep _ _ nb hDv)
    have hR3 : RpL K c.b (era (Dd :: c.P) H3) acc accV := RpL.mono ((ok2.grow gy).good.era g3) _ _ (RpL.mono (ok2.good.era gy) _ _ hR)
    cases b with
    | false => exact ⟨(g2.trans gy).trans g3, okb, acc, accV, hD3, hR3, Nat.le_succ_of_le hal, kb⟩
    | true =>
      refine ⟨_, ρ2, _, no1, ok3.grow g3, kb, fun y v H4 ky g4 r4 => ?_, fun _ _ _ _ z => z.elim⟩
      have hD4 : H4 Dd = some (.lst accV) := g4.keep _ _ nb hD3
      have ok4 := okb.grow g4
      have hR4 : RpL K c.b (era (Dd :: c.P) H4) acc accV := RpL.mono (okb.good.era g4) _ _ hR3
      have e4 : era (Dd :: c.P) (upd H4 Dd (.lst (accV ++ [v]))) = era (Dd :: c.P) H4 := era_upd List.mem_cons_self
      have g5 : Grow c.b H1 (upd H4 Dd (.lst (accV ++ [v]))) := ⟨fun a o hb e => by rw [upd_ne (ne_of_none e hD)]; exact (((g2.trans gy).trans g3).trans g4).keep a o hb e, fun q hq => by
        obtain ⟨ne, x0, x1, x2, ns, b1, b2, b3⟩ := g4.bag q hq
        have n1 : q.1 ≠ Dd := fun z => nb q hq z.symm
        have n2 : q.2 ≠ Dd := fun z => g0.al Dd (by rw [← z]; exact (g0.bag q hq).2.1) hD
        exact ⟨ne, x0, x1, x2, ns, by rw [upd_ne n1]; exact b1, by rw [upd_ne n2]; exact b2, b3⟩⟩
      refine ⟨accV, hD4, ?_, g5, ?_, acc ++ [y], accV ++ [v], upd_same, ?_, ?_, ky⟩
      · rw [hR4.len]
        exact Nat.lt_of_lt_of_le (Nat.lt_of_le_of_lt hal hlt) (LN_size hlen)
      · obtain ⟨o1, o2, o3, o4, oo, oq⟩ := ok4
        refine ⟨⟨fun q hq => ⟨(o1.bag q hq).1, (o1.bag q hq).2.1, g5.bag q hq⟩, fun a ha z => ?_, fun a ha xs z => ?_⟩, o2, o3, fun q hq => by show q.p c.b (era (Dd :: c.P) (upd H4 Dd (.lst (accV ++ [v])))); rw [e4]; exact o4 q hq, oo, oq.len, fun j e z => ?_, fun j e z => ?_, oq.inj⟩
        · by_cases ea : a = Dd
          · rw [ea, upd_same] at z; cases z
          · rw [upd_ne ea] at z; exact o1.al a ha z
        · by_cases ea : a = Dd
          · rw [ea, upd_same] at z; cases z
          · rw [upd_ne ea] at z; exact o1.nt a ha xs z
        · show ∃ v', _ ∧ Rp K c.b (era (Dd :: c.P) (upd H4 Dd (.lst (accV ++ [v])))) e v'
          rw [e4]
          exact oq.sh j e z
        · obtain ⟨w1, w2, w3, w4⟩ := oq.ow j e z
          have nj : oo j ≠ Dd := fun z' => by
            obtain ⟨o', q'⟩ := ok.rel
            obtain ⟨o'', q''⟩ := (ok.wipe vs).rel
            obtain ⟨y1, y2, _⟩ := q''.ow j e z
            rw [y1] at w1
            have : o'' j = oo j := by injection w1 with w1; injection w1 with w1; injection w1 with w1
            exact ok.good.al (o'' j) y2 (by rw [this, z']; exact hD)
          exact ⟨w1, w2, w3, w4.mono (by show Ex (era (Dd :: c.P) H4) (era (Dd :: c.P) (upd H4 Dd (.lst (accV ++ [v])))); rw [e4]; exact Ex.refl _) fun u w => by rw [upd_ne nj]; exact w⟩
      · rw [e4]
        exact hR4.append (RpL.one r4.sh)
      · rw [List.length_append, List.length_singleton]
        omega
  · have e : i = ds.length := by omega
    subst e
    rw [List.drop_length] at hq
    refine .inl ⟨f2, hk _ _ H' hq g2 ?_⟩
    exact .inl ⟨Dd, rfl, hD, accV, hDv, Nat.le_trans hal hlen, hR⟩
theorem lc_imp {K : PySem.W.Frag} {W : WX} {vs : List Nat} {tg : Tg} {mi : MA} {mt : MT} {me : MX} (hv : ∀ j ∈ tg.slots, j ∈ vs) : ∀ σ H Q, tM K W true (xLc vs tg mi mt me) σ H Q → tLc (iM K W mi) (tg.g K) (tT K W0 mt) (tM K W0 false me) vs σ H Q := fun σ H Q ⟨c, ρ, k, ex, ok, hm, hk, hx⟩ =>
  ⟨c, ρ, _, ex, ok, hm, fun ds J T H1 kd g hT feeds => lc_turns hv (ok.grow g) kd.1 kd.2 hT feeds fun d v H' kk gr r => hk d v H' kk (g.trans gr) (r.back g), hx⟩
section
variable {X : Cx} {W : WX} {fr : Bool} {elt tg iter : Expr} {ifs : List Expr} {scope : Scope} {own : List (Str × Nat)} {pos : Pos} {mi : MA} {mt : MT} {me : MX}
theorem cts_nil : PTs X [] (tT X.K W tYesM) := ⟨fun pins s σ H Q I h => pts_nil.run pins s σ H Q I (by obtain ⟨c, ρ, k, ex, ok, hm, hk, hx⟩ := h; exact hk _ _ hm ok.refl)⟩
theorem cts_one {c : Expr} {t : MT} (h : PT X c (tT X.K W t)) : PTs X [c] (tT X.K W t) := pts_one h
theorem ce_lc {vs : List Nat} (T : Tg) (hN : X.N.Nodup) (hi : PI X tg iter (iM X.K W mi)) (ok : BlkOk X.N X.env.scope scope own) (hvs : own.map (·.2) = vs) (hv : ∀ j ∈ T.slots, j ∈ own.map (·.2))
    (hg : ∀ (s : Shared) (H : Hp) (C : Addr) (cl : List (Str × Addr)) (fp : List Addr), PG (X.blk s H scope (compEnvC scope cl C X.env) fp) tg (T.g X.K)) (ht : ∀ (s : Shared) (H : Hp) (C : Addr) (cl : List (Str × Addr)) (fp : List Addr), PTs (X.blk s H scope (compEnvC scope cl C X.env) fp) ifs (tT X.K W0 mt))
    (he : ∀ (s : Shared) (H : Hp) (C : Addr) (cl : List (Str × Addr)) (fp : List Addr), PE (X.blk s H scope (compEnvC scope cl C X.env) fp) elt (tM X.K W0 false me)) (hc : X.calm = true := by rfl) (hs : ∀ x, foldedSetIterable iter X.env x = pure x := by intro _; rfl) :
    PE X (.ListComp elt [⟨tg, iter, ifs, 0⟩] scope pos) (tM X.K W true (xLc vs T mi mt me)) := by subst hvs; exact (pe_lc hc hN hi ok hg ht he hs).imp (lc_imp hv)
/-- y = [..]: y new and owned, or shared -/
theorem cs_asgLc {vs : List Nat} (i : Nat) {y : Str} {py spos : Pos} (T : Tg) (hN : X.N.Nodup) (hi : PI X tg iter (iM X.K W mi)) (ok : BlkOk X.N X.env.scope scope own) (hvs : own.map (·.2) = vs) (hv : ∀ j ∈ T.slots, j ∈ own.map (·.2))
    (hg : ∀ (s : Shared) (H : Hp) (C : Addr) (cl : List (Str × Addr)) (fp : List Addr), PG (X.blk s H scope (compEnvC scope cl C X.env) fp) tg (T.g X.K)) (ht : ∀ (s : Shared) (H : Hp) (C : Addr) (cl : List (Str × Addr)) (fp : List Addr), PTs (X.blk s H scope (compEnvC scope cl C X.env) fp) ifs (tT X.K W0 mt))
    (he : ∀ (s : Shared) (H : Hp) (C : Addr) (cl : List (Str × Addr)) (fp : List Addr), PE (X.blk s H scope (compEnvC scope cl C X.env) fp) elt (tM X.K W0 false me))
    (hsw : swapsWith (.ListComp elt [⟨tg, iter, ifs, 0⟩] scope pos) (some (.Name y py)) spos.line X.env = pure true) (hc : X.calm = true := by rfl) (hy : X.N[i]? = some y := by rfl) (hyl : X.env.scope.names.lookup y = some .local := by rfl) (hs : ∀ x, foldedSetIterable iter X.env x = pure x := by intro _; rfl) :
    PS X (.Assign [.Name y py] (.ListComp elt [⟨tg, iter, ifs, 0⟩] scope pos) spos) (sM X.K W fr (sAsg i (xLc vs T mi mt me))) := by
  subst hvs
  exact (ps_setLc hc hN hy hyl hsw hi ok hg ht he hs).imp fun De σ H ⟨g, P, ρ, M, s, hm, l⟩ =>
    lc_imp hv _ _ _ (useE (f := true) s l hm fun d v H' kd gr r s' => l.nx P _ H' _ ⟨s'.grow, s'.ok.set (r.rp s.good.al), s'.new⟩ kd)
theorem cs_ownLc {vs : List Nat} (i : Nat) {y : Str} {py spos : Pos} (T : Tg) (hN : X.N.Nodup) (hi : PI X tg iter (iM X.K W mi)) (ok : BlkOk X.N X.env.scope scope own) (hvs : own.map (·.2) = vs) (hv : ∀ j ∈ T.slots, j ∈ own.map (·.2))
    (hg : ∀ (s : Shared) (H : Hp) (C : Addr) (cl : List (Str × Addr)) (fp : List Addr), PG (X.blk s H scope (compEnvC scope cl C X.env) fp) tg (T.g X.K)) (ht : ∀ (s : Shared) (H : Hp) (C : Addr) (cl : List (Str × Addr)) (fp : List Addr), PTs (X.blk s H scope (compEnvC scope cl C X.env) fp) ifs (tT X.K W0 mt))
    (he : ∀ (s : Shared) (H : Hp) (C : Addr) (cl : List (Str × Addr)) (fp : List Addr), PE (X.blk s H scope (compEnvC scope cl C X.env) fp) elt (tM X.K W0 false me))
    (hsw : swapsWith (.ListComp elt [⟨tg, iter, ifs, 0⟩] scope pos) (some (.Name y py)) spos.line X.env = pure true) (hc : X.calm = true := by rfl) (hy : X.N[i]? = some y := by rfl) (hyl : X.env.scope.names.lookup y = some .local := by rfl) (hs : ∀ x, foldedSetIterable iter X.env x = pure x := by intro _; rfl) :
    PS X (.Assign [.Name y py] (.ListComp elt [⟨tg, iter, ifs, 0⟩] scope pos) spos) (sM X.K W fr (sOwn i (xLc vs T mi mt me))) := by
  subst hvs
  exact (ps_setLc hc hN hy hyl hsw hi ok hg ht he hs).imp fun De σ H ⟨g, P, ρ, M, s, hm, l⟩ =>
    lc_imp hv _ _ _ (useE (f := true) s l hm fun d v H' kd gr r s' => by
      rcases r.cases with ⟨p, rfl, h1, h2, es⟩ | ⟨h1, es⟩
      · have es : slO d = .ow d := es
        rw [es] at kd
        refine l.nx (p :: P) _ H' _ ⟨s'.grow, s.ok.put gr h1 h2, fun a ha => ?_⟩ kd
        rcases List.mem_cons.mp ha with z | z
        · exact .inr (z ▸ s.grow.none h1)
        · exact s.new a z
      · have es : slO d = .sh d := es
        rw [es] at kd
        exact l.nx P _ H' _ ⟨s'.grow, s'.ok.set h1, s'.new⟩ kd)
end
end DM
end
section
set_option Elab.async false
set_option linter.all false
set_option maxRecDepth 100000
set_option maxHeartbeats 4000000
namespace DM
open PySem L2 Evl

/-! ### isinstance with built-in classes -/
def tyNm : D → Option String
  | .non => some "NoneType"
  | .bl _ => some "bool"
  | .int _ => some "int"
  | .str _ => some "str"
  | .lst _ => some "list"
  | .tup _ => some "tuple"
  | .ktp _ => some "tuple"
  | .dtt _ => none
  | .dct _ => some "dict"
  | .ins _ _ => none
  | .new _ _ _ => none
  | .scr _ => none
  | .exo _ _ _ => none
  | .bag => some "list"
theorem rp_ty {K : PySem.W.Frag} {bg : Bg} {P : List Addr} {H : Hp} {d : D} {v : V} {t : String} (g : GoodP bg P H) (h : Rp K bg (era P H) d v) (ht : tyNm d = some t) : TyX K H v (.type t) := by
  cases d with
  | non => cases ht; rw [rp_non.mp h]; exact .base .non
  | bl b => cases ht; rw [rp_bl.mp h]; exact .base (.bl b)
  | int i => cases ht; rw [rp_int.mp h]; exact .base (.int i)
  | str x => cases ht; rw [(rp_str.mp h).1]; exact .base (.str x)
  | lst ds => cases ht; obtain ⟨a, xs, rfl, h1, _⟩ := rp_lst.mp h; exact .base (.lst (era_le _ _ h1))
  | tup ds =>
    cases ht
    obtain ⟨a, xs, rfl, h1, _⟩ := rp_tupS h
    rcases sqt_up h1 with (h1 | ⟨o, h1⟩) | h1
    · exact .base (.tup h1)
    · exact .fTuple h1
    · obtain ⟨o, its, n, e, c, _⟩ := h1
      exact .kTuple e c
  | ktp ds =>
    cases ht
    obtain ⟨a, xs, rfl, h1, _⟩ := rp_ktp.mp h
    rcases sqt_up h1 with (h1 | ⟨o, h1⟩) | h1
    · exact .base (.tup h1)
    · exact .fTuple h1
    · obtain ⟨o, its, n, e, c, _⟩ := h1
      exact .kTuple e c
  | dct ds =>
    cases ht
    obtain ⟨a, xs, rfl, h1, _⟩ := rp_dct.mp h
    rcases ex_rd era_le h1 with h1 | ⟨o, h1⟩
    · exact .base (.dK h1)
    · exact .fDict h1
  | dtt ds => cases ht
  | ins c ds => cases ht
  | new x c ds => cases ht
  | scr ns => cases ht
  | exo a dd ds => cases ht
  | bag =>
    cases ht
    obtain ⟨p, hp, rfl⟩ := rp_bag.mp h
    obtain ⟨_, x0, x1, x2, ns, e, _⟩ := (g.bag p hp).2.2
    exact .base (.lst e)
/-- what isinstance answers for one class, for several -/
def dIsi (c : String) (d : D) (k : D → Prop) : Prop := ∃ t b, tyNm d = some t ∧ kitB t c = some b ∧ k (.bl b)
def kitBs (t : String) : List String → Option Bool
  | [] => some false
  | c :: r => match kitB t c with
    | some true => some true
    | some false => kitBs t r
    | none => none
def dIsiT (cs : List String) (d : D) (k : D → Prop) : Prop := ∃ t b, tyNm d = some t ∧ kitBs t cs = some b ∧ k (.bl b)
theorem kitBs_any {K : PySem.W.Frag} {t : String} : ∀ {cs : List String} {b : Bool}, kitBs t cs = some b → PySem.W.kitAny K (.type t) (cs.map Value.type) = some b
  | [], b, h => h
  | c :: r, b, h => by
    unfold kitBs at h
    show (match PySem.W.kitOne K (.type t) (.type c) with | some true => some true | some false => PySem.W.kitAny K (.type t) (r.map Value.type) | none => none) = some b
    cases q : kitB t c with
    | none => rw [q] at h; cases h
    | some x =>
      rw [kit_ty q]
      rw [q] at h
      cases x with
      | true => exact h
      | false => exact kitBs_any h
section
variable {X : Cx} {W : WX} {e : Expr} {p q pos : Pos} {m : MX}
theorem ce_isi {c : Str} {T : String} (mi : X.mg "isinstance" = none) (mc : X.mg c = none) (hv : bootBuiltins c = some (.type T)) (h : PE X e (tM X.K W false m)) (gi : Gl X "isinstance" := by rfl) (gc : Gl X c := by rfl) (hn : c ≠ "__name__" := by decide) (hd : (c == ("__debug__" : Str)) = false := by decide)
    (hs : starEach [e, .Name c q] X.env = (false, eval e X.env) :: starEach [.Name c q] X.env := by rfl) (hpl : (backTo pos (starEach [.Name c q] X.env)).any (·.1) = false := by rfl) : PE X (.Call (.Name "isinstance" p) [e, .Name c q] [] pos) (tM X.K W false (xUn (dIsi T) m)) :=
  (pe_callB call_isi gi mi PyProof.Rows.boot_isinstance (pa_cons h (pa_cons (pe_bltn (v := .ty T) gc mc hv rfl hn hd) pa_nil) hs) (by decide) (by decide) hs hpl).imp fun σ H Q ⟨c, ρ, k, ex, ok, hm, hk, hx⟩ => ⟨c, ρ, _, ex, ok, hm, fun d v H1 kd g r => by
    obtain ⟨t, b, h1, h2, h3⟩ := kd
    exact ⟨v, .ty T, .type t, .type T, b, rfl, .ty T, rp_ty (ok.good.grow g) r.sh h1, kit_ty h2, hk _ _ H1 h3 g (Res.of (rp_bl.mpr rfl))⟩, hx⟩
/-- isinstance(x, (list, tuple)) -/
theorem ce_isi2 {c1 c2 : Str} {T1 T2 : String} {q1 q2 q3 : Pos} {x1} (mi : X.mg "isinstance" = none) (m1 : X.mg c1 = none) (v1 : bootBuiltins c1 = some (.type T1)) (m2 : X.mg c2 = none) (v2 : bootBuiltins c2 = some (.type T2)) (h : PE X e (tM X.K W false m)) (gi : Gl X "isinstance" := by rfl) (g1 : Gl X c1 := by rfl) (n1 : c1 ≠ "__name__" := by decide) (d1 : (c1 == ("__debug__" : Str)) = false := by decide)
    (g2 : Gl X c2 := by rfl) (n2 : c2 ≠ "__name__" := by decide) (d2 : (c2 == ("__debug__" : Str)) = false := by decide)
    (hs : starEach [e, .Tuple [.Name c1 q1, .Name c2 q2] x1 q3] X.env = (false, eval e X.env) :: starEach [.Tuple [.Name c1 q1, .Name c2 q2] x1 q3] X.env := by rfl) (hpl : (backTo pos (starEach [.Tuple [.Name c1 q1, .Name c2 q2] x1 q3] X.env)).any (·.1) = false := by rfl) :
    PE X (.Call (.Name "isinstance" p) [e, .Tuple [.Name c1 q1, .Name c2 q2] x1 q3] [] pos) (tM X.K W false (xUn (dIsiT [T1, T2]) m)) :=
  (pe_callB call_isiT gi mi PyProof.Rows.boot_isinstance (pa_cons h (pa_cons (pe_tup (pa_cons (pe_bltn (v := .ty T1) g1 m1 v1 rfl n1 d1) (pa_cons (pe_bltn (v := .ty T2) g2 m2 v2 rfl n2 d2) pa_nil))) pa_nil) hs) (by decide) (by decide) hs hpl).imp fun σ H Q ⟨c, ρ, k, ex, ok, hm, hk, hx⟩ => ⟨c, ρ, _, ex, ok, hm, fun d v H1 kd g r => by
    obtain ⟨t, b, h1, h2, h3⟩ := kd
    refine ⟨by show 2 ≤ sizeLine; decide, fun tp htp => ?_⟩
    have g1 := ok.good.grow g
    have gr := Grow.new (o := .tup [.ty T1, .ty T2]) g1 htp
    exact ⟨v, tp, [.ty T1, .ty T2], .type t, [.type T1, .type T2], b, rfl, upd_same, .cons (.ty T1) (.cons (.ty T2) .nil), rp_ty (g1.grow gr) (Rp.mono (g1.era gr) _ _ r.sh) h1, kitBs_any h2, hk _ _ _ h3 (g.trans gr) (Res.of (rp_bl.mpr rfl))⟩, hx⟩
end

/-! ### a look at an owned slot -/
mutual
/-- plain values and tuples of such -/
def noLD : D → Bool
  | .non => true
  | .bl _ => true
  | .int _ => true
  | .str _ => true
  | .tup ds => noLDs ds
  | _ => false
def noLDs : List D → Bool
  | [] => true
  | d :: ds => noLD d && noLDs ds
end
mutual
theorem rp_noL {K : PySem.W.Frag} {bg : Bg} {P P' : List Addr} {H : Hp} (g : GoodP bg P H) : ∀ (d : D) (v : V), noLD d = true → Rp K bg (era P' H) d v → Rp K bg (era P H) d v
  | .non, v, _, h => by rw [rp_non] at h ⊢; exact h
  | .bl _, v, _, h => by rw [rp_bl] at h ⊢; exact h
  | .int _, v, _, h => by rw [rp_int] at h ⊢; exact h
  | .str _, v, _, h => by rw [rp_str] at h ⊢; exact h
  | .tup ds, v, f, h => by
    obtain ⟨a, xs, rfl, h1, h2, h3⟩ := rp_tup.mp h
    have e := (era_some h1).1
    exact rp_tup.mpr ⟨a, xs, rfl, by rw [era_out fun z => g.nt a z _ e]; exact e, h2, rpl_noL g ds xs (by simpa [noLD] using f) h3⟩
  | .lst _, _, f, _ => by simp [noLD] at f
  | .ktp _, _, f, _ => by simp [noLD] at f
  | .dct _, _, f, _ => by simp [noLD] at f
  | .dtt _, _, f, _ => by simp [noLD] at f
  | .ins _ _, _, f, _ => by simp [noLD] at f
  | .new _ _ _, _, f, _ => by simp [noLD] at f
  | .scr _, _, f, _ => by simp [noLD] at f
  | .exo _ _ _, _, f, _ => by simp [noLD] at f
  | .bag, _, f, _ => by simp [noLD] at f
theorem rpl_noL {K : PySem.W.Frag} {bg : Bg} {P P' : List Addr} {H : Hp} (g : GoodP bg P H) : ∀ (ds : List D) (vs : List V), noLDs ds = true → RpL K bg (era P' H) ds vs → RpL K bg (era P H) ds vs
  | [], vs, _, h => by rw [rpl_nil] at h ⊢; exact h
  | d :: ds, vs, f, h => by
    obtain ⟨x, r, rfl, h1, h2⟩ := rpl_cons.mp h
    have f' : noLD d = true ∧ noLDs ds = true := by simpa [noLDs] using f
    exact rpl_cons.mpr ⟨x, r, rfl, rp_noL g d x f'.1 h1, rpl_noL g ds r f'.2 h2⟩
end
def xPeek (i : Nat) (m : MX) : MX := fun ρ k _ => match ρ[i]? with
  | some (.ow d) => m (ρ.set i (.sh d)) (fun r => noLD r = true ∧ k r) no1
  | some (.sh _) => m ρ k no1
  | _ => False
theorem rp_flat_any {K : PySem.W.Frag} {bg : Bg} {H H' : Hp} {d : D} {v : V} (f : flatD d = true) (h : Rp K bg H d v) : Rp K bg H' d v := by
  cases d <;> first | (exact absurd f Bool.false_ne_true) | skip
  · rw [rp_non] at h ⊢; exact h
  · rw [rp_bl] at h ⊢; exact h
  · rw [rp_int] at h ⊢; exact h
  · rw [rp_str] at h ⊢; exact h
section
variable {X : Cx} {W : WX} {fr : Bool} {e a b o : Expr} {p q pos pos' apos cpos : Pos} {m ma mb me : MX} {mt : MT}
theorem ce_peek (i : Nat) (h : PE X e (tM X.K W false m)) : PE X e (tM X.K W false (xPeek i m)) := h.imp fun σ H Q ⟨c, ρ, k, ex, ok, hm, hk, hx⟩ => by
  unfold xPeek at hm
  split at hm
  · rename_i d hd
    obtain ⟨P', sub, ok'⟩ := ok.freeze hd
    exact ⟨_, _, _, no1, ok', hm, fun r v H' kr g rr => hk r v H' kr.2 g (Res.of (rp_noL (ok.good.grow g) r v kr.1 rr.sh)), fun _ _ _ _ z => z.elim⟩
  · exact ⟨c, ρ, k, no1, ok, hm, hk, fun _ _ _ _ z => z.elim⟩
  · exact hm.elim
/-- a look that gives a new list of plain values -/
def xPeekF (i : Nat) (m : MX) : MX := fun ρ k _ => match ρ[i]? with
  | some (.ow d) => m (ρ.set i (.sh d)) (fun r => match r with
    | .lst rs => noLDs rs = true ∧ k r
    | .non => k r
    | _ => False) no1
  | some (.sh _) => m ρ k no1
  | _ => False
theorem ce_peekF (i : Nat) (h : PE X e (tM X.K W true m)) : PE X e (tM X.K W true (xPeekF i m)) := h.imp fun σ H Q ⟨c, ρ, k, ex, ok, hm, hk, hx⟩ => by
  unfold xPeekF at hm
  split at hm
  · rename_i d hd
    obtain ⟨P', sub, ok'⟩ := ok.freeze hd
    refine ⟨_, _, _, no1, ok', hm, fun r v H' kr g rr => ?_, fun _ _ _ _ z => z.elim⟩
    cases r with
    | non => exact hk .non v H' kr g (show _ ∨ _ from (show _ ∨ _ from rr).imp (fun ⟨p, _, _, z⟩ => z.elim) id)
    | lst rs =>
      obtain ⟨p, rfl, h1, xs, h2, h3, h4⟩ := rr.own (by intro z; cases z)
      have gg := ok.good.grow g
      have hp : p ∉ c.P := fun z => ok.good.al p z h1
      have gp : GoodP c.b (p :: c.P) H' := ⟨fun q hq => ⟨List.mem_cons_of_mem _ (gg.bag q hq).1, List.mem_cons_of_mem _ (gg.bag q hq).2.1, (gg.bag q hq).2.2⟩, fun q hq => by
        rcases List.mem_cons.mp hq with z | z
        · rw [z, h2]; exact fun y => nomatch y
        · exact gg.al q z, fun q hq ys => by
        rcases List.mem_cons.mp hq with z | z
        · rw [z, h2]; exact fun y => nomatch y
        · exact gg.nt q z ys⟩
      exact hk (.lst rs) _ H' kr.2 g (show _ ∨ _ from .inl ⟨p, rfl, h1, xs, h2, h3, rpl_noL gp rs xs kr.1 h4⟩)
    | _ => exact kr.elim
  · exact ⟨c, ρ, k, no1, ok, hm, hk, fun _ _ _ _ z => z.elim⟩
  · exact hm.elim
theorem ce_nonF {j} : PE X (.Constant .none j pos) (tM X.K W true (xC .non)) := pe_non.imp fun σ H Q ⟨c, ρ, k, ex, ok, hm, hk, hx⟩ => hk _ _ _ hm ok.refl (show _ ∨ _ from .inr ⟨rfl, rfl⟩)
def tPeek (i : Nat) (m : MT) : MT := fun ρ k _ => match ρ[i]? with
  | some (.ow d) => m (ρ.set i (.sh d)) k no1
  | some (.sh _) => m ρ k no1
  | _ => False
theorem ct_peek (i : Nat) (h : PT X e (tT X.K W mt)) : PT X e (tT X.K W (tPeek i mt)) := h.imp fun σ H Q ⟨c, ρ, k, ex, ok, hm, hk, hx⟩ => by
  unfold tPeek at hm
  split at hm
  · rename_i d hd
    obtain ⟨P', sub, ok'⟩ := ok.freeze hd
    exact ⟨_, _, _, no1, ok', hm, fun r H' kr g => hk r H' kr g, fun _ _ _ _ z => z.elim⟩
  · exact ⟨c, ρ, k, no1, ok, hm, hk, fun _ _ _ _ z => z.elim⟩
  · exact hm.elim

/-! ### statements that change an owned list or dict -/
theorem StOk.wr {K : PySem.W.Frag} {g : Gd} {P : List Addr} {H : Hp} {σ : St} {ρ : MEnv} {i : Nat} {d d' : D} {pp : Addr} {o' : HO} (s : StOk K g P H σ ρ) (hi : ρ[i]? = some (.ow d)) (hσ : σ[i]? = some (some (.ref pp))) (r : OwnC K g.b P (upd H pp o') pp d') : StOk K g P (upd H pp o') σ (ρ.set i (.ow d')) := by
  have ok' := s.ok.wr hi hσ r
  refine ⟨⟨fun a u hb e => ?_, fun x hx => (ok'.good.bag x hx).2.2⟩, ok', s.new⟩
  obtain ⟨o, q⟩ := s.ok.rel
  obtain ⟨v1, v2, v3, v4⟩ := q.ow i d hi
  rw [v1] at hσ
  have ep : o i = pp := by injection hσ with z; injection z with z; injection z with z
  have hn : g.H0 pp = none := by rw [← ep]; exact (s.new _ v2).elim (fun z => absurd z v3) id
  rw [upd_ne (ne_of_none e hn)]
  exact s.grow.keep a u hb e
theorem StOk.at {K : PySem.W.Frag} {g : Gd} {P : List Addr} {H : Hp} {σ : St} {ρ : MEnv} {i : Nat} {d : D} (s : StOk K g P H σ ρ) (hi : ρ[i]? = some (.ow d)) : ∃ pp, σ[i]? = some (some (.ref pp)) ∧ pp ∈ P ∧ OwnC K g.b P H pp d := by
  obtain ⟨o, q⟩ := s.ok.rel
  obtain ⟨v1, v2, v3, v4⟩ := q.ow i d hi
  exact ⟨o i, v1, v2, v4⟩
def sApp (i : Nat) (me : MX) : MS := fun M ρ => match ρ[i]? with
  | some (.ow (.lst ds)) => me ρ (fun d => ds.length < LN ∧ M.nx (ρ.set i (.ow (.lst (ds ++ [d]))))) (M.ex ρ)
  | _ => False
theorem LN_lt {n : Nat} (h : n < LN) : n < sizeLine := Nat.lt_of_lt_of_le h (by decide)
theorem cs_app (i : Nat) {x : Str} {px : Pos} (h : PE X e (tM X.K W false me)) (hN : X.N[i]? = some x := by rfl) (hv : Vis X.env.scope x := by first | exact Or.inl rfl | exact Or.inr (Or.inl rfl) | exact Or.inr (Or.inr rfl))
    (hb : PE X (.Call (.Attribute (.Name x px) "append" apos) [e] [] cpos) (tBM X.K "list" rAppend (tVar i) (tCons (tM X.K W false me) tNil)))
    (hs : swapsWith (.Call (.Attribute (.Name x px) "append" apos) [e] [] cpos) none pos.line X.env = pure false := by rfl) :
    PS X (.Expr (.Call (.Attribute (.Name x px) "append" apos) [e] [] cpos) pos) (sM X.K W fr (sApp i me)) := (ps_expr hb hs).imp fun De σ H ⟨g, P, ρ, M, s, hm, l⟩ => by
  unfold sApp at hm
  split at hm
  · rename_i ds hd
    obtain ⟨pp, hσ, hp, ⟨xs, h1, h2, h3⟩⟩ := s.at hd
    refine ⟨_, hσ, .inl ⟨rfl, xs, .inl (.inl h1)⟩, useE s l hm fun d v H' kd gr r s' => ?_⟩
    obtain ⟨pp', hσ', hp', ⟨xs', h1', h2', h3'⟩⟩ := s'.at hd
    have ep : pp' = pp := by rw [hσ] at hσ'; injection hσ' with z; injection z with z; injection z with z; exact z.symm
    subst ep
    refine ⟨pp', xs', v, rfl, rfl, h1', LN_lt (by rw [h3'.len]; exact kd.1), l.nx P σ _ _ (s'.wr (d' := .lst (ds ++ [d])) hd hσ ⟨xs' ++ [v], upd_same, ?_, ?_⟩) kd.2⟩
    · rw [List.length_append, List.length_singleton]; exact kd.1
    · rw [era_upd hp']; exact h3'.append (RpL.one r.sh)
  · exact hm.elim
def sExt (i : Nat) (me : MX) : MS := fun M ρ => match ρ[i]? with
  | some (.ow (.lst ds)) => me ρ (fun d => match d with
    | .lst es => ds.length + es.length ≤ LN ∧ M.nx (ρ.set i (.ow (.lst (ds ++ es))))
    | _ => False) (M.ex ρ)
  | _ => False
theorem cs_ext (i : Nat) {x : Str} {px : Pos} (h : PE X e (tM X.K W false me)) (hN : X.N[i]? = some x := by rfl) (hv : Vis X.env.scope x := by first | exact Or.inl rfl | exact Or.inr (Or.inl rfl) | exact Or.inr (Or.inr rfl))
    (hb : PE X (.Call (.Attribute (.Name x px) "extend" apos) [e] [] cpos) (tBM X.K "list" rExtend (tVar i) (tCons (tM X.K W false me) tNil)))
    (hs : swapsWith (.Call (.Attribute (.Name x px) "extend" apos) [e] [] cpos) none pos.line X.env = pure false := by rfl) :
    PS X (.Expr (.Call (.Attribute (.Name x px) "extend" apos) [e] [] cpos) pos) (sM X.K W fr (sExt i me)) := (ps_expr hb hs).imp fun De σ H ⟨g, P, ρ, M, s, hm, l⟩ => by
  unfold sExt at hm
  split at hm
  · rename_i ds hd
    obtain ⟨pp, hσ, hp, ⟨xs, h1, h2, h3⟩⟩ := s.at hd
    refine ⟨_, hσ, .inl ⟨rfl, xs, .inl (.inl h1)⟩, useE s l hm fun d v H' kd gr r s' => ?_⟩
    obtain ⟨pp', hσ', hp', ⟨xs', h1', h2', h3'⟩⟩ := s'.at hd
    have ep : pp' = pp := by rw [hσ] at hσ'; injection hσ' with z; injection z with z; injection z with z; exact z.symm
    subst ep
    cases d with
    | lst es =>
      obtain ⟨a, ys, rfl, k1, _, k3⟩ := rp_lst.mp r.sh
      refine ⟨pp', a, xs', ys, rfl, rfl, h1', era_le _ _ k1, LN_size (by rw [h3'.len, k3.len]; exact kd.1), l.nx P σ _ _ (s'.wr (d' := .lst (ds ++ es)) hd hσ ⟨xs' ++ ys, upd_same, ?_, ?_⟩) kd.2⟩
      · rw [List.length_append]; exact kd.1
      · rw [era_upd hp']; exact h3'.append k3
    | _ => exact kd.elim
  · exact hm.elim
/-- x[i] = e, x an owned list -/
def sSetL (i : Nat) (mi me : MX) : MS := fun M ρ => match ρ[i]? with
  | some (.ow (.lst ds)) => me ρ (fun d => mi ρ (fun ix => match ix with
    | .int z => (match ixN ds.length z with
      | some j => M.nx (ρ.set i (.ow (.lst (ds.set j d))))
      | none => False)
    | _ => False) (M.ex ρ)) (M.ex ρ)
  | _ => False
/-- x[k] = e, x an owned dict -/
def keyD : D → Option Key
  | .int i => some (.inl i)
  | .str x => some (.inr x)
  | _ => none
def putD (kvs : List (Key × D)) (k : Key) (v : D) : List (Key × D) :=
  if (kvs.any fun kv => decide (kv.1 = k)) = true then kvs.map (fun kv => if kv.1 = k then (kv.1, v) else kv) else kvs ++ [(k, v)]
def sSetD (i : Nat) (mk me : MX) : MS := fun M ρ => match ρ[i]? with
  | some (.ow (.dct kvs)) => me ρ (fun d => mk ρ (fun y => match keyD y with
    | some k => kvs.length < LN ∧ M.nx (ρ.set i (.ow (.dct (putD kvs k d))))
    | none => False) (M.ex ρ)) (M.ex ρ)
  | _ => False
theorem RpK.anyk {K : PySem.W.Frag} {bg : Bg} {H : Hp} {k : Key} : ∀ {ds : List (Key × D)} {xs : List (Key × V)}, RpK K bg H ds xs → (ds.any fun kv => decide (kv.1 = k)) = xs.any fun kv => decide (kv.1 = k)
  | [], xs, h => by rw [rpk_nil.mp h] <;> rfl
  | (k', d) :: ds, xs, h => by
    obtain ⟨x, r, rfl, h1, h2⟩ := rpk_cons.mp h
    rw [List.any_cons, List.any_cons, RpK.anyk h2]
theorem RpK.put1 {K : PySem.W.Frag} {bg : Bg} {H : Hp} {k : Key} {d : D} {v : V} (hv : Rp K bg H d v) : ∀ {ds : List (Key × D)} {xs : List (Key × V)}, RpK K bg H ds xs → RpK K bg H (ds.map (fun kv => if kv.1 = k then (kv.1, d) else kv)) (xs.map (fun kv => if kv.1 = k then (kv.1, v) else kv))
  | [], xs, h => by rw [rpk_nil.mp h]; exact rpk_nil.mpr rfl
  | (k', d') :: ds, xs, h => by
    obtain ⟨x, r, rfl, h1, h2⟩ := rpk_cons.mp h
    rw [List.map_cons, List.map_cons]
    by_cases e : k' = k
    · rw [if_pos e, if_pos e]
      exact rpk_cons.mpr ⟨v, _, rfl, hv, RpK.put1 hv h2⟩
    · rw [if_neg e, if_neg e]
      exact rpk_cons.mpr ⟨x, _, rfl, h1, RpK.put1 hv h2⟩
theorem RpK.snoc {K : PySem.W.Frag} {bg : Bg} {H : Hp} {k : Key} {d : D} {v : V} (hv : Rp K bg H d v) : ∀ {ds : List (Key × D)} {xs : List (Key × V)}, RpK K bg H ds xs → RpK K bg H (ds ++ [(k, d)]) (xs ++ [(k, v)])
  | [], xs, h => by rw [rpk_nil.mp h]; exact rpk_cons.mpr ⟨v, [], rfl, hv, rpk_nil.mpr rfl⟩
  | (k', d') :: ds, xs, h => by
    obtain ⟨x, r, rfl, h1, h2⟩ := rpk_cons.mp h
    exact rpk_cons.mpr ⟨x, _, rfl, h1, RpK.snoc hv h2⟩
theorem RpK.put {K : PySem.W.Frag} {bg : Bg} {H : Hp} {k : Key} {d : D} {v : V} {ds : List (Key × D)} {xs : List (Key × V)} (h : RpK K bg H ds xs) (hv : Rp K bg H d v) : RpK K bg H (putD ds k d) (putK xs k v) := by
  unfold putD putK
  rw [RpK.anyk h]
  split
  · exact RpK.put1 hv h
  · exact RpK.snoc hv h
theorem putD_len (kvs : List (Key × D)) (k : Key) (v : D) : (putD kvs k v).length ≤ kvs.length + 1 := by
  unfold putD
  split
  · rw [List.length_map]; omega
  · rw [List.length_append]; exact Nat.le_refl _
theorem rp_key {K : PySem.W.Frag} {bg : Bg} {H : Hp} {d : D} {v : V} {k : Key} (h : Rp K bg H d v) (hk : keyD d = some k) : v = kV k := by
  cases d <;> first | (cases hk; done) | skip
  · cases hk; rw [rp_int.mp h]; rfl
  · cases hk; rw [(rp_str.mp h).1]; rfl
theorem cs_setD (i : Nat) {x : Str} {px : Pos} {mk : MX} {ix : Expr} (hu : X.A.units + 1 < cLine) (hix : PE X ix (tM X.K W false mk)) (h : PE X e (tM X.K W false me)) (hN : X.N[i]? = some x := by rfl) (hv : Vis X.env.scope x := by first | exact Or.inl rfl | exact Or.inr (Or.inl rfl) | exact Or.inr (Or.inr rfl)) (hd : (x == ("__debug__" : Str)) = false := by decide) (hcd : (x == ("__classdict__" : Str)) = false := by decide)
    (hs : swapsWith e (some (.Subscript (.Name x px) ix pos')) pos.line X.env = pure false := by rfl) : PS X (.Assign [.Subscript (.Name x px) ix pos'] e pos) (sM X.K W fr (sSetD i mk me)) :=
  (ps_dput hu (pe_var hN hv hd hcd) hix h hs).imp fun De σ H ⟨g, P, ρ, M, s, hm, l⟩ => by
  unfold sSetD at hm
  split at hm
  · rename_i ds hd
    refine useE s l hm fun d v H1 kd g1 r1 s1 => ?_
    obtain ⟨pp, hσ, hp, _⟩ := s1.at hd
    refine ⟨_, hσ, useE s1 l kd fun y vy H2 ky g2 r2 s2 => ?_⟩
    obtain ⟨pp', hσ', hp', ⟨xs', h1', h2', h3'⟩⟩ := s2.at hd
    have ep : pp' = pp := by rw [hσ] at hσ'; injection hσ' with z; injection z with z; injection z with z; exact z.symm
    subst ep
    cases q : keyD y with
    | none => rw [q] at ky; exact ky.elim
    | some k =>
      rw [q] at ky
      refine ⟨pp', _, rfl, .inl ⟨xs', k, h1', rp_key r2.sh q, LN_lt (by rw [h3'.len]; exact ky.1), rfl⟩, l.nx P σ _ _ (s2.wr (d' := .dct (putD ds k d)) hd hσ ⟨putK xs' k v, upd_same, ?_, ?_⟩) ky.2⟩
      · exact Nat.le_trans (putD_len _ _ _) ky.1
      · rw [era_upd hp']; exact h3'.put (Rp.mono (s1.good.era g2) _ _ r1.sh)
  · exact hm.elim

/-! ### unary minus, += -/
def dNeg : D → (D → Prop) → Prop
  | .int i, k => k (.int (-i))
  | _, _ => False
theorem ce_neg (h : PE X e (tM X.K W false m)) : PE X (.UnaryOp .USub e pos) (tM X.K W false (xUn dNeg m)) := (pe_un un_neg h).imp fun σ H Q ⟨c, ρ, k, ex, ok, hm, hk, hx⟩ => ⟨c, ρ, _, ex, ok, hm, fun d v H1 kd g r => by
  cases d with
  | int i => exact ⟨i, rp_int.mp r.sh, hk _ _ H1 kd g (Res.of (rp_int.mpr rfl))⟩
  | _ => exact kd.elim, hx⟩
def sAug (i : Nat) (f : Int → Int → Int) (m : MX) : MS := fun M ρ => match ρ[i]? with
  | some (.sh (.int a)) => m ρ (fun d => match d with
    | .int b => M.nx (ρ.set i (.sh (.int (f a b))))
    | _ => False) (M.ex ρ)
  | _ => False
theorem cs_aug (i : Nat) {x : Str} {op : Operator} {f : Int → Int → Int} (hN : X.N.Nodup) (ho : PIp X op (ipI f)) (h : PE X e (tM X.K W false m)) (hi : X.N[i]? = some x := by rfl) (hx : Loc X.env.scope x := by first | exact .inl rfl | exact .inr rfl) (hf : X.fn x = true ∨ X.env.scope.names.lookup x = some .local := by first | exact .inl rfl | exact .inr rfl) :
    PS X (.AugAssign (.Name x pos') op e pos) (sM X.K W fr (sAug i f m)) := (ps_aug hN hi hx h ho hf).imp fun De σ H ⟨g, P, ρ, M, s, hm, l⟩ => by
  unfold sAug at hm
  split at hm
  · rename_i a ha
    obtain ⟨o, q⟩ := s.ok.rel
    obtain ⟨v, e1, e2⟩ := q.sh i _ ha
    refine ⟨v, e1, useE s l hm fun d w H' kd gr r s' => ?_⟩
    cases d with
    | int b => exact ⟨a, b, rp_int.mp e2, rp_int.mp r.sh, l.nx P _ H' _ ⟨s'.grow, s'.ok.set (rp_int.mpr rfl), s'.new⟩ kd⟩
    | _ => exact kd.elim
  · exact hm.elim

/-! ### dicts read -/
def valD (kvs : List (Key × D)) (k : Key) : Option D := (kvs.find? fun kv => decide (kv.1 = k)).map (·.2)
theorem RpK.val {K : PySem.W.Frag} {bg : Bg} {H : Hp} {k : Key} : ∀ {ds : List (Key × D)} {xs : List (Key × V)}, RpK K bg H ds xs → (valD ds k = none → valV xs k = none) ∧ ∀ d, valD ds k = some d → ∃ v, valV xs k = some v ∧ Rp K bg H d v
  | [], xs, h => by rw [rpk_nil.mp h]; exact ⟨fun _ => rfl, fun d e => by cases e⟩
  | (k', d) :: ds, xs, h => by
    obtain ⟨x, r, rfl, h1, h2⟩ := rpk_cons.mp h
    obtain ⟨i1, i2⟩ := RpK.val (k := k) h2
    unfold valD valV at *
    rw [List.find?_cons, List.find?_cons]
    by_cases e : k' = k
    · rw [decide_eq_true (show ((k', d) : Key × D).1 = k from e)]
      exact ⟨fun z => (by cases z), fun d' z => (by cases z; exact ⟨x, rfl, h1⟩)⟩
    · rw [decide_eq_false (show ¬ ((k', d) : Key × D).1 = k from e)]
      exact ⟨i1, i2⟩
def dDix : D → D → (D → Prop) → Prop
  | .dct kvs, y, k => (match keyD y with
    | some z => (match valD kvs z with
      | some d => k d
      | none => False)
    | none => False)
  | _, _, _ => False
theorem ce_dix (hu : X.A.units + 1 < cLine) (ha : PE X a (tM X.K W false ma)) (hb : PE X b (tM X.K W false mb)) (hs : NoSl b := by intro _ _; rfl) : PE X (.Subscript a b pos) (tM X.K W false (xOp dDix ma mb)) := (pe_dget hu ha hb hs).imp fun σ H Q ⟨c, ρ, k, ex, ok, hm, hk, hx⟩ =>
  ⟨c, ρ, _, ex, ok, hm, fun d1 v1 H1 k1 g1 r1 => ⟨c, ρ, _, ex, ok.grow g1, k1, fun d2 v2 H2 k2 g2 r2 => by
    cases d1 with
    | dct kvs =>
      have k2' : (match keyD d2 with | some z => (match valD kvs z with | some d => k d | none => False) | none => False) := by cases d2 <;> exact k2
      cases q : keyD d2 with
      | none => rw [q] at k2'; exact k2'.elim
      | some z =>
        rw [q] at k2'
        cases q2 : valD kvs z with
        | none =>
          have k3 : (match valD kvs z with | some d => k d | none => False) := k2'
          rw [q2] at k3; exact k3.elim
        | some d =>
          have k3 : (match valD kvs z with | some d => k d | none => False) := k2'
          rw [q2] at k3
          obtain ⟨aa, xs, rfl, h1, _, h3⟩ := rp_dct.mp (Rp.mono ((ok.good.grow g1).era g2) _ _ r1.sh)
          obtain ⟨v, e1, e2⟩ := h3.val.2 d q2
          refine ⟨aa, v, rfl, .inl ⟨xs, z, ex_rd era_le h1, rp_key r2.sh q, e1.symm⟩, hk d v H2 k3 (g1.trans g2) (Res.of e2)⟩
    | _ => cases d2 <;> exact k2.elim, fun x cls dd H' e g z => hx x cls dd H' e (g1.trans g) z⟩, hx⟩
end
end DM
end
section
set_option Elab.async false
set_option linter.all false
set_option maxRecDepth 100000
set_option maxHeartbeats 4000000
namespace L2
open PySem
section
variable {P : Program} {w : World} {A : Around} {E : Value → Shared → Prop} {s : Shared}
/-- the new set of a call set(x), before it is filled -/
abbrev freshSet (w : World) : Obj := { cls := .type "set", dict := none, data := .set #[] 0 (.fresh 0 0 (!w.params.followText "set-order")) }
set_option maxHeartbeats 8000000 in
/-- set(l), l a list of ints -/
theorem call_set_lstI {l : Addr} {its : Array Value} (ns : List Int) {Q : Value → Shared → Prop} (hcalm : A.handled = none) (hl : s.heap.IsList l its) (hints : PyProof.Rows.IntsAre its.toList ns) (hroom : ns.length + 1 < scanBound)
    (fin : ∀ (h' : Heap) (tk c : Nat), SetR w h' s.heap.objs.size (fun j => decide (j ∈ ns)) c → c ≤ ns.length → (∀ b o, s.heap.get? b = some o → h'.get? b = some o) → Q (.ref s.heap.objs.size) { s with heap := h', toks := tk }) :
    wpAny (model P w) A (call (.type "set") [.ref l]) Q E s := by
  have size_eq : its.size = ns.length := (Array.length_toList (xs := its)).symm.trans (PyProof.Rows.IntsAre.length hints)
  obtain ⟨mc, mtl, hmro⟩ := F.called_set.mro
  have hmade := F.called_set.made; have hsub := F.called_set.sub
  refine wpAny_call (codeAny_of_tree (show wpAny _ _ (callAny (.type "set") _) _ _ _ from wpAny_pure ⟨Code.quiet_builtin _ (by decide +kernel), codeAny_builtin F.entry_type_call ?_⟩))
  rw [Around.under_plain (weight_type_call_type "set" [.ref l] []) rfl]
  have n1 := F.called_set.notType; have n2 := F.called_set.canCreate; have n3 := F.typeCall_set_1 (.ref l)
  repeat (any_goals (first | assumption | wp_step))
  refine codeAny_mono (code_set_led1 (.ref l) (E := E) (Q₁ := fun ob s1 => ob = .ref s.heap.objs.size ∧ s1 = { s with heap := s.heap.push (freshSet w) }) ⟨rfl, rfl⟩) fun r s1 hr => ?_
  cases r with
  | error e => exact hr
  | ok fl =>
    cases fl with
    | ret ob =>
      obtain ⟨rfl, rfl⟩ := hr
      have hS : (s.heap.push (freshSet w)).get? s.heap.objs.size = some (freshSet w) := Heap.get?_push_size _ rfl
      have hT : Shared.TypeIs { s with heap := s.heap.push (freshSet w) } (.ref s.heap.objs.size) "set" := ⟨_, hS, rfl⟩
      have i1 := F.called_set.init.lookup; have i2 := F.called_set.init.bind (.ref s.heap.objs.size)
      repeat (any_goals (first | assumption | wp_step))
      refine codeAny_mono (codeAny_call_builtin (R := wants (fun r s₂ => r = .none ∧ ∃ h' tk c, s₂ = { s with heap := h', toks := tk } ∧ SetR w h' s.heap.objs.size (fun j => decide (j ∈ ns)) c ∧ c ≤ ns.length ∧ (∀ b o, s.heap.get? b = some o → h'.get? b = some o)) E) F.called_set.init.plain F.entry_set_init (check_set_init_1 hT ?_)) fun r₂ s₂ hr₂ => ?_
      · obtain ⟨ol, hol, hcl, nl, hdl⟩ := hl
        obtain ⟨ocls, odict, odata, oslots⟩ := ol
        simp only at hcl hdl
        subst hcl; subst hdl
        have hol' : (s.heap.push (freshSet w)).get? l = some { cls := .type "list", dict := odict, data := .seq its nl, slots := oslots } := Heap.get?_push_of_some _ hol
        have q1 := F.sub_list_set; have q2 := F.sub_list_frozenset
        have hne : (Value.type "list" == Value.type "dict") = false := by decide
        have hl1 : (s.heap.push (freshSet w)).IsList l its := ⟨_, hol', rfl, nl, rfl⟩
        unfold Builtin.«set.__init__» noKeywords Builtin.Frozenset.updateFrom
        generalize hPI : pyIter = PI
        wp_walk
        subst hPI
        refine wpAny_pyIter_list hl1 (wpAny_bind (wpAny_runValue ?_))
        have hlS : l < s.heap.objs.size := Heap.lt_size hol
        have z1 : (s.heap.push (freshSet w)).objs.size = s.heap.objs.size + 1 := Heap.size_push ..
        have hneI : l ≠ (s.heap.push (freshSet w)).objs.size := by rw [z1]; exact Nat.ne_of_lt (Nat.lt_succ_of_lt hlS)
        have hSf : s.heap.objs.size ∉ [(s.heap.push (freshSet w)).objs.size, l] := by
          rw [z1]; simp only [List.mem_cons, List.not_mem_nil, or_false, not_or]
          exact ⟨Nat.ne_of_lt (Nat.lt_succ_self _), Nat.ne_of_gt hlS⟩
        have item : ∀ (i : Nat) (v : Value), its[i]? = some v → ∃ k t, ns[i]? = some k ∧ v = .int k t := fun i v hv => by
          have hi : i < ns.length := by rw [← size_eq]; exact (Array.getElem?_eq_some_iff.mp hv).1
          obtain ⟨t, e⟩ := PyProof.Rows.IntsAre.int_at hints i v (by rw [Array.getElem?_toList]; exact hv)
          exact ⟨ns[i], t, List.getElem?_eq_getElem hi, by rw [e, List.getD_eq_getElem?_getD, List.getElem?_eq_getElem hi] <;> rfl⟩
        refine set_update_ints ((Walks.list (A := A.in1.in1.in1) (by simp [hcalm]) _ l hneI its).toS) s.heap.objs.size hSf ns size_eq hroom item (its.size - 0) 0 _ (by omega) (Nat.zero_le _) ⟨⟨_, Heap.get?_push_size _ rfl, rfl, rfl⟩, (hl1.push _)⟩ ?h0 ?h1
        case h0 => exact ⟨0, Nat.le_refl 0, setR_new_at (Heap.get?_push_of_some _ hS)⟩
        case h1 =>
          intro s' c' hm hc' hS'
          obtain ⟨h', g2, d', tk', os'⟩ := s'
          obtain rfl : g2 = s.gens := hm.gens
          obtain rfl : d' = s.drawn := hm.drawn
          obtain rfl : os' = s.os := hm.os
          refine (show wpAny _ _ _ _ _ _ from wpAny_pure (show wpAny _ _ (ret Value.none) _ _ _ from ?_))
          rw [size_eq] at hc'
          refine wpAny_pure ⟨rfl, h', tk', c', rfl, hS', hc', fun b o e => hm.heap b o ?_ (Heap.get?_push_of_some _ (Heap.get?_push_of_some _ e))⟩
          have b0 : b < s.heap.objs.size := Heap.lt_size e
          simp only [List.mem_cons, List.not_mem_nil, or_false, not_or]
          exact ⟨Nat.ne_of_lt b0, by rw [z1]; exact Nat.ne_of_lt (Nat.lt_succ_of_lt b0)⟩
      · cases r₂ with
        | error e => exact hr₂
        | ok fl =>
          cases fl with
          | ret u =>
            obtain ⟨rfl, h', tk, c, rfl, k1, k2, k3⟩ := hr₂
            repeat (any_goals (first | assumption | wp_step))
            exact fin h' tk c k1 k2 k3
          | next => exact hr₂.elim
          | brk => exact hr₂.elim
          | cont => exact hr₂.elim
    | next => exact hr.elim
    | brk => exact hr.elim
    | cont => exact hr.elim
end
end L2
end
section
set_option Elab.async false
set_option linter.all false
set_option maxRecDepth 100000
set_option maxHeartbeats 4000000
namespace L2
open PySem PySem.W
section
variable {prog : Program} {w : World} {A : Around} {E : Value → Shared → Prop} {s : Shared}
/-- a display of a few elements, no star, one by one: the new set is known exactly -/
theorem setDisp {b : Bool} {elts : List (Bool × Sem Value)} {ts : List (Sem Value)} {Q : Value → Shared → Prop} (hs : elts.findIdx? (·.1) = none) (hlen : elts.length ≤ 30) (hm : elts.map (·.2) = ts)
    (h : wpAny (model prog w) A (evalAll ts) (fun vs s' => KdsFill (model prog w) A E false s.heap.objs.size Q vs s') E { s with heap := s.heap.push (freshSet w) }) : wpAny (model prog w) A (setDisplay .oneByOne b elts) Q E s := by
  have hn : (if elts.length > 30 then 0 else (elts.findIdx? (·.1)).getD elts.length) = elts.length := by rw [if_neg (Nat.not_lt.mpr hlen), hs, Option.getD_none]
  unfold setDisplay
  dsimp only
  rw [if_neg (by decide)]
  refine wpAny_bind (PpSet.newSet_ok ?_)
  dsimp only
  rw [hn, List.take_length, List.drop_length, hm]
  refine wpAny_bind (wpAny_holding (wpAny_bind (wpAny_mono h (fun vs s' h' => wpAny_bind (wpAny_holding (wpAny_bind (wpAny_mono (kds_for (fun x P s hx => ?_) vs s' h') (fun _ s1 h1 => ?_) fun _ _ x => x)))) fun _ _ x => x)))
  · exact wpAny_bind (wpAny_mono hx (fun _ s2 h2 => by first | exact wpAny_pure ⟨rfl, h2⟩ | exact wpAny_bind (wpAny_pure (wpAny_pure ⟨rfl, h2⟩))) fun _ _ x => x)
  · have h2 : Q (.ref s.heap.objs.size) s1 := by simpa [KdsFill] using h1
    rw [if_neg (by decide)]
    refine wpAny_pure ?_
    rw [List.forIn_nil]
    exact wpAny_pure (wpAny_pure h2)
end
section
variable {X : Cx} {a b : Expr} {ta tb : TE} {pos : Pos}
def tSet2 (w : World) (ta tb : TE) : TE := fun σ H Q => ∀ p, H p = none → ta σ (upd H p (SetO w p (fun _ => false) 0)) fun x H1 => tb σ H1 fun y H2 => ∃ i j, x = .int i ∧ y = .int j ∧ H2 p = some (SetO w p (fun _ => false) 0) ∧ ∀ n, n ≤ 2 → Q (.ref p) (upd H2 p (SetO w p (fun k => (false || decide (k = i)) || decide (k = j)) n))
theorem pe_set2 (hc : kdsCode X.K X.env.code = true) (ha : PE X a ta) (hb : PE X b tb) (h1 : starEach [a, b] X.env = (evalEach [a, b] X.env).map (fun t => (false, t)) := by rfl) : PE X (.Set [a, b] 0 pos) (tSet2 X.w ta tb) := by
  refine ⟨fun pins s σ H Q I h => ?_⟩
  rw [arm_eval_Set]
  refine wpAny_bind (wpAny_standAt (wpAny_bind (kds_main I.kIn hc fun bb => ?_)))
  show wpAny _ _ (setDisplay .oneByOne bb _) _ _ _
  rw [h1, List.map_map]
  have hn := I.hok.fresh (Nat.le_refl s.heap.objs.size)
  have I1 : Inv X pins σ (upd H s.heap.objs.size (SetO X.w s.heap.objs.size (fun _ => false) 0)) { s with heap := s.heap.push (freshSet X.w) } :=
    I.laid (t' := s.toks) (fun _ _ q => Heap.get?_push_of_some _ q) (Nat.le_refl _) (setO_new (setR_fresh X.w))
  refine setDisp (ts := (evalEach [a, b] X.env).map fun t => do let v ← t; standAt pos; pure v) rfl (by show 2 ≤ 30; decide) rfl (kds_all pos [a, b] _ _ ?_)
  refine thn (ha.run pins _ σ _ _ I1 (h _ hn)) fun u1 s1 ⟨x, H1, I2, r1, q1⟩ => thn (hb.run pins s1 σ H1 _ I2 q1) fun u2 s2 ⟨y, H2, I3, r2, i, j, ex, ey, hp, q⟩ => ?_
  subst ex; subst ey
  obtain ⟨t1, rfl⟩ := r1
  obtain ⟨t2, rfl⟩ := r2
  have R := setO_get I3 hp
  generalize s.heap.objs.size = p at *
  refine kds_fill_cons ?_
  unfold setAdd
  refine wpAny_holding (wpAny_bind ((intKind X.prog X.w).pyHash (intKind_is X.prog X.w i t1) ?_))
  refine setR_add_hashed (s := { s2 with toks := s2.toks + 1 }) R (by decide) fun h' sb R1 => ?_
  refine kds_fill_cons ?_
  unfold setAdd
  refine wpAny_holding (wpAny_bind ((intKind X.prog X.w).pyHash (intKind_is X.prog X.w j t2) ?_))
  refine setR_add_hashed (s := { s2 with heap := h', toks := s2.toks + 1 + 1 }) R1 (by split <;> decide) fun h'' sb' R2 => ?_
  refine kds_fill_nil rfl ⟨.ref p, _, I3.write (t' := s2.toks + 1 + 1) (o := SetO X.w p _ _) ?_ (.inl rfl) (fun b u hb e => (sb'.2 b hb).trans ((sb.2 b hb).trans e)) ?_ (setO_new R2), rfl, q _ ?_⟩
  · rw [hp]; trivial
  · obtain ⟨o, _, _, _, e, _⟩ := R2; exact ⟨o, e⟩
  · split <;> split <;> decide
end
end L2
end
section
set_option Elab.async false
set_option linter.all false
set_option maxRecDepth 100000
set_option maxHeartbeats 4000000
namespace DM
open PySem L2 Evl

/-! ### strictly ascending lists of ints -/
def insU (x : Int) : List Int → List Int
  | [] => [x]
  | y :: r => if x < y then x :: y :: r else if x = y then y :: r else y :: insU x r
def sortU : List Int → List Int
  | [] => []
  | x :: r => insU x (sortU r)
theorem mem_insU {x z : Int} : ∀ {l : List Int}, z ∈ insU x l ↔ z = x ∨ z ∈ l
  | [] => by simp [insU]
  | y :: r => by
    unfold insU
    split
    · simp
    · split
      · rename_i h; subst h; simp
      · rw [List.mem_cons, mem_insU, List.mem_cons]
        constructor
        · rintro (h | h | h)
          · exact .inr (.inl h)
          · exact .inl h
          · exact .inr (.inr h)
        · rintro (h | h | h)
          · exact .inr (.inl h)
          · exact .inl h
          · exact .inr (.inr h)
theorem asc_insU {x : Int} : ∀ {l : List Int}, l.Pairwise (· < ·) → (insU x l).Pairwise (· < ·)
  | [], _ => by simp [insU]
  | y :: r, h => by
    obtain ⟨h1, h2⟩ := List.pairwise_cons.mp h
    unfold insU
    split
    · rename_i hx
      refine List.pairwise_cons.mpr ⟨fun z hz => ?_, h⟩
      rcases List.mem_cons.mp hz with e | e
      · rw [e]; exact hx
      · exact Int.lt_trans hx (h1 z e)
    · split
      · exact h
      · rename_i a b
        refine List.pairwise_cons.mpr ⟨fun z hz => ?_, asc_insU h2⟩
        rcases mem_insU.mp hz with e | e
        · omega
        · exact h1 z e
theorem mem_sortU {z : Int} : ∀ {l : List Int}, z ∈ sortU l ↔ z ∈ l
  | [] => by simp [sortU]
  | x :: r => by unfold sortU; rw [mem_insU, List.mem_cons, mem_sortU]
theorem asc_sortU : ∀ l : List Int, (sortU l).Pairwise (· < ·)
  | [] => by simp [sortU]
  | x :: r => asc_insU (asc_sortU r)
theorem asc_eq : ∀ {a b : List Int}, a.Pairwise (· < ·) → b.Pairwise (· < ·) → (∀ k, k ∈ a ↔ k ∈ b) → a = b
  | [], [], _, _, _ => rfl
  | [], y :: r, _, _, h => absurd ((h y).mpr List.mem_cons_self) (by simp)
  | x :: r, [], _, _, h => absurd ((h x).mp List.mem_cons_self) (by simp)
  | x :: r, y :: t, ha, hb, h => by
    obtain ⟨a1, a2⟩ := List.pairwise_cons.mp ha
    obtain ⟨b1, b2⟩ := List.pairwise_cons.mp hb
    have e : x = y := by
      rcases List.mem_cons.mp ((h x).mp List.mem_cons_self) with e | e
      · exact e
      · rcases List.mem_cons.mp ((h y).mpr List.mem_cons_self) with e' | e'
        · exact e'.symm
        · have := b1 x e; have := a1 y e'; omega
    subst e
    refine congrArg _ (asc_eq a2 b2 fun k => ?_)
    constructor
    · intro hk
      rcases List.mem_cons.mp ((h k).mp (List.mem_cons_of_mem _ hk)) with e | e
      · have := a1 k hk; omega
      · exact e
    · intro hk
      rcases List.mem_cons.mp ((h k).mpr (List.mem_cons_of_mem _ hk)) with e | e
      · have := b1 k hk; omega
      · exact e
theorem sortU_len : ∀ l : List Int, (sortU l).length ≤ l.length
  | [] => Nat.le_refl _
  | x :: r => by
    have h : ∀ l : List Int, (insU x l).length ≤ l.length + 1 := fun l => by
      induction l with
      | nil => exact Nat.le_refl _
      | cons y t ih =>
        unfold insU
        split
        · exact Nat.le_refl _
        · split
          · exact Nat.le_succ _
          · rw [List.length_cons, List.length_cons]; omega
    have := h (sortU r)
    have := sortU_len r
    unfold sortU
    rw [List.length_cons]
    omega

/-! ### sorted(set(x)), sorted({a, b}) -/
section
variable {X : Cx} {W : WX} {fr : Bool} {e a b : Expr} {p p2 q pos apos cpos : Pos} {m ma mb : MX}
def rSetI (K : PySem.W.Frag) (w : World) : List V → Hp → VK → Prop := fun xs H Q => ∃ (l : Addr) (ns : List Int), xs = [.ref l] ∧ (SqL K H l (ns.map V.int) ∨ SqT K H l (ns.map V.int)) ∧ ns.length ≤ 60 ∧ ∀ pp c, H pp = none → c ≤ ns.length → Q (.ref pp) (upd H pp (SetO w pp (fun j => decide (j ∈ ns)) c))
theorem cr_setI (hc : X.calm = true) : CallR X (.type "set") (rSetI X.K X.w) := by
  intro pins s σ H vs us Q I r h
  obtain ⟨l, ns, rfl, hs, hl, q⟩ := h
  rw [Vals.ref1 r]
  have fin : ∀ (h' : Heap) (tk c : Nat), SetR X.w h' s.heap.objs.size (fun j => decide (j ∈ ns)) c → c ≤ ns.length → (∀ b o, s.heap.get? b = some o → h'.get? b = some o) → EP X pins σ Q (.ref s.heap.objs.size) { s with heap := h', toks := tk } := fun h' tk c R hc2 hk =>
    ⟨.ref s.heap.objs.size, _, I.laid (t' := tk) hk (Nat.le_refl _) (setO_new R), rfl, q _ c (I.hok.fresh (Nat.le_refl _)) hc2⟩
  have room : ns.length + 1 < scanBound := Nat.lt_of_le_of_lt (Nat.succ_le_succ hl) (by decide)
  rcases hs with hs | hs
  · obtain ⟨its, rv, pl, _⟩ := I.list hs
    exact call_set_lstI ns (I.ok.hd hc) pl.isList (by simpa using rv.ints) room fin
  · obtain ⟨its, rv, pl, _⟩ := I.tuple hs
    exact call_set_tupI ns (I.ok.hd hc) pl (by simpa using rv.ints) room fin
def dSortSet : D → (D → Prop) → Prop
  | .lst xs, k => ∃ ns : List Int, xs = ns.map D.int ∧ ns.length ≤ 60 ∧ k (.lst ((sortU ns).map D.int))
  | .tup xs, k => ∃ ns : List Int, xs = ns.map D.int ∧ ns.length ≤ 60 ∧ k (.lst ((sortU ns).map D.int))
  | _, _ => False
theorem ce_sortSet (hs : X.mg "sorted" = none) (ht : X.mg "set" = none) (h : PE X e (tM X.K W false m)) (g1 : Gl X "sorted" := by rfl) (g2 : Gl X "set" := by rfl) (hc : X.calm = true := by rfl)
    (he : starEach [e] X.env = [(false, eval e X.env)] := by rfl) (he2 : starEach [.Call (.Name "set" p2) [e] [] q] X.env = [(false, eval (.Call (.Name "set" p2) [e] [] q) X.env)] := by rfl) :
    PE X (.Call (.Name "sorted" p) [.Call (.Name "set" p2) [e] [] q] [] pos) (tM X.K W true (xUn dSortSet m)) :=
  (pe_callB (cr_sortedSet hc) g1 hs PyProof.Rows.boot_sorted (pa_cons (pe_callTy (cr_setI hc) g2 ht PyProof.Rows.boot_set (pa_cons h pa_nil he) (by decide) (by decide) he (by rfl)) pa_nil he2) (by decide) (by decide) he2 (by rfl)).imp fun σ H Q ⟨c, ρ, k, ex, ok, hm, hk, hx⟩ => ⟨c, ρ, _, ex, ok, hm, fun d v H1 kd g r => by
    have g1 := ok.good.grow g
    have main : ∀ (l : Addr) (ns : List Int), v = .ref l → (SqL X.K H1 l (ns.map V.int) ∨ SqT X.K H1 l (ns.map V.int)) → ns.length ≤ 60 → k (.lst ((sortU ns).map D.int)) → rSetI X.K X.w [v] H1 (fun x H2 => rSortedSet X.w [x] H2 Q) := fun l ns e1 hq hl kk => by
      subst e1
      refine ⟨l, ns, rfl, hq, hl, fun pp cc hpp hcc => ⟨pp, _, cc, rfl, upd_same, by omega, fun ns' p' hs hmem hlen hp' => ?_⟩⟩
      have e : ns' = sortU ns := asc_eq hs (asc_sortU ns) fun z => by rw [hmem z, mem_sortU]; simp
      subst e
      have gr := Grow.new (o := SetO X.w pp (fun j => decide (j ∈ ns)) cc) g1 hpp
      have gg := g1.grow gr
      refine hk _ _ _ kk (g.trans (gr.trans (Grow.new gg hp'))) ((res_lst gg hp' ?_ (RpL.ofInts _)).back (g.trans gr))
      rw [List.length_map]
      exact Nat.le_trans (sortU_len ns) (Nat.le_trans hl (by decide))
    cases d with
    | lst xs =>
      obtain ⟨ns, rfl, hl, kk⟩ := kd
      obtain ⟨l, ys, e1, h1, _, h3⟩ := rp_lst.mp r.sh
      exact main l ns e1 (.inl (.inl (.inl (by rw [← h3.ints]; exact era_le _ _ h1)))) hl kk
    | tup xs =>
      obtain ⟨ns, rfl, hl, kk⟩ := kd
      obtain ⟨l, ys, e1, h1, _, h3⟩ := rp_tupS r.sh
      exact main l ns e1 (.inr (by rw [← h3.ints]; exact sqt_up h1)) hl kk
    | _ => exact kd.elim, hx⟩
def dSort2 : D → D → (D → Prop) → Prop
  | .int i, .int j, k => k (.lst ((sortU [i, j]).map D.int))
  | _, _, _ => False
theorem ce_sort2 (hs : X.mg "sorted" = none) (hcd : PySem.W.kdsCode X.K X.env.code = true) (ha : PE X a (tM X.K W false ma)) (hb : PE X b (tM X.K W false mb)) (g1 : Gl X "sorted" := by rfl) (hc : X.calm = true := by rfl)
    (h1 : starEach [a, b] X.env = (evalEach [a, b] X.env).map (fun t => (false, t)) := by rfl) (he2 : starEach [.Set [a, b] 0 q] X.env = [(false, eval (.Set [a, b] 0 q) X.env)] := by rfl) :
    PE X (.Call (.Name "sorted" p) [.Set [a, b] 0 q] [] pos) (tM X.K W true (xOp dSort2 ma mb)) :=
  (pe_callB (cr_sortedSet hc) g1 hs PyProof.Rows.boot_sorted (pa_cons (pe_set2 hcd ha hb h1) pa_nil he2) (by decide) (by decide) he2 (by rfl)).imp fun σ H Q ⟨c, ρ, k, ex, ok, hm, hk, hx⟩ => fun pp hpp => by
    have gr := Grow.new (o := SetO X.w pp (fun _ => false) 0) ok.good hpp
    refine ⟨_, ρ, _, ex, ok.add gr hpp (by rw [upd_same]; exact fun z => nomatch z), hm, fun d1 v1 H1 k1 g1 r1 => ⟨_, ρ, _, ex, (ok.add gr hpp (by rw [upd_same]; exact fun z => nomatch z)).grow g1, k1, fun d2 v2 H2 k2 g2 r2 => ?_, fun x cls dd H' e g z => ?_⟩, fun x cls dd H' e g z => ?_⟩
    · cases d1 <;> cases d2 <;> first | exact k2.elim | skip
      rename_i i j
      have nb : ∀ q, c.b = some q → pp ≠ q.1 := fun q hq z => ok.good.al pp (by rw [z]; exact (ok.good.bag q hq).1) hpp
      have hpp2 : H2 pp = some (SetO X.w pp (fun _ => false) 0) := g2.keep _ _ nb (g1.keep _ _ nb upd_same)
      refine ⟨i, j, rp_int.mp r1.sh, rp_int.mp r2.sh, hpp2, fun n hn => ⟨pp, _, n, rfl, upd_same, by omega, fun ns' p' hs hmem hlen hp' => ?_⟩⟩
      have e : ns' = sortU [i, j] := asc_eq hs (asc_sortU _) fun z => by rw [hmem z, mem_sortU]; simp
      subst e
      have gu : Grow c.b H (upd H2 pp (SetO X.w pp (fun k => (false || decide (k = i)) || decide (k = j)) n)) := ⟨fun x o hb e => by rw [upd_ne (ne_of_none e hpp)]; exact ((gr.trans g1).trans g2).keep x o hb e, fun q hq => by
        obtain ⟨ne, x0, x1, x2, ns, b1, b2, b3⟩ := g2.bag q hq
        have m1 : q.1 ≠ pp := fun z => nb q hq z.symm
        have m2 : q.2 ≠ pp := fun z => ok.good.al pp (by rw [← z]; exact (ok.good.bag q hq).2.1) hpp
        exact ⟨ne, x0, x1, x2, ns, by rw [upd_ne m1]; exact b1, by rw [upd_ne m2]; exact b2, b3⟩⟩
      exact hk _ _ _ k2 (gu.trans (Grow.new (ok.good.grow gu) hp')) ((res_lst (ok.good.grow gu) hp' (by rw [List.length_map]; exact Nat.le_trans (sortU_len _) (show 2 ≤ LN by decide)) (RpL.ofInts _)).back gu)
    · have ee : Ex (era (pp :: c.P) H') (era c.P H') := era_sub fun a ha => List.mem_cons_of_mem _ ha
      exact hx x cls dd H' e ((gr.trans g1).trans g) ⟨z.1, z.2.elim .inl fun ⟨nn, q, fs, a1, a2, a3⟩ => .inr ⟨nn, q, fs, a1, ee _ _ a2, RpF.mono ee _ _ a3⟩⟩
    · have ee : Ex (era (pp :: c.P) H') (era c.P H') := era_sub fun a ha => List.mem_cons_of_mem _ ha
      exact hx x cls dd H' e (gr.trans g) ⟨z.1, z.2.elim .inl fun ⟨nn, q, fs, a1, a2, a3⟩ => .inr ⟨nn, q, fs, a1, ee _ _ a2, RpF.mono ee _ _ a3⟩⟩

/-! ### slices of lists -/
abbrev MO := MEnv → (Option Int → Prop) → (Exn → Prop) → Prop
def tO (K : PySem.W.Frag) (W : WX) (m : MO) : TO := fun σ H Q => ∃ c ρ k ex, Ok K c H σ ρ ∧ m ρ k ex ∧
  (∀ d H', k d → Grow c.b H H' → Q d H') ∧ (∀ x cls dd H', ex x → Grow c.b H H' → ExR K c.b (era c.P H') cls dd x → W cls dd σ H')
def oNone : MO := fun _ k _ => k none
def oSome (m : MX) : MO := fun ρ k ex => m ρ (fun d => match d with
  | .int i => k (some i)
  | _ => False) ex
theorem co_none : PO X none (tO X.K W oNone) := ⟨fun pins s σ H Q I h => po_none.run pins s σ H Q I (by obtain ⟨c, ρ, k, ex, ok, hm, hk, hx⟩ := h; exact hk _ _ hm ok.refl)⟩
theorem co_some (h : PE X e (tM X.K W false m)) : PO X (some e) (tO X.K W (oSome m)) := ⟨fun pins s σ H Q I hh => (po_some h).run pins s σ H Q I (by
  obtain ⟨c, ρ, k, ex, ok, hm, hk, hx⟩ := hh
  exact ⟨c, ρ, _, ex, ok, hm, fun d v H' kd g r => by
    cases d with
    | int i => exact ⟨i, rp_int.mp r.sh, hk _ _ kd g⟩
    | _ => exact kd.elim, hx⟩)⟩
def cutD (xs : List D) (lo hi : Option Int) : List D := (xs.drop (HT.sIx xs.length 0 lo)).take (HT.sIx xs.length xs.length hi - HT.sIx xs.length 0 lo)
theorem RpL.cut {K : PySem.W.Frag} {bg : Bg} {H : Hp} {ds : List D} {xs : List V} (h : RpL K bg H ds xs) (lo hi : Option Int) : RpL K bg H (cutD ds lo hi) (cutV xs lo hi) := by
  unfold cutD cutV
  rw [h.len]
  exact (h.drop _).take _
theorem cutD_len (xs : List D) (lo hi : Option Int) : (cutD xs lo hi).length ≤ xs.length := by
  unfold cutD
  rw [List.length_take, List.length_drop]
  omega
def xSl (ma : MX) (lo hi : MO) : MX := fun ρ k ex => ma ρ (fun d => lo ρ (fun l => hi ρ (fun h => match d with
  | .lst xs => k (.lst (cutD xs l h))
  | .scr ns => ns.length ≤ LN ∧ k (.lst (cutD (ns.map D.int) l h))
  | _ => False) ex) ex) ex
theorem ce_slL {lo hi : Option Expr} {ml mh : MO} (ha : PE X a (tM X.K W false ma)) (hl : PO X lo (tO X.K W ml)) (hh : PO X hi (tO X.K W mh)) : PE X (.Subscript a (.Slice lo hi none p2) pos) (tM X.K W true (xSl ma ml mh)) :=
  (pe_slice sl_list ha hl hh).imp fun σ H Q ⟨c, ρ, k, ex, ok, hm, hk, hx⟩ => ⟨c, ρ, _, ex, ok, hm, fun d v H1 k1 g1 r1 => ⟨c, ρ, _, ex, ok.grow g1, k1, fun l H2 k2 g2 => ⟨c, ρ, _, ex, (ok.grow g1).grow g2, k2, fun h H3 k3 g3 => by
    cases d with
    | lst xs =>
      have gg := ((ok.good.grow g1).grow g2).grow g3
      obtain ⟨aa, ys, rfl, h1, hlen, h3⟩ := rp_lst.mp (Rp.mono (((ok.good.grow g1).grow g2).era g3) _ _ (Rp.mono ((ok.good.grow g1).era g2) _ _ r1.sh))
      exact ⟨aa, ys, rfl, .inl (.inl (era_le _ _ h1)), fun pp hp => hk _ _ _ k3 (((g1.trans g2).trans g3).trans (Grow.new gg hp)) ((res_lst gg hp (Nat.le_trans (cutD_len _ _ _) hlen) (h3.cut l h)).back ((g1.trans g2).trans g3))⟩
    | scr ns =>
      have gg := ((ok.good.grow g1).grow g2).grow g3
      obtain ⟨aa, rfl, h1⟩ := rp_scr.mp (Rp.mono (((ok.good.grow g1).grow g2).era g3) _ _ (Rp.mono ((ok.good.grow g1).era g2) _ _ r1.sh))
      exact ⟨aa, ns.map V.int, rfl, ex_l era_le h1, fun pp hp => hk _ _ _ k3.2 (((g1.trans g2).trans g3).trans (Grow.new gg hp)) ((res_lst gg hp (Nat.le_trans (cutD_len _ _ _) (by rw [List.length_map]; exact k3.1)) ((RpL.ofInts ns).cut l h)).back ((g1.trans g2).trans g3))⟩
    | _ => exact k3.elim, fun x cls dd H' e g z => hx x cls dd H' e ((g1.trans g2).trans g) z⟩, fun x cls dd H' e g z => hx x cls dd H' e (g1.trans g) z⟩, hx⟩

/-! ### d.get(k, x) -/
def xGet2 (md mk mx : MX) : MX := fun ρ k ex => md ρ (fun d => match d with
  | .dct kvs => mk ρ (fun y => mx ρ (fun z => match keyD y with
    | some kk => k ((valD kvs kk).getD z)
    | none => False) ex) ex
  | _ => False) ex
theorem ce_get2 {o e f : Expr} {md mk mx : MX} (hu : X.A.units + 1 < cLine) (ho : PE X o (tM X.K W false md)) (he : PE X e (tM X.K W false mk)) (hf : PE X f (tM X.K W false mx)) (m2 : M2 X o "get" apos e f cpos) : PE X (.Call (.Attribute o "get" apos) [e, f] [] cpos) (tM X.K W false (xGet2 md mk mx)) :=
  (pe_dget2 hu ho he hf m2).imp fun σ H Q ⟨c, ρ, k, ex, ok, hm, hk, hx⟩ => ⟨c, ρ, _, ex, ok, hm, fun d v H1 k1 g1 r1 => by
    cases d with
    | dct kvs =>
      obtain ⟨aa, xs, rfl, h1, _, _⟩ := rp_dct.mp r1.sh
      refine ⟨aa, rfl, .inl ⟨xs, ex_rd era_le h1⟩, c, ρ, _, ex, ok.grow g1, k1, fun y vy H2 k2 g2 r2 => ⟨c, ρ, _, ex, (ok.grow g1).grow g2, k2, fun z vz H3 k3 g3 r3 => ?_, fun x cls dd H' e g z => hx x cls dd H' e ((g1.trans g2).trans g) z⟩, fun x cls dd H' e g z => hx x cls dd H' e (g1.trans g) z⟩
      cases q : keyD y with
      | none => rw [q] at k3; exact k3.elim
      | some kk =>
        rw [q] at k3
        obtain ⟨a2, xs2, e2, h2, _, h4⟩ := rp_dct.mp (Rp.mono (((ok.good.grow g1).grow g2).era g3) _ _ (Rp.mono ((ok.good.grow g1).era g2) _ _ r1.sh))
        cases e2
        refine ⟨valV xs2 kk, .inl ⟨xs2, kk, ex_rd era_le h2, rp_key r2.sh q, rfl⟩, hk _ _ H3 k3 ((g1.trans g2).trans g3) (Res.of ?_)⟩
        cases qv : valD kvs kk with
        | none => rw [h4.val.1 qv]; exact r3.sh
        | some dd =>
          obtain ⟨vv, w1, w2⟩ := h4.val.2 dd qv
          rw [w1]
          exact w2
    | _ => exact k1.elim, hx⟩

/-! ### x or y by truth -/
def truD : D → Option Bool
  | .non => some false
  | .bl b => some b
  | .int i => some (i != 0)
  | .str x => some ((x.length : Int) != 0)
  | .lst xs => some (!xs.isEmpty)
  | .tup xs => some (!xs.isEmpty)
  | _ => none
theorem isEmpty_len {α β : Type} {a : List α} {b : List β} (h : a.length = b.length) : a.isEmpty = b.isEmpty := by
  cases a <;> cases b <;> simp at h ⊢
theorem rp_tru {K : PySem.W.Frag} {bg : Bg} {P : List Addr} {H : Hp} {d : D} {v : V} {b : Bool} (h : Rp K bg (era P H) d v) (ht : truD d = some b) : TruV K v H b := by
  cases d with
  | non => cases ht; rw [rp_non.mp h]; rfl
  | bl b => cases ht; rw [rp_bl.mp h]; rfl
  | int i => cases ht; rw [rp_int.mp h]; rfl
  | str x => cases ht; rw [(rp_str.mp h).1]; exact ⟨LN_size (rp_str.mp h).2, rfl⟩
  | lst ds => cases ht; obtain ⟨a, xs, rfl, h1, _, h3⟩ := rp_lst.mp h; exact .inl ⟨xs, .inl (.inl (era_le _ _ h1)), by rw [isEmpty_len h3.len]⟩
  | tup ds => cases ht; obtain ⟨a, xs, rfl, h1, _, h3⟩ := rp_tupS h; exact .inr (.inl ⟨xs, sqt_up h1, by rw [isEmpty_len h3.len]⟩)
  | dct ds => cases ht
  | ktp ds => cases ht
  | dtt ds => cases ht
  | ins c ds => cases ht
  | new x c ds => cases ht
  | scr ns => cases ht
  | exo a dd ds => cases ht
  | bag => cases ht
def xOrT (a b : MX) : MX := fun ρ k ex => a ρ (fun d => match truD d with
  | some true => k d
  | some false => b ρ k ex
  | none => False) ex
theorem Res.on {K : PySem.W.Frag} {bg : Bg} {P : List Addr} {H H1 H' : Hp} {v : V} {d : D} (g1 : Grow bg H H1) (h : Res K fr bg P H1 H' v d) : Res K fr bg P H H' v d := h.back g1
theorem ce_orT {rest : List Expr} (ha : PE X a (tM X.K W fr ma)) (hb : PE X (.BoolOp .Or (b :: rest) pos) (tM X.K W fr mb)) : PE X (.BoolOp .Or (a :: b :: rest) pos) (tM X.K W fr (xOrT ma mb)) :=
  (pe_orT ha hb).imp fun σ H Q ⟨c, ρ, k, ex, ok, hm, hk, hx⟩ => ⟨c, ρ, _, ex, ok, hm, fun d v H1 k1 g1 r1 => by
    cases q : truD d with
    | none => rw [q] at k1; exact k1.elim
    | some bb =>
      rw [q] at k1
      refine ⟨bb, rp_tru (r1.rp ok.good.al) q, ?_⟩
      cases bb with
      | true => exact hk d v H1 k1 g1 r1
      | false => exact ⟨c, ρ, k, ex, ok.grow g1, k1, fun d v H' kd g r => hk d v H' kd (g1.trans g) (r.back g1), fun x cls dd H' e g z => hx x cls dd H' e (g1.trans g) z⟩, hx⟩
/-- a test by truth -/
def tTruM (m : MX) : MT := fun ρ k ex => m ρ (fun d => match truD d with
  | some b => k b
  | none => False) ex
end
end DM
end
section
set_option Elab.async false
set_option linter.all false
set_option maxRecDepth 100000
set_option maxHeartbeats 4000000
namespace DM
open PySem L2 Evl

/-! ### keys as data -/
def kD : Key → D
  | .inl i => .int i
  | .inr x => .str x
def keyOk : Key → Prop
  | .inl _ => True
  | .inr x => x.length ≤ LN
theorem rp_kD {K : PySem.W.Frag} {b : Bg} {H : Hp} {k : Key} (h : keyOk k) : Rp K b H (kD k) (kV k) := by
  cases k with
  | inl i => exact rp_int.mpr rfl
  | inr x => exact rp_str.mpr ⟨rfl, h⟩
theorem keyD_kD (k : Key) : keyD (kD k) = some k := by cases k <;> rfl
theorem keyD_ok {K : PySem.W.Frag} {b : Bg} {H : Hp} {d : D} {v : V} {k : Key} (h : Rp K b H d v) (hk : keyD d = some k) : keyOk k := by
  cases d <;> first | (cases hk; done) | skip
  · cases hk; trivial
  · cases hk; exact (rp_str.mp h).2

/-! ### dict comprehensions -/
def dcGo (tg : Tg) (mt : MT) (mk mv : MX) (ρ : MEnv) (k : D → Prop) : List D → List (Key × D) → Prop
  | [], acc => k (.dct acc)
  | d :: ds, acc => tg.m d ρ fun ρ' => mt ρ' (fun c => if c = true then mk ρ' (fun y => mv ρ' (fun z => match keyD y with
    | some kk => dcGo tg mt mk mv ρ k ds (putD acc kk z)
    | none => False) no1) no1 else dcGo tg mt mk mv ρ k ds acc) no1
def xDc (vs : List Nat) (tg : Tg) (mi : MA) (mt : MT) (mk mv : MX) : MX := fun ρ k ex => mi ρ (fun ds => ds.length ≤ LN ∧ dcGo tg mt mk mv (wipeM ρ vs) k ds []) ex
theorem dc_turns {K : PySem.W.Frag} {vs : List Nat} {tg : Tg} {mt : MT} {mk mv : MX} (hv : ∀ j ∈ tg.slots, j ∈ vs) {c : Cc} {ρ : MEnv} {σ : St} {H1 : Hp} {k : D → Prop} {Q : VK} {J : It} {T : List Keep} {ds : List D} (ok : Ok K c H1 σ ρ) (hlen : ds.length ≤ LN) (kd : dcGo tg mt mk mv (wipeM ρ vs) k ds [])
    (hT : ∀ q ∈ T, q.p c.b (era c.P H1)) (feeds : Feeds K J T ds) (hk : ∀ d v H', k d → Grow c.b H1 H' → Res K true c.b c.P H1 H' v d → Q v H') : tDc (fun _ _ R => R J H1) (tg.g K) (tT K W0 mt) (tM K W0 false mk) (tM K W0 false mv) vs σ H1 Q := by
  intro Dd hD
  have g0 := ok.good
  have gD : Grow c.b H1 (upd H1 Dd (.dK [])) := Grow.new g0 hD
  have okT : Ok K ⟨c.b, c.P0, Dd :: c.P, T ++ c.T⟩ (upd H1 Dd (.dK [])) (L2.wipe σ vs) (wipeM ρ vs) := ((ok.tmps hT).add gD hD (by rw [upd_same]; exact fun z => nomatch z)).wipe vs
  refine ⟨fun i mm H' => mm = ds.length - i ∧ i ≤ ds.length ∧ Grow c.b H1 H' ∧ Ok K ⟨c.b, c.P0, Dd :: c.P, T ++ c.T⟩ H' (L2.wipe σ vs) (wipeM ρ vs) ∧ ∃ acc accV, H' Dd = some (.dK accV) ∧ RpK K c.b (era (Dd :: c.P) H') acc accV ∧ acc.length ≤ i ∧ dcGo tg mt mk mv (wipeM ρ vs) k (ds.drop i) acc,
    ⟨ds.length, rfl, Nat.zero_le _, gD, okT, [], [], upd_same, rpk_nil.mpr rfl, Nat.le_refl _, kd⟩, ?_⟩
  rintro i mm H' ⟨rfl, hi, g2, ok2, acc, accV, hDv, hR, hal, hq⟩
  obtain ⟨f1, f2⟩ := feeds c.b (Dd :: c.P) H' ok2.good (fun q hq => ok2.tmp q (List.mem_append_left _ hq))
  by_cases hlt : i < ds.length
  · rw [List.drop_eq_getElem_cons hlt] at hq
    obtain ⟨go, yl⟩ := f1 i ds[i] (List.getElem?_eq_getElem hlt)
    refine .inr ⟨go, fun H3 => Grow c.b H1 H3 ∧ Ok K ⟨c.b, c.P0, Dd :: c.P, T ++ c.T⟩ H3 (L2.wipe σ vs) (wipeM ρ vs) ∧ ∃ acc accV, H3 Dd = some (.dK accV) ∧ RpK K c.b (era (Dd :: c.P) H3) acc accV ∧ acc.length ≤ i + 1 ∧ dcGo tg mt mk mv (wipeM ρ vs) k (ds.drop (i + 1)) acc,
      fun H3 ⟨a1, a2, a3⟩ => ⟨ds.length - (i + 1), by omega, rfl, hlt, a1, a2, a3⟩, fun x H2 hy => ?_⟩
    obtain ⟨gy, ry⟩ := yl x H2 hy
    have nb : ∀ q, c.b = some q → Dd ≠ q.1 := fun q hq z => g0.al Dd (by rw [z]; exact (g0.bag q hq).1) hD
    refine Tg.ok tg (ok2.grow gy) ry hv hq fun σ2 ρ2 ew hq2 ok3 => ⟨ew.trans wipe_wipe, ?_⟩
    refine ⟨_, ρ2, _, no1, ok3, hq2, fun b H3 kb g3 => ?_, fun _ _ _ _ z => z.elim⟩
    have okb := (ok2.grow gy).grow g3
    have hD3 : H3 Dd = some (.dK accV) := g3.keep _ _ nb (gy.keep _ _ nb hDv)
    have hR3 : RpK K c.b (era (Dd :: c.P) H3) acc accV := RpK.mono ((ok2.grow gy).good.era g3) _ _ (RpK.mono (ok2.good.era gy) _ _ hR)
    cases b with
    | false => exact ⟨(g2.trans gy).trans g3, okb, acc, accV, hD3, hR3, Nat.le_succ_of_le hal, kb⟩
    | true =>
      refine ⟨_, ρ2, _, no1, ok3.grow g3, kb, fun y v H4 ky g4 r4 => ⟨_, ρ2, _, no1, (ok3.grow g3).grow g4, ky, fun z vz H5 kz g5 r5 => ?_, fun _ _ _ _ z => z.elim⟩, fun _ _ _ _ z => z.elim⟩
      cases qk : keyD y with
      | none => rw [qk] at kz; exact kz.elim
      | some kk =>
      rw [qk] at kz
      have hD4 : H5 Dd = some (.dK accV) := g5.keep _ _ nb (g4.keep _ _ nb hD3)
      have ok4 := (okb.grow g4).grow g5
      have hR4 : RpK K c.b (era (Dd :: c.P) H5) acc accV := RpK.mono ((okb.grow g4).good.era g5) _ _ (RpK.mono (okb.good.era g4) _ _ hR3)
      have e4 : era (Dd :: c.P) (upd H5 Dd (.dK (putK accV kk vz))) = era (Dd :: c.P) H5 := era_upd List.mem_cons_self
      have g6 : Grow c.b H1 (upd H5 Dd (.dK (putK accV kk vz))) := ⟨fun a o hb e => by rw [upd_ne (ne_of_none e hD)]; exact ((((g2.trans gy).trans g3).trans g4).trans g5).keep a o hb e, fun q hq => by
        obtain ⟨ne, x0, x1, x2, ns, b1, b2, b3⟩ := g5.bag q hq
        have n1 : q.1 ≠ Dd := fun z => nb q hq z.symm
        have n2 : q.2 ≠ Dd := fun z => g0.al Dd (by rw [← z]; exact (g0.bag q hq).2.1) hD
        exact ⟨ne, x0, x1, x2, ns, by rw [upd_ne n1]; exact b1, by rw [upd_ne n2]; exact b2, b3⟩⟩
      refine ⟨accV, kk, rp_key r4.sh qk, hD4, ?_, g6, ?_, putD acc kk z, putK accV kk vz, upd_same, ?_, ?_, kz⟩
      · rw [hR4.len]
        exact Nat.lt_of_lt_of_le (Nat.lt_of_le_of_lt hal hlt) (LN_size hlen)
      · obtain ⟨o1, o2, o3, o4, oo, oq⟩ := ok4
        refine ⟨⟨fun q hq => ⟨(o1.bag q hq).1, (o1.bag q hq).2.1, g6.bag q hq⟩, fun a ha z => ?_, fun a ha xs z => ?_⟩, o2, o3, fun q hq => by show q.p c.b (era (Dd :: c.P) (upd H5 Dd (.dK (putK accV kk vz)))); rw [e4]; exact o4 q hq, oo, oq.len, fun j e z => ?_, fun j e z => ?_, oq.inj⟩
        · by_cases ea : a = Dd
          · rw [ea, upd_same] at z; cases z
          · rw [upd_ne ea] at z; exact o1.al a ha z
        · by_cases ea : a = Dd
          · rw [ea, upd_same] at z; cases z
          · rw [upd_ne ea] at z; exact o1.nt a ha xs z
        · show ∃ v', _ ∧ Rp K c.b (era (Dd :: c.P) (upd H5 Dd (.dK (putK accV kk vz)))) e v'
          rw [e4]
          exact oq.sh j e z
        · obtain ⟨w1, w2, w3, w4⟩ := oq.ow j e z
          have nj : oo j ≠ Dd := fun z' => by
            obtain ⟨o'', q''⟩ := (ok.wipe vs).rel
            obtain ⟨y1, y2, _⟩ := q''.ow j e z
            rw [y1] at w1
            have : o'' j = oo j := by injection w1 with w1; injection w1 with w1; injection w1 with w1
            exact ok.good.al (o'' j) y2 (by rw [this, z']; exact hD)
          exact ⟨w1, w2, w3, w4.mono (by show Ex (era (Dd :: c.P) H5) (era (Dd :: c.P) (upd H5 Dd (.dK (putK accV kk vz)))); rw [e4]; exact Ex.refl _) fun u w => by rw [upd_ne nj]; exact w⟩
      · rw [e4]
        exact hR4.put r5.sh
      · have := putD_len acc kk z
        omega
  · have e : i = ds.length := by omega
    subst e
    rw [List.drop_length] at hq
    refine .inl ⟨f2, hk _ _ H' hq g2 ?_⟩
    exact .inl ⟨Dd, rfl, hD, accV, hDv, Nat.le_trans hal hlen, hR⟩
theorem dc_imp {K : PySem.W.Frag} {W : WX} {vs : List Nat} {tg : Tg} {mi : MA} {mt : MT} {mk mv : MX} (hv : ∀ j ∈ tg.slots, j ∈ vs) : ∀ σ H Q, tM K W true (xDc vs tg mi mt mk mv) σ H Q → tDc (iM K W mi) (tg.g K) (tT K W0 mt) (tM K W0 false mk) (tM K W0 false mv) vs σ H Q := fun σ H Q ⟨c, ρ, k, ex, ok, hm, hk, hx⟩ =>
  ⟨c, ρ, _, ex, ok, hm, fun ds J T H1 kd g hT feeds => dc_turns hv (ok.grow g) kd.1 kd.2 hT feeds fun d v H' kk gr r => hk d v H' kk (g.trans gr) (r.back g), hx⟩
section
variable {X : Cx} {W : WX} {fr : Bool} {kx vx elt tg iter : Expr} {ifs : List Expr} {scope : Scope} {own : List (Str × Nat)} {pos : Pos} {mi : MA} {mt : MT} {mk mv me : MX}
theorem ce_dc {vs : List Nat} (T : Tg) (hN : X.N.Nodup) (hi : PI X tg iter (iM X.K W mi)) (ok : BlkOk X.N X.env.scope scope own) (hvs : own.map (·.2) = vs) (hv : ∀ j ∈ T.slots, j ∈ own.map (·.2))
    (hg : ∀ (s : Shared) (H : Hp) (C : Addr) (cl : List (Str × Addr)) (fp : List Addr), PG (X.blk s H scope (compEnvC scope cl C X.env) fp) tg (T.g X.K)) (ht : ∀ (s : Shared) (H : Hp) (C : Addr) (cl : List (Str × Addr)) (fp : List Addr), PTs (X.blk s H scope (compEnvC scope cl C X.env) fp) ifs (tT X.K W0 mt))
    (hk : ∀ (s : Shared) (H : Hp) (C : Addr) (cl : List (Str × Addr)) (fp : List Addr), PE (X.blk s H scope (compEnvC scope cl C X.env) fp) kx (tM X.K W0 false mk))
    (he : ∀ (s : Shared) (H : Hp) (C : Addr) (cl : List (Str × Addr)) (fp : List Addr), PE (X.blk s H scope (compEnvC scope cl C X.env) fp) vx (tM X.K W0 false mv)) (hc : X.calm = true := by rfl) (hs : ∀ x, foldedSetIterable iter X.env x = pure x := by intro _; rfl) :
    PE X (.DictComp kx vx [⟨tg, iter, ifs, 0⟩] scope pos) (tM X.K W true (xDc vs T mi mt mk mv)) := by subst hvs; exact (pe_dc hc hN hi ok hg ht hk he hs).imp (dc_imp hv)
end

/-! ### a dict walked: locked while it runs -/
section
variable {K : PySem.W.Frag} {b : Bg} {H : Hp} {a : Addr} {kvs : List (Key × V)} {od : Obj}
theorem sqt_lock {u o' : HO} {x : Addr} {xs : List V} (hu : H a = some u) (n1 : u ≠ .tup xs) (n2 : ∀ o, u ≠ .frz o (.tup xs)) (h : SqT K H x xs) : SqT K (upd H a o') x xs := by
  rcases h with (h | ⟨o, h⟩) | h
  · have ne : x ≠ a := fun z => by rw [z, hu] at h; injection h with h; exact n1 h
    exact .inl (.inl (by rw [upd_ne ne]; exact h))
  · have ne : x ≠ a := fun z => by rw [z, hu] at h; injection h with h; exact n2 o h
    exact .inl (.inr ⟨o, by rw [upd_ne ne]; exact h⟩)
  · exact .inr h
/-- what stands at a changes between a dict and the dict locked -/
structure LkSw (H : Hp) (a : Addr) (o' : HO) : Prop where
  at_ : ∃ u, H a = some u ∧ (∀ xs, u ≠ .lst xs) ∧ (∀ xs, u ≠ .tup xs) ∧ (∀ o xs, u ≠ .frz o (.tup xs)) ∧ (∀ c dx fs, u ≠ .ins c dx fs) ∧ (∀ o xs, u ≠ .frz o (.lst xs)) ∧ ∀ fs, u ≠ .xd fs
  rd : ∀ kvs, Rd H a (.dK kvs) → Rd (upd H a o') a (.dK kvs)
  rdT : ∀ kvs, Rd H a (.dT kvs) → Rd (upd H a o') a (.dT kvs)
mutual
theorem Rp.sw {o' : HO} (s : LkSw H a o') : ∀ (d : D) (v : V), Rp K b H d v → Rp K b (upd H a o') d v
  | .non, v, h => by unfold Rp at h ⊢; exact h
  | .bl c, v, h => by unfold Rp at h ⊢; exact h
  | .int i, v, h => by unfold Rp at h ⊢; exact h
  | .str x, v, h => by unfold Rp at h ⊢; exact h
  | .lst ds, v, h => by
    unfold Rp at h ⊢
    obtain ⟨p, xs, h1, h2, h3, h4⟩ := h
    obtain ⟨u, hu, n1, n2, n3, n4, n5, n6⟩ := s.at_
    have ne : p ≠ a := fun z => by rw [z, hu] at h2; injection h2 with h2; exact n1 _ h2
    exact ⟨p, xs, h1, by rw [upd_ne ne]; exact h2, h3, RpL.sw s ds xs h4⟩
  | .tup ds, v, h => by
    unfold Rp at h ⊢
    obtain ⟨p, xs, h1, h2, h3, h4⟩ := h
    obtain ⟨u, hu, n1, n2, n3, n4, n5, n6⟩ := s.at_
    have ne : p ≠ a := fun z => by rw [z, hu] at h2; injection h2 with h2; exact n2 _ h2
    exact ⟨p, xs, h1, by rw [upd_ne ne]; exact h2, h3, RpL.sw s ds xs h4⟩
  | .ktp ds, v, h => by
    unfold Rp at h ⊢
    obtain ⟨p, xs, h1, h2, h3, h4⟩ := h
    obtain ⟨u, hu, n1, n2, n3, n4, n5, n6⟩ := s.at_
    exact ⟨p, xs, h1, sqt_lock hu (n2 _) (fun o => n3 o _) h2, h3, RpL.sw s ds xs h4⟩
  | .dtt ds, v, h => by
    unfold Rp at h ⊢
    obtain ⟨p, xs, h1, h2, h3, h4⟩ := h
    refine ⟨p, xs, h1, ?_, h3, RpT.sw s ds xs h4⟩
    by_cases e : p = a
    · subst e; exact s.rdT _ h2
    · rcases h2 with h2 | ⟨o, h2⟩
      · exact .inl (by rw [upd_ne e]; exact h2)
      · exact .inr ⟨o, by rw [upd_ne e]; exact h2⟩
  | .dct ds, v, h => by
    unfold Rp at h ⊢
    obtain ⟨p, xs, h1, h2, h3, h4⟩ := h
    refine ⟨p, xs, h1, ?_, h3, RpK.sw s ds xs h4⟩
    by_cases e : p = a
    · subst e; exact s.rd _ h2
    · rcases h2 with h2 | ⟨o, h2⟩
      · exact .inl (by rw [upd_ne e]; exact h2)
      · exact .inr ⟨o, by rw [upd_ne e]; exact h2⟩
  | .ins c ds, v, h => by
    unfold Rp at h ⊢
    obtain ⟨p, dx, xs, h1, h2, h4⟩ := h
    obtain ⟨u, hu, n1, n2, n3, n4, n5, n6⟩ := s.at_
    have ne : p ≠ a := fun z => by rw [z, hu] at h2; injection h2 with h2; exact n4 _ _ _ h2
    exact ⟨p, dx, xs, h1, by rw [upd_ne ne]; exact h2, RpF.sw s ds xs h4⟩
  | .new x c ds, v, h => by
    unfold Rp at h ⊢
    obtain ⟨h1, dx, xs, h2, h4⟩ := h
    obtain ⟨u, hu, n1, n2, n3, n4, n5, n6⟩ := s.at_
    have ne : x ≠ a := fun z => by rw [z, hu] at h2; injection h2 with h2; exact n4 _ _ _ h2
    exact ⟨h1, dx, xs, by rw [upd_ne ne]; exact h2, RpF.sw s ds xs h4⟩
  | .scr ns, v, h => by
    unfold Rp at h ⊢
    obtain ⟨x, h1, h2⟩ := h
    obtain ⟨u, hu, n1, n2, n3, n4, n5, n6⟩ := s.at_
    refine ⟨x, h1, ?_⟩
    rcases h2 with (h | ⟨o, h⟩) | h
    · have ne : x ≠ a := fun z => by rw [z, hu] at h; injection h with h; exact n1 _ h
      exact .inl (.inl (by rw [upd_ne ne]; exact h))
    · have ne : x ≠ a := fun z => by rw [z, hu] at h; injection h with h; exact n5 _ _ h
      exact .inl (.inr ⟨o, by rw [upd_ne ne]; exact h⟩)
    · exact .inr h
  | .exo x dd ds, v, h => by
    unfold Rp at h ⊢
    obtain ⟨h1, h2⟩ := h
    obtain ⟨u, hu, n1, n2, n3, n4, n5, n6⟩ := s.at_
    refine ⟨h1, h2.imp id fun ⟨n, q, fs, e1, e2, e3⟩ => ⟨n, q, fs, e1, ?_, RpF.sw s ds fs e3⟩⟩
    have ne : q ≠ a := fun z => by rw [z, hu] at e2; injection e2 with e2; exact n6 _ e2
    rw [upd_ne ne]; exact e2
  | .bag, v, h => by unfold Rp at h ⊢; exact h
theorem RpL.sw {o' : HO} (s : LkSw H a o') : ∀ (ds : List D) (xs : List V), RpL K b H ds xs → RpL K b (upd H a o') ds xs
  | [], xs, h => by unfold RpL at h ⊢; exact h
  | d :: ds, xs, h => by
    unfold RpL at h ⊢
    obtain ⟨x, r, h1, h2, h3⟩ := h
    exact ⟨x, r, h1, Rp.sw s d x h2, RpL.sw s ds r h3⟩
theorem RpK.sw {o' : HO} (s : LkSw H a o') : ∀ (ds : List (Key × D)) (xs : List (Key × V)), RpK K b H ds xs → RpK K b (upd H a o') ds xs
  | [], xs, h => by unfold RpK at h ⊢; exact h
  | (k, d) :: ds, xs, h => by
    unfold RpK at h ⊢
    obtain ⟨x, r, h1, h2, h3⟩ := h
    exact ⟨x, r, h1, Rp.sw s d x h2, RpK.sw s ds r h3⟩
theorem RpT.sw {o' : HO} (s : LkSw H a o') : ∀ (ds : List (List Key × D)) (xs : List (List Key × V)), RpT K b H ds xs → RpT K b (upd H a o') ds xs
  | [], xs, h => by unfold RpT at h ⊢; exact h
  | (k, d) :: ds, xs, h => by
    unfold RpT at h ⊢
    obtain ⟨x, r, h1, h2, h3⟩ := h
    exact ⟨x, r, h1, Rp.sw s d x h2, RpT.sw s ds r h3⟩
theorem RpF.sw {o' : HO} (s : LkSw H a o') : ∀ (ds : List (Str × D)) (xs : List (Str × V)), RpF K b H ds xs → RpF K b (upd H a o') ds xs
  | [], xs, h => by unfold RpF at h ⊢; exact h
  | (k, d) :: ds, xs, h => by
    unfold RpF at h ⊢
    obtain ⟨x, r, h1, h2, h3⟩ := h
    exact ⟨x, r, h1, Rp.sw s d x h2, RpF.sw s ds r h3⟩
end
theorem lk_on (h : H a = some (.dK kvs)) : LkSw H a (.frz od (.dK kvs)) := by
  refine ⟨⟨_, h, (by intros; intro z; cases z), (by intros; intro z; cases z), (by intros; intro z; cases z), (by intros; intro z; cases z), (by intros; intro z; cases z), (by intros; intro z; cases z)⟩, fun ks r => ?_, fun ks r => ?_⟩
  · rcases r with r | ⟨o, r⟩
    · rw [h] at r; cases r; exact .inr ⟨od, upd_same⟩
    · rw [h] at r; cases r
  · rcases r with r | ⟨o, r⟩ <;> (rw [h] at r; cases r)
theorem lk_off (h : H a = some (.frz od (.dK kvs))) : LkSw H a (.dK kvs) := by
  refine ⟨⟨_, h, (by intros; intro z; cases z), (by intros; intro z; cases z), (by intros; intro z; cases z), (by intros; intro z; cases z), (by intros; intro z; cases z), (by intros; intro z; cases z)⟩, fun ks r => ?_, fun ks r => ?_⟩
  · rcases r with r | ⟨o, r⟩
    · rw [h] at r; cases r
    · rw [h] at r; cases r; exact .inl upd_same
  · rcases r with r | ⟨o, r⟩ <;> (rw [h] at r; cases r)
theorem lk_onT {kts : List (List Key × V)} (h : H a = some (.dT kts)) : LkSw H a (.frz od (.dT kts)) := by
  refine ⟨⟨_, h, (by intros; intro z; cases z), (by intros; intro z; cases z), (by intros; intro z; cases z), (by intros; intro z; cases z), (by intros; intro z; cases z), (by intros; intro z; cases z)⟩, fun ks r => ?_, fun ks r => ?_⟩
  · rcases r with r | ⟨o, r⟩ <;> (rw [h] at r; cases r)
  · rcases r with r | ⟨o, r⟩
    · rw [h] at r; cases r; exact .inr ⟨od, upd_same⟩
    · rw [h] at r; cases r
theorem lk_offT {kts : List (List Key × V)} (h : H a = some (.frz od (.dT kts))) : LkSw H a (.dT kts) := by
  refine ⟨⟨_, h, (by intros; intro z; cases z), (by intros; intro z; cases z), (by intros; intro z; cases z), (by intros; intro z; cases z), (by intros; intro z; cases z), (by intros; intro z; cases z)⟩, fun ks r => ?_, fun ks r => ?_⟩
  · rcases r with r | ⟨o, r⟩ <;> (rw [h] at r; cases r)
  · rcases r with r | ⟨o, r⟩
    · rw [h] at r; cases r
    · rw [h] at r; cases r; exact .inl upd_same
theorem era_updN {P : List Addr} {o' : HO} (h : a ∉ P) : era P (upd H a o') = upd (era P H) a o' := by
  funext x
  unfold era
  by_cases hx : x = a
  · subst hx; rw [if_neg h, upd_same, upd_same]
  · by_cases hp : x ∈ P
    · rw [if_pos hp, upd_ne hx, if_pos hp]
    · rw [if_neg hp, upd_ne hx, upd_ne hx, if_neg hp]
theorem OwnC.sw {P : List Addr} {p : Addr} {d : D} {o' : HO} (s : LkSw (era P H) a o') (ha : a ∉ P) (hp : p ≠ a) (h : OwnC K b P H p d) : OwnC K b P (upd H a o') p d := by
  cases d with
  | lst ds =>
    obtain ⟨xs, h1, h2, h3⟩ := h
    exact ⟨xs, by rw [upd_ne hp]; exact h1, h2, by rw [era_updN ha]; exact RpL.sw s _ _ h3⟩
  | dct ds =>
    obtain ⟨xs, h1, h2, h3⟩ := h
    exact ⟨xs, by rw [upd_ne hp]; exact h1, h2, by rw [era_updN ha]; exact RpK.sw s _ _ h3⟩
  | dtt ds =>
    obtain ⟨xs, h1, h2, h3⟩ := h
    exact ⟨xs, by rw [upd_ne hp]; exact h1, h2, by rw [era_updN ha]; exact RpT.sw s _ _ h3⟩
  | ins c ds =>
    obtain ⟨dx, xs, h1, h3⟩ := h
    exact ⟨dx, xs, by rw [upd_ne hp]; exact h1, by rw [era_updN ha]; exact RpF.sw s _ _ h3⟩
  | new x c ds =>
    obtain ⟨h0, dx, xs, h1, h3⟩ := h
    exact ⟨h0, dx, xs, by rw [upd_ne hp]; exact h1, by rw [era_updN ha]; exact RpF.sw s _ _ h3⟩
  | _ => exact h.elim
theorem Ok.sw {c : Cc} {σ : St} {ρ : MEnv} {o' : HO} (s : LkSw (era c.P H) a o') (ha : a ∉ c.P) (h : Ok K c H σ ρ) : Ok K ⟨c.b, c.P0, c.P, []⟩ (upd H a o') σ ρ := by
  obtain ⟨h1, h2, h3, h4, o, q⟩ := h
  refine ⟨⟨fun x hx => ⟨(h1.bag x hx).1, (h1.bag x hx).2.1, ?_⟩, fun x hx => ?_, fun x hx => ?_⟩, h2, h3, (fun q hq => nomatch hq), o, q.len, fun i d e => ?_, fun i d e => ?_, q.inj⟩
  · obtain ⟨b1, b2, ⟨ne, x0, x1, x2, ns, e1, e2, e3⟩⟩ := h1.bag x hx
    have n1 : x.1 ≠ a := fun z => ha (z ▸ b1)
    have n2 : x.2 ≠ a := fun z => ha (z ▸ b2)
    exact ⟨ne, x0, x1, x2, ns, by rw [upd_ne n1]; exact e1, by rw [upd_ne n2]; exact e2, e3⟩
  · have nx : x ≠ a := fun z => ha (z ▸ hx)
    rw [upd_ne nx]; exact h1.al x hx
  · have nx : x ≠ a := fun z => ha (z ▸ hx)
    rw [upd_ne nx]; exact h1.nt x hx
  · obtain ⟨v, v1, v2⟩ := q.sh i d e
    exact ⟨v, v1, by show Rp K c.b (era c.P (upd H a o')) d v; rw [era_updN ha]; exact Rp.sw s _ _ v2⟩
  · obtain ⟨v1, v2, v3, v4⟩ := q.ow i d e
    exact ⟨v1, v2, v3, v4.sw s ha fun z => ha (z ▸ v2)⟩
end
def kLk (a : Addr) (o : Obj) (u : HO) : Keep := ⟨fun _ H => H a = some (.frz o u), fun _ _ _ e h => e _ _ h⟩
/-- what is walked is the locked dict that stands in slot i -/
def iLk (It' : Addr → Obj → List (Key × V) → It) (i : Nat) : TI := fun σ H R => ∃ d o kvs, σ[i]? = some (some (.ref d)) ∧ H d = some (.frz o (.dK kvs)) ∧ R (It' d o kvs) H
def FeedsK (K : PySem.W.Frag) (It' : Addr → Obj → List (Key × V) → It) (f : List (Key × D) → List D) : Prop := ∀ a o xs kvs, (∀ kv ∈ kvs, keyOk kv.1) → Feeds K (It' a o xs) [kLk a o (.dK xs), kRp K (.dct kvs) (.ref a)] (f kvs) ∧ (f kvs).length = kvs.length
def xLcL (vs : List Nat) (tg : Tg) (i : Nat) (f : List (Key × D) → List D) (mt : MT) (me : MX) : MX := fun ρ k _ => match ρ[i]? with
  | some (.sh (.dct kvs)) => (∀ kv ∈ kvs, keyOk kv.1) ∧ lcGo tg mt me (wipeM ρ vs) k (f kvs) []
  | _ => False
theorem RpK.nth {K : PySem.W.Frag} {b : Bg} {H : Hp} : ∀ {ds : List (Key × D)} {xs : List (Key × V)} {i : Nat} {k : Key} {d : D}, RpK K b H ds xs → ds[i]? = some (k, d) → ∃ v, xs[i]? = some (k, v) ∧ Rp K b H d v
  | [], xs, i, k, d, h, e => by simp at e
  | (k', d') :: ds, xs, 0, k, d, h, e => by
    obtain ⟨x, r, rfl, h1, h2⟩ := rpk_cons.mp h
    simp at e
    obtain ⟨rfl, rfl⟩ := e
    exact ⟨x, rfl, h1⟩
  | (k', d') :: ds, xs, i + 1, k, d, h, e => by
    obtain ⟨x, r, rfl, h1, h2⟩ := rpk_cons.mp h
    obtain ⟨y, e1, e2⟩ := RpK.nth (i := i) h2 (by simpa using e)
    exact ⟨y, by simpa using e1, e2⟩
theorem feeds_at {K : PySem.W.Frag} {b : Bg} {P : List Addr} {H : Hp} {a : Addr} {o : Obj} {xs : List (Key × V)} {kvs : List (Key × D)} (h : ∀ q ∈ [kLk a o (.dK xs), kRp K (.dct kvs) (.ref a)], q.p b (era P H)) : H a = some (.frz o (.dK xs)) ∧ RpK K b (era P H) kvs xs := by
  have h1 : era P H a = some (.frz o (.dK xs)) := h _ List.mem_cons_self
  obtain ⟨a', ys, e, h2, _, h3⟩ := rp_dct.mp (show Rp K b (era P H) (.dct kvs) (.ref a) from h _ (List.mem_cons_of_mem _ List.mem_cons_self))
  cases e
  refine ⟨(era_some h1).1, ?_⟩
  rcases h2 with h2 | ⟨o', h2⟩
  · rw [h1] at h2; cases h2
  · rw [h1] at h2; cases h2; exact h3
def keysD (kvs : List (Key × D)) : List D := kvs.map fun kv => kD kv.1
def itemsD (kvs : List (Key × D)) : List D := kvs.map fun kv => .tup [kD kv.1, kv.2]
def valsD (kvs : List (Key × D)) : List D := kvs.map (·.2)
theorem feeds_keys {K : PySem.W.Frag} : FeedsK K Itk keysD := fun a o xs kvs ko => ⟨fun b P H g h => by
  obtain ⟨h1, h2⟩ := feeds_at h
  refine ⟨fun i d e => ?_, h1, by unfold keysD; rw [List.length_map, h2.len]; exact Nat.le_refl _⟩
  unfold keysD at e
  rw [List.getElem?_map] at e
  cases q : kvs[i]? with
  | none => rw [q] at e; cases e
  | some kv =>
    rw [q] at e
    cases e
    obtain ⟨v, e1, e2⟩ := h2.nth (k := kv.1) (d := kv.2) q
    refine ⟨⟨h1, (List.getElem?_eq_some_iff.mp e1).1⟩, fun x H2 hy => ?_⟩
    obtain ⟨rfl, k, v', e3, rfl⟩ := hy
    rw [e1] at e3
    cases e3
    exact ⟨g.refl, rp_kD (ko kv (List.mem_of_getElem? q))⟩, by unfold keysD; rw [List.length_map]⟩
theorem feeds_vals {K : PySem.W.Frag} : FeedsK K Itd valsD := fun a o xs kvs ko => ⟨fun b P H g h => by
  obtain ⟨h1, h2⟩ := feeds_at h
  refine ⟨fun i d e => ?_, h1, by unfold valsD; rw [List.length_map, h2.len]; exact Nat.le_refl _⟩
  unfold valsD at e
  rw [List.getElem?_map] at e
  cases q : kvs[i]? with
  | none => rw [q] at e; cases e
  | some kv =>
    rw [q] at e
    cases e
    obtain ⟨v, e1, e2⟩ := h2.nth (k := kv.1) (d := kv.2) q
    refine ⟨⟨h1, (List.getElem?_eq_some_iff.mp e1).1⟩, fun x H2 hy => ?_⟩
    obtain ⟨rfl, k, e3⟩ := hy
    rw [e1] at e3
    cases e3
    exact ⟨g.refl, e2⟩, by unfold valsD; rw [List.length_map]⟩
theorem feeds_items {K : PySem.W.Frag} : FeedsK K Iti itemsD := fun a o xs kvs ko => ⟨fun b P H g h => by
  obtain ⟨h1, h2⟩ := feeds_at h
  refine ⟨fun i d e => ?_, h1, by unfold itemsD; rw [List.length_map, h2.len]; exact Nat.le_refl _⟩
  unfold itemsD at e
  rw [List.getElem?_map] at e
  cases q : kvs[i]? with
  | none => rw [q] at e; cases e
  | some kv =>
    rw [q] at e
    cases e
    obtain ⟨v, e1, e2⟩ := h2.nth (k := kv.1) (d := kv.2) q
    refine ⟨⟨h1, (List.getElem?_eq_some_iff.mp e1).1⟩, fun x H2 hy => ?_⟩
    obtain ⟨T, k, v', e3, rfl, hT, rfl⟩ := hy
    rw [e1] at e3
    cases e3
    exact ⟨Grow.new g hT, rp_tupN g hT (show 2 ≤ LN by decide) (rpl_cons.mpr ⟨_, _, rfl, rp_kD (ko kv (List.mem_of_getElem? q)), RpL.one e2⟩)⟩, by unfold itemsD; rw [List.length_map]⟩
section
variable {X : Cx} {W : WX} {fr : Bool} {e elt tg iter : Expr} {ifs : List Expr} {scope : Scope} {own : List (Str × Nat)} {pos apos cpos : Pos} {mt : MT} {me : MX}
theorem ci_keys (i : Nat) {x : Str} {p : Pos} (hN : X.N[i]? = some x := by rfl) (hv : Vis X.env.scope x := by first | exact Or.inl rfl | exact Or.inr (Or.inl rfl) | exact Or.inr (Or.inr rfl)) (hd : (x == ("__debug__" : Str)) = false := by decide)
    (hcd : (x == ("__classdict__" : Str)) = false := by decide) : PI X tg (.Name x p) (iLk Itk i) := (pi_keys (pe_var hN hv hd hcd)).imp fun σ H R ⟨d, o, kvs, h1, h2, h3⟩ => ⟨_, h1, d, o, rfl, .inl ⟨kvs, h2, h3⟩⟩
theorem ci_items (i : Nat) {x : Str} {p tpos : Pos} {elts : List Expr} {kk : Nat} (hline : (apos.endLine == cpos.line) = true := by rfl) (hN : X.N[i]? = some x := by rfl) (hv : Vis X.env.scope x := by first | exact Or.inl rfl | exact Or.inr (Or.inl rfl) | exact Or.inr (Or.inr rfl)) (hd : (x == ("__debug__" : Str)) = false := by decide)
    (hcd : (x == ("__classdict__" : Str)) = false := by decide) : PI X (.Tuple elts kk tpos) (.Call (.Attribute (.Name x p) "items" apos) [] [] cpos) (iLk Iti i) := (pi_items (pe_var hN hv hd hcd) rfl hline).imp fun σ H R ⟨d, o, kvs, h1, h2, h3⟩ => ⟨_, h1, d, o, kvs, rfl, h2, h3⟩
theorem ci_vals (i : Nat) {x : Str} {p : Pos} (hline : (apos.endLine == cpos.line) = true := by rfl) (hN : X.N[i]? = some x := by rfl) (hv : Vis X.env.scope x := by first | exact Or.inl rfl | exact Or.inr (Or.inl rfl) | exact Or.inr (Or.inr rfl)) (hd : (x == ("__debug__" : Str)) = false := by decide)
    (hcd : (x == ("__classdict__" : Str)) = false := by decide) : PI X tg (.Call (.Attribute (.Name x p) "values" apos) [] [] cpos) (iLk Itd i) := (pi_values (pe_var hN hv hd hcd) rfl hline).imp fun σ H R ⟨d, o, kvs, h1, h2, h3⟩ => ⟨_, h1, d, o, kvs, rfl, h2, h3⟩
theorem pe_lockor {t : TE} (h : PE X e t) : PE X e (fun σ H Q => tLockE t σ H Q ∨ t σ H Q) := ⟨fun pins s σ H Q I hw => hw.elim (fun z => (pe_lock h).run pins s σ H Q I z) fun z => h.run pins s σ H Q I z⟩
/-- [.. for .. in d], d a dict in slot i -/
theorem ce_lcL {vs : List Nat} (T : Tg) (i : Nat) {It' : Addr → Obj → List (Key × V) → It} {f : List (Key × D) → List D} (hF : FeedsK X.K It' f) (hN : X.N.Nodup) (hi : PI X tg iter (iLk It' i)) (ok : BlkOk X.N X.env.scope scope own) (hvs : own.map (·.2) = vs) (hv : ∀ j ∈ T.slots, j ∈ own.map (·.2))
    (hg : ∀ (s : Shared) (H : Hp) (C : Addr) (cl : List (Str × Addr)) (fp : List Addr), PG (X.blk s H scope (compEnvC scope cl C X.env) fp) tg (T.g X.K)) (ht : ∀ (s : Shared) (H : Hp) (C : Addr) (cl : List (Str × Addr)) (fp : List Addr), PTs (X.blk s H scope (compEnvC scope cl C X.env) fp) ifs (tT X.K W0 mt))
    (he : ∀ (s : Shared) (H : Hp) (C : Addr) (cl : List (Str × Addr)) (fp : List Addr), PE (X.blk s H scope (compEnvC scope cl C X.env) fp) elt (tM X.K W0 false me)) (hc : X.calm = true := by rfl) (hs : ∀ x, foldedSetIterable iter X.env x = pure x := by intro _; rfl) :
    PE X (.ListComp elt [⟨tg, iter, ifs, 0⟩] scope pos) (tM X.K W true (xLcL vs T i f mt me)) := by
  subst hvs
  refine (pe_lockor (pe_lc hc hN hi ok hg ht he hs)).imp fun σ H Q ⟨c, ρ, k, ex, okk, hm, hk, hx⟩ => ?_
  unfold xLcL at hm
  split at hm
  · rename_i kvs hq
    obtain ⟨ko, hm⟩ := hm
    obtain ⟨o, q⟩ := okk.rel
    obtain ⟨v, e1, e2⟩ := q.sh i _ hq
    obtain ⟨a, xs, rfl, h1, h2, h3⟩ := rp_dct.mp e2
    rcases h1 with h1 | ⟨od, h1⟩
    · refine .inl ⟨a, .dK xs, (era_some h1).1, trivial, fun od => ⟨a, od, xs, e1, upd_same, ?_⟩⟩
      have ha := (era_some h1).2
      have sw := lk_on (od := od) h1
      have okL := okk.sw sw ha
      obtain ⟨fd, fl⟩ := hF a od xs kvs ko
      refine lc_turns (Q := fun v H' => H' a = some (.frz od (.dK xs)) ∧ Q v (upd H' a (.dK xs))) hv okL (by rw [fl]; exact h2) hm (T := [kLk a od (.dK xs), kRp X.K (.dct kvs) (.ref a)]) (fun q hq => ?_) fd fun d v H' kd gr r => ?_
      · have e := era_updN (H := H) (o' := HO.frz od (.dK xs)) ha
        rcases List.mem_cons.mp hq with z | z
        · rw [z]; show era c.P _ a = _; rw [e]; exact upd_same
        · rw [List.mem_singleton.mp z]; show Rp X.K c.b (era c.P _) _ _; rw [e]; exact Rp.sw sw _ _ e2
      · have nb : ∀ q, c.b = some q → a ≠ q.1 := fun q hq z => ha (z ▸ (okk.good.bag q hq).1)
        have hl : H' a = some (.frz od (.dK xs)) := gr.keep a _ nb upd_same
        refine ⟨hl, hk d v _ kd ⟨fun x u hb e => ?_, fun q hq => ?_⟩ ?_⟩
        · by_cases z : x = a
          · subst z; rw [upd_same, ← (era_some h1).1]; exact e
          · rw [upd_ne z]; exact gr.keep x u hb (by rw [upd_ne z]; exact e)
        · obtain ⟨ne, x0, x1, x2, ns, b1, b2, b3⟩ := gr.bag q hq
          have n1 : q.1 ≠ a := fun z => ha (z ▸ (okk.good.bag q hq).1)
          have n2 : q.2 ≠ a := fun z => ha (z ▸ (okk.good.bag q hq).2.1)
          exact ⟨ne, x0, x1, x2, ns, by rw [upd_ne n1]; exact b1, by rw [upd_ne n2]; exact b2, b3⟩
        · refine (show (∃ p, v = .ref p ∧ upd H a (.frz od (.dK xs)) p = none ∧ OwnC X.K c.b (p :: c.P) H' p d) ∨ (d = .non ∧ v = .non) from r).imp (fun ⟨p, ep, hp, ho⟩ => ?_) id
          have np : p ≠ a := fun z => by rw [z, upd_same] at hp; cases hp
          have hap : a ∉ p :: c.P := by simp only [List.mem_cons, not_or]; exact ⟨Ne.symm np, ha⟩
          exact ⟨p, ep, by rw [upd_ne np] at hp; exact hp, ho.sw (lk_off (by rw [era_out hap]; exact hl)) hap np⟩
    · refine .inr ⟨a, od, xs, e1, (era_some h1).1, ?_⟩
      obtain ⟨fd, fl⟩ := hF a od xs kvs ko
      refine lc_turns (Q := Q) hv okk (by rw [fl]; exact h2) hm (T := [kLk a od (.dK xs), kRp X.K (.dct kvs) (.ref a)]) (fun q hq => ?_) fd hk
      rcases List.mem_cons.mp hq with z | z
      · rw [z]; exact h1
      · rw [List.mem_singleton.mp z]; exact e2
  · exact hm.elim
end
end DM
end
section
set_option Elab.async false
set_option linter.all false
set_option maxRecDepth 100000
set_option maxHeartbeats 4000000
namespace L2
open PySem PySem.Spec PyProof.Rows
section
variable {X : Cx} {CX : CXT} {k n : Nat} {f C : Addr} {fd : FuncData} {ps ks : List Str} {sp : Sp} {E : St → XK} {x : Str} {p pos : Pos} {e : Expr} {es : List Expr} {kws : List Keyword} {t tk : TA} {g : List Value → List Value → List Value} {gV : List V → List V → List V}
def tMakeS (C : Addr) (n m : Nat) (sp : Sp) (gV : List V → List V → List V) (E : St → XK) (t tk : TA) : TE := fun σ H Q => t σ H fun vs H1 => tk σ H1 fun zs H2 => vs.length = n ∧ zs.length = m ∧
  ∀ x dx, H2 x = none → H2 dx = none → dx ≠ x → sp (gV (.ref x :: vs) zs) (upd (upd H2 dx (.own x)) x (.ins C dx [])) (fun v H3 => v = .non ∧ Q (.ref x) H3) (E σ)
theorem run_makeS {pins : List (Addr × Obj)} {σ : St} {H : Hp} {s : Shared} {Q : VK} {us ws : List Value} {vs zs : List V} (M : Mk X.K C f) (F : DM.FnG X.prog X.w X.K X.mg X.base CX k f fd ps sp) (hr : DM.RoomG (k + 1) X.A) (hb : KBn X.K fd ps (n + 1) ks g gV)
    (hx : PassesAt CX X σ (E σ)) (I : Inv X pins σ H s) (r : Vals vs us) (rz : Vals zs ws) (l1 : vs.length = n) (l2 : zs.length = ks.length)
    (h : ∀ x dx, H x = none → H dx = none → dx ≠ x → sp (gV (.ref x :: vs) zs) (upd (upd H dx (.own x)) x (.ins C dx [])) (fun v H2 => v = .non ∧ Q (.ref x) H2) (E σ)) :
    wpAny (model X.prog X.w) X.A (call (.ref C) us (ks.zip ws)) (EP X pins σ Q) X.xe s := by
  have hq := h (s.heap.objs.size + 1) s.heap.objs.size (I.hok.fresh (Nat.le_succ _)) (I.hok.fresh (Nat.le_refl _)) (Nat.ne_of_lt (Nat.lt_succ_self _))
  have I2 := Inv.made (C := C) I
  have r1 : Vals (V.ref (s.heap.objs.size + 1) :: vs) (Value.ref (s.heap.objs.size + 1) :: us) := .cons rfl r
  have r2 := hb.rel r1 rz
  have e1 : (Value.ref (s.heap.objs.size + 1) :: us).length = n + 1 := r1.length.symm.trans (congrArg Nat.succ l1)
  have e2 : ws.length = ks.length := rz.length.symm.trans l2
  refine wpAny_call (make_map (f := f) I.kIn M.makes M.init (beq_iff_eq.mp M.fn) (codeAny_mono (F.go _ X.stack _ _ ⟨Value.ref (s.heap.objs.size + 1) :: us, ks.zip ws⟩ (g (Value.ref (s.heap.objs.size + 1) :: us) ws) _ _ (E σ) (hr.make C us (ks.zip ws))
    (I2.env0.make C us (ks.zip ws)) (hb.to _ (Value.ref (s.heap.objs.size + 1) :: us) ws I2.kIn e1 e2) r2 hq) fun r s' hq' => ?_))
  cases r with
  | error e => exact hx pins _ _ e s' I2 hq'
  | ok fl =>
    cases fl with
    | ret u =>
      obtain ⟨v, H', I3, rv, ev, q3⟩ := I2.after hq'
      subst ev
      exact ⟨rv, ⟨V.ref (s.heap.objs.size + 1), H', I3, rfl, q3⟩⟩
    | next => exact False.elim hq'
    | brk => exact False.elim hq'
    | cont => exact False.elim hq'
theorem pe_makeS (M : Mk X.K C f) (F : DM.FnG X.prog X.w X.K X.mg X.base CX k f fd ps sp) (hr : DM.RoomG (k + 1) X.A) (hg : Gl X x) (hm : X.mg x = some (.ref C)) (hb : KBn X.K fd ps (n + 1) ks g gV) (hx : ∀ σ, PassesAt CX X σ (E σ))
    (ha : PA X (e :: es) t) (hkw : PK X kws tk) (hall : (backToKw pos (keywordEach kws X.env)).all (·.1.isSome) = true := by rfl) (hks : (backToKw pos (keywordEach kws X.env)).filterMap (·.1) = ks := by rfl)
    (hdb : (x == ("__debug__" : Str)) = false := by decide) (he : starEach (e :: es) X.env = (false, eval e X.env) :: starEach es X.env := by rfl)
    (hpl : ((backTo pos (starEach (e :: es) X.env)).any (·.1) || (backToKw pos (keywordEach kws X.env)).any (·.1.isNone)) = false := by rfl) :
    PE X (.Call (.Name x p) (e :: es) kws pos) (tMakeS C n ks.length sp gV E t tk) := by
  refine ⟨fun pins s σ H Q I h => ?_⟩
  refine wpAny_Call_Name_kw (ld_glob I hg hm ?_ hdb)
  refine PySem.W.callWith_KW (h₀ := X.base) I.ok.mod.kin M.kp hall (thn (ha.run pos pins s σ H _ I h) fun us s1 ⟨vs, H1, I1, r, q⟩ => ?_) hpl he
  refine thn (hkw.run pos pins s1 σ H1 _ I1 q) fun ws s2 ⟨zs, H2, I2, rz, l1, l2, q2⟩ => ⟨I2.kIn, ?_⟩
  rw [hks]
  exact run_makeS M F hr hb (hx σ) I2 r rz l1 l2 q2
end
end L2
namespace DM
open PySem L2 Evl

def xNever : MX := fun _ _ _ => False
section
variable {X : Cx} {W : WX} {fr : Bool} {e k v : Expr} {ks : List (Option Expr)} {vs : List Expr} {p pos pos' : Pos} {mk mv m : MX}
theorem ce_never : PE X e (tM X.K W fr xNever) := ⟨fun pins s σ H Q I h => by obtain ⟨c, ρ, k, ex, ok, hm, hk, hx⟩ := h; exact hm.elim⟩

/-! ### dict displays -/
def trsM (K : PySem.W.Frag) (W : WX) : List (MX × MX) → List (TE × TE)
  | [] => []
  | p :: r => (tM K W false p.1, tM K W false p.2) :: trsM K W r
theorem cpp_nil : PPs X pos [] [] (trsM X.K W []) := pps_nil
theorem cpp_cons {r : List (MX × MX)} (hk : PE X k (tM X.K W false mk)) (hv : PE X v (tM X.K W false mv)) (hr : PPs X pos ks vs (trsM X.K W r)) : PPs X pos (some k :: ks) (v :: vs) (trsM X.K W ((mk, mv) :: r)) := pps_cons hk hv hr
def prGo : List (MX × MX) → MEnv → (List (Key × D) → Prop) → (Exn → Prop) → Prop
  | [], _, k, _ => k []
  | p :: r, ρ, k, ex => p.1 ρ (fun y => p.2 ρ (fun z => prGo r ρ (fun kvs => match keyD y with
    | some kk => k ((kk, z) :: kvs)
    | none => False) ex) ex) ex
def mrgD (acc kvs : List (Key × D)) : List (Key × D) := kvs.foldl (fun acc kv => putD acc kv.1 kv.2) acc
def xDisp (ps : List (MX × MX)) : MX := fun ρ k ex => prGo ps ρ (fun kvs => k (.dct (mrgD [] kvs))) ex
theorem RpK.mrg {K : PySem.W.Frag} {b : Bg} {H : Hp} : ∀ {ds : List (Key × D)} {xs : List (Key × V)} {acc : List (Key × D)} {ac : List (Key × V)}, RpK K b H acc ac → RpK K b H ds xs → RpK K b H (mrgD acc ds) (mergeK ac xs)
  | [], xs, acc, ac, h, h' => by rw [rpk_nil.mp h']; exact h
  | (k, d) :: ds, xs, acc, ac, h, h' => by
    obtain ⟨x, r, rfl, h1, h2⟩ := rpk_cons.mp h'
    exact RpK.mrg (acc := putD acc k d) (ac := putK ac k x) (h.put h1) h2
theorem mrgD_len : ∀ (kvs acc : List (Key × D)), (mrgD acc kvs).length ≤ acc.length + kvs.length
  | [], acc => Nat.le_refl _
  | kv :: r, acc => by
    have h1 := mrgD_len r (putD acc kv.1 kv.2)
    have h2 := putD_len acc kv.1 kv.2
    show (mrgD (putD acc kv.1 kv.2) r).length ≤ _
    rw [List.length_cons]; omega
theorem pairs_ok {K : PySem.W.Frag} : ∀ (ps : List (MX × MX)) {c : Cc} {H : Hp} {σ : St} {ρ : MEnv} {k : List (Key × D) → Prop} {ex : Exn → Prop} {Q : List (V × V) → Hp → Prop}, Ok K c H σ ρ → prGo ps ρ k ex →
    (∀ kvs xs H', k kvs → kvs.length = ps.length → Grow c.b H H' → RpK K c.b (era c.P H') kvs xs → Q (xs.map fun kv => (kV kv.1, kv.2)) H') → (∀ x cls dd H', ex x → Grow c.b H H' → ExR K c.b (era c.P H') cls dd x → W cls dd σ H') → tPairs (trsM K W ps) σ H Q
  | [], c, H, σ, ρ, k, ex, Q, ok, hm, hk, hx => hk [] [] H hm rfl ok.refl (rpk_nil.mpr rfl)
  | p :: r, c, H, σ, ρ, k, ex, Q, ok, hm, hk, hx => ⟨c, ρ, _, ex, ok, hm, fun d1 v1 H1 k1 g1 r1 => ⟨c, ρ, _, ex, ok.grow g1, k1, fun d2 v2 H2 k2 g2 r2 =>
      pairs_ok r ((ok.grow g1).grow g2) k2 (fun kvs xs H' kk hl g3 r3 => by
        cases q : keyD d1 with
        | none => rw [q] at kk; exact kk.elim
        | some z =>
          rw [q] at kk
          have e : v1 = kV z := rp_key r1.sh q
          rw [e]
          exact hk ((z, d2) :: kvs) ((z, v2) :: xs) H' kk (by rw [List.length_cons, List.length_cons, hl]) ((g1.trans g2).trans g3) (rpk_cons.mpr ⟨v2, xs, rfl, Rp.mono (((ok.grow g1).grow g2).good.era g3) _ _ r2.sh, r3⟩)) fun x cls dd H' e g z => hx x cls dd H' e ((g1.trans g2).trans g) z,
      fun x cls dd H' e g z => hx x cls dd H' e (g1.trans g) z⟩, hx⟩
theorem ce_disp {ps : List (MX × MX)} (h : PPs X pos ks vs (trsM X.K W ps)) (hall : ks.all (·.isSome) = true := by rfl) (hl : ks.length = vs.length := by rfl) (h0 : ks ≠ [] := by intro z; cases z) (h15 : ks.length ≤ 15 := by decide) (hn : ps.length ≤ 15 := by decide) : PE X (.Dict ks vs pos) (tM X.K W true (xDisp ps)) :=
  (pe_disp h hall hl h0 h15).imp fun σ H Q ⟨c, ρ, k, ex, ok, hm, hk, hx⟩ => fun pp hpp => by
    have gr := Grow.new (o := .dK []) ok.good hpp
    have ok1 := ok.add gr hpp (by rw [upd_same]; exact fun z => nomatch z)
    refine pairs_ok ps ok1 hm (fun kvs xs H' kk hl g r => ?_) fun x cls dd H' e g z => ?_
    · have nb : ∀ q, c.b = some q → pp ≠ q.1 := fun q hq z => ok.good.al pp (by rw [z]; exact (ok.good.bag q hq).1) hpp
      have hpp2 : H' pp = some (.dK []) := g.keep _ _ nb upd_same
      refine ⟨hpp2, xs, rfl, by rw [r.len, hl]; exact hn, hk _ _ _ kk ⟨fun a o hb e => by rw [upd_ne (ne_of_none e hpp)]; exact (gr.trans g).keep a o hb e, fun q hq => ?_⟩ ?_⟩
      · obtain ⟨ne, x0, x1, x2, ns, b1, b2, b3⟩ := g.bag q hq
        have m1 : q.1 ≠ pp := fun z => nb q hq z.symm
        have m2 : q.2 ≠ pp := fun z => ok.good.al pp (by rw [← z]; exact (ok.good.bag q hq).2.1) hpp
        exact ⟨ne, x0, x1, x2, ns, by rw [upd_ne m1]; exact b1, by rw [upd_ne m2]; exact b2, b3⟩
      · refine .inl ⟨pp, rfl, hpp, mergeK [] xs, upd_same, ?_, ?_⟩
        · refine Nat.le_trans (mrgD_len kvs []) ?_
          rw [List.length_nil, Nat.zero_add, hl]
          exact Nat.le_trans hn (by decide)
        · rw [era_upd List.mem_cons_self]
          exact RpK.mrg (rpk_nil.mpr rfl) r
    · have ee : Ex (era (pp :: c.P) H') (era c.P H') := era_sub fun a ha => List.mem_cons_of_mem _ ha
      exact hx x cls dd H' e (gr.trans g) ⟨z.1, z.2.elim .inl fun ⟨nn, q, fs, a1, a2, a3⟩ => .inr ⟨nn, q, fs, a1, ee _ _ a2, RpF.mono ee _ _ a3⟩⟩
/-- {} -/
def xDnew : MX := fun _ k _ => k (.dct [])
theorem ce_dnew : PE X (.Dict [] [] pos) (tM X.K W true xDnew) := pe_dnewK.imp fun σ H Q ⟨c, ρ, k, ex, ok, hm, hk, hx⟩ => fun pp hpp =>
  hk _ _ _ hm (Grow.new ok.good hpp) (.inl ⟨pp, rfl, hpp, [], upd_same, Nat.zero_le _, rpk_nil.mpr rfl⟩)

/-! ### dict(list of pairs) -/
def pairsD : List D → Option (List (Key × D))
  | [] => some []
  | .tup [a, b] :: r => (match keyD a, pairsD r with
    | some k, some l => some ((k, b) :: l)
    | _, _ => none)
  | _ :: _ => none
theorem rpl_pairs {K : PySem.W.Frag} {b : Bg} {H H' : Hp} (up : Ex H H') : ∀ {ds : List D} {xs : List V} {kvs : List (Key × D)}, pairsD ds = some kvs → RpL K b H ds xs → ∃ (as : List Addr) (kv : List (Key × V)), xs = as.map V.ref ∧ Paired (fun p kv => SqT K H' p [kV kv.1, kv.2]) as kv ∧ RpK K b H kvs kv ∧ kvs.length = ds.length
  | [], xs, kvs, e, h => by cases e; rw [rpl_nil.mp h]; exact ⟨[], [], rfl, .nil, rpk_nil.mpr rfl, rfl⟩
  | d :: ds, xs, kvs, e, h => by
    obtain ⟨x, r, rfl, h1, h2⟩ := rpl_cons.mp h
    unfold pairsD at e
    split at e
    · rename_i heq; cases heq
    · rename_i a b' r' heq
      cases heq
      cases qa : keyD a with
      | none => rw [qa] at e; cases e
      | some k =>
        cases qr : pairsD ds with
        | none => rw [qa, qr] at e; cases e
        | some l =>
          rw [qa, qr] at e
          cases e
          obtain ⟨as, kv, e1, e2, e3, e4⟩ := rpl_pairs up qr h2
          obtain ⟨p, ys, rfl, h3, _, h4⟩ := rp_tupS h1
          obtain ⟨y1, r1, rfl, k1, k2⟩ := rpl_cons.mp h4
          obtain ⟨y2, r2, rfl, k3, k4⟩ := rpl_cons.mp k2
          cases rpl_nil.mp k4
          refine ⟨p :: as, (k, y2) :: kv, by rw [e1] <;> rfl, .cons ?_ e2, rpk_cons.mpr ⟨y2, kv, rfl, k3, e3⟩, by rw [List.length_cons, List.length_cons, e4]⟩
          rw [rp_key k1 qa] at h3
          exact ex_t up h3
    · cases e
def bDict : List D → (D → Prop) → Prop
  | [.lst xs], k => (match pairsD xs with
    | some kvs => k (.dct (mrgD [] kvs))
    | none => False)
  | _, _ => False
theorem calld_dict {K : PySem.W.Frag} : CallD K true (fun xs H Q => ∃ (a : Addr) (ps : List Addr) (kvs : List (Key × V)), xs = [.ref a] ∧ SqL K H a (ps.map V.ref) ∧ Paired (fun p kv => SqT K H p [kV kv.1, kv.2]) ps kvs ∧ ∀ p, H p = none → Q (.ref p) (upd H p (.dK (mergeK [] kvs)))) bDict := fun bg P H ds vs k Q g r hf hk => by
  obtain ⟨d, rfl, hf⟩ := one_of hf (fun h => h) (fun a b r h => by cases a <;> exact h)
  obtain ⟨v, r', rfl, h1, h2⟩ := rpl_cons.mp r
  cases rpl_nil.mp h2
  cases d with
  | lst xs =>
    have hf' : (match pairsD xs with | some kvs => k (.dct (mrgD [] kvs)) | none => False) := hf
    cases q : pairsD xs with
    | none => rw [q] at hf'; exact hf'.elim
    | some kvs =>
      rw [q] at hf'
      obtain ⟨a, ys, rfl, h1, hl, h3⟩ := rp_lst.mp h1
      obtain ⟨as, kv, e1, e2, e3, e4⟩ := rpl_pairs (H' := H) era_le q h3
      refine ⟨a, as, kv, rfl, .inl (.inl (by rw [← e1]; exact era_le _ _ h1)), e2, fun p hp => hk _ _ _ hf' (Grow.new g hp) (.inl ⟨p, rfl, hp, _, upd_same, ?_, ?_⟩)⟩
      · refine Nat.le_trans (mrgD_len kvs []) ?_
        rw [List.length_nil, Nat.zero_add, e4]
        exact hl
      · refine RpK.mono (fun x o e => ?_) _ _ (RpK.mrg (rpk_nil.mpr rfl) e3)
        obtain ⟨z1, z2⟩ := era_some e
        have ne : x ≠ p := ne_of_none z1 hp
        rw [era_out (by simp only [List.mem_cons, not_or]; exact ⟨ne, z2⟩), upd_ne ne]
        exact z1
  | _ => exact hf.elim

/-! ### list(range(..)) -/
theorem rgV_rangeD {K : PySem.W.Frag} {b : Bg} {H : Hp} (i j : Int) : RpL K b H (rangeD i (j - i).toNat) (rgV i j) := by
  unfold rangeD rgV
  generalize (j - i).toNat = n
  have h : ∀ l : List Nat, RpL K b H (l.map fun (t : Nat) => D.int (i + (t : Int))) (l.map fun (t : Nat) => V.int (i + (t : Nat))) := fun l => by
    induction l with
    | nil => exact rpl_nil.mpr rfl
    | cons a l ih => exact rpl_cons.mpr ⟨_, _, rfl, rp_int.mpr rfl, ih⟩
  exact h _
def xLRg1 (m : MX) : MX := fun ρ k ex => m ρ (fun d => match d with
  | .int j => j ≤ 100000 ∧ -(2 ^ 62) ≤ j ∧ k (.lst (rangeD 0 j.toNat))
  | _ => False) ex
theorem rangeD_len (i : Int) (n : Nat) : (rangeD i n).length = n := by unfold rangeD; rw [List.length_map, List.length_range]
theorem ce_lrg1 {a : Expr} {p1 p2 q1 : Pos} (hl : X.mg "list" = none) (hr : X.mg "range" = none) (h : PE X a (tM X.K W false m)) (g1 : Gl X "list" := by rfl) (g2 : Gl X "range" := by rfl) (hc : X.calm = true := by rfl) (na : starEach [a] X.env = (false, eval a X.env) :: starEach [] X.env := by rfl)
    (nb : starEach [.Call (.Name "range" p2) [a] [] q1] X.env = (false, eval (.Call (.Name "range" p2) [a] [] q1) X.env) :: starEach [] X.env := by rfl) :
    PE X (.Call (.Name "list" p1) [.Call (.Name "range" p2) [a] [] q1] [] pos) (tM X.K W true (xLRg1 m)) := (pe_listRg hc g1 hl (prg_1 g2 hr h na) nb).imp fun σ H Q ⟨c, ρ, k, ex, ok, hm, hk, hx⟩ => ⟨c, ρ, _, ex, ok, hm, fun d v H1 kd g r => by
    cases d with
    | int j =>
      obtain ⟨k1, k2, k3⟩ := kd
      refine ⟨j, rp_int.mp r.sh, ⟨by omega, by omega, k2, by omega, by omega⟩, fun pp hp => hk _ _ _ k3 (g.trans (Grow.new (ok.good.grow g) hp)) ((res_lst (ok.good.grow g) hp ?_ ?_).back g)⟩
      · rw [rangeD_len]; unfold LN; omega
      · have := rgV_rangeD (K := X.K) (b := c.b) (H := era c.P H1) 0 j
        rw [show j - 0 = j by omega] at this
        exact this
    | _ => exact kd.elim, hx⟩

/-! ### names of the module -/
theorem ce_gl {x : Str} {d : D} {v : V} {u : Value} (hm : X.mg x = some u) (r : RelV v u) (h : ∀ b H, Rp X.K b H d v) (hg : Gl X x := by rfl) (hd : (x == ("__debug__" : Str)) = false := by decide) : PE X (.Name x pos) (tM X.K W false (xC d)) :=
  (pe_glob hg hm r hd).imp fun σ H Q ⟨c, ρ, k, ex, ok, hm, hk, hx⟩ => hk _ _ _ hm ok.refl (Res.of (h _ _))

/-! ### self.f = e -/
def putFD (f : Str) (d : D) : List (Str × D) → List (Str × D)
  | [] => [(f, d)]
  | (g, x) :: r => if g = f then (g, d) :: r else (g, x) :: putFD f d r
theorem RpF.put {K : PySem.W.Frag} {b : Bg} {H : Hp} {f : Str} {d : D} {v : V} (hv : Rp K b H d v) : ∀ {ds : List (Str × D)} {xs : List (Str × V)}, RpF K b H ds xs → RpF K b H (putFD f d ds) (putF f v xs)
  | [], xs, h => by rw [rpf_nil.mp h]; exact rpf_cons.mpr ⟨v, [], rfl, hv, rpf_nil.mpr rfl⟩
  | (g, x) :: r, xs, h => by
    obtain ⟨y, q, rfl, h1, h2⟩ := rpf_cons.mp h
    unfold putFD putF
    split
    · exact rpf_cons.mpr ⟨v, q, rfl, hv, h2⟩
    · exact rpf_cons.mpr ⟨y, _, rfl, h1, RpF.put hv h2⟩
theorem RpF.len {K : PySem.W.Frag} {b : Bg} {H : Hp} : ∀ {ds : List (Str × D)} {xs : List (Str × V)}, RpF K b H ds xs → xs.length = ds.length
  | [], xs, h => by rw [rpf_nil.mp h] <;> rfl
  | (k, d) :: ds, xs, h => by
    obtain ⟨x, r, rfl, _, h2⟩ := rpf_cons.mp h
    rw [List.length_cons, List.length_cons, RpF.len h2]
def sFldM (i : Nat) (c f : Str) (me : MX) : MS := fun M ρ => match ρ[i]? with
  | some (.ow (.new x c' fs)) => c' = c ∧ me ρ (fun d => fs.length < 1000 ∧ M.nx (ρ.set i (.ow (.new x c' (putFD f d fs))))) (M.ex ρ)
  | some (.ow (.ins c' fs)) => c' = c ∧ me ρ (fun d => fs.length < 1000 ∧ M.nx (ρ.set i (.ow (.ins c' (putFD f d fs))))) (M.ex ρ)
  | _ => False
theorem cs_fld (i : Nat) {x c f : Str} {px pa : Pos} (cl : Cls X.K (He.ga X.K c)) (na : NoAttr X.K (He.ga X.K c) f) (h : PE X e (tM X.K W false m)) (hN : X.N[i]? = some x := by rfl) (hv : Vis X.env.scope x := by first | exact Or.inl rfl | exact Or.inr (Or.inl rfl) | exact Or.inr (Or.inr rfl)) (hd : (x == ("__debug__" : Str)) = false := by decide) (hcd : (x == ("__classdict__" : Str)) = false := by decide)
    (hs : swapsWith e (some (.Attribute (.Name x px) f pa)) pos.line X.env = pure false := by rfl) : PS X (.Assign [.Attribute (.Name x px) f pa] e pos) (sM X.K W fr (sFldM i c f m)) :=
  (ps_fld (pe_var hN hv hd hcd) h hs).imp fun De σ H ⟨g, P, ρ, M, s, hm, l⟩ => by
  unfold sFldM at hm
  split at hm
  · rename_i xx c' fs hd
    obtain ⟨rfl, hm⟩ := hm
    refine useE s l hm fun d v H1 kd g1 r1 s1 => ?_
    obtain ⟨pp, hσ, hp, ⟨h0, dx, xs, h1, h3⟩⟩ := s1.at hd
    refine ⟨_, hσ, pp, _, dx, xs, rfl, h1, cl, na, by rw [h3.len]; exact kd.1, l.nx P σ _ _ (s1.wr (d' := .new xx c' (putFD f d fs)) hd hσ ⟨h0, dx, _, upd_same, ?_⟩) kd.2⟩
    rw [era_upd hp]; exact RpF.put r1.sh h3
  · rename_i c' fs hd
    obtain ⟨rfl, hm⟩ := hm
    refine useE s l hm fun d v H1 kd g1 r1 s1 => ?_
    obtain ⟨pp, hσ, hp, ⟨dx, xs, h1, h3⟩⟩ := s1.at hd
    refine ⟨_, hσ, pp, _, dx, xs, rfl, h1, cl, na, by rw [h3.len]; exact kd.1, l.nx P σ _ _ (s1.wr (d' := .ins c' (putFD f d fs)) hd hσ ⟨dx, _, upd_same, ?_⟩) kd.2⟩
    rw [era_upd hp]; exact RpF.put r1.sh h3
  · exact hm.elim
end

/-! ### making an instance -/
/-- the promise of __init__: ds the values behind self, k gets the instance -/
def spI (K : PySem.W.Frag) (n : Nat) (c : Str) (m : MF) : Sp := fun vs H Q E => vs.length = n ∧ ∃ bg P H2 x dx r ds k ex, vs = .ref x :: r ∧ H2 x = none ∧ H2 dx = none ∧ dx ≠ x ∧ H = upd (upd H2 dx (.own x)) x (.ins (He.ga K c) dx []) ∧ GoodP bg P H2 ∧ RpL K bg (era P H2) ds r ∧ m ds k ex ∧
  (∀ d H', k d → Grow bg H2 H' → OwnC K bg (x :: P) H' x d → Q .non H') ∧ (∀ y cls dd H', ex y → Grow bg H2 H' → ExR K bg (era P H') cls dd y → E cls dd H')
def initK (x : Addr) (k : D → Prop) (ρ : MEnv) : Prop := match ρ[(0 : Nat)]? with
  | some (.ow (.new x' c' fs)) => x' = x ∧ k (.ins c' fs)
  | _ => False
def mInit (n : Nat) (c : Str) (body : MS) : MF := fun ds k ex => ∀ x : Addr, body { nx := initK x k, rt := fun _ => False, bk := fun _ => False, ct := fun _ => False, ex := fun _ y => ex y } (.ow (.new x c []) :: (ds.map Sl.sh ++ List.replicate (n - 1 - ds.length) Sl.no))
section
variable {P : Program} {w : World} {K : PySem.W.Frag} {mg : Str → Option Value} {base : Heap} {x qual : Str} {params : Arguments} {body : List Stmt} {scope : Scope} {dvs : List V} {kws : List (Str × V)} {f : Addr} {fd : FuncData} {N ps : List Str} {k : Nat} {m : MS} {c : Str}
theorem fn_init (F : FunD K x qual params body scope dvs kws f fd) (S : FnScope N ps scope)
    (hb : ∀ (cdv : Value) (A : Around) (outer : List Env) (s : Shared) (H : Hp) (E : XK), PySem.W.kdsCode K cdv = true → RoomG k (A.deeper (PyProof.Rows.envOfC qual scope s.heap.objs.size f cdv)) →
      PSs (cxOf (L2.CX P w) P w K mg base N qual scope f cdv A outer s H E) body (sM K (fun cls d _ H => E cls d H) false m)) : FnG P w K mg base (L2.CX P w) (k + 1) f fd ps (spI K ps.length c (mInit N.length c m)) := by
  obtain ⟨oc, od, dV, kV, doc, pm, an, cdv, ct, osl, rfl, lk, hcd, _, _⟩ := F.ex
  refine fnG_of lk hcd S (fun vs H Q E h => h.1) fun A outer s H vs Q E hr h => ⟨_, hb cdv A outer s H E (kds_code hcd) hr, ?_⟩
  obtain ⟨hl, bg, P, H2, y, dx, r, ds, k, ex, rfl, hy, hdx, hne, rfl, g, rr, hm, hk, hx⟩ := h
  have hlen : r.length = ds.length := rr.len
  have g1 : Grow bg H2 (upd (upd H2 dx (.own y)) y (.ins (He.ga K c) dx [])) := by
    have a := Grow.new (o := .own y) g hdx
    exact a.trans (Grow.new (g.grow a) (by rw [upd_ne (Ne.symm hne)]; exact hy))
  have hyP : y ∉ P := fun z => g.al y z hy
  have rr1 : RpL K bg (era (y :: P) (upd (upd H2 dx (.own y)) y (.ins (He.ga K c) dx []))) ds r := RpL.mono (era_put (c := ⟨bg, P, P, []⟩) g g1 hy) _ _ rr
  refine ⟨⟨bg, P, H2, []⟩, y :: P, _, _, ⟨g1, ⟨⟨fun p hp => ⟨List.mem_cons_of_mem _ (g.bag p hp).1, List.mem_cons_of_mem _ (g.bag p hp).2.1, g1.bag p hp⟩, fun q hq z => ?_, fun q hq xs z => ?_⟩, fun p hp => ⟨(g.bag p hp).1, (g.bag p hp).2.1⟩, fun a h => List.mem_cons_of_mem _ h, (fun _ h => nomatch h), fun _ => y, ?_, fun i d e => ?_, fun i d e => ?_, fun i j d e ya za _ => ?_⟩, fun p hp => ?_⟩, hm y, fun P' σ' H' ρ' s' q => ?_, fun d v H' kd gr rr => kd.elim, fun _ _ _ _ _ z => z.elim, fun _ _ _ _ _ z => z.elim, fun P' σ' H' ρ' x cls dd s' e z => hx x cls dd H' e s'.grow ?_⟩
  · rcases List.mem_cons.mp hq with e | e
    · rw [e, upd_same] at z; cases z
    · exact (g.grow g1).al q e z
  · rcases List.mem_cons.mp hq with e | e
    · rw [e, upd_same] at z; cases z
    · exact (g.grow g1).nt q e xs z
  · unfold L2.start
    simp only [List.length_append, List.length_cons, List.length_map, List.length_replicate, hlen]
    omega
  · cases i with
    | zero => cases e
    | succ i =>
      rw [List.getElem?_cons_succ] at e
      have hi : i < ds.length := by
        by_cases hi : i < ds.length
        · exact hi
        · rw [List.getElem?_append_right (by simpa using hi), List.getElem?_replicate] at e
          split at e <;> cases e
      rw [List.getElem?_append_left (by simpa using hi), List.getElem?_map] at e
      cases q : ds[i]? with
      | none => rw [q] at e; cases e
      | some d' =>
        rw [q] at e
        cases e
        obtain ⟨v, h1, h2⟩ := rr1.get q
        refine ⟨v, ?_, h2⟩
        unfold L2.start
        rw [List.getElem?_append_left (by rw [List.length_map, List.length_cons, hlen]; omega), List.getElem?_map, List.getElem?_cons_succ, h1] <;> rfl
  · cases i with
    | zero =>
      cases e
      exact ⟨rfl, List.mem_cons_self, hyP, rfl, dx, [], upd_same, rpf_nil.mpr rfl⟩
    | succ i =>
      rw [List.getElem?_cons_succ] at e
      by_cases hi : i < ds.length
      · rw [List.getElem?_append_left (by simpa using hi), List.getElem?_map] at e
        cases q : ds[i]? with
        | none => rw [q] at e; cases e
        | some d' => rw [q] at e; cases e
      · rw [List.getElem?_append_right (by simpa using hi), List.getElem?_replicate] at e
        split at e <;> cases e
  · have only : ∀ (i : Nat) d, (Sl.ow (.new y c []) :: (ds.map Sl.sh ++ List.replicate (N.length - 1 - ds.length) Sl.no))[i]? = some (.ow d) → i = 0 := fun i d e => by
      cases i with
      | zero => rfl
      | succ i =>
        rw [List.getElem?_cons_succ] at e
        by_cases hi : i < ds.length
        · rw [List.getElem?_append_left (by simpa using hi), List.getElem?_map] at e
          cases q : ds[i]? with
          | none => rw [q] at e; cases e
          | some d' => rw [q] at e; cases e
        · rw [List.getElem?_append_right (by simpa using hi), List.getElem?_replicate] at e
          split at e <;> cases e
    rw [only i d ya, only j e za]
  · rcases List.mem_cons.mp hp with e | e
    · exact .inr (e ▸ hy)
    · exact .inl e
  · have q' : initK y k ρ' := q
    unfold initK at q'
    split at q'
    · rename_i x' c' fs hd
      obtain ⟨rfl, q'⟩ := q'
      obtain ⟨o, w⟩ := s'.ok.rel
      obtain ⟨v1, v2, v3, ⟨v4, dx', fs', v5, v6⟩⟩ := w.ow 0 _ hd
      refine hk _ H' q' s'.grow ⟨dx', fs', by rw [← v4]; exact v5, RpF.mono (era_sub fun a ha => ?_) _ _ v6⟩
      rcases List.mem_cons.mp ha with z | z
      · rw [z, ← v4]; exact v2
      · exact s'.ok.sub a z
    · exact q'.elim
  · obtain ⟨z1, z2⟩ := z
    refine ⟨z1, ?_⟩
    rcases z2 with z2 | ⟨nn, q, fs, e1, e2, e3⟩
    · exact .inl z2
    · have ee : Ex (era P' H') (era P H') := era_sub s'.ok.sub
      exact .inr ⟨nn, q, fs, e1, ee _ _ e2, RpF.mono ee _ _ e3⟩
end
/-- C(..) of an own class whose __init__ is known -/
structure CFn (P : Program) (w : World) (K : PySem.W.Frag) (mg : Str → Option Value) (base : Heap) (c : Str) (n : Nat) (ks : List Str) (k : Nat) (gD : List D → List D → List D) (m : MF) : Prop where
  ok : ∃ fd ps g gV, KBn K fd ps (n + 1) ks g gV ∧ FnG P w K mg base (L2.CX P w) k (He.ma K (He.ga K c) "__init__") fd ps (spI K ps.length c m) ∧
    (∀ x vs zs, vs.length = n → zs.length = ks.length → (gV (.ref x :: vs) zs).length = ps.length ∧ ∃ r, gV (.ref x :: vs) zs = .ref x :: r ∧ ∀ b H ds es, RpL K b H ds vs → RpL K b H es zs → RpL K b H (gD ds es) r)
  mks : Mk K (He.ga K c) (He.ma K (He.ga K c) "__init__")
  at_ : mg c = some (.ref (He.ga K c))
section
variable {X : Cx} {W : WX} {fr : Bool} {e : Expr} {es : List Expr} {kws : List Keyword} {p pos kpos : Pos} {m : MX} {mr mk : MA} {n j k : Nat} {c : Str} {ks : List Str} {f : MF} {gD : List D → List D → List D}
theorem ck_nil : PK X [] (tA X.K W 0 aNil) := ⟨fun pos pins s σ H Q I h => pk_nil.run pos pins s σ H Q I (by obtain ⟨c, ρ, k, ex, ok, hm, hk, hx⟩ := h; exact hk [] [] H hm rfl ok.refl (rpl_nil.mpr rfl))⟩
theorem ck_cons {nm : Option Str} (ha : PE X e (tM X.K W false m)) (hr : PK X kws (tA X.K W n mr)) : PK X (⟨nm, e, kpos⟩ :: kws) (tA X.K W (n + 1) (aCons m mr)) := ⟨fun pos pins s σ H Q I h => (pk_cons ha hr).run pos pins s σ H Q I (by
  obtain ⟨c, ρ, k, ex, ok, hm, hk, hx⟩ := h
  exact ⟨c, ρ, _, ex, ok, hm, fun d v H1 k1 g1 r1 => ⟨c, ρ, _, ex, ok.grow g1, k1, fun ds vs H2 k2 l2 g2 r2 => hk (d :: ds) (v :: vs) H2 k2 (by rw [List.length_cons, l2]) (g1.trans g2) (rpl_cons.mpr ⟨v, vs, rfl, Rp.mono ((ok.good.grow g1).era g2) _ _ r1.sh, r2⟩), fun x cls dd H' e g z => hx x cls dd H' e (g1.trans g) z⟩, hx⟩)⟩
def xMake (gD : List D → List D → List D) (f : MF) (mr mk : MA) : MX := fun ρ k ex => mr ρ (fun ds => mk ρ (fun es => f (gD ds es) k ex) ex) ex
theorem ce_make (G : CFn X.prog X.w X.K X.mg X.base c n ks k gD f) (hr : DM.RoomG (k + 1) X.A) (tk : Takes X W) (ha : PA X (e :: es) (tA X.K W n mr)) (hkw : PK X kws (tA X.K W j mk)) (hj : j = ks.length := by rfl) (hg : Gl X c := by rfl)
    (hall : (backToKw pos (keywordEach kws X.env)).all (·.1.isSome) = true := by rfl) (hks : (backToKw pos (keywordEach kws X.env)).filterMap (·.1) = ks := by rfl)
    (hdb : (c == ("__debug__" : Str)) = false := by decide) (he : starEach (e :: es) X.env = (false, eval e X.env) :: starEach es X.env := by rfl)
    (hpl : ((backTo pos (starEach (e :: es) X.env)).any (·.1) || (backToKw pos (keywordEach kws X.env)).any (·.1.isNone)) = false := by rfl) :
    PE X (.Call (.Name c p) (e :: es) kws pos) (tM X.K W true (xMake gD f mr mk)) := by
  obtain ⟨fd, ps, g, gV, B, F, hgv⟩ := G.ok
  refine (pe_makeS (E := WE W) G.mks F hr hg G.at_ B (fun σ => passAt tk σ) ha hkw hall hks hdb he hpl).imp fun σ H Q ⟨cc, ρ, k, ex, ok, hm, hk, hx⟩ => ?_
  refine ⟨cc, ρ, _, ex, ok, hm, fun ds vs H1 k1 l1 g1 r1 => ⟨cc, ρ, _, ex, ok.grow g1, k1, fun es zs H2 k2 l2 g2 r2 => ?_, fun x cls dd H' e g z => hx x cls dd H' e (g1.trans g) z⟩, hx⟩
  have lv : vs.length = n := by rw [r1.len, l1]
  have lz : zs.length = ks.length := by rw [r2.len, l2, hj]
  refine ⟨lv, lz, fun x dx hx0 hdx hne => ?_⟩
  obtain ⟨hl, r, er, hR⟩ := hgv x vs zs lv lz
  refine ⟨hl, cc.b, cc.P, H2, x, dx, r, gD ds es, k, ex, er, hx0, hdx, hne, rfl, (ok.good.grow g1).grow g2, hR _ _ _ _ (RpL.mono ((ok.good.grow g1).era g2) _ _ r1) r2, k2, fun d H' kd gr ho => ⟨rfl, hk d _ H' kd ((g1.trans g2).trans gr) (.inl ⟨x, rfl, (g1.trans g2).none hx0, ho⟩)⟩, fun y cls dd H' e gr z => hx y cls dd H' e ((g1.trans g2).trans gr) z⟩
end
end DM
end
section
set_option Elab.async false
set_option linter.all false
set_option maxRecDepth 100000
set_option maxHeartbeats 4000000
namespace L2
open PySem PySem.Spec PyProof.Rows
def rGetL : V → V → Hp → VK → Prop := fun o i H Q => ∃ p xs k v, o = .ref p ∧ i = .int k ∧ 0 ≤ k ∧ H p = some (.lst xs) ∧ xs[k.toNat]? = some v ∧ Q v H
theorem get_list {X : Cx} : PGet X rGetL := by
  intro pins s σ H o i ov iv Q I ro ri h
  obtain ⟨p, xs, k, v, rfl, rfl, hk, hp, he, q⟩ := h
  cases ro
  obtain ⟨t, rfl⟩ := ri
  obtain ⟨its, n, r, ho, hz⟩ := I.lst hp
  obtain ⟨w, ew, rw'⟩ := r.get he
  have hn := line63
  have hlt := (List.getElem?_eq_some_iff.mp he).1
  exact getItem_listL (l := its) ⟨_, ho, rfl, n, rfl⟩ hk (by omega) ew ⟨v, H, I, rw', q⟩
end L2
namespace DM
open PySem L2 Evl

/-! ### the bag opened: _law_take -/
structure BS where
  x0 : Int
  x1 : Int
  x2 : Int
  ns : List Int
  e : List (Option Int)
structure BOk (H0 : Hp) (p1 p2 : Addr) (b : BS) (σ : St) (H : Hp) : Prop where
  st : σ = some (.ref p1) :: b.e.map (Option.map V.int)
  hp : H = upd H0 p1 (.lst [.int b.x0, .int b.x1, .int b.x2, .ref p2])
  cells : H0 p2 = some (.lst (b.ns.map V.int))
  ne : p1 ≠ p2
theorem BOk.h1 {H0 H : Hp} {p1 p2 : Addr} {b : BS} {σ : St} (o : BOk H0 p1 p2 b σ H) : H p1 = some (.lst [.int b.x0, .int b.x1, .int b.x2, .ref p2]) := by rw [o.hp]; exact upd_same
theorem BOk.h2 {H0 H : Hp} {p1 p2 : Addr} {b : BS} {σ : St} (o : BOk H0 p1 p2 b σ H) : H p2 = some (.lst (b.ns.map V.int)) := by rw [o.hp, upd_ne (Ne.symm o.ne)]; exact o.cells
abbrev BX := BS → (Int → Prop) → Prop
abbrev BT := BS → (Bool → Prop) → Prop
structure BD where
  nx : BS → Prop
  rt : Int → BS → Prop
abbrev BM := BD → BS → Prop
def tBx (m : BX) : TE := fun σ H Q => ∃ H0 p1 p2 b k, BOk H0 p1 p2 b σ H ∧ m b k ∧ ∀ i, k i → Q (.int i) H
def tBt (m : BT) : TT := fun σ H Q => ∃ H0 p1 p2 b k, BOk H0 p1 p2 b σ H ∧ m b k ∧ ∀ i, k i → Q i H
def tBs (m : BM) : TS := fun De σ H => ∃ H0 p1 p2 b M, BOk H0 p1 p2 b σ H ∧ m M b ∧ (∀ σ' H' b', BOk H0 p1 p2 b' σ' H' → M.nx b' → De.nx σ' H') ∧ (∀ i σ' H' b', BOk H0 p1 p2 b' σ' H' → M.rt i b' → De.rt (.int i) H')
def bVar (j : Nat) : BX := fun b k => match b.e[j]? with
  | some (some i) => k i
  | _ => False
def bC (i : Int) : BX := fun _ k => k i
def bOp (f : Int → Int → (Int → Prop) → Prop) (m n : BX) : BX := fun b k => m b fun x => n b fun y => f x y k
def bX0 : BX := fun b k => k b.x0
def bX1 : BX := fun b k => k b.x1
def bX2 : BX := fun b k => k b.x2
def bLn : BX := fun b k => k b.ns.length
def bCell : BX := fun b k => match L2.atI b.ns b.x2 with
  | some i => k i
  | none => False
def bCmp (f : Int → Int → Bool) (m n : BX) : BT := fun b k => m b fun x => n b fun y => k (f x y)
section
variable {X : Cx} {e a c : Expr} {p q pos p3 p4 p5 p6 : Pos} {m n : BX} {t : BT}
theorem bx_var (j : Nat) {x : Str} (hN : X.N[j + 1]? = some x := by rfl) (hv : Vis X.env.scope x := by first | exact Or.inl rfl | exact Or.inr (Or.inl rfl) | exact Or.inr (Or.inr rfl)) (hd : (x == ("__debug__" : Str)) = false := by decide)
    (hcd : (x == ("__classdict__" : Str)) = false := by decide) : PE X (.Name x pos) (tBx (bVar j)) := (pe_var hN hv hd hcd).imp fun σ H Q ⟨H0, p1, p2, b, k, o, hm, hk⟩ => by
  unfold bVar at hm
  split at hm
  · rename_i i hi
    refine ⟨.int i, ?_, hk i hm⟩
    rw [o.st, List.getElem?_cons_succ, List.getElem?_map, hi] <;> rfl
  · exact hm.elim
theorem bx_int {i : Int} {j} : PE X (.Constant (.int i) j pos) (tBx (bC i)) := pe_int.imp fun σ H Q ⟨H0, p1, p2, b, k, o, hm, hk⟩ => hk _ hm
theorem bx_op {op : Operator} {r : R2} {f : Int → Int → (Int → Prop) → Prop} (ho : OpR X (binaryOp op) r) (hf : ∀ i j (k : Int → Prop) H (Q : VK), f i j k → (∀ z, k z → Q (.int z) H) → r (.int i) (.int j) H Q) (ha : PE X a (tBx m)) (hc : PE X c (tBx n)) : PE X (.BinOp a op c pos) (tBx (bOp f m n)) :=
  (pe_op ho ha hc).imp fun σ H Q ⟨H0, p1, p2, b, k, o, hm, hk⟩ => ⟨H0, p1, p2, b, _, o, hm, fun i ki => ⟨H0, p1, p2, b, _, o, ki, fun j kj => hf i j k H Q kj hk⟩⟩
def fAdd : Int → Int → (Int → Prop) → Prop := fun i j k => k (i + j)
def fMul : Int → Int → (Int → Prop) → Prop := fun i j k => CMul i j ∧ k (i * j)
def fMod : Int → Int → (Int → Prop) → Prop := fun i j k => 0 < j ∧ k (i % j)
def fDiv : Int → Int → (Int → Prop) → Prop := fun i j k => (0 < j ∧ j < 1073741824) ∧ k (i / j)
def fPow : Int → Int → (Int → Prop) → Prop := fun i j k => CPow i j ∧ k (i ^ j.toNat)
theorem bx_add (ha : PE X a (tBx m)) (hc : PE X c (tBx n)) : PE X (.BinOp a .Add c pos) (tBx (bOp fAdd m n)) := bx_op op_add (fun i j k H Q h hk => ⟨i, j, rfl, rfl, hk _ h⟩) ha hc
theorem bx_mul (ha : PE X a (tBx m)) (hc : PE X c (tBx n)) : PE X (.BinOp a .Mult c pos) (tBx (bOp fMul m n)) := bx_op op_mul (fun i j k H Q h hk => ⟨i, j, rfl, rfl, h.1, hk _ h.2⟩) ha hc
theorem bx_mod (ha : PE X a (tBx m)) (hc : PE X c (tBx n)) : PE X (.BinOp a .Mod c pos) (tBx (bOp fMod m n)) := bx_op op_mod (fun i j k H Q h hk => ⟨i, j, rfl, rfl, h.1, hk _ h.2⟩) ha hc
theorem bx_div (ha : PE X a (tBx m)) (hc : PE X c (tBx n)) : PE X (.BinOp a .FloorDiv c pos) (tBx (bOp fDiv m n)) := bx_op op_fdiv (fun i j k H Q h hk => ⟨i, j, rfl, rfl, h.1, hk _ h.2⟩) ha hc
theorem bx_pow (ha : PE X a (tBx m)) (hc : PE X c (tBx n)) : PE X (.BinOp a .Pow c pos) (tBx (bOp fPow m n)) := bx_op op_pow (fun i j k H Q h hk => ⟨i, j, rfl, rfl, h.1, hk _ h.2⟩) ha hc
/-- the bag's name -/
def tBg : TE := tVar 0
theorem bx_bag {x : Str} (hN : X.N[0]? = some x := by rfl) (hv : Vis X.env.scope x := by first | exact Or.inl rfl | exact Or.inr (Or.inl rfl) | exact Or.inr (Or.inr rfl)) (hd : (x == ("__debug__" : Str)) = false := by decide)
    (hcd : (x == ("__classdict__" : Str)) = false := by decide) : PE X (.Name x pos) tBg := pe_var hN hv hd hcd
theorem bx_x0 {j} (h : PE X a tBg) : PE X (.Subscript a (.Constant (.int 0) j p) pos) (tBx bX0) := (pe_ix ix_seq h (pe_int (i := 0)) (by intro _ _; rfl)).imp fun σ H Q ⟨H0, p1, p2, b, k, o, hm, hk⟩ =>
  ⟨.ref p1, by rw [o.st]; rfl, .inl ⟨p1, _, 0, .int b.x0, rfl, rfl, .inl (.inl o.h1), rfl, hk _ hm⟩⟩
theorem bx_x1 {j} (h : PE X a tBg) : PE X (.Subscript a (.Constant (.int 1) j p) pos) (tBx bX1) := (pe_ix ix_seq h (pe_int (i := 1)) (by intro _ _; rfl)).imp fun σ H Q ⟨H0, p1, p2, b, k, o, hm, hk⟩ =>
  ⟨.ref p1, by rw [o.st]; rfl, .inl ⟨p1, _, 1, .int b.x1, rfl, rfl, .inl (.inl o.h1), rfl, hk _ hm⟩⟩
theorem bx_x2 {j} (h : PE X a tBg) : PE X (.Subscript a (.Constant (.int 2) j p) pos) (tBx bX2) := (pe_ix ix_seq h (pe_int (i := 2)) (by intro _ _; rfl)).imp fun σ H Q ⟨H0, p1, p2, b, k, o, hm, hk⟩ =>
  ⟨.ref p1, by rw [o.st]; rfl, .inl ⟨p1, _, 2, .int b.x2, rfl, rfl, .inl (.inl o.h1), rfl, hk _ hm⟩⟩
/-- the cells -/
def tCs : TE := fun σ H Q => ∃ H0 p1 p2 b, BOk H0 p1 p2 b σ H ∧ Q (.ref p2) H
theorem bx_cs {j} (h : PE X a tBg) : PE X (.Subscript a (.Constant (.int 3) j p) pos) tCs := (pe_ix ix_seq h (pe_int (i := 3)) (by intro _ _; rfl)).imp fun σ H Q ⟨H0, p1, p2, b, o, hq⟩ =>
  ⟨.ref p1, by rw [o.st]; rfl, .inl ⟨p1, _, 3, .ref p2, rfl, rfl, .inl (.inl o.h1), rfl, hq⟩⟩
theorem bx_len (hm : X.mg "len" = none) (h : PE X a tCs) (hg : Gl X "len" := by rfl) (he : starEach [a] X.env = [(false, eval a X.env)] := by rfl) : PE X (.Call (.Name "len" p) [a] [] pos) (tBx bLn) :=
  (pe_callB cr_len hg hm PySem.boot_len (pa_cons h pa_nil he) (by decide) (by decide) he (by rfl)).imp fun σ H Q ⟨H0, p1, p2, b, k, o, hm, hk⟩ => ⟨H0, p1, p2, b, o, .inl ⟨p2, _, rfl, .inl (.inl (.inl o.h2)), by rw [List.length_map]; exact hk _ hm⟩⟩
theorem bx_cell (h : PE X a tCs) (hc : PE X c (tBx bX2)) (hs : PlainIx c := by intro _ _; rfl) : PE X (.Subscript a c pos) (tBx bCell) := (pe_ix ix_seq h hc hs).imp fun σ H Q ⟨H0, p1, p2, b, k, o, hm, hk⟩ => by
  unfold bCell at hm
  split at hm
  · rename_i z hz
    refine ⟨H0, p1, p2, b, o, H0, p1, p2, b, fun i => i = b.x2, o, rfl, fun i ei => .inl ⟨p2, _, i, .int z, rfl, rfl, .inl (.inl o.h2), ?_, hk _ hm⟩⟩
    rw [ei]
    unfold L2.atI at hz ⊢
    rw [List.length_map]
    cases q : ixN b.ns.length b.x2 with
    | none => rw [q] at hz; cases hz
    | some j =>
      rw [q] at hz
      show (b.ns.map V.int)[j]? = _
      rw [List.getElem?_map, (show b.ns[j]? = some z from hz)] <;> rfl
  · exact hm.elim
theorem bx_toint (hm : X.mg "int" = none) (h : PE X a (tBx m)) (hg : Gl X "int" := by rfl) (he : starEach [a] X.env = [(false, eval a X.env)] := by rfl) : PE X (.Call (.Name "int" p) [a] [] pos) (tBx m) :=
  (pe_callTy call_int1 hg hm PyProof.Rows.boot_int (pa_cons h pa_nil he) (by decide) (by decide) he (by rfl)).imp fun σ H Q ⟨H0, p1, p2, b, k, o, hm, hk⟩ => ⟨H0, p1, p2, b, k, o, hm, fun i ki => .inl ⟨i, rfl, hk i ki⟩⟩
theorem bt_cmp {op : CmpOp} {f : Int → Int → Bool} (ho : OpR X (compareOp op) (rI0 fun i j => .bl (f i j))) (ha : PE X a (tBx m)) (hc : PE X c (tBx n)) (hm : behindInMarks op c = false := by first | exact nomark _ | rfl) : PT X (.Compare a [op] [c] pos) (tBt (bCmp f m n)) :=
  (pt_cmpR ho ha hc hm).imp fun σ H Q ⟨H0, p1, p2, b, k, o, hm, hk⟩ => ⟨H0, p1, p2, b, _, o, hm, fun i ki => ⟨H0, p1, p2, b, _, o, ki, fun j kj => ⟨i, j, rfl, rfl, _, rfl, hk _ kj⟩⟩⟩
theorem op_eqI : OpR X (compareOp .Eq) (rI0 fun i j => .bl (decide (i = j))) := by
  intro pins s σ H x y v u Q I rx ry h
  obtain ⟨i, j, rfl, rfl, q⟩ := h
  refine op_eq pins s σ H _ _ v u Q I rx ry ⟨rfl, ?_⟩
  have e : decide (V.int i = V.int j) = decide (i = j) := by
    by_cases z : i = j
    · subst z; simp
    · rw [decide_eq_false z, decide_eq_false]
      intro h; injection h with h; exact z h
  rw [e]
  exact q

/-! statements -/
def bsNil : BM := fun M b => M.nx b
def bsSeq (m n : BM) : BM := fun M b => m { M with nx := n M } b
def bsAsg (j : Nat) (m : BX) : BM := fun M b => m b fun i => M.nx { b with e := b.e.set j (some i) }
def bsIf (t : BT) (m n : BM) : BM := fun M b => t b fun c => if c = true then m M b else n M b
def bsRet (m : BX) : BM := fun M b => m b fun i => M.rt i b
def bsSet0 (m : BX) : BM := fun M b => m b fun i => M.nx { b with x0 := i }
def bsSet1 (m : BX) : BM := fun M b => m b fun i => M.nx { b with x1 := i }
def bsAug2 (m : BX) : BM := fun M b => m b fun i => M.nx { b with x2 := b.x2 + i }
variable {s1 s2 rest : List Stmt} {st : Stmt} {ms ns : BM}
theorem bss_nil : PSs X [] (tBs bsNil) := pss_nil.imp fun De σ H ⟨H0, p1, p2, b, M, o, hm, hn, hr⟩ => hn _ _ b o hm
theorem bss_cons (h : PS X st (tBs ms)) (hr : PSs X rest (tBs ns)) : PSs X (st :: rest) (tBs (bsSeq ms ns)) := (pss_cons h hr).imp fun De σ H ⟨H0, p1, p2, b, M, o, hm, hn, hr⟩ =>
  ⟨H0, p1, p2, b, _, o, hm, fun σ' H' b' o' k' => ⟨H0, p1, p2, b', M, o', k', hn, hr⟩, hr⟩
theorem bs_asg (j : Nat) {x : Str} {pos' : Pos} (hN : X.N.Nodup) (h : PE X e (tBx m)) (hi : X.N[j + 1]? = some x := by rfl) (hx : Loc X.env.scope x := by first | exact .inl rfl | exact .inr rfl) (hs : swapsWith e (some (.Name x pos')) pos.line X.env = pure false := by rfl) (hf : X.fn x = true ∨ X.env.scope.names.lookup x = some .local := by first | exact .inl rfl | exact .inr rfl) :
    PS X (.Assign [.Name x pos'] e pos) (tBs (bsAsg j m)) := (ps_set hN hi hx h hs hf).imp fun De σ H ⟨H0, p1, p2, b, M, o, hm, hn, hr⟩ =>
  ⟨H0, p1, p2, b, _, o, hm, fun i ki => hn _ _ { b with e := b.e.set j (some i) } ⟨by rw [o.st, List.set_cons_succ, List.map_set] <;> rfl, o.hp, o.cells, o.ne⟩ ki⟩
theorem bs_if (hc : PT X c (tBt t)) (h1 : PSs X s1 (tBs ms)) (h2 : PSs X s2 (tBs ns)) : PS X (.If c s1 s2 pos) (tBs (bsIf t ms ns)) := (ps_if hc h1 h2).imp fun De σ H ⟨H0, p1, p2, b, M, o, hm, hn, hr⟩ =>
  ⟨H0, p1, p2, b, _, o, hm, fun d kd => by
    cases d with
    | true => exact ⟨H0, p1, p2, b, M, o, kd, hn, hr⟩
    | false => exact ⟨H0, p1, p2, b, M, o, kd, hn, hr⟩⟩
theorem bs_ret (h : PE X e (tBx m)) : PS X (.Return (some e) pos) (tBs (bsRet m)) := (ps_ret h).imp fun De σ H ⟨H0, p1, p2, b, M, o, hm, hn, hr⟩ => ⟨H0, p1, p2, b, _, o, hm, fun i ki => hr i _ _ b o ki⟩
theorem bs_set0 {j} (hb : PE X a tBg) (h : PE X e (tBx m)) (hs : swapsWithSole [.Subscript a (.Constant (.int 0) j p) q] e pos.line X.env = pure false := by rfl) (hw : swappedStores [.Subscript a (.Constant (.int 0) j p) q] e X.env = pure none := by rfl)
    (h1 : (assignEach [.Subscript a (.Constant (.int 0) j p) q] X.env).map (·.2) = [assign (.Subscript a (.Constant (.int 0) j p) q) X.env] := by rfl)
    (ha : ∀ v, assign (.Subscript a (.Constant (.int 0) j p) q) X.env v = (do
      let ov ← holding [v] (eval a X.env)
      let iv ← holding [v, ov] (eval (.Constant (.int 0) j p) X.env)
      standAt q
      holding [v, ov, iv] (setItem ov iv v)
      release [v, ov, iv] []) := by intro _; rfl) : PS X (.Assign [.Subscript a (.Constant (.int 0) j p) q] e pos) (tBs (bsSet0 m)) := (ps_asg h (pg_sub hb (pe_int (i := 0)) set_list ha) hs hw h1).imp fun De σ H ⟨H0, p1, p2, b, M, o, hm, hn, hr⟩ =>
  ⟨H0, p1, p2, b, _, o, hm, fun i ki => ⟨.ref p1, by rw [o.st]; rfl, p1, _, 0, 0, rfl, rfl, o.h1, rfl, hn _ _ { b with x0 := i } ⟨o.st, by rw [o.hp, upd_upd] <;> rfl, o.cells, o.ne⟩ ki⟩⟩
theorem bs_set1 {j} (hb : PE X a tBg) (h : PE X e (tBx m)) (hs : swapsWithSole [.Subscript a (.Constant (.int 1) j p) q] e pos.line X.env = pure false := by rfl) (hw : swappedStores [.Subscript a (.Constant (.int 1) j p) q] e X.env = pure none := by rfl)
    (h1 : (assignEach [.Subscript a (.Constant (.int 1) j p) q] X.env).map (·.2) = [assign (.Subscript a (.Constant (.int 1) j p) q) X.env] := by rfl)
    (ha : ∀ v, assign (.Subscript a (.Constant (.int 1) j p) q) X.env v = (do
      let ov ← holding [v] (eval a X.env)
      let iv ← holding [v, ov] (eval (.Constant (.int 1) j p) X.env)
      standAt q
      holding [v, ov, iv] (setItem ov iv v)
      release [v, ov, iv] []) := by intro _; rfl) : PS X (.Assign [.Subscript a (.Constant (.int 1) j p) q] e pos) (tBs (bsSet1 m)) := (ps_asg h (pg_sub hb (pe_int (i := 1)) set_list ha) hs hw h1).imp fun De σ H ⟨H0, p1, p2, b, M, o, hm, hn, hr⟩ =>
  ⟨H0, p1, p2, b, _, o, hm, fun i ki => ⟨.ref p1, by rw [o.st]; rfl, p1, _, 1, 1, rfl, rfl, o.h1, rfl, hn _ _ { b with x1 := i } ⟨o.st, by rw [o.hp, upd_upd] <;> rfl, o.cells, o.ne⟩ ki⟩⟩
theorem bs_aug2 {j} (hb : PE X a tBg) (h : PE X e (tBx m))
    (ha : ∀ ov iv new, augStore (.Constant (.int 2) j p) ov iv new = (do holding [new, ov, iv] (setItem ov iv new); release [new, ov, iv] []; pure .next) := by intros; rfl) : PS X (.AugAssign (.Subscript a (.Constant (.int 2) j p) q) .Add e pos) (tBs (bsAug2 m)) :=
  (ps_augS hb (pe_int (i := 2)) get_list h ip_add set_list ha).imp fun De σ H ⟨H0, p1, p2, b, M, o, hm, hn, hr⟩ =>
  ⟨.ref p1, by rw [o.st]; rfl, p1, _, 2, .int b.x2, rfl, rfl, by decide, o.h1, rfl, H0, p1, p2, b, _, o, hm, fun i ki => ⟨b.x2, i, rfl, rfl, p1, _, 2, 2, rfl, rfl, o.h1, rfl, hn _ _ { b with x2 := b.x2 + i } ⟨o.st, by rw [o.hp, upd_upd] <;> rfl, o.cells, o.ne⟩ ki⟩⟩
end
end DM
end
section
set_option Elab.async false
set_option linter.all false
set_option maxRecDepth 100000
set_option maxHeartbeats 4000000
namespace DM
open PySem L2 Evl

/-! ### _law_take -/
def bTake : BM :=
  bsSeq (bsIf (bCmp (fun i j => decide (i = j)) bX0 (bC 0))
    (bsSeq (bsAsg 1 (bC 0)) (bsSeq (bsIf (bCmp (fun i j => decide (i < j)) bX2 bLn) (bsSeq (bsAsg 1 bCell) bsNil) bsNil) (bsSeq (bsAug2 (bC 1)) (bsSeq (bsIf (bCmp (fun i j => decide (j ≤ i)) (bVar 1) (bOp fPow (bC 10) (bC 18))) (bsSeq (bsSet0 (bVar 1)) bsNil) bsNil)
      (bsSeq (bsAsg 2 (bOp fAdd (bOp fAdd (bOp fMul bX1 (bC 48271)) (bOp fMod (bVar 1) (bC 2147483647))) (bOp fMul (bC 7919) bX2))) (bsSeq (bsSet1 (bOp fMod (bVar 2) (bC 2147483647))) bsNil)))))) bsNil)
  (bsSeq (bsIf (bCmp (fun i j => decide (j < i)) bX0 (bC 0)) (bsSeq (bsAsg 3 (bOp fMod bX0 (bVar 0))) (bsSeq (bsSet0 (bOp fDiv bX0 (bVar 0))) (bsSeq (bsRet (bVar 3)) bsNil))) bsNil)
  (bsSeq (bsAsg 4 (bOp fMod (bOp fMul (bOp fAdd bX1 (bC 1)) (bC 39373)) (bC 1000000007)))
  (bsSeq (bsAsg 5 (bOp fMod (bOp fMul (bOp fMod (bOp fMul (bVar 4) (bVar 4)) (bC 998244353)) (bC 30011)) (bC 998244353)))
  (bsSeq (bsRet (bOp fMod (bOp fDiv (bVar 5) (bC 7)) (bVar 0))) bsNil))))
theorem cmulR {i j : Int} (h1 : -(2 ^ 64) < j) (h2 : j < 2 ^ 64) : CMul i j := .inr ⟨h1, h2⟩
theorem take_tail {M : BD} {b : BS} {n : Int} (h0 : 0 < n) (h1 : n < 1073741824) (e0 : b.e[0]? = some (some n)) (el : b.e.length = 6) (hr : ∀ i b', 0 ≤ i → i < n → b'.x2 = b.x2 → b'.ns = b.ns → M.rt i b') :
    bsSeq (bsIf (bCmp (fun i j => decide (j < i)) bX0 (bC 0)) (bsSeq (bsAsg 3 (bOp fMod bX0 (bVar 0))) (bsSeq (bsSet0 (bOp fDiv bX0 (bVar 0))) (bsSeq (bsRet (bVar 3)) bsNil))) bsNil)
  (bsSeq (bsAsg 4 (bOp fMod (bOp fMul (bOp fAdd bX1 (bC 1)) (bC 39373)) (bC 1000000007)))
  (bsSeq (bsAsg 5 (bOp fMod (bOp fMul (bOp fMod (bOp fMul (bVar 4) (bVar 4)) (bC 998244353)) (bC 30011)) (bC 998244353)))
  (bsSeq (bsRet (bOp fMod (bOp fDiv (bVar 5) (bC 7)) (bVar 0))) bsNil))) M b := by
  obtain ⟨x0, x1, x2, ns, e⟩ := b
  obtain ⟨e0', e1, e2, e3, e4, e5, rfl⟩ : ∃ a b c d f g, e = [a, b, c, d, f, g] := by
    match e, el with
    | [a, b, c, d, f, g], _ => exact ⟨a, b, c, d, f, g, rfl⟩
  have e0 : e0' = some n := by simpa using e0
  subst e0
  have hm : ∀ x : Int, 0 ≤ x % n ∧ x % n < n := fun x => ⟨Int.emod_nonneg _ (by omega), Int.emod_lt_of_pos _ h0⟩
  by_cases hx : 0 < x0
  · have t : decide (0 < x0) = true := decide_eq_true hx
    simp only [bsSeq, bsIf, bCmp, bX0, bC, t, if_true, bsAsg, bOp, fMod, bVar, List.getElem?_cons_zero, bsSet0, fDiv, bsRet]
    refine ⟨h0, ⟨h0, h1⟩, ?_⟩
    exact hr _ _ (hm _).1 (hm _).2 rfl rfl
  · have t : decide (0 < x0) = false := decide_eq_false hx
    have b1 : ∀ x : Int, 0 ≤ x % 1000000007 ∧ x % 1000000007 < 1000000007 := fun x => by omega
    simp only [bsSeq, bsIf, bCmp, bX0, bC, t, Bool.false_eq_true, if_false, bsNil, bsAsg, bOp, fMod, fMul, fAdd, bX1, bVar, List.getElem?_cons_zero, bsSet0, fDiv, bsRet]
    refine ⟨cmulR (by decide) (by decide), by decide, ?_⟩
    refine ⟨?_, by decide, cmulR (by decide) (by decide), by decide, ?_⟩
    · obtain ⟨z1, z2⟩ := b1 ((x1 + 1) * 39373)
      exact .inl ⟨by omega, by omega⟩
    · refine ⟨⟨by decide, by decide⟩, h0, ?_⟩
      exact hr _ _ (hm _).1 (hm _).2 rfl rfl
theorem take_ok {M : BD} {x0 x1 x2 n : Int} {ns : List Int} (h2 : 0 ≤ x2) (h0 : 0 < n) (h1 : n < 1073741824) (hr : ∀ i b', 0 ≤ i → i < n → 0 ≤ b'.x2 → b'.ns = ns → M.rt i b') : bTake M ⟨x0, x1, x2, ns, [some n, none, none, none, none, none]⟩ := by
  by_cases hx : x0 = 0
  · have t : decide (x0 = 0) = true := decide_eq_true hx
    have inner : ∀ (c : Int) (M' : BD), (∀ b, b.x2 = x2 + 1 → b.ns = ns → b.e[0]? = some (some n) → b.e.length = 6 → M'.nx b) → bsSeq (bsAug2 (bC 1)) (bsSeq (bsIf (bCmp (fun i j => decide (j ≤ i)) (bVar 1) (bOp fPow (bC 10) (bC 18))) (bsSeq (bsSet0 (bVar 1)) bsNil) bsNil)
      (bsSeq (bsAsg 2 (bOp fAdd (bOp fAdd (bOp fMul bX1 (bC 48271)) (bOp fMod (bVar 1) (bC 2147483647))) (bOp fMul (bC 7919) bX2))) (bsSeq (bsSet1 (bOp fMod (bVar 2) (bC 2147483647))) bsNil))) M' ⟨x0, x1, x2, ns, [some n, some c, none, none, none, none]⟩ := fun c M' hM => by
      have rest : ∀ y0 : Int, bsSeq (bsAsg 2 (bOp fAdd (bOp fAdd (bOp fMul bX1 (bC 48271)) (bOp fMod (bVar 1) (bC 2147483647))) (bOp fMul (bC 7919) bX2))) (bsSeq (bsSet1 (bOp fMod (bVar 2) (bC 2147483647))) bsNil) M' ⟨y0, x1, x2 + 1, ns, [some n, some c, none, none, none, none]⟩ := fun y0 => by
        refine ⟨cmulR (by decide) (by decide), by decide, .inl ⟨by decide, by decide⟩, by decide, ?_⟩
        exact hM _ rfl rfl rfl rfl
      by_cases hc : (10 : Int) ^ (18 : Int).toNat ≤ c
      · have tc : decide ((10 : Int) ^ (18 : Int).toNat ≤ c) = true := decide_eq_true hc
        refine ⟨⟨by decide, by decide, by decide⟩, ?_⟩
        show (if decide ((10 : Int) ^ (18 : Int).toNat ≤ c) = true then _ else _)
        rw [tc, if_pos rfl]
        exact rest c
      · have tc : decide ((10 : Int) ^ (18 : Int).toNat ≤ c) = false := decide_eq_false hc
        refine ⟨⟨by decide, by decide, by decide⟩, ?_⟩
        show (if decide ((10 : Int) ^ (18 : Int).toNat ≤ c) = true then _ else _)
        rw [tc, if_neg Bool.false_ne_true]
        exact rest x0
    show (if decide (x0 = 0) = true then _ else _)
    rw [t, if_pos rfl]
    have fin : ∀ b : BS, b.x2 = x2 + 1 → b.ns = ns → b.e[0]? = some (some n) → b.e.length = 6 → _ := fun b b1 b2 b3 b4 => take_tail (M := M) (b := b) h0 h1 b3 b4 fun i b' i1 i2 i3 i4 => hr i b' i1 i2 (by omega) (i4.trans b2)
    by_cases hl : x2 < (ns.length : Int)
    · have tl : decide (x2 < (ns.length : Int)) = true := decide_eq_true hl
      show (if decide (x2 < (ns.length : Int)) = true then _ else _)
      rw [tl, if_pos rfl]
      have ea : L2.atI ns x2 = some (ns[x2.toNat]'(by omega)) := by
        unfold L2.atI ixN
        rw [if_pos h2, if_pos hl]
        show ns[x2.toNat]? = _
        rw [List.getElem?_eq_getElem]
      show bCell _ _
      unfold bCell
      dsimp only
      rw [ea]
      exact inner _ _ fin
    · have tl : decide (x2 < (ns.length : Int)) = false := decide_eq_false hl
      show (if decide (x2 < (ns.length : Int)) = true then _ else _)
      rw [tl, if_neg Bool.false_ne_true]
      exact inner _ _ fin
  · have t : decide (x0 = 0) = false := decide_eq_false hx
    show (if decide (x0 = 0) = true then _ else _)
    rw [t, if_neg Bool.false_ne_true]
    exact take_tail h0 h1 rfl rfl fun i b' i1 i2 i3 i4 => hr i b' i1 i2 (by rw [i3]; exact h2) i4
/-- the draw: any number below -/
def mTake : MF := fun ds k _ => match ds with
  | [.bag, .int n] => (0 < n ∧ n < 1073741824) ∧ ∀ r, 0 ≤ r → r < n → k (.int r)
  | _ => False
section
variable {P : Program} {w : World} {K : PySem.W.Frag} {mg : Str → Option Value} {base : Heap} {x qual : Str} {params : Arguments} {body : List Stmt} {scope : Scope} {dvs : List V} {kws : List (Str × V)} {f : Addr} {fd : FuncData} {N ps : List Str} {k : Nat}
theorem fn_take (F : FunD K x qual params body scope dvs kws f fd) (S : FnScope N ps scope) (hp : ps.length = 2) (hN : N.length = 7)
    (hb : ∀ (cdv : Value) (A : Around) (outer : List Env) (s : Shared) (H : Hp) (E : XK), RoomG k (A.deeper (PyProof.Rows.envOfC qual scope s.heap.objs.size f cdv)) →
      PSs (cxOf (L2.CX P w) P w K mg base N qual scope f cdv A outer s H E) body (tBs bTake)) : FnG P w K mg base (L2.CX P w) (k + 1) f fd ps (spM K ps.length false mTake) := by
  obtain ⟨oc, od, dV, kV, doc, pm, an, cdv, ct, osl, rfl, lk, hcd, _, _⟩ := F.ex
  refine fnG_of lk hcd S (fun vs H Q E h => h.1) fun A outer s H vs Q E hr h => ⟨_, hb cdv A outer s H E hr, ?_⟩
  obtain ⟨hl, bg, P, ds, k, ex, g, r, hm, hk, hx⟩ := h
  unfold mTake at hm
  split at hm
  · rename_i n
    obtain ⟨⟨n0, n1⟩, hm⟩ := hm
    obtain ⟨v1, r1, rfl, h1, h2⟩ := rpl_cons.mp r
    obtain ⟨v2, r2, rfl, h3, h4⟩ := rpl_cons.mp h2
    cases rpl_nil.mp h4
    obtain ⟨pp, hbg, rfl⟩ := rp_bag.mp h1
    rw [rp_int.mp h3]
    obtain ⟨m1, m2, ⟨ne, x0, x1, x2, ns, e1, e2, e3⟩⟩ := g.bag pp hbg
    refine ⟨H, pp.1, pp.2, ⟨x0, x1, x2, ns, [some n, none, none, none, none, none]⟩, ⟨fun _ => False, fun i b' => 0 ≤ i ∧ i < n ∧ 0 ≤ b'.x2 ∧ b'.ns = ns⟩, ⟨?_, ?_, e2, ne⟩, take_ok e3 n0 n1 fun i b' i1 i2 i3 i4 => ⟨i1, i2, i3, i4⟩, fun _ _ _ _ z => z.elim, fun i σ' H' b' o' ⟨i1, i2, i3, i4⟩ => ?_⟩
    · unfold L2.start
      rw [hN]
      rfl
    · funext a
      by_cases ea : a = pp.1
      · rw [ea, upd_same]; exact e1
      · rw [upd_ne ea]
    · refine hk (.int i) (.int i) H' (hm i i1 i2) ⟨fun a o hb e => ?_, fun q hq => ?_⟩ (Res.of (rp_int.mpr rfl))
      · rw [o'.hp, upd_ne (hb pp hbg)]; exact e
      · rw [hbg] at hq
        cases hq
        exact ⟨ne, b'.x0, b'.x1, b'.x2, b'.ns, o'.h1, o'.h2, i3⟩
  · exact hm.elim

/-! ### law -/
def spLaw (K : PySem.W.Frag) : Sp := fun vs H Q _ => ∃ (a : Addr) (ns : List Int), vs = [.ref a] ∧ ns.length ≤ 63 ∧ SqL K H a (ns.map V.int) ∧ ∀ H', Q (.bl true) H'
def mdLaw : MD := ⟨fun _ => False, fun d => d = .bl true, fun _ => False, fun _ => False, fun _ _ => False⟩
def bag4 (ms : List Int) : D := .lst [.int 0, .int 1234567891, .int 0, .lst (ms.map D.int)]
theorem fn_law {mBag : MF} {mrest : MS} {st : Stmt} {rest : List Stmt} (F : FunD K x qual params body scope dvs kws f fd) (S : FnScope N ps scope) (hp : ps.length = 1) (hN : 2 ≤ N.length) (eb : body = st :: rest)
    (hb : ∀ (cdv : Value) (A : Around) (outer : List Env) (s : Shared) (H : Hp) (E : XK), PySem.W.kdsCode K cdv = true → RoomG k (A.deeper (PyProof.Rows.envOfC qual scope s.heap.objs.size f cdv)) →
      PS (cxOf (L2.CX P w) P w K mg base N qual scope f cdv A outer s H E) st (sM K (fun cls d _ H => E cls d H) false (sOwn 1 (xCall mBag (aCons (xVar 0) aNil)))) ∧
      PSs (cxOf (L2.CX P w) P w K mg base N qual scope f cdv A outer s H E) rest (sM K (fun cls d _ H => E cls d H) false mrest))
    (hbag : ∀ (ns : List Int) (k : D → Prop), ns.length ≤ 63 → (∀ ms, k (bag4 ms)) → mBag [.scr ns] k no1)
    (hlaw : mrest mdLaw (.no :: .sh .bag :: List.replicate (N.length - 2) .no)) : FnG P w K mg base (L2.CX P w) (k + 1) f fd ps (spLaw K) := by
  obtain ⟨oc, od, dV, kV, doc, pm, an, cdv, ct, osl, rfl, lk, hcd, _, _⟩ := F.ex
  subst eb
  refine fnG_of lk hcd S (fun vs H Q E h => ?_) fun A outer s H vs Q E hr h => ?_
  · obtain ⟨a, ns, rfl, _⟩ := h; exact hp.symm
  obtain ⟨b1, b2⟩ := hb cdv A outer s H E (kds_code hcd) hr
  refine ⟨_, pss_cons b1 b2, ?_⟩
  obtain ⟨a, ns, rfl, hn, hS, hQ⟩ := h
  have hst : L2.start N [V.ref a] = some (.ref a) :: List.replicate (N.length - 1) none := rfl
  rw [hst]
  refine ⟨⟨none, [], H, []⟩, [], .sh (.scr ns) :: List.replicate (N.length - 1) .no, ⟨fun ρ => ∃ ms, ρ = (.sh (.scr ns) :: List.replicate (N.length - 1) Sl.no).set 1 (.ow (bag4 ms)), fun _ => False, fun _ => False, fun _ => False, fun _ _ => False⟩,
    ⟨⟨fun _ _ _ h => h, (fun _ h => nomatch h)⟩, ⟨⟨(fun _ h => nomatch h), (fun _ h => nomatch h), (fun _ h => nomatch h)⟩, (fun _ h => nomatch h), (fun _ h => nomatch h), (fun _ h => nomatch h), fun _ => 0, ?_, fun i d e => ?_, fun i d e => ?_, fun i j d e y z w => ?_⟩, (fun _ h => nomatch h)⟩, ?_, fun P' σ' H' ρ' s' q => ?_, fun _ _ _ z => z.elim, fun _ _ _ _ _ z => z.elim, fun _ _ _ _ _ z => z.elim, fun _ _ _ _ _ _ _ _ z => z.elim⟩
  · rw [List.length_cons, List.length_cons, List.length_replicate, List.length_replicate]
  · cases i with
    | zero =>
      cases e
      exact ⟨.ref a, rfl, rp_scr.mpr ⟨a, rfl, ex_l (fun x o e => by show era [] H x = some o; rw [era_out (by simp)]; exact e) hS⟩⟩
    | succ i =>
      rw [List.getElem?_cons_succ, List.getElem?_replicate] at e
      split at e <;> cases e
  · cases i with
    | zero => cases e
    | succ i =>
      rw [List.getElem?_cons_succ, List.getElem?_replicate] at e
      split at e <;> cases e
  · cases i with
    | zero => cases y
    | succ i =>
      rw [List.getElem?_cons_succ, List.getElem?_replicate] at y
      split at y <;> cases y
  · show mBag [.scr ns] _ _
    exact hbag ns _ hn fun ms => ⟨ms, rfl⟩
  · obtain ⟨ms, rfl⟩ := q
    have hat : ((Sl.sh (.scr ns) :: List.replicate (N.length - 1) Sl.no).set 1 (.ow (bag4 ms)))[1]? = some (.ow (bag4 ms)) := by
      rw [List.getElem?_set_self]
      rw [List.length_cons, List.length_replicate]
      omega
    obtain ⟨p1, hσ, hp1, ⟨xs, h1, _, h3⟩⟩ := s'.at hat
    obtain ⟨y0, r0, rfl, z0, h3⟩ := rpl_cons.mp h3
    obtain ⟨y1, r1, rfl, z1, h3⟩ := rpl_cons.mp h3
    obtain ⟨y2, r2, rfl, z2, h3⟩ := rpl_cons.mp h3
    obtain ⟨y3, r3, rfl, z3, h3⟩ := rpl_cons.mp h3
    cases rpl_nil.mp h3
    rw [rp_int.mp z0, rp_int.mp z1, rp_int.mp z2] at h1
    obtain ⟨p2, zs, rfl, h4, _, h5⟩ := rp_lst.mp z3
    have hp2 := (era_some h4).2
    have h4 := (era_some h4).1
    rw [h5.ints] at h4
    have ne : p1 ≠ p2 := fun z => hp2 (z ▸ hp1)
    have bk : BagOk H' (p1, p2) := ⟨ne, 0, 1234567891, 0, ms, h1, h4, Int.le_refl _⟩
    have hlen := s'.ok.rel
    obtain ⟨o, hrel⟩ := hlen
    have hl := hrel.len
    refine ⟨⟨some (p1, p2), [p1, p2], H', []⟩, [p1, p2], _, mdLaw, ⟨⟨fun _ _ _ h => h, fun p hp => by cases hp; exact bk⟩, ⟨⟨fun p hp => by cases hp; exact ⟨List.mem_cons_self, List.mem_cons_of_mem _ List.mem_cons_self, bk⟩, fun q hq => ?_, fun q hq xs => ?_⟩, fun p hp => by cases hp; exact ⟨List.mem_cons_self, List.mem_cons_of_mem _ List.mem_cons_self⟩, fun _ h => h, (fun _ h => nomatch h), fun _ => 0, ?_, fun i d e => ?_, fun i d e => ?_, fun i j d e y z w => ?_⟩, fun q hq => .inl hq⟩, hlaw, fun _ _ _ _ _ z => z.elim, fun d v H'' kd gr rr => ?_, fun _ _ _ _ _ z => z.elim, fun _ _ _ _ _ z => z.elim, fun _ _ _ _ _ _ _ _ z => z.elim⟩
    · rcases List.mem_cons.mp hq with e | e
      · rw [e, h1]; exact fun z => nomatch z
      · rw [List.mem_singleton.mp e, h4]; exact fun z => nomatch z
    · rcases List.mem_cons.mp hq with e | e
      · rw [e, h1]; exact fun z => nomatch z
      · rw [List.mem_singleton.mp e, h4]; exact fun z => nomatch z
    · rw [hl, List.length_set, List.length_cons, List.length_cons, List.length_cons, List.length_replicate, List.length_replicate]
      omega
    · match i, e with
      | 0, e => cases e
      | 1, e => cases e; exact ⟨.ref p1, hσ, rp_bag.mpr ⟨_, rfl, rfl⟩⟩
      | i + 2, e =>
        rw [List.getElem?_cons_succ, List.getElem?_cons_succ, List.getElem?_replicate] at e
        split at e <;> cases e
    · match i, e with
      | 0, e => cases e
      | 1, e => cases e
      | i + 2, e =>
        rw [List.getElem?_cons_succ, List.getElem?_cons_succ, List.getElem?_replicate] at e
        split at e <;> cases e
    · match i, y with
      | 0, y => cases y
      | 1, y => cases y
      | i + 2, y =>
        rw [List.getElem?_cons_succ, List.getElem?_cons_succ, List.getElem?_replicate] at y
        split at y <;> cases y
    · have kd : d = .bl true := kd
      subst kd
      rw [rp_bl.mp rr.sh]
      exact hQ H''
end
end DM
end
section
set_option Elab.async false
set_option linter.all false
set_option maxRecDepth 100000
set_option maxHeartbeats 4000000
namespace DM
open PySem L2 Evl

/-! ### d[k1], d[k2] = a, b -/
def sSetD2 (i : Nat) (k1 k2 : Str) (ma mb : MX) : MS := fun M ρ => ma ρ (fun x => mb ρ (fun y => match ρ[i]? with
  | some (.ow (.dct kvs)) => kvs.length + 1 < LN ∧ M.nx (ρ.set i (.ow (.dct (putD (putD kvs (.inr k1) x) (.inr k2) y))))
  | _ => False) (M.ex ρ)) (M.ex ρ)
section
variable {X : Cx} {W : WX} {fr : Bool} {e a b : Expr} {pos : Pos} {ma mb m : MX}
theorem cs_setD2 (i : Nat) {x k1 k2 : Str} {px px' q1 q2 s1 s2 pt pt2 : Pos} {j1 j2 kt k3} (hu : X.A.units + 1 < cLine) (ha : PE X a (tM X.K W false ma)) (hb : PE X b (tM X.K W false mb)) (hN : X.N[i]? = some x := by rfl) (hv : Vis X.env.scope x := by first | exact Or.inl rfl | exact Or.inr (Or.inl rfl) | exact Or.inr (Or.inr rfl)) (hd : (x == ("__debug__" : Str)) = false := by decide) (hcd : (x == ("__classdict__" : Str)) = false := by decide) (hc : X.calm = true := by rfl)
    (hs : swapsWithSole [.Tuple [.Subscript (.Name x px) (.Constant (.str k1) j1 q1) s1, .Subscript (.Name x px') (.Constant (.str k2) j2 q2) s2] kt pt] (.Tuple [a, b] k3 pt2) pos.line X.env = pure false := by rfl)
    (hw : swappedStores [.Tuple [.Subscript (.Name x px) (.Constant (.str k1) j1 q1) s1, .Subscript (.Name x px') (.Constant (.str k2) j2 q2) s2] kt pt] (.Tuple [a, b] k3 pt2) X.env = pure none := by rfl)
    (hs1 : starEach (a :: [b]) X.env = (false, eval a X.env) :: starEach [b] X.env := by rfl) (hs2 : starEach (b :: []) X.env = (false, eval b X.env) :: starEach [] X.env := by rfl) :
    PS X (.Assign [.Tuple [.Subscript (.Name x px) (.Constant (.str k1) j1 q1) s1, .Subscript (.Name x px') (.Constant (.str k2) j2 q2) s2] kt pt] (.Tuple [a, b] k3 pt2) pos) (sM X.K W fr (sSetD2 i k1 k2 ma mb)) :=
  (ps_asg (pe_tup (pa_cons ha (pa_cons hb pa_nil hs2) hs1)) (pg_tup hc (pgs_cons (pg_sub (pe_var hN hv hd hcd) pe_str (set_dict hu)) (pgs_cons (pg_sub (pe_var hN hv hd hcd) pe_str (set_dict hu)) pgs_nil))) hs hw).imp fun De σ H ⟨g, P, ρ, M, s, hm, l⟩ => by
  refine useE s l hm fun d1 v1 H1 kd1 g1 r1 st1 => useE st1 l kd1 fun d2 v2 H2 kd2 g2 r2 st2 => ⟨by show 2 ≤ sizeLine; decide, fun tp htp => ?_⟩
  have gt := Grow.new (o := .tup [v1, v2]) st2.good htp
  have st3 := st2.go gt
  split at kd2
  · rename_i kvs hd
    obtain ⟨pp, hσ, hp, ⟨xs, h1, h2, h3⟩⟩ := st3.at hd
    refine ⟨tp, [v1, v2], rfl, .inl (.inl upd_same), rfl, v1, [v2], rfl, .ref pp, hσ, pp, _, rfl, .inl ⟨xs, .inr k1, h1, rfl, LN_lt (by rw [h3.len]; omega), rfl⟩, v2, [], rfl, .ref pp, hσ, pp, _, rfl, .inl ⟨_, .inr k2, upd_same, rfl, ?_, rfl⟩, rfl, ?_⟩
    · have := length_putK xs (.inr k1) v1
      have l3 := h3.len
      exact LN_lt (by omega)
    · have rv1 := Rp.mono (st2.good.era gt) _ _ (Rp.mono (st1.good.era g2) _ _ r1.sh)
      have rv2 := Rp.mono (st2.good.era gt) _ _ r2.sh
      have s4 := st3.wr (d' := .dct (putD kvs (.inr k1) d1)) hd hσ ⟨putK xs (.inr k1) v1, upd_same, Nat.le_trans (putD_len _ _ _) (by omega), by rw [era_upd hp]; exact h3.put rv1⟩
      have hd4 : (ρ.set i (.ow (.dct (putD kvs (.inr k1) d1))))[i]? = some (.ow (.dct (putD kvs (.inr k1) d1))) := by rw [List.getElem?_set_self (List.getElem?_eq_some_iff.mp hd).1]
      obtain ⟨pp', hσ', hp', ⟨xs', h1', h2', h3'⟩⟩ := s4.at hd4
      have ep : pp' = pp := by rw [hσ] at hσ'; injection hσ' with z; injection z with z; injection z with z; exact z.symm
      subst ep
      have ex : xs' = putK xs (.inr k1) v1 := by rw [upd_same] at h1'; injection h1' with z; injection z with z; exact z.symm
      subst ex
      have s5 := s4.wr (d' := .dct (putD (putD kvs (.inr k1) d1) (.inr k2) d2)) hd4 hσ' ⟨putK (putK xs (.inr k1) v1) (.inr k2) v2, upd_same, ?_, by rw [era_upd hp']; exact h3'.put (by rw [era_upd hp']; exact rv2)⟩
      · rw [List.set_set] at s5
        exact l.nx P σ _ _ s5 kd2.2
      · have := putD_len (putD kvs (.inr k1) d1) (.inr k2) d2
        have := putD_len kvs (.inr k1) d1
        omega
  · exact kd2.elim
end

/-! ### o[i] of lists, tuples, texts, dicts -/
end DM
namespace L2
open PySem PySem.Spec PyProof.Rows
def rIxDk : R2 := fun x y H Q => ∃ a v, x = .ref a ∧ DGet H a y (some v) ∧ Q v H
theorem ix_dict {X : Cx} (hu : X.A.units + 1 < cLine) : IxR X rIxDk := by
  intro value slice pins s σ H x y v u Q I rx ry h hs
  obtain ⟨a, z, rfl, g, q⟩ := h
  cases rx
  exact tail_any (dict_typeIs I g) PySem.F.slot_dict_getitem.lookup (d_getItem hu I g ry fun w' s3 I3 rw' => ⟨z, H, I3, rw', q⟩) hs
end L2
namespace DM
open PySem L2 Evl
/-- keys that are tuples -/
def keysOf : List D → Option (List Key)
  | [] => some []
  | d :: ds => (match keyD d, keysOf ds with
    | some k, some ks => some (k :: ks)
    | _, _ => none)
def keyT : D → Option (List Key)
  | .tup ds => keysOf ds
  | _ => none
theorem keysOf_v {K : PySem.W.Frag} {b : Bg} {H : Hp} : ∀ {ds : List D} {xs : List V} {ks : List Key}, keysOf ds = some ks → RpL K b H ds xs → xs = ks.map kV
  | [], xs, ks, h, r => by cases h; exact rpl_nil.mp r
  | d :: ds, xs, ks, h, r => by
    obtain ⟨x, q, rfl, h1, h2⟩ := rpl_cons.mp r
    unfold keysOf at h
    split at h
    · rename_i k ks' e1 e2
      cases h
      rw [rp_key h1 e1, keysOf_v e2 h2] <;> rfl
    · cases h
theorem rp_keyT {K : PySem.W.Frag} {b : Bg} {P : List Addr} {H : Hp} {d : D} {v : V} {ks : List Key} (h : Rp K b (era P H) d v) (hk : keyT d = some ks) : ∃ a, v = .ref a ∧ H a = some (.tup (ks.map kV)) ∧ era P H a = some (.tup (ks.map kV)) := by
  cases d <;> first | cases hk | skip
  rename_i ds
  obtain ⟨a, xs, rfl, h1, _, h2⟩ := rp_tup.mp h
  rw [keysOf_v hk h2] at h1
  exact ⟨a, rfl, era_le _ _ h1, h1⟩
def valT (kvs : List (List Key × D)) (k : List Key) : Option D := (kvs.find? fun kv => decide (kv.1 = k)).map (·.2)
theorem RpT.val {K : PySem.W.Frag} {bg : Bg} {H : Hp} {k : List Key} : ∀ {ds : List (List Key × D)} {xs : List (List Key × V)}, RpT K bg H ds xs → (valT ds k = none → valV xs k = none) ∧ ∀ d, valT ds k = some d → ∃ v, valV xs k = some v ∧ Rp K bg H d v
  | [], xs, h => by rw [rpt_nil.mp h]; exact ⟨fun _ => rfl, fun d e => by cases e⟩
  | (g, d) :: ds, xs, h => by
    obtain ⟨x, r, rfl, h1, h2⟩ := rpt_cons.mp h
    obtain ⟨i1, i2⟩ := RpT.val (k := k) h2
    unfold valT valV at *
    by_cases q : g = k
    · have t : decide (g = k) = true := decide_eq_true q
      rw [List.find?_cons_of_pos (by simpa using q), List.find?_cons_of_pos (by simpa using q)]
      exact ⟨(fun e => by cases e), (fun d' e => ⟨x, rfl, (by cases e; exact h1)⟩)⟩
    · rw [List.find?_cons_of_neg (by simpa using q), List.find?_cons_of_neg (by simpa using q)]
      exact ⟨i1, i2⟩
def dSub1 : D → D → (D → Prop) → Prop
  | .dct kvs, y, k => dDix (.dct kvs) y k
  | .dtt kvs, y, k => (match keyT y with
    | some z => (match valT kvs z with
      | some d => k d
      | none => False)
    | none => False)
  | x, y, k => dIx x y k
theorem opd_sub1 {K : PySem.W.Frag} : OpD K false (fun x y H Q => rIx K x y H Q ∨ rIxDk x y H Q) dSub1 := fun bg P H dx dy x y k Q g r1 r2 hf hk => by
  cases dx with
  | dct kvs =>
    have hf' : (match keyD dy with | some z => (match valD kvs z with | some d => k d | none => False) | none => False) := by cases dy <;> exact hf
    cases q : keyD dy with
    | none => rw [q] at hf'; exact hf'.elim
    | some z =>
      rw [q] at hf'
      cases q2 : valD kvs z with
      | none =>
        have k3 : (match valD kvs z with | some d => k d | none => False) := hf'
        rw [q2] at k3; exact k3.elim
      | some d =>
        have k3 : (match valD kvs z with | some d => k d | none => False) := hf'
        rw [q2] at k3
        obtain ⟨aa, xs, rfl, h1, _, h3⟩ := rp_dct.mp r1
        obtain ⟨v, e1, e2⟩ := h3.val.2 d q2
        exact .inr ⟨aa, v, rfl, .inl ⟨xs, z, ex_rd era_le h1, rp_key r2 q, e1.symm⟩, hk d v H k3 g.refl (Res.of e2)⟩
  | dtt kvs =>
    have hf' : (match keyT dy with | some z => (match valT kvs z with | some d => k d | none => False) | none => False) := by cases dy <;> exact hf
    cases q : keyT dy with
    | none => rw [q] at hf'; exact hf'.elim
    | some z =>
      rw [q] at hf'
      have k3 : (match valT kvs z with | some d => k d | none => False) := hf'
      cases q2 : valT kvs z with
      | none => rw [q2] at k3; exact k3.elim
      | some d =>
        rw [q2] at k3
        obtain ⟨aa, xs, rfl, h1, _, h3⟩ := rp_dtt.mp r1
        obtain ⟨v, e1, e2⟩ := h3.val.2 d q2
        obtain ⟨kb, rfl, hb, _⟩ := rp_keyT r2 q
        exact .inr ⟨aa, v, rfl, .inr ⟨xs, z, kb, ex_rd era_le h1, rfl, hb, e1.symm⟩, hk d v H k3 g.refl (Res.of e2)⟩
  | _ => exact .inl (opd_ix bg P H _ _ x y k Q g r1 r2 (by cases dy <;> exact hf) hk)
section
variable {X : Cx} {W : WX} {a b : Expr} {pos : Pos} {ma mb : MX}
theorem ce_sub (hu : X.A.units + 64 < cLine) (ha : PE X a (tM X.K W false ma)) (hb : PE X b (tM X.K W false mb)) (hs : PlainIx b := by intro _ _; rfl) : PE X (.Subscript a b pos) (tM X.K W false (xOp dSub1 ma mb)) := (pe_ix (ix_seq.or (ix_dict (by omega))) ha hb hs).imp (tM_two opd_sub1)
end

theorem u1 {n : Nat} (h : n + 64 < cLine) : n + 1 < cLine := by omega
/-! ### the surroundings of a def's body -/
section
variable {P : Program} {w : World} {K : PySem.W.Frag} {mg : Str → Option Value} {base : Heap} {N : List Str} {qual : Str} {scope : Scope} {f : Addr} {cdv : Value} {A : Around} {outer : List Env} {s : Shared} {H : Hp} {E : XK}
theorem tkF : Takes (cxOf (L2.CX P w) P w K mg base N qual scope f cdv A outer s H E) (fun cls d _ H => E cls d H) := takes_of rfl rfl rfl rfl
theorem poF : PassesOwn (model P w) (cxOf (L2.CX P w) P w K mg base N qual scope f cdv A outer s H E).A (cxOf (L2.CX P w) P w K mg base N qual scope f cdv A outer s H E).env (cxOf (L2.CX P w) P w K mg base N qual scope f cdv A outer s H E).xe := passes_of (X := cxOf (L2.CX P w) P w K mg base N qual scope f cdv A outer s H E) rfl
end

/-! ### properties that read an attribute -/
def selfArgs : Arguments → Bool
  | ⟨[], [⟨a, _, _⟩], none, [], [], none, []⟩ => decide (a = ("self" : Str))
  | _ => false
def readsFld (fl : Str) : FuncBody → Bool
  | .stmts [.Return (some (.Attribute (.Name s _) g _)) _] => decide (s = ("self" : Str)) && decide (g = fl)
  | _ => false
theorem readsFld_ok {fl : Str} {b : FuncBody} (h : readsFld fl b = true) : ∃ p1 p2 p3, b = .stmts [.Return (some (.Attribute (.Name "self" p1) fl p2)) p3] := by
  unfold readsFld at h
  split at h
  · obtain ⟨e1, e2⟩ := He.ba h
    have e1 := of_decide_eq_true e1
    have e2 := of_decide_eq_true e2
    subst e1 e2
    exact ⟨_, _, _, rfl⟩
  · cases h
theorem selfArgs_ok {a : Arguments} (h : selfArgs a = true) : ∃ an pa, a = ⟨[], [⟨"self", an, pa⟩], none, [], [], none, []⟩ := by
  unfold selfArgs at h
  split at h
  · have e := of_decide_eq_true h
    subst e
    exact ⟨_, _, rfl⟩
  · cases h
def selfScope (sc : Scope) : Bool := (match sc.kind with | .function => true | _ => false) && (!sc.isCoroutine && (!sc.isGenerator && (decide (sc.names.lookup ("self" : Str) = some .local) && sc.names.all fun y => decide (y.2 ≠ .free))))
def noneB : Value → Bool
  | .none => true
  | _ => false
theorem noneB_ok {v : Value} (h : noneB v = true) : v = .none := by cases v <;> first | rfl | cases h
def getterB (K : PySem.W.Frag) (g : Addr) (fl : Str) : Bool := match K.lookup g with
  | some ⟨_, _, .func fd, _⟩ => selfArgs fd.params && (readsFld fl fd.body && (selfScope fd.scope && (decide (fd.globals = mainGlobals) && (decide (fd.closure = []) && (decide (fd.builtins = builtinsNs) && (noneB fd.defaults && PySem.W.codeIn K fd.code fd.qualname))))))
  | _ => false
def propAt (K : PySem.W.Frag) (c f : Str) : Addr := match PySem.W.findIn K (.ref (He.ga K c)) f with
  | some (some (.ref p)) => p
  | _ => 0
def propGet (K : PySem.W.Frag) (c f : Str) : Addr := match PySem.W.recIn K (propAt K c f) "property" with
  | some (.ref g :: _) => g
  | _ => 0
def propB (K : PySem.W.Frag) (c f fl : Str) : Bool := He.eqO (PySem.W.findIn K (.ref (He.ga K c)) f) (some (some (.ref (propAt K c f)))) && (He.eqO (PySem.W.specialIn K (.ref (propAt K c f)) "__get__") (some (some (.builtin "property.__get__"))) && (decide (PySem.W.takesIn K (.ref (propAt K c f)) = some true) &&
  ((match PySem.W.recIn K (propAt K c f) "property" with | some (.ref g :: _) => true | _ => false) && getterB K (propGet K c f) fl)))
section
variable {P : Program} {w : World} {K : PySem.W.Frag} {mg : Str → Option Value} {base : Heap}
theorem getterB_ok {g C : Addr} {fl : Str} {k : Nat} (h : getterB K g fl = true) (c : Cls K C) (n : NoAttr K C fl) : ∃ fd, Binds K fd ["self"] [] ∧ FnOk P w K mg base CX0 (k + 1) g fd ["self"] (getSp C fl) := by
  unfold getterB at h
  cases q : K.lookup g with
  | none => rw [q] at h; cases h
  | some o =>
    obtain ⟨oc, od, dt, osl⟩ := o
    rw [q] at h
    cases dt with
    | func fd =>
      obtain ⟨n1, n2, n3, n4, n5, n6, n7, n8, n9, n10, n11, n12, n13, n14, n15⟩ := fd
      obtain ⟨h1, h⟩ := He.ba h
      obtain ⟨h2, h⟩ := He.ba h
      obtain ⟨h3, h⟩ := He.ba h
      obtain ⟨h4, h⟩ := He.ba h
      obtain ⟨h5, h⟩ := He.ba h
      obtain ⟨h6, h⟩ := He.ba h
      obtain ⟨h8, h7⟩ := He.ba h
      have h1 : selfArgs n3 = true := h1
      have h2 : readsFld fl n4 = true := h2
      have h3 : selfScope n5 = true := h3
      have h7 : PySem.W.codeIn K n13 n2 = true := h7
      have g4 : n6 = mainGlobals := of_decide_eq_true h4
      have g5 : n7 = [] := of_decide_eq_true h5
      have g6 : n15 = builtinsNs := of_decide_eq_true h6
      have g8 : n8 = .none := noneB_ok h8
      clear h4 h5 h6 h8 h
      subst g4 g5 g6 g8
      obtain ⟨p1, p2, p3, rfl⟩ := readsFld_ok h2
      obtain ⟨an, pa, rfl⟩ := selfArgs_ok h1
      unfold selfScope at h3
      obtain ⟨s1, h3⟩ := He.ba h3
      obtain ⟨s2, h3⟩ := He.ba h3
      obtain ⟨s3, h3⟩ := He.ba h3
      obtain ⟨s4, s5⟩ := He.ba h3
      have S : FnScope ["self"] ["self"] n5 := by
        refine ⟨?_, ?_, ?_, by decide +kernel, rfl, fun x hx => ?_, fun y hy => ?_⟩
        · split at s1
          · assumption
          · cases s1
        · cases z : n5.isCoroutine with
          | false => rfl
          | true => rw [z] at s2; cases s2
        · cases z : n5.isGenerator with
          | false => rfl
          | true => rw [z] at s3; cases s3
        · rw [List.mem_singleton.mp hx]; exact .inl (of_decide_eq_true s4)
        · exact of_decide_eq_true (List.all_eq_true.mp s5 y hy)
      exact ⟨_, .all fun us hl => (match us, hl with | [u], _ => rfl), fn_getter (name := n1) (qual := n2) q h7 S rfl rfl c n⟩
    | _ => cases h
theorem propB_ok {c f fl : Str} {k : Nat} (h : propB K c f fl = true) (cl : Cls K (He.ga K c)) (n : NoAttr K (He.ga K c) fl) : PFn P w K mg base c f fl (k + 1) := by
  obtain ⟨h1, h⟩ := He.ba h
  obtain ⟨h2, h⟩ := He.ba h
  obtain ⟨h3, h⟩ := He.ba h
  obtain ⟨h4, h5⟩ := He.ba h
  obtain ⟨fd, B, F⟩ := getterB_ok (P := P) (w := w) (mg := mg) (base := base) (k := k) h5 cl n
  refine ⟨⟨fd, _, _, B, ⟨He.eqO_ok h1, He.eqO_ok h2, of_decide_eq_true h3, ?_⟩, F⟩, cl⟩
  unfold propGet
  split at h4
  · rename_i g r e
    rw [e]
    exact ⟨r, rfl⟩
  · cases h4
end

/-! ### facts of the head -/
/-- what a row's walk leans on -/
structure Zs (fa : List He.Fa) (fn : List He.DefD) (ex : PySem.W.Frag → Bool) (K : PySem.W.Frag) (mg : Str → Option Value) : Prop where
  at_ : ∀ (i : Nat) (f : He.Fa), fa[i]? = some f → f.ok K = true
  fnd : ∀ (i : Nat) (d : He.DefD), fn[i]? = some d → ∃ fd, FunD K d.name d.qual d.params d.body d.scope (d.dvs K) (d.kws K) (He.fAd K d.at_) fd
  ns : ∃ h : Heap, K.In h ∧ h.Ns mainGlobals mg
  more : ex K = true
section
variable {fa : List He.Fa} {fn : List He.DefD} {ex : PySem.W.Frag → Bool} {K : PySem.W.Frag} {mg : Str → Option Value}
theorem Zs.of {h : Heap} {w : World} (X : K.In h) (G : h.Ns mainGlobals mg) (c : He.SaysX fa fn [] [] ex w h K) : Zs fa fn ex K mg := ⟨fun i f e => (c.t.d).fact i e, fun i d e => (c.t.d).def_ i e, ⟨h, X, G⟩, c.more⟩
theorem Zs.gl (Z : Zs fa fn ex K mg) (i : Nat) {x : Str} (h : fa[i]? = some (.glo x) := by rfl) : mg x = some (.ref (He.ga K x)) := let ⟨_, X, G⟩ := Z.ns; He.glo_ok X G (Z.at_ i _ h)
theorem Zs.fr (Z : Zs fa fn ex K mg) (i : Nat) {x : Str} (h : fa[i]? = some (.free x) := by rfl) : mg x = none := let ⟨_, X, G⟩ := Z.ns; He.free_ok X G (Z.at_ i _ h)
theorem Zs.int (Z : Zs fa fn ex K mg) (i : Nat) {x : Str} {n : Int} (h : fa[i]? = some (.int x n) := by rfl) : ∃ t, mg x = some (.int n t) := let ⟨_, X, G⟩ := Z.ns; He.int_ok X G (Z.at_ i _ h)
theorem Zs.str (Z : Zs fa fn ex K mg) (i : Nat) {x z : Str} (h : fa[i]? = some (.str x z) := by rfl) : ∃ t, mg x = some (.str z t) := let ⟨_, X, G⟩ := Z.ns; He.str_ok X G (Z.at_ i _ h)
theorem Zs.cls (Z : Zs fa fn ex K mg) (i : Nat) {x : Str} (h : fa[i]? = some (.cls x) := by rfl) : Cls K (He.ga K x) := He.cls_ok (Z.at_ i _ h)
theorem Zs.noat (Z : Zs fa fn ex K mg) (i : Nat) {x f : Str} (h : fa[i]? = some (.noat x f) := by rfl) : NoAttr K (He.ga K x) f := He.noat_ok (Z.at_ i _ h)
theorem Zs.meth (Z : Zs fa fn ex K mg) (i : Nat) {x m : Str} (h : fa[i]? = some (.meth x m) := by rfl) : Meth K (He.ga K x) m (He.ma K (He.ga K x) m) := He.meth_ok (Z.at_ i _ h)
theorem Zs.mkr (Z : Zs fa fn ex K mg) (i : Nat) {x : Str} (h : fa[i]? = some (.mkr x) := by rfl) : Mk K (He.ga K x) (He.ma K (He.ga K x) "__init__") := He.mkr_ok (Z.at_ i _ h)
end
section
variable {X : Cx} {W : WX} {pos : Pos}
/-- a number of the module -/
theorem ce_gi {x : Str} {n : Int} (h : ∃ t, X.mg x = some (.int n t)) (hg : Gl X x := by rfl) (hd : (x == ("__debug__" : Str)) = false := by decide) : PE X (.Name x pos) (tM X.K W false (xC (.int n))) := by
  obtain ⟨t, h⟩ := h
  exact ce_gl h (v := .int n) ⟨t, rfl⟩ (fun _ _ => rp_int.mpr rfl) hg hd
theorem ce_gs {x z : Str} (h : ∃ t, X.mg x = some (.str z t)) (hz : z.length ≤ LN := by decide) (hg : Gl X x := by rfl) (hd : (x == ("__debug__" : Str)) = false := by decide) : PE X (.Name x pos) (tM X.K W false (xC (.str z))) := by
  obtain ⟨t, h⟩ := h
  exact ce_gl h (v := .str z) ⟨t, rfl⟩ (fun _ _ => rp_str.mpr ⟨rfl, hz⟩) hg hd
/-- a tuple of texts of the module -/
def strsD (zs : List Str) : D := .ktp (zs.map D.str)
def strsV (zs : List Str) : List He.Dv := zs.map He.Dv.str
theorem rp_strs {K : PySem.W.Frag} {b : Bg} {H : Hp} : ∀ (zs : List Str), (zs.all fun z => decide (z.length ≤ LN)) = true → RpL K b H (zs.map D.str) ((strsV zs).map (He.Dv.v K))
  | [], _ => rpl_nil.mpr rfl
  | z :: zs, h => by
    obtain ⟨h1, h2⟩ := He.ba (show (decide (z.length ≤ LN) && zs.all fun z => decide (z.length ≤ LN)) = true from h)
    exact rpl_cons.mpr ⟨_, _, rfl, rp_str.mpr ⟨rfl, of_decide_eq_true h1⟩, rp_strs zs h2⟩
theorem ce_gt {x : Str} {zs : List Str} (h : X.mg x = some (.ref (He.ga X.K x))) (t : He.tupB X.K x (strsV zs) = true) (hl : (zs.all fun z => decide (z.length ≤ LN)) = true := by decide) (hn : zs.length ≤ LN := by decide) (hg : Gl X x := by rfl) (hd : (x == ("__debug__" : Str)) = false := by decide) : PE X (.Name x pos) (tM X.K W false (xC (strsD zs))) :=
  ce_gl h (v := .ref (He.ga X.K x)) rfl (fun b H => rp_ktp.mpr ⟨_, _, rfl, He.tupB_ok t H, by rw [List.length_map]; exact hn, rp_strs zs hl⟩) hg hd
end
end DM
end
section
set_option Elab.async false
set_option linter.all false
set_option maxRecDepth 100000
set_option maxHeartbeats 4000000
namespace DM
open PySem L2 Evl
section
variable {X : Cx} {W : WX} {fr : Bool} {e a b c' : Expr} {es : List Expr} {p pos q1 q2 q3 : Pos} {m ma mb mc : MX}
theorem c_len (hm : X.mg "len" = none) (h : PE X e (tM X.K W false m)) (hg : Gl X "len" := by rfl) (he : starEach [e] X.env = (false, eval e X.env) :: starEach [] X.env := by rfl) : PE X (.Call (.Name "len" p) [e] [] pos) (tM X.K W false (xB1 bLen (aCons m aNil))) := ce_cb cr_len calld_len hm PySem.boot_len (ca_cons h ca_nil he) hg (by decide) (by decide) he (by rfl)
theorem c_all (hm : X.mg "all" = none) (h : PE X e (tM X.K W false m)) (hg : Gl X "all" := by rfl) (hc : X.calm = true := by rfl) (he : starEach [e] X.env = (false, eval e X.env) :: starEach [] X.env := by rfl) : PE X (.Call (.Name "all" p) [e] [] pos) (tM X.K W false (xB1 bAll (aCons m aNil))) := ce_cb (cr_all hc) calld_all hm PyProof.Rows.boot_all (ca_cons h ca_nil he) hg (by decide) (by decide) he (by rfl)
theorem c_sum (hm : X.mg "sum" = none) (h : PE X e (tM X.K W false m)) (hg : Gl X "sum" := by rfl) (hc : X.calm = true := by rfl) (he : starEach [e] X.env = (false, eval e X.env) :: starEach [] X.env := by rfl) : PE X (.Call (.Name "sum" p) [e] [] pos) (tM X.K W false (xB1 bSum (aCons m aNil))) := ce_cb (cr_sum hc) calld_sum hm PyProof.Rows.boot_sum (ca_cons h ca_nil he) hg (by decide) (by decide) he (by rfl)
theorem c_abs (hm : X.mg "abs" = none) (h : PE X e (tM X.K W false m)) (hg : Gl X "abs" := by rfl) (he : starEach [e] X.env = (false, eval e X.env) :: starEach [] X.env := by rfl) : PE X (.Call (.Name "abs" p) [e] [] pos) (tM X.K W false (xB1 bAbs (aCons m aNil))) := ce_cb call_abs calld_abs hm PyProof.Rows.boot_abs (ca_cons h ca_nil he) hg (by decide) (by decide) he (by rfl)
theorem c_sorted (hm : X.mg "sorted" = none) (h : PE X e (tM X.K W false m)) (hg : Gl X "sorted" := by rfl) (he : starEach [e] X.env = (false, eval e X.env) :: starEach [] X.env := by rfl) : PE X (.Call (.Name "sorted" p) [e] [] pos) (tM X.K W true (xB1 bSortI (aCons m aNil))) := ce_cb cr_sortedI calld_sorted hm PyProof.Rows.boot_sorted (ca_cons h ca_nil he) hg (by decide) (by decide) he (by rfl)
theorem c_list (hm : X.mg "list" = none) (h : PE X e (tM X.K W false m)) (hg : Gl X "list" := by rfl) (he : starEach [e] X.env = (false, eval e X.env) :: starEach [] X.env := by rfl) : PE X (.Call (.Name "list" p) [e] [] pos) (tM X.K W true (xB1 bList (aCons m aNil))) := ce_ty call_list_of calld_list hm PyProof.Rows.boot_list (ca_cons h ca_nil he) hg (by decide) (by decide) he (by rfl)
theorem c_tuple (hm : X.mg "tuple" = none) (h : PE X e (tM X.K W false m)) (hg : Gl X "tuple" := by rfl) (he : starEach [e] X.env = (false, eval e X.env) :: starEach [] X.env := by rfl) : PE X (.Call (.Name "tuple" p) [e] [] pos) (tM X.K W false (xB1 bTuple (aCons m aNil))) := ce_ty call_tuple_of calld_tuple hm PyProof.Rows.boot_tuple (ca_cons h ca_nil he) hg (by decide) (by decide) he (by rfl)
theorem c_dict (hm : X.mg "dict" = none) (h : PE X e (tM X.K W false m)) (hg : Gl X "dict" := by rfl) (hc : X.calm = true := by rfl) (he : starEach [e] X.env = (false, eval e X.env) :: starEach [] X.env := by rfl) : PE X (.Call (.Name "dict" p) [e] [] pos) (tM X.K W true (xB1 bDict (aCons m aNil))) := ce_ty (call_dictP hc) calld_dict hm PyProof.Rows.boot_dict (ca_cons h ca_nil he) hg (by decide) (by decide) he (by rfl)
theorem c_eq (hu : X.A.units + 64 < cLine) (ha : PE X a (tM X.K W false ma)) (hb : PE X b (tM X.K W false mb)) (hm : behindInMarks .Eq b = false := by first | exact nomark _ | rfl) : PE X (.Compare a [.Eq] [b] pos) (tM X.K W false (xCmp dEq ma mb)) := ce_cmp (op_eqD hu) cmpd_eq ha hb hm
theorem t_eq (hu : X.A.units + 64 < cLine) (ha : PE X a (tM X.K W false ma)) (hb : PE X b (tM X.K W false mb)) (hm : behindInMarks .Eq b = false := by first | exact nomark _ | rfl) : PT X (.Compare a [.Eq] [b] pos) (tT X.K W (tCmpM dEq ma mb)) := ct_cmp (op_eqD hu) cmpd_eq ha hb hm
theorem c_ne (hu : X.A.units + 64 < cLine) (ha : PE X a (tM X.K W false ma)) (hb : PE X b (tM X.K W false mb)) (hm : behindInMarks .NotEq b = false := by first | exact nomark _ | rfl) : PE X (.Compare a [.NotEq] [b] pos) (tM X.K W false (xCmp dNe ma mb)) := ce_cmp (op_neD hu) cmpd_ne ha hb hm
theorem t_ne (hu : X.A.units + 64 < cLine) (ha : PE X a (tM X.K W false ma)) (hb : PE X b (tM X.K W false mb)) (hm : behindInMarks .NotEq b = false := by first | exact nomark _ | rfl) : PT X (.Compare a [.NotEq] [b] pos) (tT X.K W (tCmpM dNe ma mb)) := ct_cmp (op_neD hu) cmpd_ne ha hb hm
theorem c_lt (ha : PE X a (tM X.K W false ma)) (hb : PE X b (tM X.K W false mb)) (hm : behindInMarks .Lt b = false := by first | exact nomark _ | rfl) : PE X (.Compare a [.Lt] [b] pos) (tM X.K W false (xCmp dLt ma mb)) := ce_cmp op_lt cmpd_lt ha hb hm
theorem t_lt (ha : PE X a (tM X.K W false ma)) (hb : PE X b (tM X.K W false mb)) (hm : behindInMarks .Lt b = false := by first | exact nomark _ | rfl) : PT X (.Compare a [.Lt] [b] pos) (tT X.K W (tCmpM dLt ma mb)) := ct_cmp op_lt cmpd_lt ha hb hm
theorem c_le (ha : PE X a (tM X.K W false ma)) (hb : PE X b (tM X.K W false mb)) (hm : behindInMarks .LtE b = false := by first | exact nomark _ | rfl) : PE X (.Compare a [.LtE] [b] pos) (tM X.K W false (xCmp dLe ma mb)) := ce_cmp op_le cmpd_le ha hb hm
theorem t_le (ha : PE X a (tM X.K W false ma)) (hb : PE X b (tM X.K W false mb)) (hm : behindInMarks .LtE b = false := by first | exact nomark _ | rfl) : PT X (.Compare a [.LtE] [b] pos) (tT X.K W (tCmpM dLe ma mb)) := ct_cmp op_le cmpd_le ha hb hm
theorem c_gt (ha : PE X a (tM X.K W false ma)) (hb : PE X b (tM X.K W false mb)) (hm : behindInMarks .Gt b = false := by first | exact nomark _ | rfl) : PE X (.Compare a [.Gt] [b] pos) (tM X.K W false (xCmp dGt ma mb)) := ce_cmp op_gt cmpd_gt ha hb hm
theorem t_gt (ha : PE X a (tM X.K W false ma)) (hb : PE X b (tM X.K W false mb)) (hm : behindInMarks .Gt b = false := by first | exact nomark _ | rfl) : PT X (.Compare a [.Gt] [b] pos) (tT X.K W (tCmpM dGt ma mb)) := ct_cmp op_gt cmpd_gt ha hb hm
theorem c_ge (ha : PE X a (tM X.K W false ma)) (hb : PE X b (tM X.K W false mb)) (hm : behindInMarks .GtE b = false := by first | exact nomark _ | rfl) : PE X (.Compare a [.GtE] [b] pos) (tM X.K W false (xCmp dGe ma mb)) := ce_cmp op_ge cmpd_ge ha hb hm
theorem t_ge (ha : PE X a (tM X.K W false ma)) (hb : PE X b (tM X.K W false mb)) (hm : behindInMarks .GtE b = false := by first | exact nomark _ | rfl) : PT X (.Compare a [.GtE] [b] pos) (tT X.K W (tCmpM dGe ma mb)) := ct_cmp op_ge cmpd_ge ha hb hm
theorem c_in (ha : PE X a (tM X.K W false ma)) (hb : PE X b (tM X.K W false mb)) (hm : behindInMarks .In b = false := by first | exact nomark _ | rfl) : PE X (.Compare a [.In] [b] pos) (tM X.K W false (xCmp dIn ma mb)) := ce_cmp op_in_seq cmpd_in ha hb hm
theorem t_in (ha : PE X a (tM X.K W false ma)) (hb : PE X b (tM X.K W false mb)) (hm : behindInMarks .In b = false := by first | exact nomark _ | rfl) : PT X (.Compare a [.In] [b] pos) (tT X.K W (tCmpM dIn ma mb)) := ct_cmp op_in_seq cmpd_in ha hb hm
theorem c_nin (ha : PE X a (tM X.K W false ma)) (hb : PE X b (tM X.K W false mb)) (hm : behindInMarks .NotIn b = false := by first | exact nomark _ | rfl) : PE X (.Compare a [.NotIn] [b] pos) (tM X.K W false (xCmp dNotIn ma mb)) := ce_cmp op_notIn_seq cmpd_notIn ha hb hm
theorem t_nin (ha : PE X a (tM X.K W false ma)) (hb : PE X b (tM X.K W false mb)) (hm : behindInMarks .NotIn b = false := by first | exact nomark _ | rfl) : PT X (.Compare a [.NotIn] [b] pos) (tT X.K W (tCmpM dNotIn ma mb)) := ct_cmp op_notIn_seq cmpd_notIn ha hb hm
theorem c_isN (ha : PE X a (tM X.K W false ma)) (hb : PE X b (tM X.K W false mb)) (hm : behindInMarks .Is b = false := by first | exact nomark _ | rfl) : PE X (.Compare a [.Is] [b] pos) (tM X.K W false (xCmp dIsN ma mb)) := ce_cmp op_isN cmpd_isN ha hb hm
theorem t_isN (ha : PE X a (tM X.K W false ma)) (hb : PE X b (tM X.K W false mb)) (hm : behindInMarks .Is b = false := by first | exact nomark _ | rfl) : PT X (.Compare a [.Is] [b] pos) (tT X.K W (tCmpM dIsN ma mb)) := ct_cmp op_isN cmpd_isN ha hb hm
theorem c_notN (ha : PE X a (tM X.K W false ma)) (hb : PE X b (tM X.K W false mb)) (hm : behindInMarks .IsNot b = false := by first | exact nomark _ | rfl) : PE X (.Compare a [.IsNot] [b] pos) (tM X.K W false (xCmp dNotN ma mb)) := ce_cmp op_notN cmpd_notN ha hb hm
theorem t_notN (ha : PE X a (tM X.K W false ma)) (hb : PE X b (tM X.K W false mb)) (hm : behindInMarks .IsNot b = false := by first | exact nomark _ | rfl) : PT X (.Compare a [.IsNot] [b] pos) (tT X.K W (tCmpM dNotN ma mb)) := ct_cmp op_notN cmpd_notN ha hb hm
theorem c_sub (ha : PE X a (tM X.K W false ma)) (hb : PE X b (tM X.K W false mb)) : PE X (.BinOp a .Sub b pos) (tM X.K W false (xOp dSub ma mb)) := ce_op op_sub opd_sub ha hb
theorem c_mul (ha : PE X a (tM X.K W false ma)) (hb : PE X b (tM X.K W false mb)) : PE X (.BinOp a .Mult b pos) (tM X.K W false (xOp dMul ma mb)) := ce_op op_mul opd_mul ha hb
theorem c_mod (ha : PE X a (tM X.K W false ma)) (hb : PE X b (tM X.K W false mb)) : PE X (.BinOp a .Mod b pos) (tM X.K W false (xOp dMod ma mb)) := ce_op op_mod opd_mod ha hb
theorem c_fdiv (ha : PE X a (tM X.K W false ma)) (hb : PE X b (tM X.K W false mb)) : PE X (.BinOp a .FloorDiv b pos) (tM X.K W false (xOp dDiv ma mb)) := ce_op op_fdiv opd_div ha hb
theorem c_pow (ha : PE X a (tM X.K W false ma)) (hb : PE X b (tM X.K W false mb)) : PE X (.BinOp a .Pow b pos) (tM X.K W false (xOp dPow ma mb)) := ce_op op_pow opd_pow ha hb
theorem c_app (i : Nat) {x : Str} {px apos cpos : Pos} (h : PE X e (tM X.K W false m)) (hN : X.N[i]? = some x := by rfl) (hv : Vis X.env.scope x := by first | exact Or.inl rfl | exact Or.inr (Or.inl rfl) | exact Or.inr (Or.inr rfl)) (hd : (x == ("__debug__" : Str)) = false := by decide) (hcd : (x == ("__classdict__" : Str)) = false := by decide)
    (hfew : ((backTo cpos (starEach [e] X.env)).all (fun x => !x.1) && (backToKw cpos (keywordEach [] X.env)).all (fun x => x.1.isSome) && decide ([e].length + ([] : List Keyword).length + (if ([] : List Keyword).isEmpty then 0 else 1) < 30)) = true := by rfl)
    (hline : (apos.endLine == cpos.line) = true := by rfl) (he : starEach [e] X.env = (false, eval e X.env) :: starEach [] X.env := by rfl) (hs : swapsWith (.Call (.Attribute (.Name x px) "append" apos) [e] [] cpos) none pos.line X.env = pure false := by rfl) :
    PS X (.Expr (.Call (.Attribute (.Name x px) "append" apos) [e] [] cpos) pos) (sM X.K W fr (sApp i m)) := cs_app i h hN hv (pe_bm PySem.F.plainAttrs_list PySem.F.slot_list_append PySem.F.type_list_append mt_append (pe_var hN hv hd hcd) (pa_cons h pa_nil he) rfl hfew hline he rfl) hs
theorem c_ext (i : Nat) {x : Str} {px apos cpos : Pos} (h : PE X e (tM X.K W false m)) (hN : X.N[i]? = some x := by rfl) (hv : Vis X.env.scope x := by first | exact Or.inl rfl | exact Or.inr (Or.inl rfl) | exact Or.inr (Or.inr rfl)) (hd : (x == ("__debug__" : Str)) = false := by decide) (hcd : (x == ("__classdict__" : Str)) = false := by decide)
    (hfew : ((backTo cpos (starEach [e] X.env)).all (fun x => !x.1) && (backToKw cpos (keywordEach [] X.env)).all (fun x => x.1.isSome) && decide ([e].length + ([] : List Keyword).length + (if ([] : List Keyword).isEmpty then 0 else 1) < 30)) = true := by rfl)
    (hline : (apos.endLine == cpos.line) = true := by rfl) (he : starEach [e] X.env = (false, eval e X.env) :: starEach [] X.env := by rfl) (hs : swapsWith (.Call (.Attribute (.Name x px) "extend" apos) [e] [] cpos) none pos.line X.env = pure false := by rfl) :
    PS X (.Expr (.Call (.Attribute (.Name x px) "extend" apos) [e] [] cpos) pos) (sM X.K W fr (sExt i m)) := cs_ext i h hN hv (pe_bm PySem.F.plainAttrs_list PySem.F.slot_list_extend PySem.F.type_list_extend mt_extend (pe_var hN hv hd hcd) (pa_cons h pa_nil he) rfl hfew hline he rfl) hs
end
end DM
end
section
set_option Elab.async false
set_option linter.all false
set_option maxRecDepth 100000
set_option maxHeartbeats 4000000
namespace DM
open PySem L2 PySem.Spec PyProof.Rows
theorem cx_false {P : Program} {w : World} {o : List Env} {H : Hp} {s : Shared} {e : Value} {s' : Shared} (h : L2.CX P w o H s (fun _ _ _ => False) e s') : False := by
  obtain ⟨_, _, _, _, _, _, _, _, _, _, _, _, z⟩ := h
  exact z
/-- the law's end; what is raised may hang on the world -/
theorem walk_ofW {l : PySem.W.OpenLaw} {n k : Nat} {q : Program} {loose : List Str} {XP : (Str → Option Value) → Heap → Prop} {YP : World → Heap → Prop} {d : DefRec} {CX : World → CXT} {x : Str}
    (hn : l.most = some n) (hn2 : n ≤ sizeLine) (hdf : d.params.defaults = []) (hr : RoomG k callerA)
    (F : ∀ (w : World) (mg : Str → Option Value) (fa : Addr) (h : Heap), YP w h → h.Ns mainGlobals mg → mg d.name = some (.ref fa) →
      ∃ (K : PySem.W.Frag) (fd : FuncData) (sp : Sp), K.In h ∧ (∀ (s : Shared) (u : Value), BindsTo s fd ⟨[u], []⟩ [(x, u)]) ∧
        (∀ (H : Hp) (a : Addr) (ns : List Int), ns.length ≤ n → SqL K H a (ns.map V.int) → sp [.ref a] H (fun v _ => v = .bl true) fun _ _ _ => False) ∧
        ∀ base : Heap, K.In base → base.Ns mainGlobals mg → FnG l.prog w K mg base (CX w) k fa fd [x] sp)
    (hCX : ∀ (w : World) (H : Hp) (s : Shared) (e : Value) (s' : Shared), CX w [] H s (fun _ _ _ => False) e s' → False) :
    PySem.W.WalkO q loose XP YP l.row.toRowW d [] (fun f vs => PySem.call f vs) := by
  refine Att.attach_call hn hdf fun w s₀ s₁ mg mb fa o pm cd doc a vs ns G Y ho hd hcd hmg hobj hints hlen hg => ?_
  obtain ⟨K, fd, sp, KX, hb, hsp, hF⟩ := F w mg fa _ Y G.T.g hmg
  exact law_runG KX G.T.g G.T.b G.T.builtins G.T.nolimit hg hobj hints (Nat.le_trans hlen hn2) hr hF hb (fun H hS => hsp H a ns hlen hS) fun H e s' => hCX w H s₁ e s'
end DM
end
section
set_option Elab.async false
set_option linter.all false
set_option maxRecDepth 100000
set_option maxHeartbeats 4000000
namespace DM
open PySem L2 Evl

/-! ### slots moved about -/
theorem Ok.reindex {K : PySem.W.Frag} {c : Cc} {H : Hp} {σ σ' : St} {ρ ρ' : MEnv} (h : Ok K c H σ ρ) (f : Nat → Nat) (hl : σ'.length = ρ'.length) (hf : ∀ i j, i < ρ'.length → j < ρ'.length → f i = f j → i = j)
    (hs : ∀ i s, ρ'[i]? = some s → ρ[f i]? = some s ∧ σ'[i]? = σ[f i]?) : Ok K c H σ' ρ' := by
  obtain ⟨h1, h2, h3, h4, o, r⟩ := h
  refine ⟨h1, h2, h3, h4, fun i => o (f i), hl, fun i d q => ?_, fun i d q => ?_, fun i j d e q1 q2 z => ?_⟩
  · obtain ⟨a, b⟩ := hs i _ q
    rw [b]
    exact r.sh (f i) d a
  · obtain ⟨a, b⟩ := hs i _ q
    rw [b]
    exact r.ow (f i) d a
  · exact hf i j (List.getElem?_eq_some_iff.mp q1).1 (List.getElem?_eq_some_iff.mp q2).1 (r.inj (f i) (f j) d e (hs i _ q1).1 (hs j _ q2).1 z)
theorem Ok.fst {K : PySem.W.Frag} {c : Cc} {H : Hp} {σ τ : St} {ρ θ : MEnv} (h : Ok K c H (σ ++ τ) (ρ ++ θ)) (hl : σ.length = ρ.length) : Ok K c H σ ρ :=
  h.reindex id hl (fun _ _ _ _ e => e) fun i s e => by
    have lt := (List.getElem?_eq_some_iff.mp e).1
    exact ⟨by show (ρ ++ θ)[i]? = _; rw [List.getElem?_append_left lt]; exact e, by show σ[i]? = (σ ++ τ)[i]?; rw [List.getElem?_append_left (by omega)]⟩
def mvF (n i k : Nat) : Nat := if k < n then (if k = i then n else k) else k + 1
/-- one value from behind into slot i -/
theorem Ok.mov {K : PySem.W.Frag} {c : Cc} {H : Hp} {σ τ : St} {ρ θ : MEnv} {v : Option V} {s : Sl} (i : Nat) (h : Ok K c H (σ ++ v :: τ) (ρ ++ s :: θ)) (hl : σ.length = ρ.length) : Ok K c H (σ.set i v ++ τ) (ρ.set i s ++ θ) := by
  have hl2 : (σ ++ v :: τ).length = (ρ ++ s :: θ).length := h.rel.elim fun _ r => r.len
  have lt : τ.length = θ.length := by simp at hl2; omega
  refine h.reindex (mvF ρ.length i) (by simp [hl, lt]) (fun a b ha hb e => ?_) fun k x e => ?_
  · unfold mvF at e
    split at e <;> split at e <;> (try split at e) <;> (try split at e) <;> omega
  · by_cases hk : k < ρ.length
    · rw [List.getElem?_append_left (by rw [List.length_set]; exact hk)] at e
      have e2 : (σ.set i v ++ τ)[k]? = (σ.set i v)[k]? := List.getElem?_append_left (by rw [List.length_set]; omega)
      rw [e2]
      by_cases ki : k = i
      · subst ki
        have fk : mvF ρ.length k k = ρ.length := by unfold mvF; rw [if_pos hk, if_pos rfl]
        rw [List.getElem?_set_self hk] at e
        rw [fk, List.getElem?_set_self (by omega), List.getElem?_append_right (Nat.le_refl _), Nat.sub_self, ← hl, List.getElem?_append_right (Nat.le_refl _), Nat.sub_self]
        exact ⟨e, rfl⟩
      · have fk : mvF ρ.length i k = k := by unfold mvF; rw [if_pos hk, if_neg ki]
        rw [List.getElem?_set_ne (fun z => ki z.symm)] at e
        rw [fk, List.getElem?_set_ne (fun z => ki z.symm), List.getElem?_append_left hk, List.getElem?_append_left (by omega)]
        exact ⟨e, rfl⟩
    · have fk : mvF ρ.length i k = k + 1 := by unfold mvF; rw [if_neg hk]
      rw [List.getElem?_append_right (by rw [List.length_set]; omega), List.length_set] at e
      have e2 : (σ.set i v ++ τ)[k]? = τ[k - σ.length]? := by rw [List.getElem?_append_right (by rw [List.length_set]; omega), List.length_set]
      rw [e2, fk, List.getElem?_append_right (by omega), List.getElem?_append_right (by omega), show k + 1 - ρ.length = (k - ρ.length) + 1 by omega, show k + 1 - σ.length = (k - σ.length) + 1 by omega, List.getElem?_cons_succ, List.getElem?_cons_succ]
      exact ⟨e, rfl⟩
def setSt : St → List Nat → List V → St
  | σ, j :: js, v :: vs => setSt (σ.set j (some v)) js vs
  | σ, _, _ => σ
def setFl : MEnv → List Nat → List Bool → List D → MEnv
  | ρ, j :: js, f :: fs, d :: ds => setFl (ρ.set j (sl f d)) js fs ds
  | ρ, _, _, _ => ρ
def slF : List Bool → List D → MEnv
  | f :: fs, d :: ds => sl f d :: slF fs ds
  | _, _ => []
theorem slF_len : ∀ {fs : List Bool} {ds : List D}, ds.length = fs.length → (slF fs ds).length = fs.length
  | [], [], _ => rfl
  | _ :: fs, _ :: ds, h => by
    show (slF fs ds).length + 1 = fs.length + 1
    rw [slF_len (by simpa using h)]
  | [], _ :: _, h => by cases h
  | _ :: _, [], h => by cases h
theorem Ok.movs {K : PySem.W.Frag} {c : Cc} {H : Hp} : ∀ {js : List Nat} {fs : List Bool} {ds : List D} {vs : List V} {σ : St} {ρ : MEnv}, Ok K c H (σ ++ vs.map some) (ρ ++ slF fs ds) → σ.length = ρ.length → fs.length = js.length → ds.length = js.length → vs.length = js.length → Ok K c H (setSt σ js vs) (setFl ρ js fs ds)
  | [], [], [], [], σ, ρ, h, hl, _, _, _ => h.fst hl
  | j :: js, f :: fs, d :: ds, v :: vs, σ, ρ, h, hl, e1, e2, e3 => by
    have := Ok.mov j (show Ok K c H (σ ++ some v :: vs.map some) (ρ ++ sl f d :: slF fs ds) from h) hl
    exact Ok.movs (js := js) (fs := fs) (ds := ds) (vs := vs) (σ := σ.set j (some v)) (ρ := ρ.set j (sl f d)) this (by rw [List.length_set, List.length_set]; exact hl) (by simpa using e1) (by simpa using e2) (by simpa using e3)
  | [], _ :: _, _, _, _, _, _, _, h, _, _ => by cases h
  | [], [], _ :: _, _, _, _, _, _, _, h, _ => by cases h
  | [], [], [], _ :: _, _, _, _, _, _, _, h => by cases h
  | _ :: _, [], _, _, _, _, _, _, h, _, _ => by cases h
  | _ :: _, _ :: _, [], _, _, _, _, _, _, h, _ => by cases h
  | _ :: _, _ :: _, _ :: _, [], _, _, _, _, _, _, h => by cases h

/-! ### arguments that may be new -/
def tAF (K : PySem.W.Frag) (W : WX) (fs : List Bool) (m : MA) : TA := fun σ H Q => ∃ c ρ τ θ k ex, Ok K c H (σ ++ τ) (ρ ++ θ) ∧ σ.length = ρ.length ∧ m ρ k ex ∧
  (∀ ds vs H' P', k ds → ds.length = fs.length → vs.length = fs.length → Grow c.b H H' → Ok K ⟨c.b, c.P0, P', c.T⟩ H' (σ ++ (τ ++ vs.map some)) (ρ ++ (θ ++ slF fs ds)) → (∀ a ∈ P', a ∈ c.P ∨ H a = none) → Q vs H') ∧ (∀ x cls dd H', ex x → Grow c.b H H' → ExR K c.b (era c.P H') cls dd x → W cls dd σ H')
theorem ExR.sub {K : PySem.W.Frag} {b : Bg} {P P' : List Addr} {H : Hp} {cls : Value} {dd : Option Addr} {x : Exn} (h : ∀ a ∈ P', a ∈ P) (z : ExR K b (era P H) cls dd x) : ExR K b (era P' H) cls dd x :=
  ⟨z.1, z.2.elim .inl fun ⟨nn, q, fs, a1, a2, a3⟩ => .inr ⟨nn, q, fs, a1, era_sub h _ _ a2, RpF.mono (era_sub h) _ _ a3⟩⟩
/-- a value put behind the slots -/
theorem Ok.app {K : PySem.W.Frag} {c : Cc} {H : Hp} {σ : St} {ρ : MEnv} {d : D} {v : V} (h : Ok K c H σ ρ) (r : Rp K c.b (era c.P H) d v) : Ok K c H (σ ++ [some v]) (ρ ++ [.sh d]) := by
  obtain ⟨h1, h2, h3, h4, o, q⟩ := h
  have hl := q.len
  refine ⟨h1, h2, h3, h4, o, by simp [hl], fun i e z => ?_, fun i e z => ?_, fun i j e e' z1 z2 w => ?_⟩
  · by_cases hi : i < ρ.length
    · rw [List.getElem?_append_left hi] at z
      rw [List.getElem?_append_left (by omega)]
      exact q.sh i e z
    · rw [List.getElem?_append_right (by omega)] at z
      have : i - ρ.length = 0 := by
        have := (List.getElem?_eq_some_iff.mp z).1
        simpa using this
      rw [this] at z
      cases z
      rw [List.getElem?_append_right (by omega), show i - σ.length = 0 by omega]
      exact ⟨v, rfl, r⟩
  · by_cases hi : i < ρ.length
    · rw [List.getElem?_append_left hi] at z
      rw [List.getElem?_append_left (by omega)]
      exact q.ow i e z
    · rw [List.getElem?_append_right (by omega)] at z
      have : i - ρ.length = 0 := by
        have := (List.getElem?_eq_some_iff.mp z).1
        simpa using this
      rw [this] at z
      cases z
  · have low : ∀ (i : Nat) (e : D), (ρ ++ [Sl.sh d])[i]? = some (Sl.ow e) → ρ[i]? = some (Sl.ow e) := fun i e z => by
      by_cases hi : i < ρ.length
      · rw [List.getElem?_append_left hi] at z; exact z
      · rw [List.getElem?_append_right (by omega)] at z
        have : i - ρ.length = 0 := by
          have := (List.getElem?_eq_some_iff.mp z).1
          simpa using this
        rw [this] at z
        cases z
    exact q.inj i j e e' (low i e z1) (low j e' z2) w
/-- a new one put behind -/
theorem Ok.appN {K : PySem.W.Frag} {c : Cc} {H H' : Hp} {σ : St} {ρ : MEnv} {d : D} {p : Addr} (h : Ok K c H σ ρ) (g : Grow c.b H H') (hp : H p = none) (r : OwnC K c.b (p :: c.P) H' p d) : Ok K ⟨c.b, c.P0, p :: c.P, c.T⟩ H' (σ ++ [some (.ref p)]) (ρ ++ [.ow d]) := by
  have hl : σ.length = ρ.length := h.rel.elim fun _ q => q.len
  have a1 : Ok K c H (σ ++ [some .non]) (ρ ++ [.sh .non]) := h.app (rp_non.mpr rfl)
  have := a1.put (i := ρ.length) g hp r
  rw [List.set_append_right _ _ (by omega), List.set_append_right _ _ (by omega), show ρ.length - σ.length = 0 by omega, Nat.sub_self] at this
  exact this
section
variable {X : Cx} {W : WX} {fr f : Bool} {e : Expr} {es : List Expr} {pos : Pos} {m : MX} {mr : MA} {fs : List Bool}
theorem caf_nil : PA X [] (tAF X.K W [] aNil) := pa_nil.imp fun σ H Q ⟨c, ρ, τ, θ, k, ex, ok, hl, hm, hk, hx⟩ => hk [] [] H c.P hm rfl rfl ok.refl (by simpa [slF] using ok) fun a ha => .inl ha
theorem caf_cons (ha : PE X e (tM X.K W f m)) (hr : PA X es (tAF X.K W fs mr)) (hs : starEach (e :: es) X.env = (false, eval e X.env) :: starEach es X.env := by rfl) : PA X (e :: es) (tAF X.K W (f :: fs) (aCons m mr)) :=
  (pa_cons ha hr hs).imp fun σ H Q ⟨c, ρ, τ, θ, k, ex, ok, hl, hm, hk, hx⟩ => ⟨c, ρ, _, ex, ok.fst hl, hm, fun d1 v1 H1 k1 g1 r1 => by
    rcases r1.cases with ⟨p, rfl, h1, h2, es⟩ | ⟨q1, es⟩
    · have ok1 := ok.appN g1 h1 h2
      rw [List.append_assoc, List.append_assoc] at ok1
      refine ⟨⟨c.b, c.P0, p :: c.P, c.T⟩, ρ, τ ++ [some (.ref p)], θ ++ [.ow d1], _, ex, ok1, hl, k1, fun ds vs H2 P' k2 l2 lv g2 ok2 hn => hk (d1 :: ds) (.ref p :: vs) H2 P' k2 (by simp [l2]) (by simp [lv]) (g1.trans g2) ?_ (fun a ha => ?_), fun x cls dd H' e g z => hx x cls dd H' e (g1.trans g) (z.sub fun a ha => List.mem_cons_of_mem _ ha)⟩
      · rw [List.append_assoc, List.append_assoc] at ok2
        rw [show slF (f :: fs) (d1 :: ds) = sl f d1 :: slF fs ds from rfl, es]
        exact ok2
      · rcases hn a ha with z | z
        · rcases List.mem_cons.mp z with z | z
          · exact .inr (by rw [z]; exact h1)
          · exact .inl z
        · exact .inr (g1.none z)
    · have ok1 := (ok.grow g1).app q1
      rw [List.append_assoc, List.append_assoc] at ok1
      refine ⟨c, ρ, τ ++ [some v1], θ ++ [.sh d1], _, ex, ok1, hl, k1, fun ds vs H2 P' k2 l2 lv g2 ok2 hn => hk (d1 :: ds) (v1 :: vs) H2 P' k2 (by simp [l2]) (by simp [lv]) (g1.trans g2) ?_ (fun a ha => (hn a ha).imp id fun z => g1.none z), fun x cls dd H' e g z => hx x cls dd H' e (g1.trans g) z⟩
      rw [List.append_assoc, List.append_assoc] at ok2
      rw [show slF (f :: fs) (d1 :: ds) = sl f d1 :: slF fs ds from rfl, es]
      exact ok2, hx⟩
/-- a, b, .. = e1, e2, .. -/
def sParN (js : List Nat) (fs : List Bool) (a : MA) : MS := fun M ρ => a ρ (fun ds => M.nx (setFl ρ js fs ds)) (M.ex ρ)
theorem StOk.lens {K : PySem.W.Frag} {g : Gd} {P : List Addr} {H : Hp} {σ : St} {ρ : MEnv} (s : StOk K g P H σ ρ) : σ.length = ρ.length := s.ok.rel.elim fun _ r => r.len
theorem useAF {K : PySem.W.Frag} {g : Gd} {P : List Addr} {H : Hp} {σ : St} {ρ : MEnv} {M : MD} {De : Ends} {js : List Nat} {a : MA} {Q : List V → Hp → Prop} (s : StOk K g P H σ ρ) (l : Lk K W fr g M De) (hm : sParN js fs a M ρ) (hj : fs.length = js.length)
    (hk : ∀ vs H' P' ρ', vs.length = js.length → Grow g.b H H' → StOk K g P' H' (setSt σ js vs) ρ' → M.nx ρ' → Q vs H') : tAF K W fs a σ H Q := by
  refine ⟨⟨g.b, g.P0, P, g.T⟩, ρ, [], [], _, M.ex ρ, by simpa using s.ok, s.lens, hm, fun ds vs H' P' kd l2 lv gr ok2 hn => ?_, fun x cls dd H' e gr z => l.ex P σ H' ρ x cls dd (s.go gr) e z⟩
  rw [List.nil_append, List.nil_append] at ok2
  have := ok2.movs (js := js) s.lens hj (by omega) (by omega)
  refine hk vs H' P' _ (by omega) gr ⟨s.grow.trans gr, this, fun a ha => ?_⟩ kd
  rcases hn a ha with z | z
  · exact s.new a z
  · exact .inr (s.grow.none z)
theorem cs_parN2 {i j : Nat} {x y : Str} {a b : Expr} {px py pt : Pos} {kt k2 pt2} {f f' : Bool} {mr : MA} (hN : X.N.Nodup) (ha : PA X [a, b] (tAF X.K W [f, f'] mr)) (hc : X.calm = true := by rfl) (hi : X.N[i]? = some x := by rfl) (hj : X.N[j]? = some y := by rfl) (hij : i ≠ j := by decide)
    (hx : X.env.scope.names.lookup x = some .local := by rfl) (hy : X.env.scope.names.lookup y = some .local := by rfl)
    (hw : swappedStores [.Tuple [.Name x px, .Name y py] kt pt] (.Tuple [a, b] k2 pt2) X.env = pure (some [x, y]) := by rfl)
    (hs : swapsWithSole [.Tuple [.Name x px, .Name y py] kt pt] (.Tuple [a, b] k2 pt2) pos.line X.env = pure false := by rfl) :
    PS X (.Assign [.Tuple [.Name x px, .Name y py] kt pt] (.Tuple [a, b] k2 pt2) pos) (sM X.K W fr (sParN [i, j] [f, f'] mr)) := (ps_par hc hN hi hj hij hx hy ha hw hs).imp fun De σ H ⟨g, P, ρ, M, s, hm, l⟩ =>
  useAF s l hm rfl fun vs H' P' ρ' lv gr st nx => by
    match vs, lv, st with
    | [v, w], _, st => exact ⟨v, w, rfl, l.nx P' _ H' ρ' st nx⟩
theorem cs_parN3 {i j q : Nat} {x y z : Str} {a b c : Expr} {px py pz pt : Pos} {kt k2 pt2} {f f' f'' : Bool} {mr : MA} (hN : X.N.Nodup) (ha : PA X [a, b, c] (tAF X.K W [f, f', f''] mr)) (hc : X.calm = true := by rfl) (hi : X.N[i]? = some x := by rfl) (hj : X.N[j]? = some y := by rfl) (hq : X.N[q]? = some z := by rfl) (hij : i ≠ j := by decide) (hiq : i ≠ q := by decide) (hjq : j ≠ q := by decide)
    (hx : X.env.scope.names.lookup x = some .local := by rfl) (hy : X.env.scope.names.lookup y = some .local := by rfl) (hz : X.env.scope.names.lookup z = some .local := by rfl)
    (hw : swappedStores [.Tuple [.Name x px, .Name y py, .Name z pz] kt pt] (.Tuple [a, b, c] k2 pt2) X.env = pure (some [x, y, z]) := by rfl)
    (hs : swapsWithSole [.Tuple [.Name x px, .Name y py, .Name z pz] kt pt] (.Tuple [a, b, c] k2 pt2) pos.line X.env = pure false := by rfl) :
    PS X (.Assign [.Tuple [.Name x px, .Name y py, .Name z pz] kt pt] (.Tuple [a, b, c] k2 pt2) pos) (sM X.K W fr (sParN [i, j, q] [f, f', f''] mr)) := (ps_par3 hc hN hi hj hq hij hiq hjq hx hy hz ha hw hs).imp fun De σ H ⟨g, P, ρ, M, s, hm, l⟩ =>
  useAF s l hm rfl fun vs H' P' ρ' lv gr st nx => by
    match vs, lv, st with
    | [v, w, u], _, st => exact ⟨v, w, u, rfl, l.nx P' _ H' ρ' st nx⟩
/-- the same by a tuple: four and more, or names that are cells -/
theorem gNs_set : ∀ {js : List Nat} {vs : List V} {σ : St} {H : Hp} {Q : St → Hp → Prop}, vs.length = js.length → Q (setSt σ js vs) H → gNs js vs σ H Q
  | [], [], σ, H, Q, _, h => ⟨rfl, h⟩
  | j :: js, v :: vs, σ, H, Q, l, h => ⟨v, vs, rfl, gNs_set (by simpa using l) h⟩
  | [], _ :: _, _, _, _, h, _ => by cases h
  | _ :: _, [], _, _, _, h, _ => by cases h
theorem cs_parT {js : List Nat} {tgs : List Expr} {vals : List Expr} {pt : Pos} {kt k2 pt2} {mr : MA} {n : Nat} (ha : PA X vals (tAF X.K W fs mr)) (hg : PGs X tgs (gNs js)) (hj : fs.length = js.length := by rfl) (hn : (assignEach tgs X.env).length = n := by rfl) (hjn : js.length = n := by rfl) (hc : X.calm = true := by rfl) (hst : (assignEach tgs X.env).findIdx? (·.1) = none := by rfl) (h30 : js.length ≤ 30 := by decide)
    (hs : swapsWithSole [.Tuple tgs kt pt] (.Tuple vals k2 pt2) pos.line X.env = pure false := by rfl) (hw : swappedStores [.Tuple tgs kt pt] (.Tuple vals k2 pt2) X.env = pure none := by rfl) (h1 : (assignEach [.Tuple tgs kt pt] X.env).map (·.2) = [assign (.Tuple tgs kt pt) X.env] := by rfl) :
    PS X (.Assign [.Tuple tgs kt pt] (.Tuple vals k2 pt2) pos) (sM X.K W fr (sParN js fs mr)) := (ps_asg (pe_tup ha) (pg_tup hc hg hn hst) hs hw h1).imp fun De σ H ⟨g, P, ρ, M, s, hm, l⟩ =>
  useAF s l hm hj fun vs H' P' ρ' lv gr st nx => ⟨by rw [lv]; exact LN_size (Nat.le_trans h30 (by decide)), fun tp htp => ⟨tp, vs, rfl, .inl (.inl upd_same), by rw [lv, hjn], gNs_set lv (l.nx P' _ _ ρ' (st.go (Grow.new st.good htp)) nx)⟩⟩
end
end DM
end
section
set_option Elab.async false
set_option linter.all false
set_option maxRecDepth 100000
set_option maxHeartbeats 4000000
namespace DM
open PySem L2 Evl
/-! ### slots ahead of some more -/
section
variable {K : PySem.W.Frag} {c : Cc} {H H1 H' : Hp} {σ τ : St} {ρ θ : MEnv}
theorem Ok.setx {d : D} {v : V} {i : Nat} (h : Ok K c H (σ ++ τ) (ρ ++ θ)) (hl : σ.length = ρ.length) (r : Rp K c.b (era c.P H) d v) : Ok K c H (σ.set i (some v) ++ τ) (ρ.set i (.sh d) ++ θ) := by
  by_cases hi : i < ρ.length
  · have := h.set (i := i) r
    rw [List.set_append_left _ _ (by omega), List.set_append_left _ _ (by omega)] at this
    exact this
  · rw [List.set_eq_of_length_le (by omega), List.set_eq_of_length_le (by omega)]
    exact h
theorem Ok.voidx {i : Nat} (h : Ok K c H (σ ++ τ) (ρ ++ θ)) (hl : σ.length = ρ.length) : Ok K c H (σ.set i none ++ τ) (ρ.set i .no ++ θ) := by
  by_cases hi : i < ρ.length
  · have := h.void (i := i)
    rw [List.set_append_left _ _ (by omega), List.set_append_left _ _ (by omega)] at this
    exact this
  · rw [List.set_eq_of_length_le (by omega), List.set_eq_of_length_le (by omega)]
    exact h
theorem wipe_len : ∀ (vs : List Nat) {σ : St}, (L2.wipe σ vs).length = σ.length
  | [], σ => rfl
  | v :: vs, σ => by
    show ((L2.wipe σ vs).set v none).length = _
    rw [List.length_set, wipe_len vs]
theorem wipeM_len : ∀ (vs : List Nat) {ρ : MEnv}, (wipeM ρ vs).length = ρ.length
  | [], ρ => rfl
  | v :: vs, ρ => by
    show ((wipeM ρ vs).set v .no).length = _
    rw [List.length_set, wipeM_len vs]
theorem Ok.wipex (hl : σ.length = ρ.length) (h : Ok K c H (σ ++ τ) (ρ ++ θ)) : ∀ vs : List Nat, Ok K c H (L2.wipe σ vs ++ τ) (wipeM ρ vs ++ θ)
  | [] => h
  | v :: vs => (Ok.wipex hl h vs).voidx (by rw [wipe_len, wipeM_len]; exact hl)
theorem setAll_len : ∀ {js : List Nat} {ds : List D} {ρ : MEnv}, (setAll ρ js ds).length = ρ.length
  | [], _, ρ => by cases ‹List D› <;> rfl
  | _ :: _, [], ρ => rfl
  | j :: js, d :: ds, ρ => by
    show (setAll (ρ.set j (.sh d)) js ds).length = _
    rw [setAll_len, List.length_set]
theorem gNs_wipex {vs : List Nat} : ∀ {js : List Nat} {ds : List D} {xs : List V} {σ : St} {ρ : MEnv} {Q : St → Hp → Prop}, Ok K c H (σ ++ τ) (ρ ++ θ) → σ.length = ρ.length → RpL K c.b (era c.P H) ds xs → ds.length = js.length → (∀ j ∈ js, j ∈ vs) →
    (∀ σ', σ'.length = σ.length → L2.wipe σ' vs = L2.wipe σ vs → Ok K c H (σ' ++ τ) (setAll ρ js ds ++ θ) → Q σ' H) → gNs js xs σ H Q
  | [], [], xs, σ, ρ, Q, ok, _, r, _, _, h => ⟨rpl_nil.mp r, h σ rfl rfl ok⟩
  | [], _ :: _, xs, σ, ρ, Q, ok, _, r, l, _, h => by cases l
  | _ :: _, [], xs, σ, ρ, Q, ok, _, r, l, _, h => by cases l
  | j :: js, d :: ds, xs, σ, ρ, Q, ok, hl, r, l, hv, h => by
    obtain ⟨x, q, rfl, h1, h2⟩ := rpl_cons.mp r
    exact ⟨x, q, rfl, gNs_wipex (ok.setx hl h1) (by rw [List.length_set, List.length_set]; exact hl) h2 (by simpa using l) (fun i hi => hv i (List.mem_cons_of_mem _ hi)) fun σ' e1 e ok' => h σ' (by rw [e1, List.length_set]) (e.trans (wipe_set (hv j List.mem_cons_self))) ok'⟩
theorem Tg.okx {vs : List Nat} {d : D} {v : V} {k : MEnv → Prop} {Q : St → Hp → Prop} (tg : Tg) (ok : Ok K c H (σ ++ τ) (ρ ++ θ)) (hl : σ.length = ρ.length) (r : Rp K c.b (era c.P H) d v) (hv : ∀ j ∈ tg.slots, j ∈ vs) (hm : tg.m d ρ k)
    (h : ∀ σ' ρ', σ'.length = ρ'.length → L2.wipe σ' vs = L2.wipe σ vs → k ρ' → Ok K c H (σ' ++ τ) (ρ' ++ θ) → Q σ' H) : tg.g K v σ H Q := by
  cases tg with
  | nm j => exact h _ _ (by rw [List.length_set, List.length_set]; exact hl) (wipe_set (hv j List.mem_cons_self)) hm (ok.setx hl r)
  | tp js =>
    cases d with
    | tup ds =>
      obtain ⟨a, xs, rfl, h1, _, h2⟩ := rp_tupS r
      exact ⟨a, xs, rfl, sqt_up h1, by rw [h2.len, hm.1], gNs_wipex ok hl h2 hm.1 hv fun σ' e1 e ok' => h σ' _ (by rw [e1, setAll_len]; exact hl) e hm.2 ok'⟩
    | _ => exact hm.elim
theorem Ok.tmpx (h : Ok K c H σ ρ) {T : List Keep} (hT : ∀ q ∈ T, q.p c.b (era c.P H)) : Ok K ⟨c.b, c.P0, c.P, T ++ c.T⟩ H σ ρ := h.tmps hT
/-- one more at the end of the list that is made -/
theorem Ok.push {Dd : Addr} {acc : List D} {y : D} {v : V} (h : Ok K c H (σ ++ [some (.ref Dd)]) (ρ ++ [.ow (.lst acc)])) (hl : σ.length = ρ.length) (r : Rp K c.b (era c.P H) y v) (hn : acc.length < LN) :
    ∃ accV, H Dd = some (.lst accV) ∧ accV.length = acc.length ∧ Ok K c (upd H Dd (.lst (accV ++ [v]))) (σ ++ [some (.ref Dd)]) (ρ ++ [.ow (.lst (acc ++ [y]))]) := by
  have hat : (ρ ++ [Sl.ow (.lst acc)])[ρ.length]? = some (.ow (.lst acc)) := by rw [List.getElem?_append_right (Nat.le_refl _), Nat.sub_self] <;> rfl
  have hσ : (σ ++ [some (V.ref Dd)])[ρ.length]? = some (some (.ref Dd)) := by rw [List.getElem?_append_right (by omega), show ρ.length - σ.length = 0 by omega] <;> rfl
  obtain ⟨o, q⟩ := h.rel
  obtain ⟨w1, w2, w3, ⟨accV, a1, a2, a3⟩⟩ := q.ow _ _ hat
  have e : o ρ.length = Dd := by rw [hσ] at w1; injection w1 with w1; injection w1 with w1; injection w1 with w1; exact w1.symm
  rw [e] at a1 w2
  refine ⟨accV, a1, a3.len, ?_⟩
  have := h.wr (d' := .lst (acc ++ [y])) hat hσ (o' := .lst (accV ++ [v])) ⟨accV ++ [v], upd_same, by rw [List.length_append, List.length_singleton]; omega, by rw [era_upd w2]; exact a3.append (RpL.one r)⟩
  rw [List.set_append_right _ _ (Nat.le_refl _), Nat.sub_self] at this
  exact this
theorem Grow.push {b : Bg} {P : List Addr} {Dd : Addr} {o : HO} (g0 : GoodP b P H1) (g : Grow b H1 H) (hD : H1 Dd = Option.none) : Grow b H1 (upd H Dd o) :=
  ⟨fun a u hb e => by rw [upd_ne (ne_of_none e hD)]; exact g.keep a u hb e, fun q hq => by
    obtain ⟨ne, x0, x1, x2, ns, b1, b2, b3⟩ := g.bag q hq
    have n1 : q.1 ≠ Dd := fun z => g0.al Dd (by rw [← z]; exact (g0.bag q hq).1) hD
    have n2 : q.2 ≠ Dd := fun z => g0.al Dd (by rw [← z]; exact (g0.bag q hq).2.1) hD
    exact ⟨ne, x0, x1, x2, ns, by rw [upd_ne n1]; exact b1, by rw [upd_ne n2]; exact b2, b3⟩⟩
theorem Ok.own_last {Dd : Addr} {d : D} (h : Ok K c H (σ ++ [some (.ref Dd)]) (ρ ++ [.ow d])) (hl : σ.length = ρ.length) : OwnC K c.b c.P H Dd d := by
  have hat : (ρ ++ [Sl.ow d])[ρ.length]? = some (.ow d) := by rw [List.getElem?_append_right (Nat.le_refl _), Nat.sub_self] <;> rfl
  have hσ : (σ ++ [some (V.ref Dd)])[ρ.length]? = some (some (.ref Dd)) := by rw [List.getElem?_append_right (by omega), show ρ.length - σ.length = 0 by omega] <;> rfl
  obtain ⟨o, q⟩ := h.rel
  obtain ⟨w1, _, _, w4⟩ := q.ow _ _ hat
  have e : o ρ.length = Dd := by rw [hσ] at w1; injection w1 with w1; injection w1 with w1; injection w1 with w1; exact w1.symm
  rw [e] at w4
  exact w4
end
/-! ### [.. for .. for ..] -/
def lcIn (tg : Tg) (mt : MT) (me : MX) (ρ : MEnv) (k : List D → Prop) : List D → List D → Prop
  | [], acc => k acc
  | d :: ds, acc => tg.m d ρ fun ρ' => mt ρ' (fun c => if c = true then me ρ' (fun y => acc.length < LN ∧ lcIn tg mt me ρ k ds (acc ++ [y])) no1 else lcIn tg mt me ρ k ds acc) no1
def lc2Go (tg : Tg) (mt : MT) (vs1 : List Nat) (mi1 : MA) (tg1 : Tg) (mt1 : MT) (me : MX) (ρ : MEnv) (k : D → Prop) : List D → List D → Prop
  | [], acc => k (.lst acc)
  | d :: ds, acc => tg.m d ρ fun ρ' => mt ρ' (fun c => if c = true then mi1 ρ' (fun es => lcIn tg1 mt1 me (wipeM ρ' vs1) (fun acc' => lc2Go tg mt vs1 mi1 tg1 mt1 me ρ k ds acc') es acc) no1 else lc2Go tg mt vs1 mi1 tg1 mt1 me ρ k ds acc) no1
def xLc2 (vs : List Nat) (tg : Tg) (mi : MA) (mt : MT) (vs1 : List Nat) (mi1 : MA) (tg1 : Tg) (mt1 : MT) (me : MX) : MX := fun ρ k ex => mi ρ (fun ds => lc2Go tg mt vs1 mi1 tg1 mt1 me (wipeM ρ vs) k ds []) ex
theorem lc2_turns {K : PySem.W.Frag} {vs vs1 : List Nat} {tg tg1 : Tg} {mt mt1 : MT} {mi1 : MA} {me : MX} (hv : ∀ j ∈ tg.slots, j ∈ vs) (hv1 : ∀ j ∈ tg1.slots, j ∈ vs1) {c : Cc} {ρ : MEnv} {σ : St} {H1 : Hp} {k : D → Prop} {Q : VK} {J : It} {T : List Keep} {ds : List D} (ok : Ok K c H1 σ ρ) (kd : lc2Go tg mt vs1 mi1 tg1 mt1 me (wipeM ρ vs) k ds [])
    (hT : ∀ q ∈ T, q.p c.b (era c.P H1)) (feeds : Feeds K J T ds) (hk : ∀ d v H', k d → Grow c.b H1 H' → Res K true c.b c.P H1 H' v d → Q v H') : tLc2 (fun _ _ R => R J H1) (tg.g K) (tT K W0 mt) (iM K W0 mi1) (tg1.g K) (tT K W0 mt1) (tM K W0 false me) vs vs1 σ H1 Q := by
  intro Dd hD
  have g0 := ok.good
  have hl0 : σ.length = ρ.length := ok.rel.elim fun _ r => r.len
  have gD : Grow c.b H1 (upd H1 Dd (.lst [])) := Grow.new g0 hD
  have okT : Ok K ⟨c.b, c.P0, Dd :: c.P, T ++ c.T⟩ (upd H1 Dd (.lst [])) (L2.wipe σ vs ++ [some (.ref Dd)]) (wipeM ρ vs ++ [.ow (.lst [])]) :=
    Ok.wipex hl0 ((ok.tmps hT).appN (d := .lst []) gD hD ⟨[], upd_same, Nat.zero_le _, rpl_nil.mpr rfl⟩) vs
  have hlw : (L2.wipe σ vs).length = (wipeM ρ vs).length := by rw [wipe_len, wipeM_len]; exact hl0
  refine ⟨fun i mm H' => mm = ds.length - i ∧ i ≤ ds.length ∧ Grow c.b H1 H' ∧ ∃ acc, Ok K ⟨c.b, c.P0, Dd :: c.P, T ++ c.T⟩ H' (L2.wipe σ vs ++ [some (.ref Dd)]) (wipeM ρ vs ++ [.ow (.lst acc)]) ∧ lc2Go tg mt vs1 mi1 tg1 mt1 me (wipeM ρ vs) k (ds.drop i) acc,
    ⟨ds.length, rfl, Nat.zero_le _, gD, [], okT, kd⟩, ?_⟩
  rintro i mm H' ⟨rfl, hi, g2, acc, ok2, hq⟩
  obtain ⟨f1, f2⟩ := feeds c.b (Dd :: c.P) H' ok2.good (fun q hq => ok2.tmp q (List.mem_append_left _ hq))
  by_cases hlt : i < ds.length
  · rw [List.drop_eq_getElem_cons hlt] at hq
    obtain ⟨go, yl⟩ := f1 i ds[i] (List.getElem?_eq_getElem hlt)
    refine .inr ⟨go, fun H3 => Grow c.b H1 H3 ∧ ∃ acc, Ok K ⟨c.b, c.P0, Dd :: c.P, T ++ c.T⟩ H3 (L2.wipe σ vs ++ [some (.ref Dd)]) (wipeM ρ vs ++ [.ow (.lst acc)]) ∧ lc2Go tg mt vs1 mi1 tg1 mt1 me (wipeM ρ vs) k (ds.drop (i + 1)) acc,
      fun H3 ⟨a1, a2⟩ => ⟨ds.length - (i + 1), by omega, rfl, hlt, a1, a2⟩, fun x H2 hy => ?_⟩
    obtain ⟨gy, ry⟩ := yl x H2 hy
    refine Tg.okx tg (ok2.grow gy) hlw ry hv hq fun σ2 ρ2 hl2 ew hq2 ok3 => ⟨ew.trans wipe_wipe, ?_⟩
    refine ⟨_, ρ2, _, no1, ok3.fst hl2, hq2, fun b H3 kb g3 => ?_, fun _ _ _ _ z => z.elim⟩
    have okb := (ok2.grow gy).grow g3
    have ok3b := ok3.grow g3
    cases b with
    | false => exact ⟨(g2.trans gy).trans g3, acc, okb, kb⟩
    | true =>
      refine ⟨_, ρ2, _, no1, ok3b.fst hl2, kb, fun es J1 T1 H4 ke g4 hT1 feeds1 => ?_, fun _ _ _ _ z => z.elim⟩
      have okc := okb.grow g4
      have hlw1 : (L2.wipe σ2 vs1).length = (wipeM ρ2 vs1).length := by rw [wipe_len, wipeM_len]; exact hl2
      have ok4 : Ok K ⟨c.b, c.P0, Dd :: c.P, T1 ++ (T ++ c.T)⟩ H4 (L2.wipe σ2 vs1 ++ [some (.ref Dd)]) (wipeM ρ2 vs1 ++ [.ow (.lst acc)]) := Ok.wipex hl2 ((ok3b.grow g4).tmps hT1) vs1
      have gg4 := ((g2.trans gy).trans g3).trans g4
      refine ⟨fun j kk H => kk = es.length - j ∧ j ≤ es.length ∧ Grow c.b H1 H ∧ ∃ acc, Ok K ⟨c.b, c.P0, Dd :: c.P, T ++ c.T⟩ H (L2.wipe σ vs ++ [some (.ref Dd)]) (wipeM ρ vs ++ [.ow (.lst acc)]) ∧ Ok K ⟨c.b, c.P0, Dd :: c.P, T1 ++ (T ++ c.T)⟩ H (L2.wipe σ2 vs1 ++ [some (.ref Dd)]) (wipeM ρ2 vs1 ++ [.ow (.lst acc)]) ∧
        lcIn tg1 mt1 me (wipeM ρ2 vs1) (fun acc' => lc2Go tg mt vs1 mi1 tg1 mt1 me (wipeM ρ vs) k (ds.drop (i + 1)) acc') (es.drop j) acc, ⟨es.length, rfl, Nat.zero_le _, gg4, acc, okc, ok4, ke⟩, ?_⟩
      rintro j kk H5 ⟨rfl, hj, g5, acc5, oka, okb5, hq5⟩
      obtain ⟨e1, e2⟩ := feeds1 c.b (Dd :: c.P) H5 okb5.good (fun q hq => okb5.tmp q (List.mem_append_left _ hq))
      by_cases hlj : j < es.length
      · rw [List.drop_eq_getElem_cons hlj] at hq5
        obtain ⟨go1, yl1⟩ := e1 j es[j] (List.getElem?_eq_getElem hlj)
        refine .inr ⟨go1, fun H6 => Grow c.b H1 H6 ∧ ∃ acc, Ok K ⟨c.b, c.P0, Dd :: c.P, T ++ c.T⟩ H6 (L2.wipe σ vs ++ [some (.ref Dd)]) (wipeM ρ vs ++ [.ow (.lst acc)]) ∧ Ok K ⟨c.b, c.P0, Dd :: c.P, T1 ++ (T ++ c.T)⟩ H6 (L2.wipe σ2 vs1 ++ [some (.ref Dd)]) (wipeM ρ2 vs1 ++ [.ow (.lst acc)]) ∧
          lcIn tg1 mt1 me (wipeM ρ2 vs1) (fun acc' => lc2Go tg mt vs1 mi1 tg1 mt1 me (wipeM ρ vs) k (ds.drop (i + 1)) acc') (es.drop (j + 1)) acc, fun H6 ⟨a1, a2⟩ => ⟨es.length - (j + 1), by omega, rfl, hlj, a1, a2⟩, fun x1 H6 hy1 => ?_⟩
        obtain ⟨gy1, ry1⟩ := yl1 x1 H6 hy1
        refine Tg.okx tg1 (okb5.grow gy1) hlw1 ry1 hv1 hq5 fun σ3 ρ3 hl3 ew1 hq6 ok6 => ⟨ew1.trans wipe_wipe, ?_⟩
        refine ⟨_, ρ3, _, no1, ok6.fst hl3, hq6, fun b1 H7 kb1 g7 => ?_, fun _ _ _ _ z => z.elim⟩
        have oka7 := (oka.grow gy1).grow g7
        have okb7 := (okb5.grow gy1).grow g7
        have g57 := (g5.trans gy1).trans g7
        cases b1 with
        | false => exact ⟨g57, acc5, oka7, okb7, kb1⟩
        | true =>
          refine ⟨_, ρ3, _, no1, (ok6.grow g7).fst hl3, kb1, fun y v H8 ky g8 r8 => ?_, fun _ _ _ _ z => z.elim⟩
          obtain ⟨accV, a1, a2, a3⟩ := (oka7.grow g8).push hlw r8.sh ky.1
          obtain ⟨accV', a1', a2', a3'⟩ := (okb7.grow g8).push hlw1 r8.sh ky.1
          have ee : accV' = accV := by rw [a1] at a1'; injection a1' with z; injection z with z; exact z.symm
          subst ee
          exact ⟨accV', a1, by rw [a2]; exact LN_lt ky.1, Grow.push g0 (g57.trans g8) hD, acc5 ++ [y], a3, a3', ky.2⟩
      · have e : j = es.length := by omega
        subst e
        rw [List.drop_length] at hq5
        exact .inl ⟨e2, g5, acc5, oka, hq5⟩
  · have e : i = ds.length := by omega
    subst e
    rw [List.drop_length] at hq
    refine .inl ⟨f2, hk _ _ H' hq g2 ?_⟩
    exact (.inl ⟨Dd, rfl, hD, ok2.own_last hlw⟩)
theorem lc2_imp {K : PySem.W.Frag} {W : WX} {vs vs1 : List Nat} {tg tg1 : Tg} {mi mi1 : MA} {mt mt1 : MT} {me : MX} (hv : ∀ j ∈ tg.slots, j ∈ vs) (hv1 : ∀ j ∈ tg1.slots, j ∈ vs1) : ∀ σ H Q, tM K W true (xLc2 vs tg mi mt vs1 mi1 tg1 mt1 me) σ H Q → tLc2 (iM K W mi) (tg.g K) (tT K W0 mt) (iM K W0 mi1) (tg1.g K) (tT K W0 mt1) (tM K W0 false me) vs vs1 σ H Q := fun σ H Q ⟨c, ρ, k, ex, ok, hm, hk, hx⟩ =>
  ⟨c, ρ, _, ex, ok, hm, fun ds J T H1 kd g hT feeds => lc2_turns hv hv1 (ok.grow g) kd hT feeds fun d v H' kk gr r => hk d v H' kk (g.trans gr) (r.back g), hx⟩
section
variable {X : Cx} {W : WX} {fr : Bool} {elt tg iter tg1 iter1 : Expr} {ifs ifs1 : List Expr} {scope : Scope} {own : List (Str × Nat)} {pos : Pos} {mi mi1 : MA} {mt mt1 : MT} {me : MX}
theorem ce_lc2 {vs vs1 : List Nat} (T T1 : Tg) (hN : X.N.Nodup) (hi : PI X tg iter (iM X.K W mi)) (ok : BlkOk X.N X.env.scope scope own) (hvs : own.map (·.2) = vs) (hw : ∀ i ∈ vs1, i ∈ own.map (·.2)) (hv : ∀ j ∈ T.slots, j ∈ own.map (·.2)) (hv1 : ∀ j ∈ T1.slots, j ∈ vs1)
    (hg : ∀ (s : Shared) (H : Hp) (C : Addr) (cl : List (Str × Addr)) (fp : List Addr), PG (X.blk s H scope (compEnvC scope cl C X.env) fp) tg (T.g X.K)) (ht : ∀ (s : Shared) (H : Hp) (C : Addr) (cl : List (Str × Addr)) (fp : List Addr), PTs (X.blk s H scope (compEnvC scope cl C X.env) fp) ifs (tT X.K W0 mt))
    (hi1 : ∀ (s : Shared) (H : Hp) (C : Addr) (cl : List (Str × Addr)) (fp : List Addr), PI (X.blk s H scope (compEnvC scope cl C X.env) fp) tg1 iter1 (iM X.K W0 mi1))
    (hg1 : ∀ (s : Shared) (H : Hp) (C : Addr) (cl : List (Str × Addr)) (fp : List Addr), PG (X.blk s H scope (compEnvC scope cl C X.env) fp) tg1 (T1.g X.K)) (ht1 : ∀ (s : Shared) (H : Hp) (C : Addr) (cl : List (Str × Addr)) (fp : List Addr), PTs (X.blk s H scope (compEnvC scope cl C X.env) fp) ifs1 (tT X.K W0 mt1))
    (he : ∀ (s : Shared) (H : Hp) (C : Addr) (cl : List (Str × Addr)) (fp : List Addr), PE (X.blk s H scope (compEnvC scope cl C X.env) fp) elt (tM X.K W0 false me)) (hc : X.calm = true := by rfl) (hs : ∀ x, foldedSetIterable iter X.env x = pure x := by intro _; rfl) (hs1 : ∀ env x, foldedSetIterable iter1 env x = pure x := by intro _ _; rfl) :
    PE X (.ListComp elt [⟨tg, iter, ifs, 0⟩, ⟨tg1, iter1, ifs1, 0⟩] scope pos) (tM X.K W true (xLc2 vs T mi mt vs1 mi1 T1 mt1 me)) := by subst hvs; exact (pe_lc2 hc hN hi ok hw hg ht hi1 hg1 ht1 he hs hs1).imp (lc2_imp hv hv1)
end

/-! ### max, min -/
def maxL : List Int → Int
  | [] => 0
  | [x] => x
  | x :: r => max x (maxL r)
def minL : List Int → Int
  | [] => 0
  | [x] => x
  | x :: r => min x (minL r)
theorem maxL_mem : ∀ {l : List Int}, l ≠ [] → maxL l ∈ l ∧ ∀ y ∈ l, y ≤ maxL l
  | [x], _ => ⟨List.mem_singleton.mpr rfl, fun y hy => by rw [List.mem_singleton.mp hy]; exact Int.le_refl _⟩
  | x :: z :: r, _ => by
    obtain ⟨h1, h2⟩ := maxL_mem (l := z :: r) (by simp)
    show max x (maxL (z :: r)) ∈ _ ∧ ∀ y ∈ _, y ≤ max x (maxL (z :: r))
    generalize maxL (z :: r) = m at h1 h2 ⊢
    refine ⟨?_, fun y hy => ?_⟩
    · by_cases h : x ≤ m
      · rw [Int.max_eq_right h]; exact List.mem_cons_of_mem _ h1
      · rw [Int.max_eq_left (by omega)]; exact List.mem_cons_self
    · rcases List.mem_cons.mp hy with e | e
      · omega
      · have := h2 y e; omega
theorem minL_mem : ∀ {l : List Int}, l ≠ [] → minL l ∈ l ∧ ∀ y ∈ l, minL l ≤ y
  | [x], _ => ⟨List.mem_singleton.mpr rfl, fun y hy => by rw [List.mem_singleton.mp hy]; exact Int.le_refl _⟩
  | x :: z :: r, _ => by
    obtain ⟨h1, h2⟩ := minL_mem (l := z :: r) (by simp)
    show min x (minL (z :: r)) ∈ _ ∧ ∀ y ∈ _, min x (minL (z :: r)) ≤ y
    generalize minL (z :: r) = m at h1 h2 ⊢
    refine ⟨?_, fun y hy => ?_⟩
    · by_cases h : x ≤ m
      · rw [Int.min_eq_left h]; exact List.mem_cons_self
      · rw [Int.min_eq_right (by omega)]; exact List.mem_cons_of_mem _ h1
    · rcases List.mem_cons.mp hy with e | e
      · omega
      · have := h2 y e; omega
def bMax : List D → (D → Prop) → Prop
  | [.lst xs], k => ∃ ns : List Int, xs = ns.map D.int ∧ ns ≠ [] ∧ k (.int (maxL ns))
  | [.int i, .int j], k => k (.int (max i j))
  | _, _ => False
def bMin : List D → (D → Prop) → Prop
  | [.lst xs], k => ∃ ns : List Int, xs = ns.map D.int ∧ ns ≠ [] ∧ k (.int (minL ns))
  | [.int i, .int j], k => k (.int (min i j))
  | _, _ => False
theorem two_of {ds : List D} {P : Prop} (h1 : ∀ xs, ds = [.lst xs] → P) (h2 : ∀ i j, ds = [.int i, .int j] → P) {k : D → Prop} (h : bMax ds k ∨ bMin ds k) : P := by
  rcases h with h | h
  · unfold bMax at h
    split at h
    · exact h1 _ rfl
    · exact h2 _ _ rfl
    · exact h.elim
  · unfold bMin at h
    split at h
    · exact h1 _ rfl
    · exact h2 _ _ rfl
    · exact h.elim
theorem calld_max {K : PySem.W.Frag} : CallD K false (fun vs H Q => rMax K vs H Q ∨ ∃ i j, vs = [.int i, .int j] ∧ Q (.int (if j > i then j else i)) H) bMax := fun bg P H ds vs k Q g r hf hk => by
  refine two_of (fun xs e => ?_) (fun i j e => ?_) (.inl hf)
  · subst e
    obtain ⟨ns, rfl, h0, hf⟩ := hf
    obtain ⟨v, r', rfl, h1, h2⟩ := rpl_cons.mp r
    cases rpl_nil.mp h2
    obtain ⟨a, ys, rfl, h1, _, h3⟩ := rp_lst.mp h1
    refine .inl ⟨a, ns, rfl, .inl (.inl (by rw [← h3.ints]; exact era_le _ _ h1)), List.length_pos_iff.mpr h0, fun m hm hy => ?_⟩
    have := maxL_mem h0
    have e : m = maxL ns := by have a := hy _ this.1; have b := this.2 _ hm; omega
    rw [e]
    exact hk _ _ H hf g.refl (Res.of (rp_int.mpr rfl))
  · subst e
    obtain ⟨v, r', rfl, h1, h2⟩ := rpl_cons.mp r
    obtain ⟨v2, r2, rfl, h3, h4⟩ := rpl_cons.mp h2
    cases rpl_nil.mp h4
    rw [rp_int.mp h1, rp_int.mp h3]
    refine .inr ⟨i, j, rfl, ?_⟩
    have e : (if j > i then j else i) = max i j := by split <;> omega
    rw [e]
    exact hk _ _ H hf g.refl (Res.of (rp_int.mpr rfl))
theorem calld_min {K : PySem.W.Frag} : CallD K false (fun vs H Q => rMin K vs H Q ∨ ∃ i j, vs = [.int i, .int j] ∧ Q (.int (if j < i then j else i)) H) bMin := fun bg P H ds vs k Q g r hf hk => by
  refine two_of (fun xs e => ?_) (fun i j e => ?_) (.inr hf)
  · subst e
    obtain ⟨ns, rfl, h0, hf⟩ := hf
    obtain ⟨v, r', rfl, h1, h2⟩ := rpl_cons.mp r
    cases rpl_nil.mp h2
    obtain ⟨a, ys, rfl, h1, _, h3⟩ := rp_lst.mp h1
    refine .inl ⟨a, ns, rfl, .inl (.inl (by rw [← h3.ints]; exact era_le _ _ h1)), List.length_pos_iff.mpr h0, fun m hm hy => ?_⟩
    have := minL_mem h0
    have e : m = minL ns := by have a := hy _ this.1; have b := this.2 _ hm; omega
    rw [e]
    exact hk _ _ H hf g.refl (Res.of (rp_int.mpr rfl))
  · subst e
    obtain ⟨v, r', rfl, h1, h2⟩ := rpl_cons.mp r
    obtain ⟨v2, r2, rfl, h3, h4⟩ := rpl_cons.mp h2
    cases rpl_nil.mp h4
    rw [rp_int.mp h1, rp_int.mp h3]
    refine .inr ⟨i, j, rfl, ?_⟩
    have e : (if j < i then j else i) = min i j := by split <;> omega
    rw [e]
    exact hk _ _ H hf g.refl (Res.of (rp_int.mpr rfl))
section
variable {X : Cx} {W : WX} {fr : Bool} {e a b : Expr} {es : List Expr} {p pos q1 q2 q3 : Pos} {m ma mb : MX} {mr : MA} {n : Nat}
theorem c_max (hm : X.mg "max" = none) (h : PA X (e :: es) (tA X.K W n mr)) (hg : Gl X "max" := by rfl) (hc : X.calm = true := by rfl) (he : starEach (e :: es) X.env = (false, eval e X.env) :: starEach es X.env := by rfl) (hpl : (backTo pos (starEach es X.env)).any (·.1) = false := by rfl) : PE X (.Call (.Name "max" p) (e :: es) [] pos) (tM X.K W false (xB1 bMax mr)) := ce_cb ((cr_max hc).or (call_max2 hc)) calld_max hm PyProof.Rows.boot_max h hg (by decide) (by decide) he hpl
theorem c_min (hm : X.mg "min" = none) (h : PA X (e :: es) (tA X.K W n mr)) (hg : Gl X "min" := by rfl) (hc : X.calm = true := by rfl) (he : starEach (e :: es) X.env = (false, eval e X.env) :: starEach es X.env := by rfl) (hpl : (backTo pos (starEach es X.env)).any (·.1) = false := by rfl) : PE X (.Call (.Name "min" p) (e :: es) [] pos) (tM X.K W false (xB1 bMin mr)) := ce_cb ((cr_min hc).or (call_min2 hc)) calld_min hm PyProof.Rows.boot_min h hg (by decide) (by decide) he hpl
end
end DM
end
section
set_option Elab.async false
set_option linter.all false
set_option maxRecDepth 100000
set_option maxHeartbeats 4000000
namespace DM
open PySem L2 Evl
/-! ### x.insert(i, e), x an owned list -/
def sIns (i : Nat) (mi me : MX) : MS := fun M ρ => match ρ[i]? with
  | some (.ow (.lst ds)) => mi ρ (fun j => me ρ (fun d => match j with
    | .int j => (0 ≤ j ∧ j < 2 ^ 63 ∧ ds.length < LN) ∧ M.nx (ρ.set i (.ow (.lst (ds.take j.toNat ++ [d] ++ ds.drop j.toNat))))
    | _ => False) (M.ex ρ)) (M.ex ρ)
  | _ => False
section
variable {X : Cx} {W : WX} {fr : Bool} {e e2 : Expr} {pos apos cpos : Pos} {mi me : MX}
theorem c_ins (i : Nat) {x : Str} {px : Pos} (h : PE X e (tM X.K W false mi)) (h2 : PE X e2 (tM X.K W false me)) (hN : X.N[i]? = some x := by rfl) (hv : Vis X.env.scope x := by first | exact Or.inl rfl | exact Or.inr (Or.inl rfl) | exact Or.inr (Or.inr rfl)) (hd : (x == ("__debug__" : Str)) = false := by decide) (hcd : (x == ("__classdict__" : Str)) = false := by decide)
    (hfew : ((backTo cpos (starEach [e, e2] X.env)).all (fun x => !x.1) && (backToKw cpos (keywordEach [] X.env)).all (fun x => x.1.isSome) && decide ([e, e2].length + ([] : List Keyword).length + (if ([] : List Keyword).isEmpty then 0 else 1) < 30)) = true := by rfl)
    (hline : (apos.endLine == cpos.line) = true := by rfl) (he : starEach [e, e2] X.env = (false, eval e X.env) :: starEach [e2] X.env := by rfl) (he2 : starEach [e2] X.env = (false, eval e2 X.env) :: starEach [] X.env := by rfl) (hpl : (backTo cpos (starEach [e2] X.env)).any (·.1) = false := by rfl)
    (hs : swapsWith (.Call (.Attribute (.Name x px) "insert" apos) [e, e2] [] cpos) none pos.line X.env = pure false := by rfl) :
    PS X (.Expr (.Call (.Attribute (.Name x px) "insert" apos) [e, e2] [] cpos) pos) (sM X.K W fr (sIns i mi me)) :=
  (ps_expr (pe_bm PySem.F.plainAttrs_list PySem.F.slot_list_insert PySem.F.type_list_insert mt_insert (pe_var hN hv hd hcd) (pa_cons h (pa_cons h2 pa_nil he2) he) rfl hfew hline he hpl) hs).imp fun De σ H ⟨g, P, ρ, M, s, hm, l⟩ => by
  unfold sIns at hm
  split at hm
  · rename_i ds hd
    obtain ⟨pp, hσ, hp, ⟨xs, h1, h2, h3⟩⟩ := s.at hd
    refine ⟨_, hσ, .inl ⟨rfl, xs, .inl (.inl h1)⟩, useE s l hm fun j vj H' kj gr rj s' => useE s' l kj fun d v H2 kd gr2 r s2 => ?_⟩
    obtain ⟨pp', hσ', hp', ⟨xs', h1', h2', h3'⟩⟩ := s2.at hd
    have ep : pp' = pp := by rw [hσ] at hσ'; injection hσ' with z; injection z with z; injection z with z; exact z.symm
    subst ep
    cases j with
    | int j =>
      have e1 := rp_int.mp rj.sh
      subst e1
      refine ⟨pp', xs', j, v, rfl, rfl, h1', LN_lt (by rw [h3'.len]; exact kd.1.2.2), kd.1.1, kd.1.2.1, l.nx P σ _ _ (s2.wr (d' := .lst (ds.take j.toNat ++ [d] ++ ds.drop j.toNat)) hd hσ ⟨_, upd_same, ?_, ?_⟩) kd.2⟩
      · have := kd.1.2.2
        simp only [List.length_append, List.length_take, List.length_drop, List.length_singleton]
        omega
      · rw [era_upd hp']; exact ((h3'.take _).append (RpL.one r.sh)).append (h3'.drop _)
    | _ => exact kd.elim
  · exact hm.elim
end
end DM
end
section
set_option Elab.async false
set_option linter.all false
set_option maxRecDepth 100000
set_option maxHeartbeats 4000000
namespace DM
open PySem L2 Evl
/-! ### dict(d) -/
def bDictC : List D → (D → Prop) → Prop
  | [.dct kvs], k => k (.dct kvs)
  | _, _ => False
theorem calld_dictC {K : PySem.W.Frag} : CallD K true (fun xs H Q => ∃ (a : Addr) (kvs : List (Key × V)), xs = [.ref a] ∧ Rd H a (.dK kvs) ∧ ∀ p, H p = none → Q (.ref p) (upd H p (.dK kvs))) bDictC := fun bg P H ds vs k Q g r hf hk => by
  obtain ⟨d, rfl, hf⟩ := one_of hf (fun h => h) (fun a b r h => by cases a <;> exact h)
  obtain ⟨v, r', rfl, h1, h2⟩ := rpl_cons.mp r
  cases rpl_nil.mp h2
  cases d with
  | dct kvs =>
    obtain ⟨a, xs, rfl, h1, hl, h3⟩ := rp_dct.mp h1
    refine ⟨a, xs, rfl, ex_rd era_le h1, fun p hp => hk _ _ _ hf (Grow.new g hp) (.inl ⟨p, rfl, hp, xs, upd_same, hl, RpK.mono (fun x o e => ?_) _ _ h3⟩)⟩
    obtain ⟨z1, z2⟩ := era_some e
    have ne : x ≠ p := ne_of_none z1 hp
    rw [era_out (by simp only [List.mem_cons, not_or]; exact ⟨ne, z2⟩), upd_ne ne]
    exact z1
  | _ => exact hf.elim
section
variable {X : Cx} {W : WX} {fr : Bool} {e : Expr} {p pos : Pos} {m : MX}
theorem c_dictC (hm : X.mg "dict" = none) (h : PE X e (tM X.K W false m)) (hg : Gl X "dict" := by rfl) (he : starEach [e] X.env = (false, eval e X.env) :: starEach [] X.env := by rfl) : PE X (.Call (.Name "dict" p) [e] [] pos) (tM X.K W true (xB1 bDictC (aCons m aNil))) := ce_ty call_dictD calld_dictC hm PyProof.Rows.boot_dict (ca_cons h ca_nil he) hg (by decide) (by decide) he (by rfl)
end
end DM
end
section
set_option Elab.async false
set_option linter.all false
set_option maxRecDepth 100000
set_option maxHeartbeats 4000000
namespace DM
open PySem L2 Evl
/-! ### repr -/
def rRepr (K : PySem.W.Frag) : List V → Hp → VK → Prop := fun xs H Q => ∃ v p, xs = [v] ∧ Dp K H v p ∧ p.showable = true ∧ p.hasDict = false ∧ p.depth ≤ 62 ∧ p.shown.length ≤ sizeLine ∧ Q (.str p.shown) H
theorem cr_repr {X : Cx} (hg : X.A.guards = some []) (hu : X.A.units + 64 < cLine) : CallR X (.builtin "repr") (rRepr X.K) := by
  intro pins s σ H xs us Q I r h
  obtain ⟨v, p, rfl, hd, hs, hn, hdep, hz, q⟩ := h
  obtain ⟨u, rfl, ru⟩ := vals1 r
  obtain ⟨as, rd⟩ := Dp.reads I p v u hd ru
  have nd : p.hasDict = true → sysModules ∉ as := PyData.noDict_hsm hn
  have big : ∀ a, Reads s.heap (.ref a) p as → wpAny (model X.prog X.w) X.A (call (.builtin "repr") [.ref a]) (EP X pins σ Q) X.xe s := fun a ra =>
    repr_of_reads' ra hs nd hg (by omega) (fun _ _ e => e) (fun h' t tk hk => ⟨.str p.shown, H, I.kept (t' := tk) hk, ⟨t, rfl⟩, q⟩) hz
  cases rd with
  | none => exact PySem.P.repr_of_none ⟨.str _, H, I.tok _, ⟨_, rfl⟩, by simpa [PyData.shown] using q⟩
  | bool b => exact PySem.P.repr_of_bool ⟨.str _, H, I.tok _, ⟨_, rfl⟩, by simpa [PyData.shown] using q⟩
  | int i t => exact PySem.P.repr_of_int (by simpa [PyData.showable] using hs) ⟨.str _, H, I.tok _, ⟨_, rfl⟩, by simpa [PyData.shown] using q⟩
  | str x t => exact PySem.P.repr_of_str ⟨.str _, H, I.tok _, ⟨_, rfl⟩, by simpa [PyData.shown] using q⟩ (by simpa [PyData.shown] using hz)
  | list h1 h2 h3 h4 => exact big _ (.list h1 h2 h3 h4)
  | tuple h1 h2 h3 h4 => exact big _ (.tuple h1 h2 h3 h4)
  | dict h1 h2 h3 h4 h5 => simp [PyData.hasDict] at hn
/-- what can be shown -/
structure okR (x : D) : Prop where
  s : shp x = true
  dp : dep x ≤ 62
  i : (toP x).showable = true
  l : (toP x).shown.length ≤ LN
def bRepr : List D → (D → Prop) → Prop
  | [d], k => okR d ∧ k (.str (toP d).shown)
  | _, _ => False
theorem calld_repr {K : PySem.W.Frag} : CallD K false (rRepr K) bRepr := fun bg P H ds vs k Q g r hf hk => by
  obtain ⟨d, rfl, hf⟩ := one_of hf (fun h => h) (fun a b r h => h)
  obtain ⟨v, r', rfl, h1, h2⟩ := rpl_cons.mp r
  cases rpl_nil.mp h2
  obtain ⟨o, hf⟩ := hf
  exact ⟨v, toP d, rfl, Dp.up era_le o.s h1, o.i, PyData.hasDict_of_canLay _ (toP_lay d o.s), by rw [toP_dep]; exact o.dp, LN_size o.l, hk _ _ H hf g.refl (Res.of (rp_str.mpr ⟨rfl, o.l⟩))⟩
/-! ### == of texts -/
def dEqT : CD
  | .str x, .str y, k => k (decide (x = y))
  | _, _, _ => False
def dNeT : CD
  | .str x, .str y, k => k (!decide (x = y))
  | _, _, _ => False
theorem strV {x y : Str} : decide (V.str x = V.str y) = decide (x = y) := by
  by_cases h : x = y
  · subst h; simp
  · rw [decide_eq_false h, decide_eq_false]
    intro z; injection z with z; exact h z
theorem op_eqT {X : Cx} : OpR X (compareOp .Eq) (fun x y H Q => ∃ a b, x = .str a ∧ y = .str b ∧ Q (.bl (decide (a = b))) H) := by
  intro pins s σ H x y v u Q I rx ry h
  obtain ⟨a, b, rfl, rfl, q⟩ := h
  exact op_eq pins s σ H _ _ v u Q I rx ry ⟨rfl, by rw [strV]; exact q⟩
theorem op_neT {X : Cx} : OpR X (compareOp .NotEq) (fun x y H Q => ∃ a b, x = .str a ∧ y = .str b ∧ Q (.bl (!decide (a = b))) H) := by
  intro pins s σ H x y v u Q I rx ry h
  obtain ⟨a, b, rfl, rfl, q⟩ := h
  exact op_ne pins s σ H _ _ v u Q I rx ry ⟨rfl, by rw [strV]; exact q⟩
section
variable {K : PySem.W.Frag}
theorem cmpd_eqT : CmpD K (fun x y H Q => ∃ a b, x = .str a ∧ y = .str b ∧ Q (.bl (decide (a = b))) H) dEqT := fun bg P H dx dy x y k Q g r1 r2 hf hk => by
  cases dx <;> cases dy <;> first | exact hf.elim | skip
  exact ⟨_, _, (rp_str.mp r1).1, (rp_str.mp r2).1, hk _ hf⟩
theorem cmpd_neT : CmpD K (fun x y H Q => ∃ a b, x = .str a ∧ y = .str b ∧ Q (.bl (!decide (a = b))) H) dNeT := fun bg P H dx dy x y k Q g r1 r2 hf hk => by
  cases dx <;> cases dy <;> first | exact hf.elim | skip
  exact ⟨_, _, (rp_str.mp r1).1, (rp_str.mp r2).1, hk _ hf⟩
end
section
variable {X : Cx} {W : WX} {fr : Bool} {e a b : Expr} {p pos : Pos} {m ma mb : MX} {n : Nat}
theorem c_repr (hm : X.mg "repr" = none) (hr : RoomG n X.A) (h : PE X e (tM X.K W false m)) (hg : Gl X "repr" := by rfl) (he : starEach [e] X.env = (false, eval e X.env) :: starEach [] X.env := by rfl) : PE X (.Call (.Name "repr" p) [e] [] pos) (tM X.K W false (xB1 bRepr (aCons m aNil))) := ce_cb (cr_repr hr.gs hr.units) calld_repr hm PyProof.Rows.boot_repr (ca_cons h ca_nil he) hg (by decide) (by decide) he (by rfl)
theorem c_eqT (ha : PE X a (tM X.K W false ma)) (hb : PE X b (tM X.K W false mb)) (hm : behindInMarks .Eq b = false := by first | exact nomark _ | rfl) : PE X (.Compare a [.Eq] [b] pos) (tM X.K W false (xCmp dEqT ma mb)) := ce_cmp op_eqT cmpd_eqT ha hb hm
theorem t_eqT (ha : PE X a (tM X.K W false ma)) (hb : PE X b (tM X.K W false mb)) (hm : behindInMarks .Eq b = false := by first | exact nomark _ | rfl) : PT X (.Compare a [.Eq] [b] pos) (tT X.K W (tCmpM dEqT ma mb)) := ct_cmp op_eqT cmpd_eqT ha hb hm
theorem c_neT (ha : PE X a (tM X.K W false ma)) (hb : PE X b (tM X.K W false mb)) (hm : behindInMarks .NotEq b = false := by first | exact nomark _ | rfl) : PE X (.Compare a [.NotEq] [b] pos) (tM X.K W false (xCmp dNeT ma mb)) := ce_cmp op_neT cmpd_neT ha hb hm
theorem t_neT (ha : PE X a (tM X.K W false ma)) (hb : PE X b (tM X.K W false mb)) (hm : behindInMarks .NotEq b = false := by first | exact nomark _ | rfl) : PT X (.Compare a [.NotEq] [b] pos) (tT X.K W (tCmpM dNeT ma mb)) := ct_cmp op_neT cmpd_neT ha hb hm
end
end DM
end
section
set_option Elab.async false
set_option linter.all false
set_option maxRecDepth 100000
set_option maxHeartbeats 4000000
namespace DM
open PySem L2 Evl
/-! ### while -/
def sWhile (t : MT) (m : MS) : MS := fun M ρ => ∃ W : Nat → MEnv → Prop, (∃ n, W n ρ) ∧ ∀ n ρ, W n ρ → t ρ (fun c => if c = true then m { M with nx := fun ρ' => ∃ n', n' < n ∧ W n' ρ', ct := fun ρ' => ∃ n', n' < n ∧ W n' ρ', bk := M.nx } ρ else M.nx ρ) (M.ex ρ)
section
variable {X : Cx} {W : WX} {fr : Bool} {c e a b : Expr} {body : List Stmt} {pos p : Pos} {t : MT} {m : MS} {mx ma mb : MX}
theorem cs_while (hp : PassesOwn (model X.prog X.w) X.A X.env X.xe) (hc : PT X c (tT X.K W t)) (hb : PSs X body (sM X.K W fr m)) : PS X (.While c body [] pos) (sM X.K W fr (sWhile t m)) := (ps_while hp hc hb).imp fun De σ H ⟨g, P, ρ, M, s, hm, l⟩ => by
  obtain ⟨V', ⟨n0, w0⟩, turn⟩ := hm
  refine ⟨fun n σ' H' => ∃ P' ρ', StOk X.K g P' H' σ' ρ' ∧ V' n ρ', ⟨n0, P, ρ, s, w0⟩, ?_⟩
  rintro n σ' H' ⟨P', ρ', s', w'⟩
  refine useT s' l (turn n ρ' w') fun d H1 kd s1 => ?_
  cases d with
  | false => exact l.nx P' σ' H1 ρ' s1 kd
  | true =>
    refine ⟨fun σ2 H2 => ∃ P2 ρ2, StOk X.K g P2 H2 σ2 ρ2 ∧ ∃ n', n' < n ∧ V' n' ρ2, fun σ2 H2 ⟨P2, ρ2, s2, n', hn, w2⟩ => ⟨n', hn, P2, ρ2, s2, w2⟩, ?_⟩
    exact ⟨g, P', ρ', _, s1, kd, fun P3 σ3 H3 ρ3 s3 q3 => ⟨P3, ρ3, s3, q3⟩, l.rt, l.nx, fun P3 σ3 H3 ρ3 s3 q3 => ⟨P3, ρ3, s3, q3⟩, l.ex⟩
end
/-! ### targets in targets -/
inductive Tr where
  | nm (i : Nat)
  | tp (ts : List Tr)
mutual
def Tr.g (K : PySem.W.Frag) : Tr → TG
  | .nm i => gName i
  | .tp ts => gTup K ts.length (Tr.gs K ts)
def Tr.gs (K : PySem.W.Frag) : List Tr → TGs
  | [] => gNil
  | t :: ts => gCons (Tr.g K t) (Tr.gs K ts)
end
mutual
def Tr.m : Tr → D → MEnv → (MEnv → Prop) → Prop
  | .nm i, d, ρ, k => k (ρ.set i (.sh d))
  | .tp ts, .tup ds, ρ, k => ds.length = ts.length ∧ Tr.ms ts ds ρ k
  | .tp _, _, _, _ => False
def Tr.ms : List Tr → List D → MEnv → (MEnv → Prop) → Prop
  | [], [], ρ, k => k ρ
  | t :: ts, d :: ds, ρ, k => Tr.m t d ρ fun ρ' => Tr.ms ts ds ρ' k
  | _, _, _, _ => False
end
mutual
theorem Tr.ok {K : PySem.W.Frag} {c : Cc} {H : Hp} : ∀ (t : Tr) {σ : St} {ρ : MEnv} {d : D} {v : V} {k : MEnv → Prop} {Q : St → Hp → Prop}, Ok K c H σ ρ → Rp K c.b (era c.P H) d v → t.m d ρ k → (∀ σ' ρ', k ρ' → Ok K c H σ' ρ' → Q σ' H) → t.g K v σ H Q
  | .nm i, σ, ρ, d, v, k, Q, ok, r, hm, h => by
    rw [Tr.m] at hm
    rw [Tr.g]
    exact h _ _ hm (ok.set r)
  | .tp ts, σ, ρ, d, v, k, Q, ok, r, hm, h => by
    cases d with
    | tup ds =>
      rw [Tr.m] at hm
      rw [Tr.g]
      obtain ⟨a, xs, rfl, h1, _, h2⟩ := rp_tupS r
      exact ⟨a, xs, rfl, sqt_up h1, by rw [h2.len, hm.1], Tr.oks ts ok h2 hm.2 h⟩
    | _ => rw [Tr.m] at hm <;> first | exact hm.elim | (intro _ z; cases z)
theorem Tr.oks {K : PySem.W.Frag} {c : Cc} {H : Hp} : ∀ (ts : List Tr) {σ : St} {ρ : MEnv} {ds : List D} {vs : List V} {k : MEnv → Prop} {Q : St → Hp → Prop}, Ok K c H σ ρ → RpL K c.b (era c.P H) ds vs → Tr.ms ts ds ρ k → (∀ σ' ρ', k ρ' → Ok K c H σ' ρ' → Q σ' H) → Tr.gs K ts vs σ H Q
  | [], σ, ρ, ds, vs, k, Q, ok, r, hm, h => by
    cases ds with
    | nil =>
      rw [Tr.ms] at hm
      rw [Tr.gs]
      exact ⟨rpl_nil.mp r, h σ ρ hm ok⟩
    | cons d ds => rw [Tr.ms] at hm <;> first | exact hm.elim | (intros; simp_all)
  | t :: ts, σ, ρ, ds, vs, k, Q, ok, r, hm, h => by
    cases ds with
    | nil => rw [Tr.ms] at hm <;> first | exact hm.elim | (intros; simp_all)
    | cons d ds =>
      rw [Tr.ms] at hm
      rw [Tr.gs]
      obtain ⟨x, q, rfl, h1, h2⟩ := rpl_cons.mp r
      exact ⟨x, q, rfl, Tr.ok t ok h1 hm fun σ' ρ' hm' ok' => Tr.oks ts ok' h2 hm' h⟩
end
section
variable {X : Cx} {W : WX} {fr : Bool} {e tg : Expr} {es : List Expr} {p pos apos cpos : Pos} {m ma mb : MX}
theorem gm_tr (t : Tr) (h : PG X tg (t.g X.K)) : PG X tg (gM X.K t.m) := ⟨fun pins s σ H v u Q I r hh => h.run pins s σ H v u Q I r (by
  obtain ⟨c, ρ, d, k, ok, rd, hg, hk⟩ := hh
  exact Tr.ok t ok rd hg fun σ' ρ' hk' ok' => hk ρ' σ' hk' ok')⟩
theorem gr_nm (i : Nat) {x : Str} (hN : X.N.Nodup) (hi : X.N[i]? = some x := by rfl) (hx : Loc X.env.scope x := by first | exact .inl rfl | exact .inr rfl) (hf : X.fn x = true ∨ X.env.scope.names.lookup x = some .local := by first | exact .inl rfl | exact .inr rfl) : PG X (.Name x pos) ((Tr.nm i).g X.K) := by
  rw [Tr.g]; exact pg_name hN hi hx hf
theorem gr_tp {ts : List Tr} {k n : Nat} (h : PGs X es (Tr.gs X.K ts)) (hc : X.calm = true := by rfl) (hn : (assignEach es X.env).length = n := by rfl) (hj : ts.length = n := by rfl) (hst : (assignEach es X.env).findIdx? (·.1) = none := by rfl) : PG X (.Tuple es k pos) ((Tr.tp ts).g X.K) := by
  rw [Tr.g, hj]; exact pg_tup hc h hn hst
theorem grs_nil : PGs X [] (Tr.gs X.K []) := by rw [Tr.gs]; exact pgs_nil
theorem grs_cons {t : Tr} {ts : List Tr} (h1 : PG X e (t.g X.K)) (h2 : PGs X es (Tr.gs X.K ts)) (hs : (assignEach (e :: es) X.env).map (·.2) = assign e X.env :: (assignEach es X.env).map (·.2) := by rfl) : PGs X (e :: es) (Tr.gs X.K (t :: ts)) := by
  rw [Tr.gs]; exact pgs_cons h1 h2 hs
/-! ### enumerate(list) -/
def enumD (ds : List D) : List D := (List.range ds.length).zipWith (fun (i : Nat) d => .tup [.int (i : Int), d]) ds
theorem enumD_len (ds : List D) : (enumD ds).length = ds.length := by unfold enumD; rw [List.length_zipWith, List.length_range, Nat.min_self]
theorem enumD_get {ds : List D} {i : Nat} {z : D} (h : (enumD ds)[i]? = some z) : ∃ d, ds[i]? = some d ∧ z = .tup [.int (i : Int), d] := by
  unfold enumD at h
  rw [List.getElem?_zipWith] at h
  cases q : ds[i]? with
  | none => rw [q] at h; cases hr : (List.range ds.length)[i]? <;> rw [hr] at h <;> cases h
  | some d =>
    have lt := (List.getElem?_eq_some_iff.mp q).1
    rw [q, List.getElem?_range lt] at h
    cases h
    exact ⟨d, rfl, rfl⟩
theorem feeds_enum {K : PySem.W.Frag} {a : Addr} {ds : List D} : Feeds K (Ite K a) [kRp K (.lst ds) (.ref a)] (enumD ds) := fun b P H g h => by
  obtain ⟨a', xs, e, h1, _, h2⟩ := rp_lst.mp (h _ List.mem_cons_self)
  cases e
  have hs : SqL K H a xs := .inl (.inl (era_le _ _ h1))
  refine ⟨fun i z e => ?_, xs, hs, by rw [h2.len, enumD_len]; exact Nat.le_refl _⟩
  obtain ⟨d, hd, rfl⟩ := enumD_get e
  obtain ⟨x, e1, e2⟩ := h2.get hd
  refine ⟨⟨xs, x, hs, e1⟩, fun y H2 hy => ?_⟩
  obtain ⟨T, x', rfl, hT, rfl, f⟩ := hy
  have ey : x' = x := Option.some.inj ((f xs hs).symm.trans e1)
  subst ey
  have gr := Grow.new (o := .tup [.int (i : Nat), x']) g hT
  exact ⟨gr, rp_tupN g hT (show 2 ≤ LN by decide) (rpl_cons.mpr ⟨_, _, rfl, rp_int.mpr rfl, RpL.one e2⟩)⟩
def mEnum (m : MX) : MA := fun ρ k ex => m ρ (fun d => match d with
  | .lst ds => k (enumD ds)
  | _ => False) ex
theorem ci_enum {elts : List Expr} {kk : Nat} {tpos : Pos} (hm : X.mg "enumerate" = none) (h : PE X e (tM X.K W false m)) (hg : Gl X "enumerate" := by rfl) (hs : starEach [e] X.env = [(false, eval e X.env)] := by rfl) : PI X (.Tuple elts kk tpos) (.Call (.Name "enumerate" p) [e] [] pos) (iM X.K W (mEnum m)) :=
  (pi_enum hg hm (pa_cons h pa_nil hs) hs).imp fun σ H R ⟨c, ρ, k, ex, ok, hm, hk, hx⟩ => ⟨c, ρ, _, ex, ok, hm, fun d v H1 kd g r => by
  cases d with
  | lst ds =>
    obtain ⟨a, xs, rfl, h1, _, h2⟩ := rp_lst.mp r.sh
    exact ⟨a, xs, rfl, .inl (.inl (era_le _ _ h1)), hk _ _ _ H1 kd g (fun q hq => by rw [List.mem_singleton.mp hq]; exact r.sh) feeds_enum⟩
  | _ => exact kd.elim, hx⟩
/-! ### xs[::-1] -/
def dRev : D → (D → Prop) → Prop
  | .lst xs, k => k (.lst xs.reverse)
  | _, _ => False
theorem RpL.rev {K : PySem.W.Frag} {bg : Bg} {H : Hp} : ∀ {ds : List D} {xs : List V}, RpL K bg H ds xs → RpL K bg H ds.reverse xs.reverse
  | [], xs, h => by rw [rpl_nil.mp h]; exact rpl_nil.mpr rfl
  | d :: ds, xs, h => by
    obtain ⟨x, r, rfl, h1, h2⟩ := rpl_cons.mp h
    rw [List.reverse_cons, List.reverse_cons]
    exact (RpL.rev h2).append (RpL.one h1)
theorem ce_revL {j p1 p2 p3} (h : PE X e (tM X.K W false m)) : PE X (.Subscript e (.Slice none none (some (.UnaryOp .USub (.Constant (.int 1) j p1) p2)) p3) pos) (tM X.K W true (xUn dRev m)) :=
  (pe_revL h).imp fun σ H Q ⟨c, ρ, k, ex, ok, hm, hk, hx⟩ => ⟨c, ρ, _, ex, ok, hm, fun d v H1 kd g r => by
  cases d with
  | lst ds =>
    obtain ⟨a, xs, rfl, h1, hl, h2⟩ := rp_lst.mp r.sh
    have gg := ok.good.grow g
    exact ⟨a, xs, rfl, .inl (.inl (era_le _ _ h1)), fun pp hp => hk _ _ _ kd (g.trans (Grow.new gg hp)) ((res_lst gg hp (by rw [List.length_reverse]; exact hl) h2.rev).back g)⟩
  | _ => exact kd.elim, hx⟩
/-! ### x.pop(), x.pop(i), x an owned list; the item goes to a target -/
def sPop (i : Nat) (G : MG) : MS := fun M ρ => match ρ[i]? with
  | some (.ow (.lst ds)) => (match ds.getLast? with
    | some d => G d (ρ.set i (.ow (.lst ds.dropLast))) M.nx
    | none => False)
  | _ => False
def sPop0 (i : Nat) (G : MG) : MS := fun M ρ => match ρ[i]? with
  | some (.ow (.lst (d :: ds))) => G d (ρ.set i (.ow (.lst ds))) M.nx
  | _ => False
theorem RpL.dropLast {K : PySem.W.Frag} {bg : Bg} {H : Hp} {ds : List D} {xs : List V} (h : RpL K bg H ds xs) : RpL K bg H ds.dropLast xs.dropLast := by
  rw [List.dropLast_eq_take, List.dropLast_eq_take, h.len]
  exact h.take _
theorem cs_pop (i : Nat) {x : Str} {px : Pos} {G : MG} (hgt : PG X tg (gM X.K G)) (hN : X.N[i]? = some x := by rfl) (hv : Vis X.env.scope x := by first | exact Or.inl rfl | exact Or.inr (Or.inl rfl) | exact Or.inr (Or.inr rfl)) (hd : (x == ("__debug__" : Str)) = false := by decide) (hcd : (x == ("__classdict__" : Str)) = false := by decide)
    (hline : (apos.endLine == cpos.line) = true := by rfl) (hs : swapsWithSole [tg] (.Call (.Attribute (.Name x px) "pop" apos) [] [] cpos) pos.line X.env = pure false := by rfl) (hw : swappedStores [tg] (.Call (.Attribute (.Name x px) "pop" apos) [] [] cpos) X.env = pure none := by rfl) (h1 : (assignEach [tg] X.env).map (·.2) = [assign tg X.env] := by rfl) :
    PS X (.Assign [tg] (.Call (.Attribute (.Name x px) "pop" apos) [] [] cpos) pos) (sM X.K W fr (sPop i G)) :=
  (ps_asg (pe_bm0 PySem.F.plainAttrs_list PySem.F.slot_list_pop PySem.F.type_list_pop mt_pop (pe_var hN hv hd hcd) rfl hline) hgt hs hw h1).imp fun De σ H ⟨g, P, ρ, M, s, hm, l⟩ => by
  unfold sPop at hm
  split at hm
  · rename_i ds hds
    obtain ⟨pp, hσ, hp, ⟨xs, h1, h2, h3⟩⟩ := s.at hds
    split at hm
    · rename_i d hl
      rw [List.getLast?_eq_getElem?] at hl
      obtain ⟨y, e1, e2⟩ := h3.get hl
      have hw := s.wr (d' := .lst ds.dropLast) (o' := .lst xs.dropLast) hds hσ ⟨xs.dropLast, upd_same, Nat.le_trans (by rw [List.length_dropLast]; omega) h2, by rw [era_upd hp]; exact h3.dropLast⟩
      refine ⟨_, hσ, .inl ⟨rfl, xs, .inl (.inl h1)⟩, pp, xs, y, rfl, rfl, h1, by rw [h3.len]; exact e1, ?_⟩
      exact ⟨_, _, d, _, hw.ok, by show Rp X.K g.b (era P (upd H pp (.lst xs.dropLast))) d y; rw [era_upd hp]; exact e2, hm, fun ρ' σ' k' ok' => l.nx P σ' _ ρ' ⟨hw.grow, ok', hw.new⟩ k'⟩
    · exact hm.elim
  · exact hm.elim
theorem cs_pop0 (i : Nat) {x : Str} {px : Pos} {G : MG} {j : Nat} {pc : Pos} (hgt : PG X tg (gM X.K G)) (hN : X.N[i]? = some x := by rfl) (hv : Vis X.env.scope x := by first | exact Or.inl rfl | exact Or.inr (Or.inl rfl) | exact Or.inr (Or.inr rfl)) (hd : (x == ("__debug__" : Str)) = false := by decide) (hcd : (x == ("__classdict__" : Str)) = false := by decide)
    (hfew : ((backTo cpos (starEach [.Constant (.int 0) j pc] X.env)).all (fun x => !x.1) && (backToKw cpos (keywordEach [] X.env)).all (fun x => x.1.isSome) && decide ([Expr.Constant (.int 0) j pc].length + ([] : List Keyword).length + (if ([] : List Keyword).isEmpty then 0 else 1) < 30)) = true := by rfl)
    (hline : (apos.endLine == cpos.line) = true := by rfl) (he : starEach [.Constant (.int 0) j pc] X.env = (false, eval (.Constant (.int 0) j pc) X.env) :: starEach [] X.env := by rfl) (hs : swapsWithSole [tg] (.Call (.Attribute (.Name x px) "pop" apos) [.Constant (.int 0) j pc] [] cpos) pos.line X.env = pure false := by rfl) (hw : swappedStores [tg] (.Call (.Attribute (.Name x px) "pop" apos) [.Constant (.int 0) j pc] [] cpos) X.env = pure none := by rfl) (h1 : (assignEach [tg] X.env).map (·.2) = [assign tg X.env] := by rfl) :
    PS X (.Assign [tg] (.Call (.Attribute (.Name x px) "pop" apos) [.Constant (.int 0) j pc] [] cpos) pos) (sM X.K W fr (sPop0 i G)) :=
  (ps_asg (pe_bm PySem.F.plainAttrs_list PySem.F.slot_list_pop PySem.F.type_list_pop mt_popAt (pe_var hN hv hd hcd) (pa_cons (pe_int (i := 0)) pa_nil he) rfl hfew hline he rfl) hgt hs hw h1).imp fun De σ H ⟨g, P, ρ, M, s, hm, l⟩ => by
  unfold sPop0 at hm
  split at hm
  · rename_i d ds hds
    obtain ⟨pp, hσ, hp, ⟨xs, h1, h2, h3⟩⟩ := s.at hds
    obtain ⟨y, ys, rfl, e1, e2⟩ := rpl_cons.mp h3
    have hw := s.wr (d' := .lst ds) (o' := .lst ys) hds hσ ⟨ys, upd_same, Nat.le_trans (Nat.le_succ _) h2, by rw [era_upd hp]; exact e2⟩
    refine ⟨_, hσ, .inl ⟨rfl, y :: ys, .inl (.inl h1)⟩, pp, y :: ys, 0, 0, y, rfl, rfl, h1, by decide, by decide, ?_, rfl, ?_⟩
    · unfold seqIndex?
      simp
    · exact ⟨_, _, d, _, hw.ok, by show Rp X.K g.b (era P (upd H pp (.lst ys))) d y; rw [era_upd hp]; exact e1, hm, fun ρ' σ' k' ok' => l.nx P σ' _ ρ' ⟨hw.grow, ok', hw.new⟩ k'⟩
  · exact hm.elim
end
end DM
end
section
set_option Elab.async false
set_option linter.all false
set_option maxRecDepth 100000
set_option maxHeartbeats 4000000
/-! own exceptions: raise C(), try .. except B as e, isinstance(e, C) -/
namespace DM
open PySem L2 Evl
abbrev veTail : List Value := [.type "ValueError", .type "Exception", .type "BaseException", .type "object"]
theorem pmk_own0 {X : Cx} {C : Addr} {x : Str} {p pos : Pos} (q : PySem.W.excIn X.K C veTail "ValueError.__new__" = true) (gC : X.mg x = some (.ref C)) (kC : PySem.W.keepIn X.K (.ref C) = true) (r : Raises X (.ref C)) (hg : Gl X x) (hdb : (x == ("__debug__" : Str)) = false := by decide) :
    PMk X (.Call (.Name x p) [] [] pos) (fun _ H Q => Q (.ref C) none H) := by
  intro pins s σ H Q I h
  refine wpAny_Call_Name_kw (ld_glob I hg gC ?_ hdb)
  refine PySem.W.callWith_K0 I.kIn kC ?_
  show wpAny _ _ (call (.ref C) []) _ _ _
  obtain ⟨bm, N, nm, qn, bs, hdct, sn, sub, ab, col, dd, k0, k1, k2, k3, k5, mN, hC, hN, hni, T⟩ := exc_obj I.kIn q
  refine wpAny_call_exc_subT PySem.F.excBase_ValueError T hC hN hni (fun h' e hm => ?_) (Nat.zero_le _)
  exact mk_of I hm r h (I.hok.gone hm.new)
/-- an own class over ValueError without own __init__ -/
def ex0B (K : PySem.W.Frag) (c : Str) : Bool := PySem.W.excIn K (He.ga K c) veTail "ValueError.__new__" && (PySem.W.keepIn K (.ref (He.ga K c)) && (decide (PySem.W.subIn K (.ref (He.ga K c)) (.type "BaseException") = some true) && decide (PySem.W.typeIn K (.ref (He.ga K c)) = some (.type "type"))))
/-- the class c is caught by b -/
def excB (K : PySem.W.Frag) (c b : Str) : Bool := decide (PySem.W.exmOne K (.ref (He.ga K c)) (.ref (He.ga K b)) = some true)
/-- what isinstance(e, b) answers of a caught c -/
def exiB (K : PySem.W.Frag) (c b : Str) (r : Bool) : Bool := decide (PySem.W.kitOne K (.ref (He.ga K c)) (.ref (He.ga K b)) = some r)
/-- what ExcC asks -/
def excC (K : PySem.W.Frag) (c : Str) : Bool := He.eqO (PySem.W.findIn K (.ref (He.ga K c)) "__getattribute__") (some (some (.builtin "BaseException.__getattribute__"))) && (He.eqO (PySem.W.findIn K (.ref (He.ga K c)) "__getattr__") (some none) && (decide (PySem.W.subIn K (.ref (He.ga K c)) (.type "BaseException") = some true) && (PySem.W.hasDictIn K (He.ga K c) &&
  (He.eqO (PySem.W.findIn K (.ref (He.ga K c)) "__class__") (some (some (.builtin "object.__class__"))) && (He.eqO (PySem.W.specialIn K (.builtin "object.__class__") "__get__") (some (some (.builtin "getset_descriptor.__get__"))) && (decide (PySem.W.takesIn K (.builtin "object.__class__") = some true) && decide (PySem.W.mroIn K (He.ga K c) (.type "object") = some true)))))))
theorem excC_ok {K : PySem.W.Frag} {c : Str} (h : excC K c = true) : ExcC K (He.ga K c) := by
  obtain ⟨h1, h⟩ := He.ba h
  obtain ⟨h2, h⟩ := He.ba h
  obtain ⟨h3, h⟩ := He.ba h
  obtain ⟨h4, h⟩ := He.ba h
  obtain ⟨h5, h⟩ := He.ba h
  obtain ⟨h6, h⟩ := He.ba h
  obtain ⟨h7, h8⟩ := He.ba h
  exact ⟨He.eqO_ok h1, He.eqO_ok h2, of_decide_eq_true h3, h4, He.eqO_ok h5, He.eqO_ok h6, of_decide_eq_true h7, of_decide_eq_true h8⟩
def sRaise (c : Str) : MS := fun M ρ => M.ex ρ ⟨c, []⟩
section
variable {X : Cx} {W : WX} {fr : Bool}
theorem cs_raise {c : Str} {p pos pos' : Pos} (hb : ex0B X.K c = true) (gC : X.mg c = some (.ref (He.ga X.K c))) (tk : Takes X W) (hc : X.calm = true := by rfl) (hg : Gl X c := by rfl) (hdb : (c == ("__debug__" : Str)) = false := by decide) :
    PS X (.Raise (some (.Call (.Name c p) [] [] pos)) none pos') (sM X.K W fr (sRaise c)) := by
  obtain ⟨h1, hb⟩ := He.ba hb
  obtain ⟨h2, hb⟩ := He.ba hb
  obtain ⟨h3, h4⟩ := He.ba hb
  exact (ps_raise hc tk (pmk_own0 h1 gC h2 (raises_own (of_decide_eq_true h3) (of_decide_eq_true h4)) hg hdb)).imp fun De σ H ⟨g, P, ρ, M, s, hm, l⟩ => l.ex P σ H ρ ⟨c, []⟩ _ _ s hm ⟨rfl, .inl ⟨rfl, rfl⟩⟩
/-- an except suite for each class that may come: the address, the fields -/
abbrev Sus := List (Str × (Addr → Option Addr → List (Str × D) → MS))
def sTryAs (i : Nat) (sus : Sus) (m : MS) : MS := fun M ρ => m { M with ex := fun ρ' x => ∃ su, (x.c, su) ∈ sus ∧ ∀ a dd, (x.fs = [] → dd = none) → su a dd x.fs { nx := fun ρ2 => M.nx (ρ2.set i .no), rt := M.rt, bk := fun ρ2 => M.bk (ρ2.set i .no), ct := fun ρ2 => M.ct (ρ2.set i .no), ex := fun _ _ => False } (ρ'.set i (.sh (.exo a dd x.fs))) } ρ
theorem Ok.gone {K : PySem.W.Frag} {c : Cc} {H : Hp} {σ : St} {ρ : MEnv} (h : Ok K c H σ ρ) (i : Nat) : Ok K c H (σ.set i none) (ρ.set i .no) := by
  obtain ⟨h1, h2, h3, h4, o, q⟩ := h
  have hne : ∀ (j : Nat) s, (ρ.set i .no)[j]? = some s → s ≠ .no → j ≠ i ∧ ρ[j]? = some s := fun j s e ns => by
    by_cases hj : j = i
    · subst hj
      by_cases hl : j < ρ.length
      · rw [List.getElem?_set_self hl] at e; cases e; exact absurd rfl ns
      · rw [List.getElem?_eq_none (by simpa using hl)] at e; cases e
    · rw [List.getElem?_set_ne (Ne.symm hj)] at e; exact ⟨hj, e⟩
  refine ⟨h1, h2, h3, h4, o, by rw [List.length_set, List.length_set]; exact q.len, fun j e z => ?_, fun j e z => ?_, fun j l e f y z w => q.inj j l e f (hne j _ y (fun y => by cases y)).2 (hne l _ z (fun y => by cases y)).2 w⟩
  · obtain ⟨nj, z⟩ := hne j _ z (fun y => by cases y)
    rw [List.getElem?_set_ne (Ne.symm nj)]
    exact q.sh j e z
  · obtain ⟨nj, z⟩ := hne j _ z (fun y => by cases y)
    rw [List.getElem?_set_ne (Ne.symm nj)]
    exact q.ow j e z
theorem cs_try {x n : Str} {i : Nat} {body suite : List Stmt} {b₀ : Stmt} {np pos pos' : Pos} {m : MS} {sus : Sus} (hN : X.N.Nodup) (hm : X.mg x = some (.ref (He.ga X.K x))) (tk : Takes X W)
    (hcs : ∀ q ∈ sus, excB X.K q.1 x = true)
    (hb : ∀ (W' : WX) (pn : List (Addr × Obj)) (xe : Value → Shared → Prop), Takes (X.tr pn xe) W' → PassesOwn (model X.prog X.w) X.A X.env xe → PSs (X.tr pn xe) body (sM X.K W' fr m))
    (hsu : ∀ q ∈ sus, ∀ (a : Addr) (oe : Obj) (dd : Option Addr) (fs : List (Str × D)) (pn : List (Addr × Obj)), Zc (.ref (He.ga X.K q.1)) dd oe → (∃ vs, oe.data = .fields vs) → PSs (X.suite a ((a, oe) :: pn)) (b₀ :: suite) (sM X.K W0 fr (q.2 a dd fs)))
    (hs : X.stack = X.env :: X.outer := by rfl) (hf : X.env.frame = some X.env.locals := by rfl) (hi : X.N[i]? = some n := by rfl) (hln : X.env.kindOf n = some .local := by rfl) (hg : Gl X x := by rfl) (hdb : (x == ("__debug__" : Str)) = false := by decide) :
    PS X (.Try body [.ExceptHandler (some (.Name x np)) (some n) (b₀ :: suite) pos'] [] [] pos) (sM X.K W fr (sTryAs i sus m)) := by
  refine (ps_try_as (tb := fun W' => sM X.K W' fr m) (ts := fun a cls d De σ H => ∃ q ∈ sus, ∃ fs, cls = .ref (He.ga X.K q.1) ∧ sM X.K W0 fr (q.2 a d fs) De σ H) hs hf hN hi hln ⟨hg, hdb, .inl hm⟩ tk hb (fun a oe cls d pn hz hd => ⟨fun pins s σ H De I h => ?_⟩)).imp fun De σ H ⟨g, P, ρ, M, s, hm, l⟩ => ?_
  · obtain ⟨q, hq, fs, rfl, h⟩ := h
    exact (hsu q hq a oe d fs pn hz hd).run pins s σ H De I h
  · refine ⟨g, P, ρ, _, s, hm, l.nx, l.rt, l.bk, l.ct, fun P' σ' H' ρ' xx cls dd s' hx z => ?_⟩
    obtain ⟨su, hmem, hsu'⟩ := hx
    obtain ⟨z1, z2⟩ := z
    subst z1
    refine ⟨true, of_decide_eq_true (hcs _ hmem), fun _ a _ => ⟨_, hmem, xx.fs, rfl, ?_⟩, fun q => by cases q⟩
    have r : Rp X.K g.b (era P' H') (.exo a dd xx.fs) (.ref a) := rp_exo.mpr ⟨rfl, z2⟩
    refine ⟨g, P', _, _, ⟨s'.grow, s'.ok.set r, s'.new⟩, hsu' a dd (fun e => z2.elim (·.2) fun y => absurd e y.1), ?_⟩
    exact ⟨fun P2 σ2 H2 ρ2 s2 q => l.nx P2 _ H2 _ ⟨s2.grow, s2.ok.gone i, s2.new⟩ q, l.rt, fun P2 σ2 H2 ρ2 s2 q => l.bk P2 _ H2 _ ⟨s2.grow, s2.ok.gone i, s2.new⟩ q, fun P2 σ2 H2 ρ2 s2 q => l.ct P2 _ H2 _ ⟨s2.grow, s2.ok.gone i, s2.new⟩ q, fun _ _ _ _ _ _ _ _ q _ => q.elim⟩
theorem sus_nil {p : Str × (Addr → Option Addr → List (Str × D) → MS) → Prop} : ∀ q ∈ ([] : Sus), p q := fun _ h => nomatch h
theorem sus_cons {p : Str × (Addr → Option Addr → List (Str × D) → MS) → Prop} {c : Str} {su : Addr → Option Addr → List (Str × D) → MS} {r : Sus} (h : p (c, su)) (h2 : ∀ q ∈ r, p q) : ∀ q ∈ (c, su) :: r, p q := List.forall_mem_cons.mpr ⟨h, h2⟩
/-- isinstance(e, C), e the exception that the suite holds, without fields -/
def xIsE (i : Nat) (a : Addr) (dd : Option Addr) (r : Bool) : MX := fun ρ k _ => match ρ[i]? with
  | some (.sh (.exo a' dd' _)) => a' = a ∧ dd' = dd ∧ dd = none ∧ k (.bl r)
  | _ => False
theorem ce_isE {a : Addr} {oe : Obj} {dd : Option Addr} {pn : List (Addr × Obj)} {n c b : Str} {r : Bool} (i : Nat) {p p1 p2 pos : Pos} (hC : excC X.K c = true) (hk : exiB X.K c b r = true) (hz : Zc (.ref (He.ga X.K c)) dd oe) (hf : ∃ vs, oe.data = .fields vs) (mi : X.mg "isinstance" = none) (mb : X.mg b = some (.ref (He.ga X.K b)))
    (hN : (X.suite a ((a, oe) :: pn)).N[i]? = some n := by rfl) (hv : Vis (X.suite a ((a, oe) :: pn)).env.scope n := by first | exact Or.inl rfl | exact Or.inr (Or.inl rfl) | exact Or.inr (Or.inr rfl)) (hd : (n == ("__debug__" : Str)) = false := by decide) (hcd : (n == ("__classdict__" : Str)) = false := by decide)
    (gi : Gl X "isinstance" := by rfl) (gb : Gl X b := by rfl) (hdb : (b == ("__debug__" : Str)) = false := by decide) 
    (hs : starEach [.Name n p1, .Name b p2] X.env = (false, eval (.Name n p1) X.env) :: starEach [.Name b p2] X.env := by rfl) (hpl : (backTo pos (starEach [.Name b p2] X.env)).any (·.1) = false := by rfl) :
    PE (X.suite a ((a, oe) :: pn)) (.Call (.Name "isinstance" p) [.Name n p1, .Name b p2] [] pos) (tM X.K W false (xIsE i a dd r)) := by
  by_cases hdd : dd = none
  · subst hdd
    refine (pe_callB (call_isE (X := X) (pn := pn) (excC_ok hC) hz hf) gi mi PyProof.Rows.boot_isinstance (pa_cons (pe_var (X := X.suite a ((a, oe) :: pn)) hN hv hd hcd) (pa_cons (pe_glob (X := X.suite a ((a, oe) :: pn)) gb mb (v := .ref (He.ga X.K b)) rfl hdb) pa_nil) hs) (by decide) (by decide) hs hpl).imp fun σ H Q ⟨c, ρ, k, ex, ok, hm, hk', hx⟩ => ?_
    unfold xIsE at hm
    cases q : ρ[i]? with
    | none => rw [q] at hm; exact hm.elim
    | some sl =>
      rw [q] at hm
      cases sl with
      | sh d =>
        cases d with
        | exo a' dd' fs =>
          obtain ⟨rfl, rfl, _, hm⟩ := hm
          obtain ⟨o, rl⟩ := ok.rel
          obtain ⟨v, e1, e2⟩ := rl.sh i _ q
          obtain ⟨rfl, _⟩ := rp_exo.mp e2
          exact ⟨_, e1, _, .ref (He.ga X.K b), r, rfl, (fun u ru => ru), of_decide_eq_true hk, hk' _ _ H hm ok.refl (Res.of (rp_bl.mpr rfl))⟩
        | _ => exact hm.elim
      | no => exact hm.elim
      | ow d => exact hm.elim
  · refine PE.imp (t := fun _ _ _ => False) ⟨fun _ _ _ _ _ _ h => h.elim⟩ fun σ H Q ⟨c, ρ, k, ex, ok, hm, hk', hx⟩ => ?_
    unfold xIsE at hm
    split at hm
    · exact hdd hm.2.2.1
    · exact hm
end
end DM
end
section
set_option Elab.async false
set_option linter.all false
set_option maxRecDepth 100000
set_option maxHeartbeats 4000000
namespace HT
open PySem PyProof.Rows
section
variable {prog : Program} {w : World} {A : Around} {E : Value → Shared → Prop} {s : Shared}
theorem adjust_rev (n : Nat) : Builtin.Slice.sliceAdjust none none (-1) (n : Int) = ((n : Int) - 1, -1) := by
  unfold Builtin.Slice.sliceAdjust
  simp
theorem places_rev (n : Nat) : Builtin.Slice.slicePlaces ((n : Int) - 1) (-1) (-1) = n := by
  unfold Builtin.Slice.slicePlaces
  rw [if_neg (by decide)]
  split
  · have : ((n : Int) - 1 - -1 - 1) / (- -1) = (n : Int) - 1 := by
      rw [show (- -1 : Int) = 1 from rfl, Int.ediv_one]; omega
    rw [this]; omega
  · omega
theorem pick_rev (xs : Array Value) : ((List.range xs.size).filterMap fun (m : Nat) => xs[((xs.size : Int) - 1 + (m : Int) * -1).toNat]?).toArray = xs.toList.reverse.toArray := by
  congr 1
  have key : ∀ (l : List Nat), (∀ m ∈ l, m < xs.size) → (l.filterMap fun (m : Nat) => xs[((xs.size : Int) - 1 + (m : Int) * -1).toNat]?) = l.map fun (m : Nat) => xs.getD (xs.size - 1 - m) .none := by
    intro l
    induction l with
    | nil => intro hl; rfl
    | cons a l ih =>
      intro hl
      have ha := hl a List.mem_cons_self
      rw [List.filterMap_cons, List.map_cons]
      have e1 : ((xs.size : Int) - 1 + (a : Int) * -1).toNat = xs.size - 1 - a := by omega
      have lt : xs.size - 1 - a < xs.size := by omega
      rw [e1, Array.getElem?_eq_getElem lt, ih (fun m hm => hl m (List.mem_cons_of_mem _ hm))]
      simp [Array.getD, lt]
  rw [key _ (fun m hm => List.mem_range.mp hm)]
  apply List.ext_getElem?
  intro i
  rw [List.getElem?_map]
  by_cases hi : i < xs.size
  · rw [List.getElem?_range hi, List.getElem?_reverse (by simpa using hi)]
    have lt : xs.size - 1 - i < xs.size := by omega
    simp [Array.getD, lt]
  · rw [List.getElem?_eq_none (by simpa using hi), List.getElem?_eq_none (by simpa using hi)]
    rfl
theorem applied_rev {sl : Addr} {vl vu vs : Value} {n : Nat} {Q : Int × Int × Nat → Shared → Prop} (hs : s.heap.IsSliceOf sl vl vu vs) (pl : IsPart vl none) (pu : IsPart vu none) (ps : IsPart vs (some (-1))) (h : Q (((n : Int) - 1), -1, n) s) : wpAny (model prog w) A (Builtin.Slice.sliceApplied (.ref sl) (pure (n : Int))) Q E s := by
  obtain ⟨os, hos, hcs, hds⟩ := id hs
  unfold Builtin.Slice.sliceApplied Builtin.Slice.sliceFields
  refine wpAny_bind (wpAny_bind (wpAny_field hos hds (x := vl) rfl (wpAny_bind (wpAny_field hos hds (x := vu) rfl (wpAny_bind (wpAny_field hos hds (x := vs) rfl (wpAny_pure ?_)))))))
  refine wpAny_bind (slicePart_ ps ?_)
  show wpAny _ _ (if ((-1 : Int) == 0) = true then _ else _) _ _ s
  rw [if_neg (by decide)]
  refine wpAny_bind (slicePart_ pl (wpAny_bind (slicePart_ pu (wpAny_bind (wpAny_pure ?_)))))
  show wpAny _ _ (match Builtin.Slice.sliceAdjust none none (-1) (n : Int) with | (lo, hi) => pure (lo, (-1 : Int), Builtin.Slice.slicePlaces lo hi (-1))) _ _ s
  rw [adjust_rev n]
  show wpAny _ _ (pure (((n : Int) - 1), (-1 : Int), Builtin.Slice.slicePlaces ((n : Int) - 1) (-1) (-1))) _ _ s
  rw [places_rev]
  exact wpAny_pure h
theorem getItem_tuple_rev {t sl : Addr} {items : Array Value} {vl vu vs : Value} {Q : Value → Shared → Prop} (ht : IsTup s.heap t items) (hs : s.heap.IsSliceOf sl vl vu vs) (pl : IsPart vl none) (pu : IsPart vu none) (ps : IsPart vs (some (-1)))
    (h : Q (.ref s.heap.objs.size) { s with heap := s.heap.push { cls := .type "tuple", data := .seq items.toList.reverse.toArray } })
    (hsz : items.size ≤ sizeLine) : wpAny (model prog w) A (getItem (.ref t) (.ref sl)) Q E s := by
  have htake : sizeOk (.seq items.toList.reverse.toArray) := by
    show items.toList.reverse.toArray.size ≤ sizeLine
    rw [List.size_toArray, List.length_reverse, Array.length_toList]
    exact hsz
  obtain ⟨os, hos, hcs, hds⟩ := id hs
  have hTs : s.TypeIs (.ref sl) "slice" := ⟨os, hos, hcs⟩
  unfold getItem
  try with_reducible refine wpAny_holding ?_
  first | refine wpAny_bind (wpAny_pure ?_) | skip
  refine wpAny_bind (wpAny_sequenceKey ht.typeIs (by decide) ?_)
  refine wpAny_bind (wpAny_callSpecial?_slot (name := Str.ofString "__getitem__") ht.typeIs PyProof.Rows.slot_tuple_getitem
    (wpAny_call_entry PyProof.Rows.slot_tuple_getitem ht.typeIs entry_tuple_getitem ?_ (args_tuple_getitem _ _)))
  show wpAny _ _ (Builtin.Tuple.tupleItemsOf (.ref t) >>= _) _ _ s
  refine wpAny_bind (tupleItemsOf_ ht ?_)
  refine wpAny_bind (wpAny_typeOf hTs ?_)
  rw [if_pos (by decide)]
  refine wpAny_bind (applied_rev hs pl pu ps ?_)
  show wpAny _ _ (if (((items.size : Int) - 1 == 0) && ((-1 : Int) == 1) && (items.size == items.size)) = true then _ else _) _ _ s
  rw [if_neg (by simp), pick_rev]
  first
    | exact wpAny_bind (m := Builtin.Tuple.tupleExact _) (wpAny_newObj_type (wpAny_pure ⟨_, rfl, wpAny_pure h⟩) htake)
    | exact wpAny_bind (m := Builtin.Tuple.tupleExact _) (wpAny_newObj_type (wpAny_bind (wpAny_pure (wpAny_pure ⟨_, rfl, wpAny_pure h⟩))) htake)
    | exact wpAny_bind (wpAny_bind (m := Builtin.Tuple.tupleExact _) (wpAny_newObj_type (wpAny_pure (wpAny_pure ⟨_, rfl, wpAny_pure h⟩)) htake))
    | exact wpAny_bind (wpAny_bind (m := Builtin.Tuple.tupleExact _) (wpAny_newObj_type (wpAny_pure ⟨_, rfl, wpAny_pure h⟩) htake))
end
end HT
namespace L2
open PySem PySem.Spec PyProof.Rows
section
variable {X : Cx}
def tRevT (K : PySem.W.Frag) (te : TE) : TE := fun σ H Q => te σ H fun x H1 => ∃ a xs, x = .ref a ∧ SqT K H1 a xs ∧ ∀ p, H1 p = none → Q (.ref p) (upd H1 p (.tup xs.reverse))
theorem pe_revT {e : Expr} {te : TE} {k : Nat} {p1 p2 p3 pos : Pos} (he : PE X e te) : PE X (.Subscript e (.Slice none none (some (.UnaryOp .USub (.Constant (.int 1) k p1) p2)) p3) pos) (tRevT X.K te) := by
  refine ⟨fun pins s σ H Q I h => ?_⟩
  refine Subscript_ (thn (he.run pins s σ H _ I h) fun v s1 ⟨x, H1, I1, r1, q1⟩ => ?_)
  obtain ⟨a, xs, ex, hx, q⟩ := q1
  subst ex
  cases r1
  have hst : PO X (some (.UnaryOp .USub (.Constant (.int 1) k p1) p2)) (tPart (tUn (rU fun i => .int (-i)) (tC (.int 1)))) := po_some (pe_un un_neg pe_int)
  refine wpAny_Slice (thn (po_none.run pins s1 σ H1 (fun o H2 => o = none ∧ H2 = H1) I1 ⟨rfl, rfl⟩) fun vl s2 ⟨l, H2, I2, pl, el, e2⟩ => ?_)
  subst el e2
  refine thn (po_none.run pins s2 σ H2 (fun o H3 => o = none ∧ H3 = H2) I2 ⟨rfl, rfl⟩) fun vu s3 ⟨u, H3, I3, pu, eu, e3⟩ => ?_
  subst eu e3
  refine thn (hst.run pins s3 σ H3 (fun o H4 => o = some (-1) ∧ H4 = H3) I3 ⟨1, rfl, -1, rfl, rfl, rfl⟩) fun vs s4 ⟨o, H4, I4, ps, eo, e4⟩ => ?_
  subst eo e4
  have I5 : Inv X pins σ H4 { s4 with heap := s4.heap.push { cls := .type "slice", data := .fields #[vl, vu, vs] } } := I4.kept (t' := s4.toks) fun b ob q => Heap.get?_push_of_some _ q
  obtain ⟨its, r, ht, hz⟩ := I5.tuple hx
  have hlen := r.length
  show wpAny (model X.prog X.w) X.A (subscriptTail e (.Slice none none (some (.UnaryOp .USub (.Constant (.int 1) k p1) p2)) p3) (.ref a) (.ref s4.heap.objs.size)) (EP X pins σ Q) X.xe { s4 with heap := s4.heap.push { cls := .type "slice", data := .fields #[vl, vu, vs] } }
  refine tail_any (ops := [.ref a, .ref s4.heap.objs.size]) (IsTup.typeIs ht) (PyProof.Rows.slot_tuple_getitem.lookup) ?_ (by with_unfolding_all rfl)
  refine HT.getItem_tuple_rev ht (Heap.IsSliceOf.new _ vl vu vs) pl pu ps ?_ (by rw [List.size_toArray]; omega)
  refine ⟨.ref _, _, I5.laid (t' := s4.toks) (o := .tup xs.reverse) (fun b ob q => Heap.get?_push_of_some _ q) (Nat.le_refl _) ?_, rfl, q _ (I5.hok.fresh (Nat.le_refl _))⟩
  exact ⟨by rw [List.length_reverse]; exact hz, _, r.reverse, _, Heap.get?_push_size _ rfl, rfl, 0, rfl⟩
end
end L2

namespace DM
open PySem L2 Evl
section
variable {X : Cx} {W : WX} {e a b : Expr} {pos : Pos} {m ma mb : MX}
def dRevT : D → (D → Prop) → Prop
  | .tup xs, k => k (.tup xs.reverse)
  | _, _ => False
theorem ce_revT {j p1 p2 p3} (h : PE X e (tM X.K W false m)) : PE X (.Subscript e (.Slice none none (some (.UnaryOp .USub (.Constant (.int 1) j p1) p2)) p3) pos) (tM X.K W false (xUn dRevT m)) :=
  (pe_revT h).imp fun σ H Q ⟨c, ρ, k, ex, ok, hm, hk, hx⟩ => ⟨c, ρ, _, ex, ok, hm, fun d v H1 kd g r => by
  cases d with
  | tup ds =>
    obtain ⟨a, xs, rfl, h1, hl, h2⟩ := rp_tup.mp r.sh
    have gg := ok.good.grow g
    exact ⟨a, xs, rfl, .inl (.inl (era_le _ _ h1)), fun pp hp => hk _ _ _ kd (g.trans (Grow.new gg hp)) (Res.of (rp_tupN gg hp (by rw [List.length_reverse]; exact hl) h2.rev))⟩
  | _ => exact kd.elim, hx⟩
/-- xs * n -/
theorem opd_rep {K : PySem.W.Frag} : OpD K true rRep dRep := fun bg P H dx dy x y k Q g r1 r2 hf hk => by
  cases dx <;> cases dy <;> first | exact hf.elim | skip
  obtain ⟨a1, xs, rfl, h1, l1, q1⟩ := rp_lst.mp r1
  rw [rp_int] at r2
  obtain ⟨⟨j1, j2, j3⟩, hf⟩ := hf
  refine ⟨a1, _, xs, rfl, r2, era_le _ _ h1, by omega, by omega, LN_size (by rw [q1.len]; exact j3), fun p hp => hk _ _ _ hf (Grow.new g hp) (res_lst g hp ?_ (q1.rep _))⟩
  rw [List.length_flatten, List.map_replicate, List.sum_replicate_nat, Nat.mul_comm]
  exact j3
theorem ce_rep (ha : PE X a (tM X.K W false ma)) (hb : PE X b (tM X.K W false mb)) : PE X (.BinOp a .Mult b pos) (tM X.K W true (xOp dRep ma mb)) := ce_op op_rep opd_rep ha hb
end
/-! ### what can be shown -/
mutual
def shw : D → Bool
  | .non => true
  | .bl _ => true
  | .int i => decide (0 ≤ i ∧ i < 10 ^ 12)
  | .str x => x.cps.toList.all fun c => decide (c < 16 ^ 8)
  | .lst xs => shws xs
  | .tup xs => shws xs
  | .ktp _ => false
  | .dct _ => false
  | .dtt _ => false
  | .ins _ _ => false
  | .new _ _ _ => false
  | .scr _ => false
  | .exo _ _ _ => false
  | .bag => false
def shws : List D → Bool
  | [] => true
  | d :: ds => shw d && shws ds
end
mutual
def wgt : D → Nat
  | .str x => x.cps.size
  | .lst xs => wgts xs
  | .tup xs => wgts xs
  | .non => 0
  | .bl _ => 0
  | .int _ => 0
  | .ktp _ => 0
  | .dct _ => 0
  | .dtt _ => 0
  | .ins _ _ => 0
  | .new _ _ _ => 0
  | .scr _ => 0
  | .exo _ _ _ => 0
  | .bag => 0
def wgts : List D → Nat
  | [] => 0
  | d :: ds => wgt d + 1 + wgts ds
end
theorem int_short {i : Int} (h0 : 0 ≤ i) (h1 : i < 10 ^ 12) : (PyData.shown (.int i)).length ≤ 12 := by
  have := PyProof.Rows.toString_length_le h0 (k := 12) (by decide) h1
  simpa [PyData.shown] using this
theorem int_log {i : Int} (h0 : 0 ≤ i) (h1 : i < 10 ^ 12) : i.natAbs.log2 < 1920 := by
  have : i.natAbs < 2 ^ 1920 := by
    have h2 : i.natAbs < 10 ^ 12 := by omega
    exact Nat.lt_of_lt_of_le h2 (Nat.le_trans (by decide : 10 ^ 12 ≤ 2 ^ 40) (Nat.pow_le_pow_right (by decide) (by decide)))
  by_cases hz : i.natAbs = 0
  · rw [hz]; decide
  · exact (Nat.log2_lt hz).mpr this
mutual
theorem shw_ok : ∀ d, shw d = true → (toP d).leavesShort 12 = true ∧ (toP d).showable = true ∧ (toP d).bulk = wgt d
  | .non, _ => by simp [toP, PyData.leavesShort, PyData.showable, PyData.bulk, wgt]
  | .bl _, _ => by simp [toP, PyData.leavesShort, PyData.showable, PyData.bulk, wgt]
  | .int i, h => by
    have h' : 0 ≤ i ∧ i < 10 ^ 12 := of_decide_eq_true (by simpa only [shw] using h)
    simp only [toP, PyData.leavesShort, PyData.showable, PyData.bulk, wgt]
    exact ⟨decide_eq_true (int_short h'.1 h'.2), decide_eq_true (int_log h'.1 h'.2), trivial⟩
  | .str x, h => by
    simp only [toP, PyData.leavesShort, PyData.showable, PyData.bulk, wgt]
    exact ⟨by simpa only [shw] using h, trivial, trivial⟩
  | .lst xs, h => by
    have := shws_ok xs (by simpa only [shw] using h)
    simpa only [toP, PyData.leavesShort, PyData.showable, PyData.bulk, wgt] using this
  | .tup xs, h => by
    have := shws_ok xs (by simpa only [shw] using h)
    simpa only [toP, PyData.leavesShort, PyData.showable, PyData.bulk, wgt] using this
  | .ktp _, h => by simp [shw] at h
  | .dct _, h => by simp [shw] at h
  | .dtt _, h => by simp [shw] at h
  | .ins _ _, h => by simp [shw] at h
  | .new _ _ _, h => by simp [shw] at h
  | .scr _, h => by simp [shw] at h
  | .exo _ _ _, h => by simp [shw] at h
  | .bag, h => by simp [shw] at h
theorem shws_ok : ∀ ds, shws ds = true → PyData.leavesShortAll 12 (toPs ds) = true ∧ PyData.showableAll (toPs ds) = true ∧ PyData.bulkAll (toPs ds) = wgts ds
  | [], _ => by simp [toPs, PyData.leavesShortAll, PyData.showableAll, PyData.bulkAll, wgts]
  | d :: ds, h => by
    simp only [shws, Bool.and_eq_true] at h
    obtain ⟨a1, a2, a3⟩ := shw_ok d h.1
    obtain ⟨b1, b2, b3⟩ := shws_ok ds h.2
    simp only [toPs, PyData.leavesShortAll, PyData.showableAll, PyData.bulkAll, wgts, a1, a2, a3, b1, b2, b3, Bool.and_self, and_self]
end
theorem okR_of {d : D} (h1 : shp d = true) (h2 : dep d ≤ 62) (h3 : shw d = true) (h4 : wgt d ≤ 7000) : okR d := by
  obtain ⟨a1, a2, a3⟩ := shw_ok d h3
  refine ⟨h1, h2, a2, ?_⟩
  have := PyData.shown_le_bulk 12 (by decide) _ a1
  rw [a3] at this
  show _ ≤ 100000
  omega
end DM
end
section
set_option Elab.async false
set_option linter.all false
set_option maxRecDepth 100000
set_option maxHeartbeats 4000000
/-! sorted of a list of data that are alike -/
namespace L2
open PySem PySem.Spec PyProof.Rows
section
variable {X : Cx} {β : Type}
def rSortG (K : PySem.W.Frag) (enc : β → PyData) (val : β → V) : List V → Hp → VK → Prop := fun vs H Q => ∃ (a : Addr) (bs : List β), vs = [V.ref a] ∧ SqL K H a (bs.map val) ∧ (∀ b ∈ bs, Dp K H (val b) (enc b)) ∧ PySem.W.AllAlike (bs.map enc) ∧ PySem.W.Sortable (bs.map enc) ∧ (∀ b ∈ bs, (enc b).depth ≤ 60) ∧
  ∀ p, H p = none → Q (.ref p) (upd H p (.lst ((bs.mergeSort (PySem.W.dataLe false enc)).map val)))
theorem each_vals {val : β → V} : ∀ {bs : List β} {us : List Value}, Vals (bs.map val) us → PySem.W.EachIs (fun u b => RelV (val b) u) us bs
  | [], us, h => by cases h; exact .nil
  | b :: bs, us, h => by
    cases h with
    | cons h1 h2 => exact .cons h1 (each_vals h2)
theorem vals_each {val : β → V} : ∀ {bs : List β} {us : List Value}, PySem.W.EachIs (fun u b => RelV (val b) u) us bs → Vals (bs.map val) us
  | [], us, h => by cases h; exact .nil
  | b :: bs, us, h => by
    cases h with
    | cons h1 h2 => exact .cons h1 (vals_each h2)
theorem each_reads {enc : β → PyData} {val : β → V} {pins : List (Addr × Obj)} {σ : L2.St} {H : Hp} {s : Shared} (I : Inv X pins σ H s) : ∀ {bs : List β} {us : List Value}, (∀ b ∈ bs, Dp X.K H (val b) (enc b)) → Vals (bs.map val) us → PySem.W.EachIs (fun u b => ∃ as, Reads s.heap u (enc b) as) us bs
  | [], us, _, h => by cases h; exact .nil
  | b :: bs, us, hd, h => by
    cases h with
    | cons h1 h2 => exact .cons (Dp.reads I _ _ _ (hd b List.mem_cons_self) h1) (each_reads I (fun b hb => hd b (List.mem_cons_of_mem _ hb)) h2)
theorem cr_sortG {enc : β → PyData} {val : β → V} (hu : X.A.units + 64 < cLine) : CallR X (.builtin "sorted") (rSortG X.K enc val) := by
  intro pins s σ H vs us Q I r h
  obtain ⟨a, bs, rfl, hs, hd, hal, hk, hdep, q⟩ := h
  obtain ⟨its, rv, hl, hz⟩ := I.list hs
  rw [Vals.ref1 r]
  have hz' : bs.length ≤ sizeLine := by rw [List.length_map] at hz; exact hz
  refine PySem.W.sorted_data hl.isList (each_vals rv) (each_reads I hd rv) hal hk hz' (fun b hb => by have := hdep b hb; omega) fun out hlen ho => ?_
  obtain ⟨ep, he'⟩ := PyProof.Rows.sortedAll_at s.heap its out.toArray
  have hv := vals_each ho
  have hl2 : ((bs.mergeSort (PySem.W.dataLe false enc)).map val).length ≤ sizeLine := by
    rw [List.length_map, List.length_mergeSort]
    exact hz'
  exact ⟨.ref _, upd H (s.heap.objs.size + 1) (.lst ((bs.mergeSort (PySem.W.dataLe false enc)).map val)), I.laid (t' := s.toks) (fun _ _ => PyProof.Rows.sortedAll_old) (Nat.le_succ _) ⟨hl2, out, ep, hv, he'⟩, rfl, q _ (I.hok.fresh (Nat.le_succ _))⟩
end
end L2
namespace DM
open PySem L2 Evl
/-- the order of data -/
def leD (x y : D) : Bool := !PySem.W.dataLt (toP y) (toP x)
structure SortOk (ds : List D) : Prop where
  s : ∀ d ∈ ds, shp d = true ∧ dep d ≤ 60
  al : ∀ d ∈ ds, ∀ e ∈ ds, PySem.W.alike (toP d) (toP e) = true
  tp : ∀ d ∈ ds, ∃ x r, d = .tup (x :: r)
def bSortD : List D → (D → Prop) → Prop
  | [.lst ds], k => SortOk ds ∧ k (.lst (ds.mergeSort leD))
  | _, _ => False
theorem RpL.zip {K : PySem.W.Frag} {bg : Bg} {H : Hp} : ∀ {ds : List D} {xs : List V}, RpL K bg H ds xs → ∃ ps : List (V × D), ps.map (·.1) = xs ∧ ps.map (·.2) = ds ∧ ∀ p ∈ ps, Rp K bg H p.2 p.1
  | [], xs, h => ⟨[], by rw [rpl_nil.mp h] <;> rfl, rfl, fun _ h => nomatch h⟩
  | d :: ds, xs, h => by
    obtain ⟨x, r, rfl, h1, h2⟩ := rpl_cons.mp h
    obtain ⟨ps, e1, e2, e3⟩ := RpL.zip h2
    refine ⟨(x, d) :: ps, by rw [List.map_cons, e1], by rw [List.map_cons, e2], fun p hp => ?_⟩
    rcases List.mem_cons.mp hp with rfl | hp
    · exact h1
    · exact e3 p hp
theorem RpL.unzip {K : PySem.W.Frag} {bg : Bg} {H : Hp} : ∀ {ps : List (V × D)}, (∀ p ∈ ps, Rp K bg H p.2 p.1) → RpL K bg H (ps.map (·.2)) (ps.map (·.1))
  | [], _ => rpl_nil.mpr rfl
  | p :: ps, h => rpl_cons.mpr ⟨p.1, ps.map (·.1), rfl, h p List.mem_cons_self, RpL.unzip fun q hq => h q (List.mem_cons_of_mem _ hq)⟩
theorem calld_sortD {K : PySem.W.Frag} : CallD K true (rSortG K (fun p : V × D => toP p.2) (·.1)) bSortD := fun bg P H ds vs k Q g r hf hk => by
  obtain ⟨d, rfl, hf⟩ := one_of hf (fun h => h) (fun a b r h => by cases a <;> exact h)
  obtain ⟨v, r', rfl, h1, h2⟩ := rpl_cons.mp r
  cases rpl_nil.mp h2
  cases d with
  | lst es =>
    obtain ⟨so, hf2⟩ := hf
    obtain ⟨a, ys, rfl, h1, hl, h3⟩ := rp_lst.mp h1
    obtain ⟨ps, e1, e2, e3⟩ := h3.zip
    have mem : ∀ p ∈ ps, p.2 ∈ es := fun p hp => by rw [← e2]; exact List.mem_map_of_mem hp
    have me : ∀ q ∈ ps.map (fun p : V × D => toP p.2), ∃ d ∈ es, q = toP d := fun q hq => by
      obtain ⟨p, hp, rfl⟩ := List.mem_map.mp hq
      exact ⟨p.2, mem p hp, rfl⟩
    refine ⟨a, ps, rfl, .inl (.inl (by rw [e1]; exact era_le _ _ h1)), fun p hp => Dp.up era_le (so.s _ (mem p hp)).1 (e3 p hp), fun q hq q' hq' => ?_, .inl fun q hq => ?_, fun p hp => ?_, fun pp hp => ?_⟩
    · obtain ⟨d, hd, rfl⟩ := me q hq
      obtain ⟨d', hd', rfl⟩ := me q' hq'
      exact so.al d hd d' hd'
    · obtain ⟨d, hd, rfl⟩ := me q hq
      obtain ⟨x, r, rfl⟩ := so.tp d hd
      exact ⟨toP x, toPs r, by simp only [toP, toPs]⟩
    · rw [toP_dep]; exact (so.s _ (mem p hp)).2
    · have q1 : (ps.mergeSort (PySem.W.dataLe false fun p : V × D => toP p.2)).map (·.2) = es.mergeSort leD := by
        rw [← e2]
        exact List.map_mergeSort fun a _ b _ => rfl
      have q2 := RpL.unzip (K := K) (bg := bg) (H := era P H) (ps := ps.mergeSort (PySem.W.dataLe false fun p : V × D => toP p.2)) fun p hp => e3 p (List.mem_mergeSort.mp hp)
      rw [q1] at q2
      exact hk _ _ _ hf2 (Grow.new g hp) (res_lst g hp (by rw [List.length_mergeSort]; exact hl) q2)
  | _ => exact hf.elim
section
variable {X : Cx} {W : WX} {fr : Bool} {e a b : Expr} {p pos : Pos} {m ma mb : MX} {n : Nat}
theorem c_sortD (hm : X.mg "sorted" = none) (hu : X.A.units + 64 < cLine) (h : PE X e (tM X.K W false m)) (hg : Gl X "sorted" := by rfl) (he : starEach [e] X.env = (false, eval e X.env) :: starEach [] X.env := by rfl) : PE X (.Call (.Name "sorted" p) [e] [] pos) (tM X.K W true (xB1 bSortD (aCons m aNil))) := ce_cb (cr_sortG hu) calld_sortD hm PyProof.Rows.boot_sorted (ca_cons h ca_nil he) hg (by decide) (by decide) he (by rfl)
end
end DM
end
section
set_option Elab.async false
set_option linter.all false
set_option maxRecDepth 100000
set_option maxHeartbeats 4000000
/-! dicts whose keys are tuples -/
namespace PySem
open Sem (wp)
section
variable {prog : Program} {w : World} {K : Type} [DecidableEq K] {knd : HeapKind prog w K} {A : Around} {E : Value → Shared → Prop} {s : Shared}
theorem wpAny_Dict_pairsO {env : Env} {keys : List (Option Expr)} {values : List Expr} {pos : Pos} {pairs : List (Sem Value × Sem Value)} {Q : Value → Shared → Prop} (hu : knd.room A)
    (hshape : (evalEachOpt keys env).zip ((evalEach values env).map fun v => do let x ← v; standAt pos; pure x) = pairs.map fun p => (some p.1, p.2)) (h0 : pairs ≠ []) (hlen : pairs.length ≤ 15)
    (h : wpAny (model prog w) A (evalPairs pairs) (fun vs s₁ => ∃ ps, CarriesH knd s₁.heap vs ps ∧ s₁.heap.DictOfH knd s.heap.objs.size [] ∧
      ∀ h' tk, h'.DictOfH knd s.heap.objs.size (storedAllH [] ps) → Heap.SameBut s.heap.objs.size s₁.heap h' → Q (.ref s.heap.objs.size) { s₁ with heap := h', toks := tk }) E
      { s with heap := s.heap.push { cls := .type "dict", data := .dict #[] } }) :
    wpAny (model prog w) A (eval (.Dict keys values pos) env) Q E s := by
  rw [arm_eval_Dict, hshape, dictDisplay_pairs pairs h0 (by omega)]
  exact wpAny_bind (wpAny_standAt (wpAny_bind (wpAny_subDictH (knd := knd) (Q := fun d s' => wpAny (model prog w) A (pure (Value.ref d)) Q E s') hu hlen
    (wpAny_mono h (fun vs s₁ h₁ => by obtain ⟨ps, hc, hm, hq⟩ := h₁; exact ⟨ps, hc, hm, fun h' tk a b => wpAny_pure (hq h' tk a b)⟩) fun _ _ e => e))))
end
end PySem
namespace L2
open PySem PySem.Spec PyProof.Rows
section
variable {X : Cx}
/-- what an expression gives is frozen for good -/
theorem pe_frz {e : Expr} {t : TE} (h : PE X e t) : PE X e (fun σ H Q => t σ H fun v H1 => ∃ a u, v = .ref a ∧ H1 a = some u ∧ Mut (some u) ∧ ∀ od, Q v (upd H1 a (.frz od u))) := by
  refine ⟨fun pins s σ H Q I hw => thn (h.run pins s σ H _ I hw) fun v s1 ⟨x, H1, I1, r, a, u, ex, ha, mu, q⟩ => ?_⟩
  obtain ⟨od, I2⟩ := I1.lock ha mu
  exact ⟨x, _, I2, r, q od⟩
theorem op_inDk (hu : X.A.units + 1 < cLine) : OpR X (compareOp .In) (fun x y H Q => ∃ a o, y = .ref a ∧ DGet H a x o ∧ Q (.bl o.isSome) H) := by
  intro pins s σ H x y v u Q I rx ry h
  obtain ⟨a, o, rfl, g, q⟩ := h
  cases ry
  exact d_in hu I g rx fun s' I' => ⟨.bl _, H, I', rfl, q⟩
theorem op_ninDk (hu : X.A.units + 1 < cLine) : OpR X (compareOp .NotIn) (fun x y H Q => ∃ a o, y = .ref a ∧ DGet H a x o ∧ Q (.bl (!o.isSome)) H) := by
  intro pins s σ H x y v u Q I rx ry h
  obtain ⟨a, o, rfl, g, q⟩ := h
  cases ry
  exact d_notIn hu I g rx fun s' I' => ⟨.bl _, H, I', rfl, q⟩
/-- {k: v}, k a tuple -/
def tDisp1T (tk tv : TE) : TE := fun σ H Q => ∀ p, H p = none → tk σ (upd H p (.dT [])) fun x H1 => tv σ H1 fun y H2 => ∃ b k, x = .ref b ∧ H2 b = some (.tup (k.map kV)) ∧ H2 p = some (.dT []) ∧ Q (.ref p) (upd H2 p (.dT [(k, y)]))
theorem pe_disp1T {k v : Expr} {pos : Pos} {tk tv : TE} (hu : X.A.units + 1 < cLine) (hk : PE X k tk) (hv : PE X v tv) : PE X (.Dict [some k] [v] pos) (tDisp1T tk tv) := by
  refine ⟨fun pins s σ H Q I q => ?_⟩
  have hn := I.hok.fresh (Nat.le_refl s.heap.objs.size)
  have I1 := I.laid (a := s.heap.objs.size) (o := .dT []) (h' := s.heap.push { cls := .type "dict", data := .dict #[] }) (t' := s.toks) (fun _ _ q => Heap.get?_push_of_some _ q) (Nat.le_refl _) (dt_empty s.heap I.big)
  have pp : PPs X pos [some k] [v] [(tk, tv)] := pps_cons hk hv pps_nil
  refine wpAny_Dict_pairsO (knd := tupleKind (mixKind X.prog X.w)) (pairs := pairTrees [some k] [v] X.env pos) (show X.A.units < cLine by omega) (zip_pairTrees [some k] [v] X.env pos rfl rfl) (fun z => ?_) (by rw [pairTrees_length [some k] [v] X.env pos rfl rfl]; show 1 ≤ 15; decide) ?_
  · have := pairTrees_length [some k] [v] X.env pos rfl rfl
    rw [z] at this; cases this
  refine thn (pp.run pins _ σ _ (fun ps H2 => match ps with
    | [(x, y)] => ∃ b kk, x = .ref b ∧ H2 b = some (.tup (kk.map kV)) ∧ H2 s.heap.objs.size = some (.dT []) ∧ Q (.ref s.heap.objs.size) (upd H2 s.heap.objs.size (.dT [(kk, y)]))
    | _ => False) I1 (q _ hn)) fun ws s2 ⟨ps, H2, I2, rel, hq⟩ => ?_
  match ps, hq with
  | [(x, y)], ⟨b, kk, ex, eb, e, q2⟩ =>
    subst ex
    cases rel with
    | @cons _ wv _ _ h1 h2 =>
      cases h2
      obtain ⟨wk, wvv⟩ := wv
      obtain ⟨rk, rv⟩ := h1
      obtain rfl : wk = Value.ref b := rk
      obtain ⟨z, hd, xs, rel0, dd⟩ := dt_of I2.hok e
      cases rel0
      refine ⟨[(kk, b, wvv)], ⟨rfl, rfl, key_of I2.hok eb, trivial⟩, dd, fun h' tk' dd' hs => ⟨.ref s.heap.objs.size, _, ?_, rfl, q2⟩⟩
      obtain ⟨qo, es, ep, hqo, h2, h3, h4, h6, h5⟩ := dd'
      have e1 : storedAllH ([] : List (List Key × Addr × Value)) [(kk, b, wvv)] = [(kk, b, wvv)] := rfl
      rw [e1] at h4 h6 h5
      refine d_write I2 (by rw [e]; exact True.intro) hs ⟨qo, hqo⟩ ⟨by show 1 ≤ sizeLine; decide, hd, _, .cons ⟨rfl, ?_, rv⟩ .nil, qo, es, ep, hqo, h2, h3, h4, h5⟩
      rw [upd_ne (ne_of eb e (fun z => nomatch z))]
      exact eb
end
end L2
namespace DM
open PySem L2 Evl
/-! ### in, not in -/
def dInK : CD
  | x, .dtt kvs, k => (match keyT x with
    | some z => k ((valT kvs z).isSome)
    | none => False)
  | x, .dct kvs, k => (match keyD x with
    | some z => k ((valD kvs z).isSome)
    | none => False)
  | _, _, _ => False
def dNotInK : CD
  | x, .dtt kvs, k => (match keyT x with
    | some z => k (!(valT kvs z).isSome)
    | none => False)
  | x, .dct kvs, k => (match keyD x with
    | some z => k (!(valD kvs z).isSome)
    | none => False)
  | _, _, _ => False
theorem RpT.there {K : PySem.W.Frag} {bg : Bg} {H : Hp} {k : List Key} {ds : List (List Key × D)} {xs : List (List Key × V)} (h : RpT K bg H ds xs) : (valV xs k).isSome = (valT ds k).isSome := by
  cases q : valT ds k with
  | none => rw [h.val.1 q] <;> rfl
  | some d => obtain ⟨v, e, _⟩ := h.val.2 d q; rw [e] <;> rfl
theorem RpK.there {K : PySem.W.Frag} {bg : Bg} {H : Hp} {k : Key} {ds : List (Key × D)} {xs : List (Key × V)} (h : RpK K bg H ds xs) : (valV xs k).isSome = (valD ds k).isSome := by
  cases q : valD ds k with
  | none => rw [h.val.1 q] <;> rfl
  | some d => obtain ⟨v, e, _⟩ := h.val.2 d q; rw [e] <;> rfl
theorem cmpd_inK {K : PySem.W.Frag} : CmpD K (fun x y H Q => ∃ a o, y = .ref a ∧ DGet H a x o ∧ Q (.bl o.isSome) H) dInK := fun bg P H dx dy x y k Q g r1 r2 hf hk => by
  cases dy with
  | dtt kvs =>
    have hf' : (match keyT dx with | some z => k ((valT kvs z).isSome) | none => False) := by cases dx <;> exact hf
    cases q : keyT dx with
    | none => rw [q] at hf'; exact hf'.elim
    | some z =>
      rw [q] at hf'
      obtain ⟨a, xs, rfl, h1, _, h3⟩ := rp_dtt.mp r2
      obtain ⟨kb, rfl, hb, _⟩ := rp_keyT r1 q
      refine ⟨a, _, rfl, .inr ⟨xs, z, kb, ex_rd era_le h1, rfl, hb, rfl⟩, ?_⟩
      rw [h3.there]
      exact hk _ hf'
  | dct kvs =>
    have hf' : (match keyD dx with | some z => k ((valD kvs z).isSome) | none => False) := by cases dx <;> exact hf
    cases q : keyD dx with
    | none => rw [q] at hf'; exact hf'.elim
    | some z =>
      rw [q] at hf'
      obtain ⟨a, xs, rfl, h1, _, h3⟩ := rp_dct.mp r2
      refine ⟨a, _, rfl, .inl ⟨xs, z, ex_rd era_le h1, rp_key r1 q, rfl⟩, ?_⟩
      rw [h3.there]
      exact hk _ hf'
  | _ => cases dx <;> exact hf.elim
theorem cmpd_ninK {K : PySem.W.Frag} : CmpD K (fun x y H Q => ∃ a o, y = .ref a ∧ DGet H a x o ∧ Q (.bl (!o.isSome)) H) dNotInK := fun bg P H dx dy x y k Q g r1 r2 hf hk => by
  cases dy with
  | dtt kvs =>
    have hf' : (match keyT dx with | some z => k (!(valT kvs z).isSome) | none => False) := by cases dx <;> exact hf
    cases q : keyT dx with
    | none => rw [q] at hf'; exact hf'.elim
    | some z =>
      rw [q] at hf'
      obtain ⟨a, xs, rfl, h1, _, h3⟩ := rp_dtt.mp r2
      obtain ⟨kb, rfl, hb, _⟩ := rp_keyT r1 q
      refine ⟨a, _, rfl, .inr ⟨xs, z, kb, ex_rd era_le h1, rfl, hb, rfl⟩, ?_⟩
      rw [h3.there]
      exact hk _ hf'
  | dct kvs =>
    have hf' : (match keyD dx with | some z => k (!(valD kvs z).isSome) | none => False) := by cases dx <;> exact hf
    cases q : keyD dx with
    | none => rw [q] at hf'; exact hf'.elim
    | some z =>
      rw [q] at hf'
      obtain ⟨a, xs, rfl, h1, _, h3⟩ := rp_dct.mp r2
      refine ⟨a, _, rfl, .inl ⟨xs, z, ex_rd era_le h1, rp_key r1 q, rfl⟩, ?_⟩
      rw [h3.there]
      exact hk _ hf'
  | _ => cases dx <;> exact hf.elim
section
variable {X : Cx} {W : WX} {fr : Bool} {e a b k v : Expr} {p pos pos' : Pos} {m ma mb mk me : MX} {n : Nat}
theorem c_inK (hu : X.A.units + 64 < cLine) (ha : PE X a (tM X.K W false ma)) (hb : PE X b (tM X.K W false mb)) (hm : behindInMarks .In b = false := by first | exact nomark _ | rfl) : PE X (.Compare a [.In] [b] pos) (tM X.K W false (xCmp dInK ma mb)) := ce_cmp (op_inDk (u1 hu)) cmpd_inK ha hb hm
theorem t_inK (hu : X.A.units + 64 < cLine) (ha : PE X a (tM X.K W false ma)) (hb : PE X b (tM X.K W false mb)) (hm : behindInMarks .In b = false := by first | exact nomark _ | rfl) : PT X (.Compare a [.In] [b] pos) (tT X.K W (tCmpM dInK ma mb)) := ct_cmp (op_inDk (u1 hu)) cmpd_inK ha hb hm
theorem c_ninK (hu : X.A.units + 64 < cLine) (ha : PE X a (tM X.K W false ma)) (hb : PE X b (tM X.K W false mb)) (hm : behindInMarks .NotIn b = false := by first | exact nomark _ | rfl) : PE X (.Compare a [.NotIn] [b] pos) (tM X.K W false (xCmp dNotInK ma mb)) := ce_cmp (op_ninDk (u1 hu)) cmpd_ninK ha hb hm
theorem t_ninK (hu : X.A.units + 64 < cLine) (ha : PE X a (tM X.K W false ma)) (hb : PE X b (tM X.K W false mb)) (hm : behindInMarks .NotIn b = false := by first | exact nomark _ | rfl) : PT X (.Compare a [.NotIn] [b] pos) (tT X.K W (tCmpM dNotInK ma mb)) := ct_cmp (op_ninDk (u1 hu)) cmpd_ninK ha hb hm
/-! ### {k: v} -/
def xDisp1T (mk mv : MX) : MX := fun ρ k ex => mk ρ (fun x => mv ρ (fun y => match keyT x with
  | some z => k (.dtt [(z, y)])
  | none => False) ex) ex
theorem ce_disp1T (hu : X.A.units + 64 < cLine) (hk : PE X k (tM X.K W false mk)) (hv : PE X v (tM X.K W false me)) : PE X (.Dict [some k] [v] pos) (tM X.K W true (xDisp1T mk me)) :=
  (pe_disp1T (u1 hu) hk hv).imp fun σ H Q ⟨c, ρ, k, ex, ok, hm, hk, hx⟩ => fun pp hpp => by
    have gr := Grow.new (o := .dT []) ok.good hpp
    have ok1 := ok.add gr hpp (by rw [upd_same]; exact fun z => nomatch z)
    have hxx : ∀ x cls dd H', ex x → Grow c.b (upd H pp (.dT [])) H' → ExR X.K c.b (era (pp :: c.P) H') cls dd x → W cls dd σ H' := fun x cls dd H' e g z => by
      have ee : Ex (era (pp :: c.P) H') (era c.P H') := era_sub fun a ha => List.mem_cons_of_mem _ ha
      exact hx x cls dd H' e (gr.trans g) ⟨z.1, z.2.elim .inl fun ⟨nn, q, fs, a1, a2, a3⟩ => .inr ⟨nn, q, fs, a1, ee _ _ a2, RpF.mono ee _ _ a3⟩⟩
    refine ⟨_, ρ, _, ex, ok1, hm, fun d1 v1 H1 k1 g1 r1 => ⟨_, ρ, _, ex, ok1.grow g1, k1, fun d2 v2 H2 k2 g2 r2 => ?_, fun x cls dd H' e g z => hxx x cls dd H' e (g1.trans g) z⟩, hxx⟩
    cases q : keyT d1 with
    | none => rw [q] at k2; exact k2.elim
    | some z =>
      rw [q] at k2
      have nb : ∀ q, c.b = some q → pp ≠ q.1 := fun q hq z => ok.good.al pp (by rw [z]; exact (ok.good.bag q hq).1) hpp
      have g := g1.trans g2
      have hpp2 : H2 pp = some (.dT []) := g.keep _ _ nb upd_same
      obtain ⟨kb, rfl, hb, _⟩ := rp_keyT (Rp.mono ((ok1.grow g1).good.era g2) _ _ r1.sh) q
      refine ⟨kb, z, rfl, hb, hpp2, hk _ _ _ k2 ⟨fun a o hb e => by rw [upd_ne (ne_of_none e hpp)]; exact (gr.trans g).keep a o hb e, fun q hq => ?_⟩ ?_⟩
      · obtain ⟨ne, x0, x1, x2, ns, b1, b2, b3⟩ := g.bag q hq
        have m1 : q.1 ≠ pp := fun z => nb q hq z.symm
        have m2 : q.2 ≠ pp := fun z => ok.good.al pp (by rw [← z]; exact (ok.good.bag q hq).2.1) hpp
        exact ⟨ne, x0, x1, x2, ns, by rw [upd_ne m1]; exact b1, by rw [upd_ne m2]; exact b2, b3⟩
      · refine (.inl ⟨pp, rfl, hpp, [(z, v2)], upd_same, by show 1 ≤ 100000; decide, ?_⟩)
        rw [era_upd List.mem_cons_self]
        exact rpt_cons.mpr ⟨v2, [], rfl, r2.sh, rpt_nil.mpr rfl⟩
def xDnewT : MX := fun _ k _ => k (.dtt [])
theorem ce_dnewT : PE X (.Dict [] [] pos) (tM X.K W true xDnewT) := pe_dnewT.imp fun σ H Q ⟨c, ρ, k, ex, ok, hm, hk, hx⟩ => fun pp hpp =>
  hk _ _ _ hm (Grow.new ok.good hpp) (.inl ⟨pp, rfl, hpp, [], upd_same, Nat.zero_le _, rpt_nil.mpr rfl⟩)
/-! ### d[k], d owned -/
def xOwnIx (i : Nat) (mk : MX) : MX := fun ρ k ex => match ρ[i]? with
  | some (.ow (.dtt kvs)) => mk ρ (fun y => match keyT y with
    | some z => (match valT kvs z with
      | some d => k d
      | none => False)
    | none => False) ex
  | some (.ow (.dct kvs)) => mk ρ (fun y => match keyD y with
    | some z => (match valD kvs z with
      | some d => k d
      | none => False)
    | none => False) ex
  | _ => False
theorem ce_ownIx (i : Nat) {x : Str} {px : Pos} {ix : Expr} (hu : X.A.units + 64 < cLine) (hix : PE X ix (tM X.K W false mk)) (hN : X.N[i]? = some x := by rfl) (hv : Vis X.env.scope x := by first | exact Or.inl rfl | exact Or.inr (Or.inl rfl) | exact Or.inr (Or.inr rfl)) (hd : (x == ("__debug__" : Str)) = false := by decide) (hcd : (x == ("__classdict__" : Str)) = false := by decide) (hs : PlainIx ix := by intro _ _; rfl) :
    PE X (.Subscript (.Name x px) ix pos) (tM X.K W false (xOwnIx i mk)) := (pe_ix (ix_dict (u1 hu)) (pe_var hN hv hd hcd) hix hs).imp fun σ H Q ⟨c, ρ, k, ex, ok, hm, hk, hx⟩ => by
  unfold xOwnIx at hm
  split at hm
  · rename_i kvs hq
    obtain ⟨o, rl⟩ := ok.rel
    obtain ⟨e1, e2, e3, e4⟩ := rl.ow i _ hq
    refine ⟨_, e1, c, ρ, _, ex, ok, hm, fun y vy H1 ky g r => ?_, hx⟩
    cases q : keyT y with
    | none => rw [q] at ky; exact ky.elim
    | some z =>
      rw [q] at ky
      have ky : (match valT kvs z with | some d => k d | none => False) := ky
      cases q2 : valT kvs z with
      | none => rw [q2] at ky; exact ky.elim
      | some d =>
        rw [q2] at ky
        have nb : ∀ p, c.b = some p → o i ≠ p.1 := fun p hb z => e3 (by rw [z]; exact (ok.bag0 p hb).1)
        obtain ⟨xs, h1, h2, h3⟩ := e4.grow ok.good g nb
        obtain ⟨v, w1, w2⟩ := h3.val.2 d q2
        obtain ⟨kb, rfl, hb, _⟩ := rp_keyT r.sh q
        exact ⟨o i, v, rfl, .inr ⟨xs, z, kb, .inl h1, rfl, hb, w1.symm⟩, hk d v H1 ky g (Res.of w2)⟩
  · rename_i kvs hq
    obtain ⟨o, rl⟩ := ok.rel
    obtain ⟨e1, e2, e3, e4⟩ := rl.ow i _ hq
    refine ⟨_, e1, c, ρ, _, ex, ok, hm, fun y vy H1 ky g r => ?_, hx⟩
    cases q : keyD y with
    | none => rw [q] at ky; exact ky.elim
    | some z =>
      rw [q] at ky
      have ky : (match valD kvs z with | some d => k d | none => False) := ky
      cases q2 : valD kvs z with
      | none => rw [q2] at ky; exact ky.elim
      | some d =>
        rw [q2] at ky
        have nb : ∀ p, c.b = some p → o i ≠ p.1 := fun p hb z => e3 (by rw [z]; exact (ok.bag0 p hb).1)
        obtain ⟨xs, h1, h2, h3⟩ := e4.grow ok.good g nb
        obtain ⟨v, w1, w2⟩ := h3.val.2 d q2
        exact ⟨o i, v, rfl, .inl ⟨xs, z, .inl h1, rp_key r.sh q, w1.symm⟩, hk d v H1 ky g (Res.of w2)⟩
  · exact hm.elim
end
end DM
namespace DM
open PySem L2 Evl
/-! ### d[k] = v, d owned, the keys tuples -/
def putT (kvs : List (List Key × D)) (k : List Key) (v : D) : List (List Key × D) :=
  if (kvs.any fun kv => decide (kv.1 = k)) = true then kvs.map (fun kv => if kv.1 = k then (kv.1, v) else kv) else kvs ++ [(k, v)]
theorem RpT.anyk {K : PySem.W.Frag} {bg : Bg} {H : Hp} {k : List Key} : ∀ {ds : List (List Key × D)} {xs : List (List Key × V)}, RpT K bg H ds xs → (ds.any fun kv => decide (kv.1 = k)) = xs.any fun kv => decide (kv.1 = k)
  | [], xs, h => by rw [rpt_nil.mp h] <;> rfl
  | (k', d) :: ds, xs, h => by
    obtain ⟨x, r, rfl, h1, h2⟩ := rpt_cons.mp h
    rw [List.any_cons, List.any_cons, RpT.anyk h2]
theorem RpT.put1 {K : PySem.W.Frag} {bg : Bg} {H : Hp} {k : List Key} {d : D} {v : V} (hv : Rp K bg H d v) : ∀ {ds : List (List Key × D)} {xs : List (List Key × V)}, RpT K bg H ds xs → RpT K bg H (ds.map (fun kv => if kv.1 = k then (kv.1, d) else kv)) (xs.map (fun kv => if kv.1 = k then (kv.1, v) else kv))
  | [], xs, h => by rw [rpt_nil.mp h]; exact rpt_nil.mpr rfl
  | (k', d') :: ds, xs, h => by
    obtain ⟨x, r, rfl, h1, h2⟩ := rpt_cons.mp h
    rw [List.map_cons, List.map_cons]
    by_cases e : k' = k
    · rw [if_pos e, if_pos e]
      exact rpt_cons.mpr ⟨v, _, rfl, hv, RpT.put1 hv h2⟩
    · rw [if_neg e, if_neg e]
      exact rpt_cons.mpr ⟨x, _, rfl, h1, RpT.put1 hv h2⟩
theorem RpT.snoc {K : PySem.W.Frag} {bg : Bg} {H : Hp} {k : List Key} {d : D} {v : V} (hv : Rp K bg H d v) : ∀ {ds : List (List Key × D)} {xs : List (List Key × V)}, RpT K bg H ds xs → RpT K bg H (ds ++ [(k, d)]) (xs ++ [(k, v)])
  | [], xs, h => by rw [rpt_nil.mp h]; exact rpt_cons.mpr ⟨v, [], rfl, hv, rpt_nil.mpr rfl⟩
  | (k', d') :: ds, xs, h => by
    obtain ⟨x, r, rfl, h1, h2⟩ := rpt_cons.mp h
    exact rpt_cons.mpr ⟨x, _, rfl, h1, RpT.snoc hv h2⟩
theorem RpT.put {K : PySem.W.Frag} {bg : Bg} {H : Hp} {k : List Key} {d : D} {v : V} {ds : List (List Key × D)} {xs : List (List Key × V)} (h : RpT K bg H ds xs) (hv : Rp K bg H d v) : RpT K bg H (putT ds k d) (putK xs k v) := by
  unfold putT putK
  rw [RpT.anyk h]
  split
  · exact RpT.put1 hv h
  · exact RpT.snoc hv h
theorem putT_len (kvs : List (List Key × D)) (k : List Key) (v : D) : (putT kvs k v).length ≤ kvs.length + 1 := by
  unfold putT
  split
  · rw [List.length_map]; omega
  · rw [List.length_append]; exact Nat.le_refl _
def sSetT (i : Nat) (mk me : MX) : MS := fun M ρ => match ρ[i]? with
  | some (.ow (.dtt kvs)) => me ρ (fun d => mk ρ (fun y => match keyT y with
    | some k => kvs.length < LN ∧ M.nx (ρ.set i (.ow (.dtt (putT kvs k d))))
    | none => False) (M.ex ρ)) (M.ex ρ)
  | _ => False
section
variable {X : Cx} {W : WX} {fr : Bool} {e a b k v tg : Expr} {p pos pos' : Pos} {m ma mb mk me : MX} {n : Nat}
theorem cs_setT (i : Nat) {x : Str} {px : Pos} {mk : MX} {ix : Expr} (hu : X.A.units + 1 < cLine) (hix : PE X ix (tM X.K W false mk)) (h : PE X e (tM X.K W false me)) (hN : X.N[i]? = some x := by rfl) (hv : Vis X.env.scope x := by first | exact Or.inl rfl | exact Or.inr (Or.inl rfl) | exact Or.inr (Or.inr rfl)) (hd : (x == ("__debug__" : Str)) = false := by decide) (hcd : (x == ("__classdict__" : Str)) = false := by decide)
    (hs : swapsWith e (some (.Subscript (.Name x px) ix pos')) pos.line X.env = pure false := by rfl) : PS X (.Assign [.Subscript (.Name x px) ix pos'] e pos) (sM X.K W fr (sSetT i mk me)) :=
  (ps_dput hu (pe_var hN hv hd hcd) hix h hs).imp fun De σ H ⟨g, P, ρ, M, s, hm, l⟩ => by
  unfold sSetT at hm
  split at hm
  · rename_i ds hd
    refine useE s l hm fun d v H1 kd g1 r1 s1 => ?_
    obtain ⟨pp, hσ, hp, _⟩ := s1.at hd
    refine ⟨_, hσ, useE s1 l kd fun y vy H2 ky g2 r2 s2 => ?_⟩
    obtain ⟨pp', hσ', hp', ⟨xs', h1', h2', h3'⟩⟩ := s2.at hd
    have ep : pp' = pp := by rw [hσ] at hσ'; injection hσ' with z; injection z with z; injection z with z; exact z.symm
    subst ep
    cases q : keyT y with
    | none => rw [q] at ky; exact ky.elim
    | some k =>
      rw [q] at ky
      obtain ⟨kb, rfl, hb, _⟩ := rp_keyT r2.sh q
      refine ⟨pp', _, rfl, .inr ⟨xs', k, kb, h1', rfl, hb, LN_lt (by rw [h3'.len]; exact ky.1), rfl⟩, l.nx P σ _ _ (s2.wr (d' := .dtt (putT ds k d)) hd hσ ⟨putK xs' k v, upd_same, ?_, ?_⟩) ky.2⟩
      · exact Nat.le_trans (putT_len _ _ _) ky.1
      · rw [era_upd hp']; exact h3'.put (Rp.mono (s1.good.era g2) _ _ r1.sh)
  · exact hm.elim
/-! ### the keys of a dict that was just made -/
def kDs (ks : List Key) : D := .tup (ks.map kD)
def keysT (kvs : List (List Key × D)) : List D := kvs.map fun kv => kDs kv.1
def keyOks (ks : List Key) : Prop := (∀ k ∈ ks, keyOk k) ∧ ks.length ≤ LN
theorem rpl_kDs {K : PySem.W.Frag} {bg : Bg} {H : Hp} : ∀ {ks : List Key}, (∀ k ∈ ks, keyOk k) → RpL K bg H (ks.map kD) (ks.map kV)
  | [], _ => rpl_nil.mpr rfl
  | k :: ks, h => rpl_cons.mpr ⟨kV k, ks.map kV, rfl, rp_kD (h k List.mem_cons_self), rpl_kDs fun k' hk' => h k' (List.mem_cons_of_mem _ hk')⟩
theorem RpT.nth {K : PySem.W.Frag} {b : Bg} {H : Hp} : ∀ {ds : List (List Key × D)} {xs : List (List Key × V)} {i : Nat} {k : List Key} {d : D}, RpT K b H ds xs → ds[i]? = some (k, d) → ∃ v, xs[i]? = some (k, v) ∧ Rp K b H d v
  | [], xs, i, k, d, h, e => by simp at e
  | (k', d') :: ds, xs, 0, k, d, h, e => by
    obtain ⟨x, r, rfl, h1, h2⟩ := rpt_cons.mp h
    simp at e
    obtain ⟨rfl, rfl⟩ := e
    exact ⟨x, rfl, h1⟩
  | (k', d') :: ds, xs, i + 1, k, d, h, e => by
    obtain ⟨x, r, rfl, h1, h2⟩ := rpt_cons.mp h
    obtain ⟨y, e1, e2⟩ := RpT.nth (i := i) h2 (by simpa using e)
    exact ⟨y, by simpa using e1, e2⟩
theorem feeds_keysT {K : PySem.W.Frag} {a : Addr} {o : Obj} {xs : List (List Key × V)} {kvs : List (List Key × D)} (ko : ∀ kv ∈ kvs, keyOks kv.1) : Feeds K (Itkt a o xs) [kLk a o (.dT xs), kRp K (.dtt kvs) (.ref a)] (keysT kvs) := fun b P H g h => by
  have h1 : era P H a = some (.frz o (.dT xs)) := h _ List.mem_cons_self
  obtain ⟨a', ys, e, h2, _, h3⟩ := rp_dtt.mp (show Rp K b (era P H) (.dtt kvs) (.ref a) from h _ (List.mem_cons_of_mem _ List.mem_cons_self))
  cases e
  have h4 : RpT K b (era P H) kvs xs := by
    rcases h2 with h2 | ⟨o', h2⟩
    · rw [h1] at h2; cases h2
    · rw [h1] at h2; cases h2; exact h3
  have h1 := (era_some h1).1
  refine ⟨fun i d e => ?_, h1, by unfold keysT; rw [List.length_map, h4.len]; exact Nat.le_refl _⟩
  unfold keysT at e
  rw [List.getElem?_map] at e
  cases q : kvs[i]? with
  | none => rw [q] at e; cases e
  | some kv =>
    rw [q] at e
    cases e
    obtain ⟨v, e1, e2⟩ := h4.nth (k := kv.1) (d := kv.2) q
    refine ⟨⟨h1, (List.getElem?_eq_some_iff.mp e1).1⟩, fun x H2 hy => ?_⟩
    obtain ⟨rfl, k, v', kq, e3, rfl, hk⟩ := hy
    rw [e1] at e3
    cases e3
    have hko := ko kv (List.mem_of_getElem? q)
    refine ⟨g.refl, rp_tup.mpr ⟨kq, _, rfl, ?_, by rw [List.length_map]; exact hko.2, rpl_kDs hko.1⟩⟩
    rw [era_out fun z => g.nt kq z _ hk]
    exact hk
def mKeysF (m : MX) : MA := fun ρ k ex => m ρ (fun d => match d with
  | .dtt kvs => (∀ kv ∈ kvs, keyOks kv.1) ∧ k (keysT kvs)
  | _ => False) ex
theorem ci_keysF (h : PE X e (tM X.K W true m)) : PI X tg e (iM X.K W (mKeysF m)) := (pi_keys (pe_frz h)).imp fun σ H R ⟨c, ρ, k, ex, ok, hm, hk, hx⟩ => ⟨c, ρ, _, ex, ok, hm, fun d v H1 kd g r => by
  cases d with
  | dtt kvs =>
    obtain ⟨ko, kd⟩ := kd
    obtain ⟨p, rfl, hp, xs, h1, h2, h3⟩ := r.own (by intro z; cases z)
    refine ⟨p, _, rfl, h1, trivial, fun od => ⟨p, od, rfl, .inr ⟨xs, upd_same, ?_⟩⟩⟩
    have hpP : p ∉ c.P := fun z => ok.good.al p z hp
    have nb : ∀ q, c.b = some q → p ≠ q.1 := fun q hq z => hpP (by rw [z]; exact (ok.good.bag q hq).1)
    have nb2 : ∀ q, c.b = some q → p ≠ q.2 := fun q hq z => hpP (by rw [z]; exact (ok.good.bag q hq).2.1)
    have gr : Grow c.b H (upd H1 p (.frz od (.dT xs))) := ⟨fun a o hb e => by rw [upd_ne (ne_of_none e hp)]; exact g.keep a o hb e, fun q hq => by
      obtain ⟨ne, x0, x1, x2, ns, b1, b2, b3⟩ := g.bag q hq
      exact ⟨ne, x0, x1, x2, ns, by rw [upd_ne (Ne.symm (nb q hq))]; exact b1, by rw [upd_ne (Ne.symm (nb2 q hq))]; exact b2, b3⟩⟩
    have hat : era c.P (upd H1 p (.frz od (.dT xs))) p = some (.frz od (.dT xs)) := by rw [era_out hpP]; exact upd_same
    refine hk _ _ [kLk p od (.dT xs), kRp X.K (.dtt kvs) (.ref p)] _ kd gr (fun q hq => ?_) (feeds_keysT ko)
    rcases List.mem_cons.mp hq with z | z
    · rw [z]; exact hat
    · rw [List.mem_singleton.mp z]
      refine rp_dtt.mpr ⟨p, xs, rfl, .inr ⟨od, hat⟩, h2, RpT.mono (fun a o e => ?_) _ _ h3⟩
      obtain ⟨e1, e2⟩ := era_some e
      have na : a ≠ p := fun z => e2 (z ▸ List.mem_cons_self)
      rw [era_out fun z => e2 (List.mem_cons_of_mem _ z), upd_ne na]
      exact e1
  | _ => exact kd.elim, hx⟩
end
end DM
end
section
set_option Elab.async false
set_option linter.all false
set_option maxRecDepth 100000
set_option maxHeartbeats 4000000
namespace DM
open PySem L2 Evl
theorem put_step {K : PySem.W.Frag} {g : Gd} {P : List Addr} {H : Hp} {σ : St} {ρ : MEnv} {i : Nat} {kvs : List (Key × D)} {d : D} {v : V} {pp : Addr} (k : Key) (s : StOk K g P H σ ρ) (hd : ρ[i]? = some (.ow (.dct kvs))) (hσ : σ[i]? = some (some (.ref pp))) (rv : Rp K g.b (era P H) d v) (hl : kvs.length < LN) :
    ∃ xs, H pp = some (.dK xs) ∧ xs.length < sizeLine ∧ StOk K g P (upd H pp (.dK (putK xs k v))) σ (ρ.set i (.ow (.dct (putD kvs k d)))) ∧ era P (upd H pp (.dK (putK xs k v))) = era P H := by
  obtain ⟨pp', hσ', hp', ⟨xs, h1, h2, h3⟩⟩ := s.at hd
  have ep : pp' = pp := by rw [hσ] at hσ'; injection hσ' with z; injection z with z; injection z with z; exact z.symm
  subst ep
  refine ⟨xs, h1, LN_lt (by rw [h3.len]; exact hl), ?_, era_upd hp'⟩
  exact s.wr (d' := .dct (putD kvs k d)) hd hσ ⟨putK xs k v, upd_same, Nat.le_trans (putD_len _ _ _) hl, by rw [era_upd hp']; exact h3.put rv⟩
def sSetD3 (i : Nat) (k1 k2 k3 : Str) (ma mb mc : MX) : MS := fun M ρ => ma ρ (fun x => mb ρ (fun y => mc ρ (fun z => match ρ[i]? with
  | some (.ow (.dct kvs)) => kvs.length + 2 < LN ∧ M.nx (ρ.set i (.ow (.dct (putD (putD (putD kvs (.inr k1) x) (.inr k2) y) (.inr k3) z))))
  | _ => False) (M.ex ρ)) (M.ex ρ)) (M.ex ρ)
section
variable {X : Cx} {W : WX} {fr : Bool} {e a b c' : Expr} {pos : Pos} {ma mb mc m : MX}
theorem cs_setD3 (i : Nat) {x k1 k2 k3 : Str} {px px' px'' q1 q2 q3 s1 s2 s3 pt pt2 : Pos} {j1 j2 j3 kt kk} (hu : X.A.units + 1 < cLine) (ha : PE X a (tM X.K W false ma)) (hb : PE X b (tM X.K W false mb)) (hcc : PE X c' (tM X.K W false mc)) (hN : X.N[i]? = some x := by rfl) (hv : Vis X.env.scope x := by first | exact Or.inl rfl | exact Or.inr (Or.inl rfl) | exact Or.inr (Or.inr rfl)) (hd : (x == ("__debug__" : Str)) = false := by decide) (hcd : (x == ("__classdict__" : Str)) = false := by decide) (hc : X.calm = true := by rfl)
    (hs : swapsWithSole [.Tuple [.Subscript (.Name x px) (.Constant (.str k1) j1 q1) s1, .Subscript (.Name x px') (.Constant (.str k2) j2 q2) s2, .Subscript (.Name x px'') (.Constant (.str k3) j3 q3) s3] kt pt] (.Tuple [a, b, c'] kk pt2) pos.line X.env = pure false := by rfl)
    (hw : swappedStores [.Tuple [.Subscript (.Name x px) (.Constant (.str k1) j1 q1) s1, .Subscript (.Name x px') (.Constant (.str k2) j2 q2) s2, .Subscript (.Name x px'') (.Constant (.str k3) j3 q3) s3] kt pt] (.Tuple [a, b, c'] kk pt2) X.env = pure none := by rfl)
    (hs1 : starEach (a :: [b, c']) X.env = (false, eval a X.env) :: starEach [b, c'] X.env := by rfl) (hs2 : starEach (b :: [c']) X.env = (false, eval b X.env) :: starEach [c'] X.env := by rfl) (hs3 : starEach (c' :: []) X.env = (false, eval c' X.env) :: starEach [] X.env := by rfl) :
    PS X (.Assign [.Tuple [.Subscript (.Name x px) (.Constant (.str k1) j1 q1) s1, .Subscript (.Name x px') (.Constant (.str k2) j2 q2) s2, .Subscript (.Name x px'') (.Constant (.str k3) j3 q3) s3] kt pt] (.Tuple [a, b, c'] kk pt2) pos) (sM X.K W fr (sSetD3 i k1 k2 k3 ma mb mc)) :=
  (ps_asg (pe_tup (pa_cons ha (pa_cons hb (pa_cons hcc pa_nil hs3) hs2) hs1)) (pg_tup hc (pgs_cons (pg_sub (pe_var hN hv hd hcd) pe_str (set_dict hu)) (pgs_cons (pg_sub (pe_var hN hv hd hcd) pe_str (set_dict hu)) (pgs_cons (pg_sub (pe_var hN hv hd hcd) pe_str (set_dict hu)) pgs_nil)))) hs hw).imp fun De σ H ⟨g, P, ρ, M, s, hm, l⟩ => by
  refine useE s l hm fun d1 v1 H1 kd1 g1 r1 st1 => useE st1 l kd1 fun d2 v2 H2 kd2 g2 r2 st2 => useE st2 l kd2 fun d3 v3 H3 kd3 g3 r3 st3 => ⟨by show 3 ≤ sizeLine; decide, fun tp htp => ?_⟩
  have gt := Grow.new (o := .tup [v1, v2, v3]) st3.good htp
  have st4 := st3.go gt
  have rv1 := Rp.mono (st3.good.era gt) _ _ (Rp.mono (st2.good.era g3) _ _ (Rp.mono (st1.good.era g2) _ _ r1.sh))
  have rv2 := Rp.mono (st3.good.era gt) _ _ (Rp.mono (st2.good.era g3) _ _ r2.sh)
  have rv3 := Rp.mono (st3.good.era gt) _ _ r3.sh
  split at kd3
  · rename_i kvs hd
    have hl : i < ρ.length := (List.getElem?_eq_some_iff.mp hd).1
    obtain ⟨pp, hσ, hp, _⟩ := st4.at hd
    obtain ⟨xs, h1, z1, s5, e5⟩ := put_step (.inr k1) st4 hd hσ rv1 (by omega)
    have p1 := putD_len kvs (.inr k1) d1
    have hd5 : (ρ.set i (.ow (.dct (putD kvs (.inr k1) d1))))[i]? = some (.ow (.dct (putD kvs (.inr k1) d1))) := by rw [List.getElem?_set_self hl]
    obtain ⟨xs2, h2, z2, s6, e6⟩ := put_step (.inr k2) s5 hd5 hσ (by rw [e5]; exact rv2) (by omega)
    have p2 := putD_len (putD kvs (.inr k1) d1) (.inr k2) d2
    rw [List.set_set] at s6
    have hd6 : (ρ.set i (.ow (.dct (putD (putD kvs (.inr k1) d1) (.inr k2) d2))))[i]? = some (.ow (.dct (putD (putD kvs (.inr k1) d1) (.inr k2) d2))) := by rw [List.getElem?_set_self hl]
    obtain ⟨xs3, h3, z3, s7, e7⟩ := put_step (.inr k3) s6 hd6 hσ (by rw [e6, e5]; exact rv3) (by omega)
    rw [List.set_set] at s7
    exact ⟨tp, [v1, v2, v3], rfl, .inl (.inl upd_same), rfl, v1, [v2, v3], rfl, .ref pp, hσ, pp, _, rfl, .inl ⟨xs, .inr k1, h1, rfl, z1, rfl⟩, v2, [v3], rfl, .ref pp, hσ, pp, _, rfl, .inl ⟨xs2, .inr k2, h2, rfl, z2, rfl⟩, v3, [], rfl, .ref pp, hσ, pp, _, rfl, .inl ⟨xs3, .inr k3, h3, rfl, z3, rfl⟩, rfl, l.nx P σ _ _ s7 kd3.2⟩
  · exact kd3.elim
end
end DM
end
section
set_option Elab.async false
set_option linter.all false
set_option maxRecDepth 100000
set_option maxHeartbeats 4000000
namespace DM
open PySem L2 Evl
section
variable {X : Cx} {W : WX} {fr : Bool} {e a b k v : Expr} {p pos pos' : Pos} {m ma mb mk me : MX} {n : Nat}
/-- x[i], x an owned list -/
def xOwnAt (i : Nat) (mk : MX) : MX := fun ρ k ex => match ρ[i]? with
  | some (.ow (.lst ds)) => mk ρ (fun y => match y with
    | .int j => (match L2.atI ds j with
      | some d => k d
      | none => False)
    | _ => False) ex
  | _ => False
theorem ce_ownAt (i : Nat) {x : Str} {px : Pos} {ix : Expr} (hix : PE X ix (tM X.K W false mk)) (hN : X.N[i]? = some x := by rfl) (hv : Vis X.env.scope x := by first | exact Or.inl rfl | exact Or.inr (Or.inl rfl) | exact Or.inr (Or.inr rfl)) (hd : (x == ("__debug__" : Str)) = false := by decide) (hcd : (x == ("__classdict__" : Str)) = false := by decide) (hs : PlainIx ix := by intro _ _; rfl) :
    PE X (.Subscript (.Name x px) ix pos) (tM X.K W false (xOwnAt i mk)) := (pe_ix ix_seq (pe_var hN hv hd hcd) hix hs).imp fun σ H Q ⟨c, ρ, k, ex, ok, hm, hk, hx⟩ => by
  unfold xOwnAt at hm
  split at hm
  · rename_i ds hq
    obtain ⟨o, rl⟩ := ok.rel
    obtain ⟨e1, e2, e3, e4⟩ := rl.ow i _ hq
    refine ⟨_, e1, c, ρ, _, ex, ok, hm, fun y vy H1 ky g r => ?_, hx⟩
    cases y with
    | int j =>
      have ky : (match L2.atI ds j with | some d => k d | none => False) := ky
      cases q2 : L2.atI ds j with
      | none => rw [q2] at ky; exact ky.elim
      | some d =>
        rw [q2] at ky
        have nb : ∀ p, c.b = some p → o i ≠ p.1 := fun p hb z => e3 (by rw [z]; exact (ok.bag0 p hb).1)
        obtain ⟨xs, h1, h2, h3⟩ := e4.grow ok.good g nb
        obtain ⟨v, w1, w2⟩ := h3.atI q2
        exact .inl ⟨o i, xs, j, v, rfl, rp_int.mp r.sh, .inl (.inl h1), w1, hk d v H1 ky g (Res.of w2)⟩
    | _ => exact ky.elim
  · exact hm.elim
end
/-! ### the keys of a dict in a slot -/
def iLkT (i : Nat) : TI := fun σ H R => ∃ d o kvs, σ[i]? = some (some (.ref d)) ∧ H d = some (.frz o (.dT kvs)) ∧ R (Itkt d o kvs) H
def xLcLT (vs : List Nat) (tg : Tg) (i : Nat) (mt : MT) (me : MX) : MX := fun ρ k _ => match ρ[i]? with
  | some (.sh (.dtt kvs)) => (∀ kv ∈ kvs, keyOks kv.1) ∧ lcGo tg mt me (wipeM ρ vs) k (keysT kvs) []
  | _ => False
section
variable {X : Cx} {W : WX} {fr : Bool} {e elt tg iter : Expr} {ifs : List Expr} {scope : Scope} {own : List (Str × Nat)} {pos apos cpos : Pos} {mt : MT} {me : MX}
theorem ci_keysT (i : Nat) {x : Str} {p : Pos} (hN : X.N[i]? = some x := by rfl) (hv : Vis X.env.scope x := by first | exact Or.inl rfl | exact Or.inr (Or.inl rfl) | exact Or.inr (Or.inr rfl)) (hd : (x == ("__debug__" : Str)) = false := by decide)
    (hcd : (x == ("__classdict__" : Str)) = false := by decide) : PI X tg (.Name x p) (iLkT i) := (pi_keys (pe_var hN hv hd hcd)).imp fun σ H R ⟨d, o, kvs, h1, h2, h3⟩ => ⟨_, h1, d, o, rfl, .inr ⟨kvs, h2, h3⟩⟩
theorem ce_lcLT {vs : List Nat} (T : Tg) (i : Nat) (hN : X.N.Nodup) (hi : PI X tg iter (iLkT i)) (ok : BlkOk X.N X.env.scope scope own) (hvs : own.map (·.2) = vs) (hv : ∀ j ∈ T.slots, j ∈ own.map (·.2))
    (hg : ∀ (s : Shared) (H : Hp) (C : Addr) (cl : List (Str × Addr)) (fp : List Addr), PG (X.blk s H scope (compEnvC scope cl C X.env) fp) tg (T.g X.K)) (ht : ∀ (s : Shared) (H : Hp) (C : Addr) (cl : List (Str × Addr)) (fp : List Addr), PTs (X.blk s H scope (compEnvC scope cl C X.env) fp) ifs (tT X.K W0 mt))
    (he : ∀ (s : Shared) (H : Hp) (C : Addr) (cl : List (Str × Addr)) (fp : List Addr), PE (X.blk s H scope (compEnvC scope cl C X.env) fp) elt (tM X.K W0 false me)) (hc : X.calm = true := by rfl) (hs : ∀ x, foldedSetIterable iter X.env x = pure x := by intro _; rfl) :
    PE X (.ListComp elt [⟨tg, iter, ifs, 0⟩] scope pos) (tM X.K W true (xLcLT vs T i mt me)) := by
  subst hvs
  refine (pe_lockor (pe_lc hc hN hi ok hg ht he hs)).imp fun σ H Q ⟨c, ρ, k, ex, okk, hm, hk, hx⟩ => ?_
  unfold xLcLT at hm
  split at hm
  · rename_i kvs hq
    obtain ⟨ko, hm⟩ := hm
    obtain ⟨o, q⟩ := okk.rel
    obtain ⟨v, e1, e2⟩ := q.sh i _ hq
    obtain ⟨a, xs, rfl, h1, h2, h3⟩ := rp_dtt.mp e2
    have fl : (keysT kvs).length = kvs.length := by unfold keysT; rw [List.length_map]
    rcases h1 with h1 | ⟨od, h1⟩
    · refine .inl ⟨a, .dT xs, (era_some h1).1, trivial, fun od => ⟨a, od, xs, e1, upd_same, ?_⟩⟩
      have ha := (era_some h1).2
      have sw := lk_onT (od := od) h1
      have okL := okk.sw sw ha
      have fd := feeds_keysT (K := X.K) (a := a) (o := od) (xs := xs) ko
      refine lc_turns (Q := fun v H' => H' a = some (.frz od (.dT xs)) ∧ Q v (upd H' a (.dT xs))) hv okL (by rw [fl]; exact h2) hm (T := [kLk a od (.dT xs), kRp X.K (.dtt kvs) (.ref a)]) (fun q hq => ?_) fd fun d v H' kd gr r => ?_
      · have e := era_updN (H := H) (o' := HO.frz od (.dT xs)) ha
        rcases List.mem_cons.mp hq with z | z
        · rw [z]; show era c.P _ a = _; rw [e]; exact upd_same
        · rw [List.mem_singleton.mp z]; show Rp X.K c.b (era c.P _) _ _; rw [e]; exact Rp.sw sw _ _ e2
      · have nb : ∀ q, c.b = some q → a ≠ q.1 := fun q hq z => ha (z ▸ (okk.good.bag q hq).1)
        have hl : H' a = some (.frz od (.dT xs)) := gr.keep a _ nb upd_same
        refine ⟨hl, hk d v _ kd ⟨fun x u hb e => ?_, fun q hq => ?_⟩ ?_⟩
        · by_cases z : x = a
          · subst z; rw [upd_same, ← (era_some h1).1]; exact e
          · rw [upd_ne z]; exact gr.keep x u hb (by rw [upd_ne z]; exact e)
        · obtain ⟨ne, x0, x1, x2, ns, b1, b2, b3⟩ := gr.bag q hq
          have n1 : q.1 ≠ a := fun z => ha (z ▸ (okk.good.bag q hq).1)
          have n2 : q.2 ≠ a := fun z => ha (z ▸ (okk.good.bag q hq).2.1)
          exact ⟨ne, x0, x1, x2, ns, by rw [upd_ne n1]; exact b1, by rw [upd_ne n2]; exact b2, b3⟩
        · refine (show (∃ p, v = .ref p ∧ upd H a (.frz od (.dT xs)) p = none ∧ OwnC X.K c.b (p :: c.P) H' p d) ∨ (d = .non ∧ v = .non) from r).imp (fun ⟨p, ep, hp, ho⟩ => ?_) id
          have np : p ≠ a := fun z => by rw [z, upd_same] at hp; cases hp
          have hap : a ∉ p :: c.P := by simp only [List.mem_cons, not_or]; exact ⟨Ne.symm np, ha⟩
          exact ⟨p, ep, by rw [upd_ne np] at hp; exact hp, ho.sw (lk_offT (by rw [era_out hap]; exact hl)) hap np⟩
    · refine .inr ⟨a, od, xs, e1, (era_some h1).1, ?_⟩
      have fd := feeds_keysT (K := X.K) (a := a) (o := od) (xs := xs) ko
      refine lc_turns (Q := Q) hv okk (by rw [fl]; exact h2) hm (T := [kLk a od (.dT xs), kRp X.K (.dtt kvs) (.ref a)]) (fun q hq => ?_) fd hk
      rcases List.mem_cons.mp hq with z | z
      · rw [z]; exact h1
      · rw [List.mem_singleton.mp z]; exact e2
  · exact hm.elim
end
end DM
end
section
set_option Elab.async false
set_option linter.all false
set_option maxRecDepth 100000
set_option maxHeartbeats 4000000
/-! sorted(d), d a dict with tuple keys -/
namespace L2
open PySem PySem.W PySem.Calls PyProof.Rows PyProof.V PySem.Spec
section
variable {X : Cx}
/-- enc: how a key is read -/
def rSortDT (K : PySem.W.Frag) (enc : List Key → PyData) : List V → Hp → VK → Prop := fun vs H Q => ∃ (a : Addr) (kvs : List (List Key × V)), vs = [V.ref a] ∧ Rd H a (.dT kvs) ∧ (∀ kv ∈ kvs, ∀ q, H q = some (.tup (kv.1.map kV)) → Dp K H (.ref q) (enc kv.1)) ∧
  PySem.W.AllAlike (kvs.map fun kv => enc kv.1) ∧ PySem.W.Sortable (kvs.map fun kv => enc kv.1) ∧ (∀ kv ∈ kvs, (enc kv.1).depth ≤ 60) ∧
  ∀ bs : List (List Key × Addr), bs.map (·.1) = kvs.map (·.1) → (∀ b ∈ bs, H b.2 = some (.tup (b.1.map kV))) → ∀ p, H p = none → Q (.ref p) (upd H p (.lst ((bs.mergeSort (PySem.W.dataLe false fun b => enc b.1)).map fun b => V.ref b.2)))
theorem each_of_get {α β : Type} {R : α → β → Prop} : ∀ {us : List α} {bs : List β}, us.length = bs.length → (∀ (j : Nat) u b, us[j]? = some u → bs[j]? = some b → R u b) → PySem.W.EachIs R us bs
  | [], [], _, _ => .nil
  | u :: us, b :: bs, hl, h => .cons (h 0 u b rfl rfl) (each_of_get (by simpa using hl) fun j u' b' e1 e2 => h (j + 1) u' b' (by simpa using e1) (by simpa using e2))
  | [], _ :: _, h, _ => by cases h
  | _ :: _, [], h, _ => by cases h
theorem cr_sortDT {enc : List Key → PyData} (hc : X.calm = true) (hu : X.A.units + 64 < cLine) : CallR X (.builtin "sorted") (rSortDT X.K enc) := by
  intro pins s σ H vs us Q I r h
  obtain ⟨a, kvs, rfl, ha, hdp, hal, hsk, hdep, q⟩ := h
  obtain rfl := Vals.ref1 r
  obtain ⟨z, hd, xs', rel, o, es, ep, ho, hx, hdat, hes, his, hn⟩ := dt_rd I.hok ha
  have l1 : kvs.length = xs'.length := Paired.length rel
  have l2 : es.size = xs'.length := size_of_entries hes
  have hh : X.A.handled = none := I.ok.hd hc
  -- the keys with their objects
  let bs : List (List Key × Addr) := xs'.map fun x => (x.1, x.2.1)
  have at_ : ∀ (j : Nat) (x : List Key × Addr × Value), xs'[j]? = some x → ∃ kv, kvs[j]? = some kv ∧ kv.1 = x.1 ∧ H x.2.1 = some (.tup (x.1.map kV)) := fun j x hj => by
    obtain ⟨e0, he0, r1, r2, r3⟩ := DX.pget rel hj
    exact ⟨e0, he0, r1, by rw [← r1]; exact r2⟩
  have hb1 : bs.map (·.1) = kvs.map (·.1) := by
    apply List.ext_getElem?
    intro j
    simp only [bs, List.getElem?_map, Option.map_map]
    cases hj : xs'[j]? with
    | none =>
      have : kvs[j]? = none := List.getElem?_eq_none (by have := List.getElem?_eq_none_iff.mp hj; omega)
      rw [this]; rfl
    | some x =>
      obtain ⟨kv, e1, e2, _⟩ := at_ j x hj
      rw [e1]
      show some x.1 = some kv.1
      rw [e2]
  have hb2 : ∀ b ∈ bs, H b.2 = some (.tup (b.1.map kV)) := fun b hb => by
    obtain ⟨x, hx, rfl⟩ := List.mem_map.mp hb
    obtain ⟨j, hj⟩ := List.mem_iff_getElem?.mp hx
    obtain ⟨kv, _, _, e3⟩ := at_ j x hj
    exact e3
  have hbd : ∀ b ∈ bs, Dp X.K H (.ref b.2) (enc b.1) ∧ (enc b.1).depth ≤ 60 := fun b hb => by
    obtain ⟨x, hx, rfl⟩ := List.mem_map.mp hb
    obtain ⟨j, hj⟩ := List.mem_iff_getElem?.mp hx
    obtain ⟨kv, e1, e2, e3⟩ := at_ j x hj
    have hm := List.mem_of_getElem? e1
    have d1 := hdp kv hm x.2.1 (by rw [e2]; exact e3)
    have d2 := hdep kv hm
    rw [e2] at d1 d2
    exact ⟨d1, d2⟩
  have hbe : bs.map (fun b => enc b.1) = kvs.map fun kv => enc kv.1 := by
    have := congrArg (List.map enc) hb1
    simpa only [List.map_map, Function.comp_def] using this
  have hz : es.size ≤ sizeLine := by omega
  refine call_function_entry kind_sorted plain_sorted entry_sorted (args_sorted1 _) ?_
  unfold Builtin.«sorted»
  refine wpAny_bind (m := checkCount "sorted" 1 1 _) (wpAny_pure ?_)
  refine wpAny_bind (PySem.W.kdu_collect (A := X.A.in1) (PySem.KdlSrc.rawDict (es := es) (ep := ep) hd) hh ⟨o, ho, hx, hdat⟩ hz fun h' tk acc hk hacc => ?_)
  have hl : acc.toList.length = es.size := by rw [Array.length_toList]; exact hacc.1
  have I1 : Inv X pins σ H { s with heap := h', toks := tk } := I.kept (t' := tk) hk
  refine wpAny_bind (wpAny_newList ?_ (by rw [hl]; exact hz))
  have lb : acc.toList.length = bs.length := by rw [hl]; show es.size = (xs'.map _).length; rw [List.length_map]; exact l2
  have item : ∀ (j : Nat) u b, acc.toList[j]? = some u → bs[j]? = some b → u = .ref b.2 := fun j u b e1 e2 => by
    obtain ⟨hi, e3⟩ := hacc.2 j u (by rw [← Array.getElem?_toList]; exact e1)
    have e4 : es[j]? = some es[j] := Array.getElem?_eq_getElem hi
    rw [entry_at hes j] at e4
    have e5 : (xs'.map fun x => (x.1, x.2.1))[j]? = some b := e2
    rw [List.getElem?_map] at e5
    cases hx : xs'[j]? with
    | none => rw [hx] at e5; cases e5
    | some x =>
      rw [hx] at e4 e5
      cases e5
      have e6 : entryOfKey (tupleKind (mixKind X.prog X.w)) x = es[j] := Option.some.inj e4
      rw [e3, ← e6]
      rfl
  have mem : ∀ (j : Nat) b, bs[j]? = some b → b ∈ bs := fun j b e => List.mem_of_getElem? e
  have eR : EachIs (fun u (b : List Key × Addr) => RelV (.ref b.2) u) acc.toList bs := each_of_get lb fun j u b e1 e2 => by rw [item j u b e1 e2]; exact rfl
  have hob : (h'.push { cls := .type "list", data := .seq acc.toList.toArray }).get? h'.objs.size = some (seqObj "list" acc.toList.toArray 0) := Heap.get?_push_size _ rfl
  have kp : ∀ b o, h'.get? b = some o → (h'.push { cls := .type "list", data := .seq acc.toList.toArray }).get? b = some o := fun b o e => Heap.get?_push_of_some _ e
  have er : EachIs (fun u (b : List Key × Addr) => ∃ as, Reads (h'.push { cls := .type "list", data := .seq acc.toList.toArray }) u (enc b.1) as ∧ h'.objs.size ∉ as) acc.toList bs := each_of_get lb fun j u b e1 e2 => by
    obtain ⟨as, ra⟩ := Dp.reads I1 _ _ (.ref b.2) (hbd b (mem j b e2)).1 rfl
    rw [item j u b e1 e2]
    exact ⟨as, PyProof.Rows.Reads.keeps kp ra, fun hm => by
      obtain ⟨o, ho⟩ := PyProof.On.reads_mem_get ra _ hm
      exact absurd (Heap.lt_size ho) (Nat.lt_irrefl _)⟩
  refine wpAny_bind (wpAny_holding (wpAny_mono (list_sort_data (Q := fun _ s' => EP X pins σ Q (.ref h'.objs.size) s') (A := X.A.in1) (s := { s with heap := h'.push { cls := .type "list", data := .seq acc.toList.toArray }, toks := tk }) (enc := fun b : List Key × Addr => enc b.1) hob eR er (by rw [hbe]; exact hal) (by rw [hbe]; exact hsk) (by omega) (fun b hb => by have := (hbd b hb).2; show X.A.in1.units + 1 + _ < cLine; first | (rw [show X.A.in1.units = X.A.units + 1 from rfl]; omega) | omega) fun out hlen ho => ?_) (fun _ s' x => ?_) fun _ _ e => e))
  · obtain ⟨eF, heF⟩ := PyProof.Rows.sortedHeap_at (vs := acc.toList) (out := out.toArray) hob
    have hv := vals_each (val := fun b : List Key × Addr => V.ref b.2) ho
    have kS : ∀ b o, h'.get? b = some o → (sortedHeap (h'.push { cls := .type "list", data := .seq acc.toList.toArray }) h'.objs.size acc.toList out.toArray).get? b = some o := fun b o e => (PyProof.Rows.sortedHeap_old (Nat.ne_of_lt (Heap.lt_size e)) (Heap.lt_size (kp b o e))).trans (kp b o e)
    have hl2 : ((bs.mergeSort (dataLe false fun b => enc b.1)).map fun b => V.ref b.2).length ≤ sizeLine := by
      rw [List.length_map, List.length_mergeSort]; omega
    exact ⟨.ref _, upd H h'.objs.size (.lst ((bs.mergeSort (dataLe false fun b => enc b.1)).map fun b => V.ref b.2)), I1.laid (t' := tk) kS (Nat.le_refl _) ⟨hl2, out, eF, hv, heF⟩, rfl, q bs hb1 hb2 _ (I1.hok.fresh (Nat.le_refl _))⟩
  · exact wpAny_pure ⟨_, rfl, x⟩
end
end L2
namespace DM
open PySem L2 Evl
/-- sorted(d) -/
def bSortK : List D → (D → Prop) → Prop
  | [.dtt kvs], k => SortOk (keysT kvs) ∧ (∀ kv ∈ kvs, keyOks kv.1) ∧ k (.lst ((keysT kvs).mergeSort leD))
  | _, _ => False
theorem rp_kDs {K : PySem.W.Frag} {bg : Bg} {P : List Addr} {H : Hp} (g : GoodP bg P H) {k : List Key} {q : Addr} (ko : keyOks k) (h : H q = some (.tup (k.map kV))) : Rp K bg (era P H) (kDs k) (.ref q) :=
  rp_tup.mpr ⟨q, _, rfl, by rw [era_out fun z => g.nt q z _ h]; exact h, by rw [List.length_map]; exact ko.2, rpl_kDs ko.1⟩
theorem RpT.keys {K : PySem.W.Frag} {bg : Bg} {H : Hp} : ∀ {ds : List (List Key × D)} {xs : List (List Key × V)}, RpT K bg H ds xs → xs.map (·.1) = ds.map (·.1)
  | [], xs, h => by rw [rpt_nil.mp h]; rfl
  | (k, d) :: ds, xs, h => by
    obtain ⟨x, r, rfl, _, h4⟩ := rpt_cons.mp h
    rw [List.map_cons, List.map_cons, RpT.keys h4]
theorem calld_sortK {K : PySem.W.Frag} : CallD K true (rSortDT K fun k => toP (kDs k)) bSortK := fun bg P H ds vs k Q g r hf hk => by
  obtain ⟨d, rfl, hf⟩ := one_of hf (fun h => h) (fun a b r h => by cases a <;> exact h)
  obtain ⟨v, r', rfl, h1, h2⟩ := rpl_cons.mp r
  cases rpl_nil.mp h2
  cases d with
  | dtt kvs =>
    obtain ⟨so, ko, hf2⟩ := hf
    obtain ⟨a, xs, rfl, h1, hl, h3⟩ := rp_dtt.mp h1
    have ek : xs.map (·.1) = kvs.map (·.1) := h3.keys
    have mem : ∀ x ∈ xs, ∃ kv ∈ kvs, kv.1 = x.1 := fun x hx => by
      have : x.1 ∈ kvs.map (·.1) := by rw [← ek]; exact List.mem_map_of_mem hx
      obtain ⟨kv, h4, h5⟩ := List.mem_map.mp this
      exact ⟨kv, h4, h5⟩
    have eK : ∀ l : List (List Key × V), l.map (fun kv => toP (kDs kv.1)) = (l.map (·.1)).map fun k => toP (kDs k) := fun l => by rw [List.map_map]; rfl
    have kin : ∀ {kv}, kv ∈ kvs → kDs kv.1 ∈ keysT kvs := fun {kv} hkv => List.mem_map.mpr ⟨kv, hkv, rfl⟩
    have me : ∀ q ∈ xs.map (fun kv => toP (kDs kv.1)), ∃ d ∈ keysT kvs, q = toP d := fun q hq => by
      obtain ⟨x, hx, rfl⟩ := List.mem_map.mp hq
      obtain ⟨kv, h4, h5⟩ := mem x hx
      exact ⟨kDs kv.1, kin h4, by rw [h5]⟩
    refine ⟨a, xs, rfl, ex_rd era_le h1, fun x hx q hq => ?_, fun q hq q' hq' => ?_, .inl fun q hq => ?_, fun x hx => ?_, fun bs hb1 hb2 p hp => ?_⟩
    · obtain ⟨kv, h4, h5⟩ := mem x hx
      have := Dp.up (K := K) (d := kDs x.1) (v := .ref q) era_le (by rw [← h5]; exact (so.s _ (kin h4)).1) (rp_kDs g (by rw [← h5]; exact ko kv h4) hq)
      exact this
    · obtain ⟨d, hd, rfl⟩ := me q hq
      obtain ⟨d', hd', rfl⟩ := me q' hq'
      exact so.al d hd d' hd'
    · obtain ⟨d, hd, rfl⟩ := me q hq
      obtain ⟨x, r, rfl⟩ := so.tp d hd
      exact ⟨toP x, toPs r, by simp only [toP, toPs]⟩
    · obtain ⟨kv, h4, h5⟩ := mem x hx
      rw [toP_dep, ← h5]; exact (so.s _ (kin h4)).2
    · have mb : ∀ b ∈ bs, ∃ kv ∈ kvs, kv.1 = b.1 := fun b hb => by
        have : b.1 ∈ kvs.map (·.1) := by rw [← ek, ← hb1]; exact List.mem_map_of_mem hb
        obtain ⟨kv, h4, h5⟩ := List.mem_map.mp this
        exact ⟨kv, h4, h5⟩
      have q1 : (bs.mergeSort (PySem.W.dataLe false fun b : List Key × Addr => toP (kDs b.1))).map (fun b => kDs b.1) = (keysT kvs).mergeSort leD := by
        have : keysT kvs = bs.map fun b => kDs b.1 := by
          have e : bs.map (fun b => kDs b.1) = (bs.map (·.1)).map kDs := by rw [List.map_map]; rfl
          rw [e, hb1, ek, List.map_map]
          rfl
        rw [this]
        exact List.map_mergeSort fun a _ b _ => rfl
      have q2 : ∀ l : List (List Key × Addr), (∀ b ∈ l, Rp K bg (era P H) (kDs b.1) (.ref b.2)) → RpL K bg (era P H) (l.map fun b => kDs b.1) (l.map fun b => V.ref b.2) := fun l => by
        induction l with
        | nil => intro _; exact rpl_nil.mpr rfl
        | cons b l ih => intro h; exact rpl_cons.mpr ⟨_, _, rfl, h b List.mem_cons_self, ih fun c hc => h c (List.mem_cons_of_mem _ hc)⟩
      have q3 := q2 (bs.mergeSort (PySem.W.dataLe false fun b : List Key × Addr => toP (kDs b.1))) fun b hb => by
        obtain ⟨kv, h4, h5⟩ := mb b (List.mem_mergeSort.mp hb)
        exact rp_kDs g (by rw [← h5]; exact ko kv h4) (hb2 b (List.mem_mergeSort.mp hb))
      rw [q1] at q3
      exact hk _ _ _ hf2 (Grow.new g hp) (res_lst g hp (by rw [List.length_mergeSort]; show (kvs.map _).length ≤ _; rw [List.length_map]; exact hl) q3)
  | _ => exact hf.elim
section
variable {X : Cx} {W : WX} {e : Expr} {p pos : Pos} {m : MX}
theorem c_sortK (hm : X.mg "sorted" = none) (hu : X.A.units + 64 < cLine) (h : PE X e (tM X.K W false m)) (hc : X.calm = true := by rfl) (hg : Gl X "sorted" := by rfl) (he : starEach [e] X.env = (false, eval e X.env) :: starEach [] X.env := by rfl) : PE X (.Call (.Name "sorted" p) [e] [] pos) (tM X.K W true (xB1 bSortK (aCons m aNil))) := ce_cb (cr_sortDT hc hu) calld_sortK hm PyProof.Rows.boot_sorted (ca_cons h ca_nil he) hg (by decide) (by decide) he (by rfl)
end
end DM
end
section
set_option Elab.async false
set_option linter.all false
set_option maxRecDepth 100000
set_option maxHeartbeats 4000000
theorem DM.RoomG.units65 {k : Nat} {A : PySem.Around} (r : DM.RoomG k A) : A.units + 65 < PySem.cLine := by have := r.room.un; omega
namespace DM
open PySem L2 Evl
/-! x in l, x data of any depth -/
def dInD : CD
  | x, .lst ys, k => okE x ∧ okE (.lst ys) ∧ k (inD x ys)
  | _, _, _ => False
def dNotInD : CD
  | x, .lst ys, k => okE x ∧ okE (.lst ys) ∧ k (!inD x ys)
  | _, _, _ => False
theorem inD_eqv {x : D} (hx : shp x = true) : ∀ {ys : List D}, shps ys = true → ((toPs ys).any fun z => PyData.eqv z (toP x)) = inD x ys
  | [], _ => by simp [toPs, inD]
  | y :: ys, h => by
    have h' : shp y = true ∧ shps ys = true := by simpa [shps] using h
    have ih := inD_eqv hx h'.2
    unfold inD at ih ⊢
    rw [List.any_cons, ← ih]
    show ((PyData.eqv (toP y) (toP x)) || _) = _
    rw [eqD_eqv y x h'.1 hx]
theorem cmpd_inD {K : PySem.W.Frag} : CmpD K (rInD K) dInD := fun bg P H dx dy x y k Q g r1 r2 hf hk => by
  cases dy with
  | lst ys =>
    obtain ⟨h1, h2, h3⟩ := hf
    have hs : shps ys = true := by have := h2.1; simpa [shp] using this
    have ey : toP (.lst ys) = .list (toPs ys) := by simp only [toP]
    refine ⟨toP dx, toPs ys, Dp.up era_le h1.1 r1, ?_, shaped_of h1.1 h1.2, ?_, ?_⟩
    · rw [← ey]; exact Dp.up era_le h2.1 r2
    · rw [← ey]; exact shaped_of h2.1 h2.2
    · rw [inD_eqv h1.1 hs]; exact hk _ h3
  | _ => exact hf.elim
theorem cmpd_notInD {K : PySem.W.Frag} : CmpD K (rNotInD K) dNotInD := fun bg P H dx dy x y k Q g r1 r2 hf hk => by
  cases dy with
  | lst ys =>
    obtain ⟨h1, h2, h3⟩ := hf
    have hs : shps ys = true := by have := h2.1; simpa [shp] using this
    have ey : toP (.lst ys) = .list (toPs ys) := by simp only [toP]
    refine ⟨toP dx, toPs ys, Dp.up era_le h1.1 r1, ?_, shaped_of h1.1 h1.2, ?_, ?_⟩
    · rw [← ey]; exact Dp.up era_le h2.1 r2
    · rw [← ey]; exact shaped_of h2.1 h2.2
    · rw [inD_eqv h1.1 hs]; exact hk _ h3
  | _ => exact hf.elim
section
variable {X : Cx} {W : WX} {a b : Expr} {pos : Pos} {ma mb : MX}
theorem c_inDD (hu : X.A.units + 65 < cLine) (ha : PE X a (tM X.K W false ma)) (hb : PE X b (tM X.K W false mb)) (hm : behindInMarks .In b = false := by first | exact nomark _ | rfl) : PE X (.Compare a [.In] [b] pos) (tM X.K W false (xCmp dInD ma mb)) := ce_cmp (op_inD hu) cmpd_inD ha hb hm
theorem t_inDD (hu : X.A.units + 65 < cLine) (ha : PE X a (tM X.K W false ma)) (hb : PE X b (tM X.K W false mb)) (hm : behindInMarks .In b = false := by first | exact nomark _ | rfl) : PT X (.Compare a [.In] [b] pos) (tT X.K W (tCmpM dInD ma mb)) := ct_cmp (op_inD hu) cmpd_inD ha hb hm
theorem c_ninDD (hu : X.A.units + 65 < cLine) (ha : PE X a (tM X.K W false ma)) (hb : PE X b (tM X.K W false mb)) (hm : behindInMarks .NotIn b = false := by first | exact nomark _ | rfl) : PE X (.Compare a [.NotIn] [b] pos) (tM X.K W false (xCmp dNotInD ma mb)) := ce_cmp (op_notInD hu) cmpd_notInD ha hb hm
theorem t_ninDD (hu : X.A.units + 65 < cLine) (ha : PE X a (tM X.K W false ma)) (hb : PE X b (tM X.K W false mb)) (hm : behindInMarks .NotIn b = false := by first | exact nomark _ | rfl) : PT X (.Compare a [.NotIn] [b] pos) (tT X.K W (tCmpM dNotInD ma mb)) := ct_cmp (op_notInD hu) cmpd_notInD ha hb hm
end
end DM
end
section
set_option Elab.async false
set_option linter.all false
set_option maxRecDepth 100000
set_option maxHeartbeats 4000000
namespace LW
open PySem L2 Evl DM
def gd_2_3 : List D → List D → List D := fun ds es => ds ++ es
def b__law_bag : MS := (sRet (xLst (aCons (xC (.int 0)) (aCons (xC (.int 1234567891)) (aCons (xC (.int 0)) (aCons (xLc [1] (.nm 1) (mSeq (xSl (xVar 0) oNone (oSome (xC (.int 63))))) tYesM (xB1 bAbs (aCons (xVar 1) aNil))) aNil))))))
theorem e__law_bag : ∃ m : MF, m = mFn 2 true b__law_bag := ⟨_, rfl⟩
noncomputable def m__law_bag : MF := Classical.choose e__law_bag
theorem m__law_bag_eq : m__law_bag = mFn 2 true b__law_bag := Classical.choose_spec e__law_bag
theorem e__law_take : ∃ m : MF, m = mTake := ⟨_, rfl⟩
noncomputable def m__law_take : MF := Classical.choose e__law_take
theorem m__law_take_eq : m__law_take = mTake := Classical.choose_spec e__law_take
def b__law_sizes : MS := (sSeq (sAsg 1 (xCall m__law_take (aCons (xVar 0) (aCons (xC (.int 6)) aNil)))) (sSeq (sIf (tCmpM dLt (xVar 1) (xC (.int 4))) (sRet (xOp dSub1 (xLst (aCons (xLst (aCons (xC (.int 2)) aNil)) (aCons (xLst (aCons (xC (.int 1)) (aCons (xC (.int 2)) aNil))) (aCons (xLst (aCons (xC (.int 2)) (aCons (xC (.int 3)) aNil))) (aCons (xLst (aCons (xC (.int 2)) (aCons (xC (.int 3)) (aCons (xC (.int 4)) aNil)))) aNil))))) (xVar 1))) sNext) (sRet (xOrT (xLc [2] (.nm 2) (mRange2 (xC (.int 1)) (xC (.int 6))) (tCmpM dEq (xCall m__law_take (aCons (xVar 0) (aCons (xC (.int 2)) aNil))) (xC (.int 0))) (xVar 2)) (xLst (aCons (xOp dAdd (xC (.int 1)) (xCall m__law_take (aCons (xVar 0) (aCons (xC (.int 5)) aNil)))) aNil))))))
theorem e__law_sizes : ∃ m : MF, m = mFn 3 false b__law_sizes := ⟨_, rfl⟩
noncomputable def m__law_sizes : MF := Classical.choose e__law_sizes
theorem m__law_sizes_eq : m__law_sizes = mFn 3 false b__law_sizes := Classical.choose_spec e__law_sizes
def b__law_ends : MS := (sRet (xLst (aCons (xC (.str "pillar")) (aCons (xC (.str "sold")) (aCons (xC (.str "wall")) aNil)))))
theorem e__law_ends : ∃ m : MF, m = mFn 0 false b__law_ends := ⟨_, rfl⟩
noncomputable def m__law_ends : MF := Classical.choose e__law_ends
theorem m__law_ends_eq : m__law_ends = mFn 0 false b__law_ends := Classical.choose_spec e__law_ends
def b__law_lengths : MS := (sSeq (sAsg 1 (xCall m__law_take (aCons (xVar 0) (aCons (xC (.int 6)) aNil)))) (sSeq (sIf (tCmpM dLt (xVar 1) (xC (.int 3))) (sRet (xOp dSub1 (xLst (aCons (xLst aNil) (aCons (xLst (aCons (xC (.int 1)) aNil)) (aCons (xLst (aCons (xC (.int 1)) (aCons (xC (.int 2)) aNil))) aNil)))) (xVar 1))) sNext) (sRet (xLc [2] (.nm 2) (mRange2 (xC (.int 1)) (xC (.int 6))) (tCmpM dEq (xCall m__law_take (aCons (xVar 0) (aCons (xC (.int 3)) aNil))) (xC (.int 0))) (xVar 2)))))
theorem e__law_lengths : ∃ m : MF, m = mFn 3 false b__law_lengths := ⟨_, rfl⟩
noncomputable def m__law_lengths : MF := Classical.choose e__law_lengths
theorem m__law_lengths_eq : m__law_lengths = mFn 3 false b__law_lengths := Classical.choose_spec e__law_lengths
def b__law_rule : MS := (sSeq (sOwn 1 (xDisp [((xC (.str "sizes")), (xCall m__law_sizes (aCons (xVar 0) aNil))), ((xC (.str "bad")), (xB1 bDict (aCons (xLc [2] (.nm 2) (mSeq (xCall m__law_ends aNil)) tYesM (xTup (aCons (xVar 2) (aCons (xCall m__law_lengths (aCons (xVar 0) aNil)) aNil)))) aNil)))])) (sSeq (sSetD2 1 "soft" "where" (xCmp dEq (xCall m__law_take (aCons (xVar 0) (aCons (xC (.int 3)) aNil))) (xC (.int 0))) (xOp dSub1 (xLst (aCons (xC (.str "any")) (aCons (xC (.str "any")) (aCons (xC (.str "side")) aNil)))) (xCall m__law_take (aCons (xVar 0) (aCons (xC (.int 3)) aNil))))) (sSeq (sSetD 1 (xC (.str "offer")) (xOp dSub1 (xLst (aCons (xC (.int 0)) (aCons (xC (.int 0)) (aCons (xC (.int 0)) (aCons (xC (.int 1)) (aCons (xC (.int 2)) (aCons (xOp dAdd (xC (.int 1)) (xCall m__law_take (aCons (xVar 0) (aCons (xC (.int 5)) aNil)))) aNil))))))) (xCall m__law_take (aCons (xVar 0) (aCons (xC (.int 6)) aNil))))) (sRetOwn 1))))
theorem e__law_rule : ∃ m : MF, m = mFn 3 true b__law_rule := ⟨_, rfl⟩
noncomputable def m__law_rule : MF := Classical.choose e__law_rule
theorem m__law_rule_eq : m__law_rule = mFn 3 true b__law_rule := Classical.choose_spec e__law_rule
def b__law_one : MS := (sRet (xOp dSub1 (xVar 1) (xCall m__law_take (aCons (xVar 0) (aCons (xB1 bLen (aCons (xVar 1) aNil)) aNil)))))
theorem e__law_one : ∃ m : MF, m = mFn 2 false b__law_one := ⟨_, rfl⟩
noncomputable def m__law_one : MF := Classical.choose e__law_one
theorem m__law_one_eq : m__law_one = mFn 2 false b__law_one := Classical.choose_spec e__law_one
def b__law_end : MS := (sRet (xCall m__law_one (aCons (xVar 0) (aCons (xCall m__law_ends aNil) aNil))))
theorem e__law_end : ∃ m : MF, m = mFn 1 false b__law_end := ⟨_, rfl⟩
noncomputable def m__law_end : MF := Classical.choose e__law_end
theorem m__law_end_eq : m__law_end = mFn 1 false b__law_end := Classical.choose_spec e__law_end
def b__law_stretch : MS := (sRet (xTup (aCons (xCall m__law_end (aCons (xVar 0) aNil)) (aCons (xCall m__law_take (aCons (xVar 0) (aCons (xOp dAdd (xVar 1) (xC (.int 1))) aNil))) (aCons (xCall m__law_end (aCons (xVar 0) aNil)) aNil)))))
theorem e__law_stretch : ∃ m : MF, m = mFn 2 false b__law_stretch := ⟨_, rfl⟩
noncomputable def m__law_stretch : MF := Classical.choose e__law_stretch
theorem m__law_stretch_eq : m__law_stretch = mFn 2 false b__law_stretch := Classical.choose_spec e__law_stretch
def b__law_roomy : MS := (sSeq (sOwn 1 (xDisp [((xC (.str "sizes")), (xCall m__law_one (aCons (xVar 0) (aCons (xLst (aCons (xLst (aCons (xC (.int 1)) aNil)) (aCons (xLst (aCons (xC (.int 2)) aNil)) (aCons (xLst (aCons (xC (.int 1)) (aCons (xC (.int 2)) aNil))) (aCons (xLst (aCons (xC (.int 3)) aNil)) aNil))))) aNil)))), ((xC (.str "bad")), (xB1 bDict (aCons (xLc [2] (.nm 2) (mSeq (xCall m__law_ends aNil)) tYesM (xTup (aCons (xVar 2) (aCons (xLst aNil) aNil)))) aNil)))])) (sSeq (sSetD3 1 "soft" "where" "offer" (xC (.bl false)) (xCall m__law_one (aCons (xVar 0) (aCons (xLst (aCons (xC (.str "any")) (aCons (xC (.str "side")) aNil))) aNil))) (xCall m__law_one (aCons (xVar 0) (aCons (xLst (aCons (xC (.int 0)) (aCons (xC (.int 0)) (aCons (xC (.int 2)) aNil)))) aNil)))) (sFreeze 1 (sRet (xTup (aCons (xVar 1) (aCons (xTup (aCons (xCall m__law_end (aCons (xVar 0) aNil)) (aCons (xOp dAdd (xC (.int 40)) (xCall m__law_take (aCons (xVar 0) (aCons (xC (.int 21)) aNil)))) (aCons (xCall m__law_end (aCons (xVar 0) aNil)) aNil)))) aNil)))))))
theorem e__law_roomy : ∃ m : MF, m = mFn 3 false b__law_roomy := ⟨_, rfl⟩
noncomputable def m__law_roomy : MF := Classical.choose e__law_roomy
theorem m__law_roomy_eq : m__law_roomy = mFn 3 false b__law_roomy := Classical.choose_spec e__law_roomy
def b_is_integer : MS := (sRet (xAnd (xUn (dIsi "int") (xVar 0)) (xNot (xUn (dIsi "bool") (xVar 0)))))
theorem e_is_integer : ∃ m : MF, m = mFn 1 false b_is_integer := ⟨_, rfl⟩
noncomputable def m_is_integer : MF := Classical.choose e_is_integer
theorem m_is_integer_eq : m_is_integer = mFn 1 false b_is_integer := Classical.choose_spec e_is_integer
def b_is_size : MS := (sRet (xAnd (xCall m_is_integer (aCons (xVar 0) aNil)) (xChain dLe dLe (xC (.int 1)) (xVar 0) (xC (.int 5)))))
theorem e_is_size : ∃ m : MF, m = mFn 1 false b_is_size := ⟨_, rfl⟩
noncomputable def m_is_size : MF := Classical.choose e_is_size
theorem m_is_size_eq : m_is_size = mFn 1 false b_is_size := Classical.choose_spec e_is_size
def b_are_sizes : MS := (sRet (xAnd (xUn (dIsiT ["list", "tuple"]) (xVar 0)) (xB1 bAll (aCons (xLc [1] (.nm 1) (mSeq (xVar 0)) tYesM (xCall m_is_size (aCons (xVar 1) aNil))) aNil))))
theorem e_are_sizes : ∃ m : MF, m = mFn 2 false b_are_sizes := ⟨_, rfl⟩
noncomputable def m_are_sizes : MF := Classical.choose e_are_sizes
theorem m_are_sizes_eq : m_are_sizes = mFn 2 false b_are_sizes := Classical.choose_spec e_are_sizes
def b_is_end : MS := (sRet (xAnd (xUn (dIsi "str") (xVar 0)) (xCmp dIn (xVar 0) (xC (strsD ["pillar", "sold", "wall"])))))
theorem e_is_end : ∃ m : MF, m = mFn 1 false b_is_end := ⟨_, rfl⟩
noncomputable def m_is_end : MF := Classical.choose e_is_end
theorem m_is_end_eq : m_is_end = mFn 1 false b_is_end := Classical.choose_spec e_is_end
def b_are_bad : MS := (sSeq (sIf (tCmpM dIsN (xVar 0) (xC .non)) (sRet (xC (.bl true))) sNext) (sSeq (sIf (tNotM (xB (xUn (dIsi "dict") (xVar 0)))) (sRet (xC (.bl false))) sNext) (sRet (xB1 bAll (aCons (xLcL [1] (.nm 1) 0 keysD tYesM (xAnd (xCall m_is_end (aCons (xVar 1) aNil)) (xCall m_are_sizes (aCons (xOp dSub1 (xVar 0) (xVar 1)) aNil)))) aNil)))))
theorem e_are_bad : ∃ m : MF, m = mFn 2 false b_are_bad := ⟨_, rfl⟩
noncomputable def m_are_bad : MF := Classical.choose e_are_bad
theorem m_are_bad_eq : m_are_bad = mFn 2 false b_are_bad := Classical.choose_spec e_are_bad
def b_is_number : MS := (sRet (xAnd (xCall m_is_integer (aCons (xVar 0) aNil)) (xCmp dGe (xVar 0) (xC (.int 0)))))
theorem e_is_number : ∃ m : MF, m = mFn 1 false b_is_number := ⟨_, rfl⟩
noncomputable def m_is_number : MF := Classical.choose e_is_number
theorem m_is_number_eq : m_is_number = mFn 1 false b_is_number := Classical.choose_spec e_is_number
def b_is_offer : MS := (sRet (xAnd (xCall m_is_number (aCons (xVar 0) aNil)) (xCmp dLe (xVar 0) (xC (.int 5)))))
theorem e_is_offer : ∃ m : MF, m = mFn 1 false b_is_offer := ⟨_, rfl⟩
noncomputable def m_is_offer : MF := Classical.choose e_is_offer
theorem m_is_offer_eq : m_is_offer = mFn 1 false b_is_offer := Classical.choose_spec e_is_offer
def b_first_wrong : MS := (sSeq (sOwn 5 (xLst (aCons (xAnd (xCall m_are_sizes (aCons (xVar 0) aNil)) (xCmp dGt (xB1 bLen (aCons (xVar 0) aNil)) (xC (.int 0)))) (aCons (xCall m_are_bad (aCons (xVar 1) aNil)) (aCons (xUn (dIsi "bool") (xVar 2)) aNil))))) (sSeq (sApp 5 (xAnd (xUn (dIsi "str") (xVar 3)) (xCmp dIn (xVar 3) (xC (strsD ["any", "side"]))))) (sSeq (sApp 5 (xCall m_is_offer (aCons (xVar 4) aNil))) (sFreeze 5 (sRet (xIf (tCmpM dIn (xC (.bl false)) (xVar 5)) xNever (xC .non)))))))
theorem e_first_wrong : ∃ m : MF, m = mFn 6 false b_first_wrong := ⟨_, rfl⟩
noncomputable def m_first_wrong : MF := Classical.choose e_first_wrong
theorem m_first_wrong_eq : m_first_wrong = mFn 6 false b_first_wrong := Classical.choose_spec e_first_wrong
def b_Rule___init__ : MS := (sSeq (sAsg 6 (xCall m_first_wrong (aCons (xVar 1) (aCons (xVar 2) (aCons (xVar 3) (aCons (xVar 4) (aCons (xVar 5) aNil))))))) (sSeq (sIf (tCmpM dNotN (xVar 6) (xC .non)) sNever sNext) (sSeq (sAsg 7 (xIf (tCmpM dIsN (xVar 2) (xC .non)) xDnew (xVar 2))) (sSeq (sFldM 0 "Rule" "its_sizes" (xB1 bTuple (aCons (xUn dSortSet (xVar 1)) aNil))) (sSeq (sFldM 0 "Rule" "its_bad" (xDc [8] (.nm 8) (mSeq (xC (strsD ["pillar", "sold", "wall"]))) tYesM (xVar 8) (xUn dSortSet (xGet2 (xVar 7) (xVar 8) (xLst aNil))))) (sSeq (sFldM 0 "Rule" "its_soft" (xVar 3)) (sSeq (sFldM 0 "Rule" "its_where" (xVar 4)) (sFldM 0 "Rule" "its_offer" (xVar 5)))))))))
theorem e_Rule___init__ : ∃ m : MF, m = mInit 9 "Rule" b_Rule___init__ := ⟨_, rfl⟩
noncomputable def m_Rule___init__ : MF := Classical.choose e_Rule___init__
theorem m_Rule___init___eq : m_Rule___init__ = mInit 9 "Rule" b_Rule___init__ := Classical.choose_spec e_Rule___init__
def b__law_made : MS := (sRet (xMake gd_2_3 m_Rule___init__ (aCons (xOp dSub1 (xVar 0) (xC (.str "sizes"))) (aCons (xOp dSub1 (xVar 0) (xC (.str "bad"))) aNil)) (aCons (xOp dSub1 (xVar 0) (xC (.str "soft"))) (aCons (xOp dSub1 (xVar 0) (xC (.str "where"))) (aCons (xOp dSub1 (xVar 0) (xC (.str "offer"))) aNil)))))
theorem e__law_made : ∃ m : MF, m = mFn 1 false b__law_made := ⟨_, rfl⟩
noncomputable def m__law_made : MF := Classical.choose e__law_made
theorem m__law_made_eq : m__law_made = mFn 1 false b__law_made := Classical.choose_spec e__law_made
def b__law_befores : MS := (sSeq (sAsgG (gT [3, 4, 5]) (xVar 1)) (sSeq (sIf (tCmpM dLt (xVar 4) (xVar 2)) (sRet (xLst aNil)) sNext) (sSeq (sIf (tCmpM dEq (xOp dSub1 (xVar 0) (xC (.str "where"))) (xC (.str "any"))) (sRet (xLRg1 (xOp dAdd (xOp dSub (xVar 4) (xVar 2)) (xC (.int 1))))) sNext) (sRet (xUn dSortSet (xLst (aCons (xC (.int 0)) (aCons (xOp dSub (xVar 4) (xVar 2)) aNil))))))))
theorem e__law_befores : ∃ m : MF, m = mFn 6 false b__law_befores := ⟨_, rfl⟩
noncomputable def m__law_befores : MF := Classical.choose e__law_befores
theorem m__law_befores_eq : m__law_befores = mFn 6 false b__law_befores := Classical.choose_spec e__law_befores
def b__law_spoils : MS := (sSeq (sAsgG (gT [4, 5, 6]) (xVar 1)) (sRet (xOr (xCmp dIn (xVar 3) (xOp dSub1 (xOp dSub1 (xVar 0) (xC (.str "bad"))) (xVar 4))) (xCmp dIn (xOp dSub (xOp dSub (xVar 5) (xVar 2)) (xVar 3)) (xOp dSub1 (xOp dSub1 (xVar 0) (xC (.str "bad"))) (xVar 6))))))
theorem e__law_spoils : ∃ m : MF, m = mFn 7 false b__law_spoils := ⟨_, rfl⟩
noncomputable def m__law_spoils : MF := Classical.choose e__law_spoils
theorem m__law_spoils_eq : m__law_spoils = mFn 7 false b__law_spoils := Classical.choose_spec e__law_spoils
def b__law_offers : MS := (sSeq (sAsg 3 (xCall m__law_befores (aCons (xVar 0) (aCons (xVar 1) (aCons (xVar 2) aNil))))) (sSeq (sAsg 4 (xLc [5] (.nm 5) (mSeq (xVar 3)) (tNotM (xB (xCall m__law_spoils (aCons (xVar 0) (aCons (xVar 1) (aCons (xVar 2) (aCons (xVar 5) aNil))))))) (xVar 5))) (sSeq (sIf (tAndM (tCmpM dEq (xVar 4) (xLst aNil)) (xB (xOp dSub1 (xVar 0) (xC (.str "soft"))))) (sAsg 4 (xVar 3)) sNext) (sRet (xIf (tCmpM dGt (xOp dSub1 (xVar 0) (xC (.str "offer"))) (xC (.int 0))) (xSl (xVar 4) oNone (oSome (xOp dSub1 (xVar 0) (xC (.str "offer"))))) (xVar 4))))))
theorem e__law_offers : ∃ m : MF, m = mFn 6 false b__law_offers := ⟨_, rfl⟩
noncomputable def m__law_offers : MF := Classical.choose e__law_offers
theorem m__law_offers_eq : m__law_offers = mFn 6 false b__law_offers := Classical.choose_spec e__law_offers
def b__law_all_sales : MS := (sSeq (sOwn 2 (xLst aNil)) (sSeq (sFor (gN 3) (mSeq (xOp dSub1 (xVar 0) (xC (.str "sizes")))) (sExt 2 (xLc [4] (.nm 4) (mSeq (xCall m__law_offers (aCons (xVar 0) (aCons (xVar 1) (aCons (xVar 3) aNil))))) tYesM (xTup (aCons (xVar 3) (aCons (xVar 4) aNil)))))) (sFreeze 2 (sRet (xVar 2)))))
theorem e__law_all_sales : ∃ m : MF, m = mFn 5 false b__law_all_sales := ⟨_, rfl⟩
noncomputable def m__law_all_sales : MF := Classical.choose e__law_all_sales
theorem m__law_all_sales_eq : m__law_all_sales = mFn 5 false b__law_all_sales := Classical.choose_spec e__law_all_sales
def b__law_parted : MS := (sSeq (sAsgG (gT [3, 4, 5]) (xVar 0)) (sRet (xTup (aCons (xTup (aCons (xVar 3) (aCons (xVar 2) (aCons (xC (.str "sold")) aNil)))) (aCons (xTup (aCons (xC (.str "sold")) (aCons (xOp dSub (xOp dSub (xVar 4) (xVar 1)) (xVar 2)) (aCons (xVar 5) aNil)))) aNil)))))
theorem e__law_parted : ∃ m : MF, m = mFn 6 false b__law_parted := ⟨_, rfl⟩
noncomputable def m__law_parted : MF := Classical.choose e__law_parted
theorem m__law_parted_eq : m__law_parted = mFn 6 false b__law_parted := Classical.choose_spec e__law_parted
def b__law_children : MS := (sSeq (sOwn 2 xDnewT) (sSeq (sFor (gT [3, 4]) (mSeq (xCall m__law_all_sales (aCons (xVar 0) (aCons (xVar 1) aNil)))) (sFor (gN 5) (mSeq (xCall m__law_parted (aCons (xVar 1) (aCons (xVar 3) (aCons (xVar 4) aNil))))) (sSetT 2 (xVar 5) (xC (.bl true))))) (sFreeze 2 (sRet (xLcLT [5] (.nm 5) 2 (tCmpM dGt (xOp dSub1 (xVar 5) (xC (.int 1))) (xC (.int 0))) (xVar 5))))))
theorem e__law_children : ∃ m : MF, m = mFn 6 false b__law_children := ⟨_, rfl⟩
noncomputable def m__law_children : MF := Classical.choose e__law_children
theorem m__law_children_eq : m__law_children = mFn 6 false b__law_children := Classical.choose_spec e__law_children
def b__law_coming : MS := (sSeq (sParN [2, 3, 4] [true, true, false] (aCons (xDisp1T (xVar 1) (xC (.int 0))) (aCons (xLst (aCons (xVar 1) aNil)) (aCons (xC (.int 0)) aNil)))) (sSeq (sWhile (tPeek 3 (tCmpM dLt (xVar 4) (xB1 bLen (aCons (xVar 3) aNil)))) (sSeq (sAsg 5 (xOwnAt 3 (xVar 4))) (sSeq (sAug 4 (fun i j => i + j) (xC (.int 1))) (sFor (gN 6) (mSeq (xCall m__law_children (aCons (xVar 0) (aCons (xVar 5) aNil)))) (sIf (tPeek 2 (tCmpM dNotInK (xVar 6) (xVar 2))) (sSeq (sSetT 2 (xVar 6) (xOp dAdd (xOwnIx 2 (xVar 5)) (xC (.int 1)))) (sApp 3 (xVar 6))) sNext))))) (sRetOwn 2)))
theorem e__law_coming : ∃ m : MF, m = mFn 7 true b__law_coming := ⟨_, rfl⟩
noncomputable def m__law_coming : MF := Classical.choose e__law_coming
theorem m__law_coming_eq : m__law_coming = mFn 7 true b__law_coming := Classical.choose_spec e__law_coming
def b__law_mixed : MS := (sSeq (sOwn 2 (xLst aNil)) (sSeq (sFor (gN 3) (mSeq (xVar 1)) (sIns 2 (xPeek 2 (xCall m__law_take (aCons (xVar 0) (aCons (xOp dAdd (xB1 bLen (aCons (xVar 2) aNil)) (xC (.int 1))) aNil)))) (xVar 3))) (sRetOwn 2)))
theorem e__law_mixed : ∃ m : MF, m = mFn 4 true b__law_mixed := ⟨_, rfl⟩
noncomputable def m__law_mixed : MF := Classical.choose e__law_mixed
theorem m__law_mixed_eq : m__law_mixed = mFn 4 true b__law_mixed := Classical.choose_spec e__law_mixed
def b_check_size : MS := (sIf (tOrM (tNotM (xB (xCall m_is_size (aCons (xVar 1) aNil)))) (tCmpM dNotIn (xVar 1) (xUn (dFld "Rule" "its_sizes") (xVar 0)))) sNever sNext)
theorem e_check_size : ∃ m : MF, m = mFn 2 false b_check_size := ⟨_, rfl⟩
noncomputable def m_check_size : MF := Classical.choose e_check_size
theorem m_check_size_eq : m_check_size = mFn 2 false b_check_size := Classical.choose_spec e_check_size
def b_possible : MS := (sSeq (sDrop (xCall m_check_size (aCons (xVar 0) (aCons (xVar 2) aNil)))) (sSeq (sAsg 3 (xOp dSub (xOp dSub1 (xVar 1) (xC (.int 1))) (xVar 2))) (sSeq (sIf (tCmpM dLt (xVar 3) (xC (.int 0))) (sRet (xLst aNil)) sNext) (sRet (xIf (tCmpM dEq (xUn (dFld "Rule" "its_where") (xVar 0)) (xC (.str "any"))) (xLRg1 (xOp dAdd (xVar 3) (xC (.int 1)))) (xOp dSort2 (xC (.int 0)) (xVar 3)))))))
theorem e_possible : ∃ m : MF, m = mFn 4 false b_possible := ⟨_, rfl⟩
noncomputable def m_possible : MF := Classical.choose e_possible
theorem m_possible_eq : m_possible = mFn 4 false b_possible := Classical.choose_spec e_possible
def b_Rule_bad_at : MS := (sSeq (sIf (tNotM (xB (xCall m_is_end (aCons (xVar 1) aNil)))) sNever sNext) (sRet (xB1 bList (aCons (xOp dSub1 (xUn (dFld "Rule" "its_bad") (xVar 0)) (xVar 1)) aNil))))
theorem e_Rule_bad_at : ∃ m : MF, m = mFn 2 false b_Rule_bad_at := ⟨_, rfl⟩
noncomputable def m_Rule_bad_at : MF := Classical.choose e_Rule_bad_at
theorem m_Rule_bad_at_eq : m_Rule_bad_at = mFn 2 false b_Rule_bad_at := Classical.choose_spec e_Rule_bad_at
def b_good_befores : MS := (sSeq (sAsgG (gT [4, 5, 6]) (xVar 1)) (sSeq (sAsgG (gT [7, 8]) (xTup (aCons (xMeth "Rule" "bad_at" m_Rule_bad_at (xVar 0) (aCons (xVar 4) aNil)) (aCons (xMeth "Rule" "bad_at" m_Rule_bad_at (xVar 0) (aCons (xVar 6) aNil)) aNil)))) (sRet (xLc [9] (.nm 9) (mSeq (xVar 3)) (tAndM (tCmpM dNotIn (xVar 9) (xVar 7)) (tCmpM dNotIn (xOp dSub (xOp dSub (xVar 5) (xVar 2)) (xVar 9)) (xVar 8))) (xVar 9)))))
theorem e_good_befores : ∃ m : MF, m = mFn 10 false b_good_befores := ⟨_, rfl⟩
noncomputable def m_good_befores : MF := Classical.choose e_good_befores
theorem m_good_befores_eq : m_good_befores = mFn 10 false b_good_befores := Classical.choose_spec e_good_befores
def b_let : MS := (sSeq (sAsg 3 (xCall m_possible (aCons (xVar 0) (aCons (xVar 1) (aCons (xVar 2) aNil))))) (sSeq (sAsg 4 (xCall m_good_befores (aCons (xVar 0) (aCons (xVar 1) (aCons (xVar 2) (aCons (xVar 3) aNil)))))) (sRet (xIf (tAndM (tCmpM dEq (xVar 4) (xLst aNil)) (xB (xUn (dFld "Rule" "its_soft") (xVar 0)))) (xVar 3) (xVar 4)))))
theorem e_let : ∃ m : MF, m = mFn 5 false b_let := ⟨_, rfl⟩
noncomputable def m_let : MF := Classical.choose e_let
theorem m_let_eq : m_let = mFn 5 false b_let := Classical.choose_spec e_let
def b_offered : MS := (sSeq (sAsg 3 (xCall m_let (aCons (xVar 0) (aCons (xVar 1) (aCons (xVar 2) aNil))))) (sRet (xIf (tCmpM dGt (xUn (dFld "Rule" "its_offer") (xVar 0)) (xC (.int 0))) (xSl (xVar 3) oNone (oSome (xUn (dFld "Rule" "its_offer") (xVar 0)))) (xVar 3))))
theorem e_offered : ∃ m : MF, m = mFn 4 false b_offered := ⟨_, rfl⟩
noncomputable def m_offered : MF := Classical.choose e_offered
theorem m_offered_eq : m_offered = mFn 4 false b_offered := Classical.choose_spec e_offered
def b_sales : MS := (sRet (xLc2 [2, 3] (.nm 2) (mSeq (xUn (dFld "Rule" "its_sizes") (xVar 0))) tYesM [3] (mSeq (xCall m_offered (aCons (xVar 0) (aCons (xVar 1) (aCons (xVar 2) aNil))))) (.nm 3) tYesM (xTup (aCons (xVar 2) (aCons (xVar 3) aNil)))))
theorem e_sales : ∃ m : MF, m = mFn 4 false b_sales := ⟨_, rfl⟩
noncomputable def m_sales : MF := Classical.choose e_sales
theorem m_sales_eq : m_sales = mFn 4 false b_sales := Classical.choose_spec e_sales
def b_fits : MS := (sRet (xAnd (xCall m_is_size (aCons (xVar 1) aNil)) (xAnd (xCall m_is_number (aCons (xVar 2) aNil)) (xCmp dLe (xOp dAdd (xVar 2) (xVar 1)) (xOp dSub1 (xVar 0) (xC (.int 1)))))))
theorem e_fits : ∃ m : MF, m = mFn 3 false b_fits := ⟨_, rfl⟩
noncomputable def m_fits : MF := Classical.choose e_fits
theorem m_fits_eq : m_fits = mFn 3 false b_fits := Classical.choose_spec e_fits
def b_parts : MS := (sSeq (sIf (tNotM (xB (xCall m_fits (aCons (xVar 0) (aCons (xVar 1) (aCons (xVar 2) aNil)))))) sNever sNext) (sSeq (sAsgG (gT [3, 4, 5]) (xVar 0)) (sRet (xTup (aCons (xTup (aCons (xVar 3) (aCons (xVar 2) (aCons (xC (.str "sold")) aNil)))) (aCons (xTup (aCons (xC (.str "sold")) (aCons (xOp dSub (xOp dSub (xVar 4) (xVar 1)) (xVar 2)) (aCons (xVar 5) aNil)))) aNil))))))
theorem e_parts : ∃ m : MF, m = mFn 6 false b_parts := ⟨_, rfl⟩
noncomputable def m_parts : MF := Classical.choose e_parts
theorem m_parts_eq : m_parts = mFn 6 false b_parts := Classical.choose_spec e_parts
def b_split : MS := (sSeq (sOwn 2 (xLst aNil)) (sSeq (sFor (gT [3, 4]) (mSeq (xCall m_sales (aCons (xVar 0) (aCons (xVar 1) aNil)))) (sSeq (sAsgG (gT [5, 6]) (xCall m_parts (aCons (xVar 1) (aCons (xVar 3) (aCons (xVar 4) aNil))))) (sSeq (sAsg 7 (xLst (aCons (xTup (aCons (xTup (aCons (xVar 4) (aCons (xVar 3) aNil))) (aCons (xC (.int 0)) (aCons (xVar 5) aNil)))) (aCons (xTup (aCons (xTup (aCons (xVar 4) (aCons (xVar 3) aNil))) (aCons (xOp dAdd (xVar 4) (xVar 3)) (aCons (xVar 6) aNil)))) aNil)))) (sExt 2 (xLc [8] (.nm 8) (mSeq (xVar 7)) (tCmpM dGt (xOp dSub1 (xOp dSub1 (xVar 8) (xC (.int 2))) (xC (.int 1))) (xC (.int 0))) (xVar 8)))))) (sFreeze 2 (sRet (xVar 2)))))
theorem e_split : ∃ m : MF, m = mFn 9 false b_split := ⟨_, rfl⟩
noncomputable def m_split : MF := Classical.choose e_split
theorem m_split_eq : m_split = mFn 9 false b_split := Classical.choose_spec e_split
def b_ways : MS := (sSeq (sPar 2 true 3 true (xDisp1T (xVar 1) (xTup (aCons (xLst aNil) (aCons (xC (.int 0)) aNil)))) (xLst (aCons (xVar 1) aNil))) (sSeq (sWhile (tPeek 3 (tCmpM dNe (xVar 3) (xLst aNil))) (sSeq (sPop0 3 (gN 4)) (sSeq (sAsgG (gT [5, 6]) (xOwnIx 2 (xVar 4))) (sFor (Tr.m (.tp [.tp [.nm 7, .nm 8], .nm 9, .nm 10])) (mSeq (xCall m_split (aCons (xVar 0) (aCons (xVar 4) aNil)))) (sIf (tPeek 2 (tCmpM dNotInK (xVar 10) (xVar 2))) (sSeq (sSetT 2 (xVar 10) (xTup (aCons (xOp dAdd (xVar 5) (xLst (aCons (xTup (aCons (xOp dAdd (xVar 6) (xVar 7)) (aCons (xVar 8) aNil))) aNil))) (aCons (xOp dAdd (xVar 6) (xVar 9)) aNil)))) (sApp 3 (xVar 10))) sNext))))) (sRetOwn 2)))
theorem e_ways : ∃ m : MF, m = mFn 11 true b_ways := ⟨_, rfl⟩
noncomputable def m_ways : MF := Classical.choose e_ways
theorem m_ways_eq : m_ways = mFn 11 true b_ways := Classical.choose_spec e_ways
def b_way_to : MS := (sSeq (sAsg 3 (xCall m_ways (aCons (xVar 0) (aCons (xVar 1) aNil)))) (sRet (xIf (tAndM (tCmpM dInK (xVar 2) (xVar 3)) (tCmpM dGt (xOp dSub1 (xVar 2) (xC (.int 1))) (xC (.int 0)))) (xB1 bList (aCons (xOp dSub1 (xOp dSub1 (xVar 3) (xVar 2)) (xC (.int 0))) aNil)) (xC .non))))
theorem e_way_to : ∃ m : MF, m = mFn 4 true b_way_to := ⟨_, rfl⟩
noncomputable def m_way_to : MF := Classical.choose e_way_to
theorem m_way_to_eq : m_way_to = mFn 4 true b_way_to := Classical.choose_spec e_way_to
def b__law_is_whole_number : MS := (sRet (xAnd (xUn (dIsi "int") (xVar 0)) (xNot (xUn (dIsi "bool") (xVar 0)))))
theorem e__law_is_whole_number : ∃ m : MF, m = mFn 1 false b__law_is_whole_number := ⟨_, rfl⟩
noncomputable def m__law_is_whole_number : MF := Classical.choose e__law_is_whole_number
theorem m__law_is_whole_number_eq : m__law_is_whole_number = mFn 1 false b__law_is_whole_number := Classical.choose_spec e__law_is_whole_number
def b__law_is_stretch_play : MS := (sSeq (sIf (tNotM (xB (xUn (dIsi "list") (xVar 0)))) (sRet (xC (.bl false))) sNext) (sSeq (sFor (gN 1) (mSeq (xVar 0)) (sSeq (sIf (tOrM (tNotM (xB (xUn (dIsi "tuple") (xVar 1)))) (tCmpM dNe (xB1 bLen (aCons (xVar 1) aNil)) (xC (.int 2)))) (sRet (xC (.bl false))) sNext) (sIf (tCmpM dNe (xLc [2] (.nm 2) (mSeq (xVar 1)) (tNotM (xB (xCall m__law_is_whole_number (aCons (xVar 2) aNil)))) (xVar 2)) (xLst aNil)) (sRet (xC (.bl false))) sNext))) (sRet (xC (.bl true)))))
theorem e__law_is_stretch_play : ∃ m : MF, m = mFn 3 false b__law_is_stretch_play := ⟨_, rfl⟩
noncomputable def m__law_is_stretch_play : MF := Classical.choose e__law_is_stretch_play
theorem m__law_is_stretch_play_eq : m__law_is_stretch_play = mFn 3 false b__law_is_stretch_play := Classical.choose_spec e__law_is_stretch_play
def b__law_sold : MS := (sSeq (sFor (Tr.m (.tp [.nm 3, .tp [.nm 4, .nm 5, .nm 6]])) (mEnum (xVar 1)) (sIf (tAndM (tCmpM dEq (xVar 4) (xOp dSub1 (xVar 2) (xC (.int 0)))) (tAndM (tCmpM dIn (xOp dSub1 (xVar 2) (xC (.int 2))) (xOp dSub1 (xVar 0) (xC (.str "sizes")))) (tCmpM dIn (xOp dSub (xOp dSub1 (xVar 2) (xC (.int 1))) (xVar 5)) (xCall m__law_offers (aCons (xVar 0) (aCons (xVar 6) (aCons (xOp dSub1 (xVar 2) (xC (.int 2))) aNil))))))) (sSeq (sAsgG (gT [7, 8]) (xCall m__law_parted (aCons (xVar 6) (aCons (xOp dSub1 (xVar 2) (xC (.int 2))) (aCons (xOp dSub (xOp dSub1 (xVar 2) (xC (.int 1))) (xVar 5)) aNil))))) (sSeq (sAsg 9 (xLst (aCons (xTup (aCons (xVar 4) (aCons (xVar 5) (aCons (xVar 7) aNil)))) (aCons (xTup (aCons (xVar 4) (aCons (xOp dAdd (xOp dSub1 (xVar 2) (xC (.int 1))) (xOp dSub1 (xVar 2) (xC (.int 2)))) (aCons (xVar 8) aNil)))) aNil)))) (sRet (xOp dAdd (xOp dAdd (xSl (xVar 1) oNone (oSome (xVar 3))) (xLc [10] (.nm 10) (mSeq (xVar 9)) (tCmpM dGt (xOp dSub1 (xOp dSub1 (xVar 10) (xC (.int 2))) (xC (.int 1))) (xC (.int 0))) (xVar 10))) (xSl (xVar 1) (oSome (xOp dAdd (xVar 3) (xC (.int 1)))) oNone))))) sNext)) (sRet (xC .non)))
theorem e__law_sold : ∃ m : MF, m = mFn 11 false b__law_sold := ⟨_, rfl⟩
noncomputable def m__law_sold : MF := Classical.choose e__law_sold
theorem m__law_sold_eq : m__law_sold = mFn 11 false b__law_sold := Classical.choose_spec e__law_sold
def b__law_behind : MS := (sSeq (sAsg 3 (xIf (tCmpM dGt (xOp dSub1 (xVar 1) (xC (.int 1))) (xC (.int 0))) (xLst (aCons (xTup (aCons (xC (.int 0)) (aCons (xC (.int 0)) (aCons (xVar 1) aNil)))) aNil)) (xLst aNil))) (sSeq (sFor (gT [4, 5]) (mSeq (xVar 2)) (sSeq (sAsg 3 (xCall m__law_sold (aCons (xVar 0) (aCons (xVar 3) (aCons (xTup (aCons (xC (.int 0)) (aCons (xVar 4) (aCons (xVar 5) aNil)))) aNil))))) (sIf (tCmpM dIsN (xVar 3) (xC .non)) (sRet (xC .non)) sNext))) (sRet (xLc [6] (.nm 6) (mSeq (xVar 3)) tYesM (xOp dSub1 (xVar 6) (xC (.int 2)))))))
theorem e__law_behind : ∃ m : MF, m = mFn 7 true b__law_behind := ⟨_, rfl⟩
noncomputable def m__law_behind : MF := Classical.choose e__law_behind
theorem m__law_behind_eq : m__law_behind = mFn 7 true b__law_behind := Classical.choose_spec e__law_behind
def b__law_right : MS := (sSeq (sOwn 5 (xCall m_way_to (aCons (xVar 0) (aCons (xVar 2) (aCons (xVar 3) aNil))))) (sSeq (sIf (tOrM (tCmpM dNotInK (xVar 3) (xVar 1)) (tCmpM dEq (xOp dSub1 (xVar 3) (xC (.int 1))) (xC (.int 0)))) (sRet (xPeek 5 (xCmp dIsN (xVar 5) (xC .non)))) sNext) (sSeq (sIf (tOrM (tNotM (xB (xPeek 5 (xCall m__law_is_stretch_play (aCons (xVar 5) aNil))))) (tPeek 5 (tCmpM dNe (xB1 bLen (aCons (xVar 5) aNil)) (xOp dSub1 (xVar 1) (xVar 3))))) (sRet (xC (.bl false))) sNext) (sSeq (sPar 6 false 7 false (xOrT (xPeekF 5 (xCall m__law_behind (aCons (xVar 4) (aCons (xVar 2) (aCons (xVar 5) aNil))))) (xLst aNil)) (xPeekF 5 (xB1 bList (aCons (xVar 5) aNil)))) (sSeq (sApp 5 (xC .non)) (sRet (xAnd (xCmp dInD (xVar 3) (xVar 6)) (xCmp dEq (xCall m_way_to (aCons (xVar 0) (aCons (xVar 2) (aCons (xVar 3) aNil)))) (xVar 7)))))))))
theorem e__law_right : ∃ m : MF, m = mFn 8 false b__law_right := ⟨_, rfl⟩
noncomputable def m__law_right : MF := Classical.choose e__law_right
theorem m__law_right_eq : m__law_right = mFn 8 false b__law_right := Classical.choose_spec e__law_right
def ms_law : MS := (sSeq (sFor (gN 2) (mRange1 (xC (.int 4))) (sSeq (sAsgG (gT [3, 4]) (xIf (tCmpM dGt (xVar 2) (xC (.int 0))) (xTup (aCons (xCall m__law_rule (aCons (xVar 1) aNil)) (aCons (xCall m__law_stretch (aCons (xVar 1) (aCons (xC (.int 12)) aNil))) aNil))) (xCall m__law_roomy (aCons (xVar 1) aNil)))) (sSeq (sPar 5 false 6 false (xCall m__law_made (aCons (xVar 3) aNil)) (xCall m__law_stretch (aCons (xVar 1) (aCons (xC (.int 12)) aNil)))) (sSeq (sAsg 7 (xLst (aCons (xCall m__law_coming (aCons (xVar 3) (aCons (xVar 4) aNil))) (aCons (xCall m__law_coming (aCons (xVar 3) (aCons (xVar 6) aNil))) aNil)))) (sSeq (sAsg 8 (xOp dAdd (xSl (xCall m__law_mixed (aCons (xVar 1) (aCons (xB1 bSortK (aCons (xOp dSub1 (xVar 7) (xC (.int 0))) aNil)) aNil))) oNone (oSome (xC (.int 4)))) (xSl (xCall m__law_mixed (aCons (xVar 1) (aCons (xB1 bSortK (aCons (xOp dSub1 (xVar 7) (xC (.int 1))) aNil)) aNil))) oNone (oSome (xC (.int 2)))))) (sFor (gN 9) (mSeq (xOp dAdd (xOp dAdd (xVar 8) (xLc [10] (.nm 10) (mRange1 (xC (.int 2))) tYesM (xCall m__law_stretch (aCons (xVar 1) (aCons (xC (.int 12)) aNil))))) (xLst (aCons (xVar 4) (aCons (xVar 6) aNil))))) (sFor (gN 11) (mSeq (xCall m__law_mixed (aCons (xVar 1) (aCons (xLst (aCons (xC (.int 0)) (aCons (xC (.int 1)) aNil))) aNil)))) (sIf (tNotM (xB (xCall m__law_right (aCons (xVar 5) (aCons (xOp dSub1 (xVar 7) (xVar 11)) (aCons (xOp dSub1 (xLst (aCons (xVar 4) (aCons (xVar 6) aNil))) (xVar 11)) (aCons (xVar 9) (aCons (xVar 3) aNil)))))))) (sRet (xC (.bl false))) sNext)))))))) (sRet (xC (.bl true))))
end LW
end
section
set_option Elab.async false
set_option linter.all false
set_option maxRecDepth 100000
set_option maxHeartbeats 4000000
namespace LW
open PySem L2 Evl DM
variable {k : D → Prop} {ex : Exn → Prop}

/-! ### comprehensions -/
theorem lcGo_nm {j : Nat} {mt : MT} {me : MX} {ρ : MEnv} {k : D → Prop} (p : D → Bool) (f : D → D) : ∀ (ds acc : List D), (∀ d ∈ ds, ∀ k' : Bool → Prop, k' (p d) → mt (ρ.set j (.sh d)) k' no1) → (∀ d ∈ ds, p d = true → ∀ k' : D → Prop, k' (f d) → me (ρ.set j (.sh d)) k' no1) →
    k (.lst (acc ++ (ds.filter p).map f)) → lcGo (.nm j) mt me ρ k ds acc
  | [], acc, _, _, h => by
    rw [List.filter_nil, List.map_nil, List.append_nil] at h
    exact h
  | d :: ds, acc, h1, h2, h => by
    refine h1 d List.mem_cons_self _ ?_
    have r1 : ∀ d' ∈ ds, ∀ k' : Bool → Prop, k' (p d') → mt (ρ.set j (.sh d')) k' no1 := fun d' hd => h1 d' (List.mem_cons_of_mem _ hd)
    have r2 : ∀ d' ∈ ds, p d' = true → ∀ k' : D → Prop, k' (f d') → me (ρ.set j (.sh d')) k' no1 := fun d' hd => h2 d' (List.mem_cons_of_mem _ hd)
    cases q : p d with
    | true =>
      rw [if_pos rfl]
      refine h2 d List.mem_cons_self q _ (lcGo_nm p f ds _ r1 r2 ?_)
      rw [List.filter_cons_of_pos q, List.map_cons] at h
      rw [List.append_assoc]
      exact h
    | false =>
      rw [if_neg Bool.false_ne_true]
      refine lcGo_nm p f ds _ r1 r2 ?_
      rw [List.filter_cons_of_neg (by rw [q]; exact Bool.false_ne_true)] at h
      exact h
/-- no test -/
theorem lcGo_all {j : Nat} {me : MX} {ρ : MEnv} {k : D → Prop} (f : D → D) (ds : List D) (h2 : ∀ d ∈ ds, ∀ k' : D → Prop, k' (f d) → me (ρ.set j (.sh d)) k' no1) (h : k (.lst (ds.map f))) : lcGo (.nm j) tYesM me ρ k ds [] :=
  lcGo_nm (fun _ => true) f ds [] (fun _ _ _ h => h) (fun d hd _ => h2 d hd) (by rw [List.nil_append, List.filter_eq_self.mpr (fun _ _ => rfl)]; exact h)
/-- a test that may say either -/
theorem lcGo_any {j : Nat} {mt : MT} {me : MX} {ρ : MEnv} {k : D → Prop} : ∀ (ds acc : List D), (∀ d ∈ ds, ∀ k' : Bool → Prop, (∀ b, k' b) → mt (ρ.set j (.sh d)) k' no1) → (∀ d ∈ ds, ∀ k' : D → Prop, k' d → me (ρ.set j (.sh d)) k' no1) →
    (∀ l : List D, l.Sublist ds → k (.lst (acc ++ l))) → lcGo (.nm j) mt me ρ k ds acc
  | [], acc, _, _, h => by
    have := h [] (List.Sublist.refl _)
    rw [List.append_nil] at this
    exact this
  | d :: ds, acc, h1, h2, h => by
    refine h1 d List.mem_cons_self _ fun b => ?_
    have r1 : ∀ d' ∈ ds, ∀ k' : Bool → Prop, (∀ b, k' b) → mt (ρ.set j (.sh d')) k' no1 := fun d' hd => h1 d' (List.mem_cons_of_mem _ hd)
    have r2 : ∀ d' ∈ ds, ∀ k' : D → Prop, k' d' → me (ρ.set j (.sh d')) k' no1 := fun d' hd => h2 d' (List.mem_cons_of_mem _ hd)
    cases b with
    | true =>
      rw [if_pos rfl]
      refine h2 d List.mem_cons_self _ (lcGo_any ds _ r1 r2 fun l hl => ?_)
      rw [List.append_assoc]
      exact h (d :: l) (hl.cons₂ d)
    | false =>
      rw [if_neg Bool.false_ne_true]
      exact lcGo_any ds _ r1 r2 fun l hl => h l (hl.cons d)
theorem forGo_inv {j : Nat} {m : MS} {M : MD} (I : MEnv → Prop) : ∀ (ds : List D) (ρ : MEnv), I ρ → (∀ d ∈ ds, ∀ ρ M', I ρ → (∀ ρ', I ρ' → M'.nx ρ' ∧ M'.ct ρ') → M'.rt = M.rt → M'.ex = M.ex → m M' (ρ.set j (.sh d))) → (∀ ρ, I ρ → M.nx ρ) → forGo (gN j) m ds M ρ
  | [], ρ, h, _, hn => hn ρ h
  | d :: ds, ρ, h, hs, hn => by
    refine hs d List.mem_cons_self ρ _ h (fun ρ' i => ?_) rfl rfl
    have r := forGo_inv I ds ρ' i (fun d' hd => hs d' (List.mem_cons_of_mem _ hd)) hn
    exact ⟨r, r⟩

/-! ### kinds -/
def isInt : D → Bool
  | .int _ => true
  | _ => false
def isNum : D → Bool
  | .int i => decide (0 ≤ i)
  | _ => false
def isSize : D → Bool
  | .int i => decide (1 ≤ i) && decide (i ≤ 5)
  | _ => false
def ends : List Str := ["pillar", "sold", "wall"]
def isEnd : D → Bool
  | .str x => inD (.str x) (ends.map D.str)
  | _ => false
theorem v_is_integer {d : D} {k : D → Prop} {ex : Exn → Prop} (ht : (tyNm d).isSome = true) (h : k (.bl (isInt d))) : m_is_integer [d] k ex := by
  have aux : ∀ t, tyNm d = some t → ∀ b c, kitB t "int" = some b → kitB t "bool" = some c → (b && !c) = isInt d → m_is_integer [d] k ex := fun t e b c hb hc hi => by
    rw [m_is_integer_eq]; unfold mFn b_is_integer sRet xAnd xUn xVar xNot
    dsimp only [List.map, List.length, List.replicate, List.append, List.getElem?_cons_zero]
    refine ⟨t, b, e, hb, ?_⟩
    cases b with
    | true => exact ⟨t, c, e, hc, by simpa [← hi] using h⟩
    | false => simpa [← hi] using h
  cases d with
  | non => exact aux _ rfl false false rfl rfl rfl
  | bl b => exact aux _ rfl true true rfl rfl rfl
  | int i => exact aux _ rfl true false rfl rfl rfl
  | str x => exact aux _ rfl false false rfl rfl rfl
  | lst x => exact aux _ rfl false false rfl rfl rfl
  | tup x => exact aux _ rfl false false rfl rfl rfl
  | ktp x => exact aux _ rfl false false rfl rfl rfl
  | dct x => exact aux _ rfl false false rfl rfl rfl
  | ins c x => cases ht
  | new a c x => cases ht
  | scr x => cases ht
  | dtt x => cases ht
  | exo a b c => cases ht
  | bag => exact aux _ rfl false false rfl rfl rfl
theorem v_is_number {d : D} {k : D → Prop} {ex : Exn → Prop} (ht : (tyNm d).isSome = true) (h : k (.bl (isNum d))) : m_is_number [d] k ex := by
  rw [m_is_number_eq]
  refine v_is_integer ht ?_
  cases d <;> exact h
theorem v_is_size {d : D} {k : D → Prop} {ex : Exn → Prop} (ht : (tyNm d).isSome = true) (h : k (.bl (isSize d))) : m_is_size [d] k ex := by
  rw [m_is_size_eq]
  refine v_is_integer ht ?_
  cases d with
  | int i =>
    show (if decide (1 ≤ i) = true then k (.bl (decide (i ≤ 5))) else k (.bl false))
    have h' : k (.bl (decide (1 ≤ i) && decide (i ≤ 5))) := h
    cases q : decide (1 ≤ i) with
    | true => rw [if_pos rfl]; rw [q, Bool.true_and] at h'; exact h'
    | false => rw [if_neg Bool.false_ne_true]; rw [q, Bool.false_and] at h'; exact h'
  | _ => exact h
theorem v_is_end {d : D} {k : D → Prop} {ex : Exn → Prop} (ht : (tyNm d).isSome = true) (h : k (.bl (isEnd d))) : m_is_end [d] k ex := by
  have aux : ∀ t, tyNm d = some t → kitB t "str" = some false → isEnd d = false → m_is_end [d] k ex := fun t e hb hi => by
    rw [m_is_end_eq]
    exact ⟨t, false, e, hb, by rw [hi] at h; exact h⟩
  cases d with
  | non => exact aux _ rfl rfl rfl
  | bl b => exact aux _ rfl rfl rfl
  | int i => exact aux _ rfl rfl rfl
  | str x =>
    rw [m_is_end_eq]
    exact ⟨_, true, rfl, rfl, ⟨rfl, rfl⟩, h⟩
  | lst x => exact aux _ rfl rfl rfl
  | tup x => exact aux _ rfl rfl rfl
  | ktp x => exact aux _ rfl rfl rfl
  | dct x => exact aux _ rfl rfl rfl
  | ins c x => cases ht
  | new a c x => cases ht
  | scr x => cases ht
  | dtt x => cases ht
  | exo a b c => cases ht
  | bag => exact aux _ rfl rfl rfl
/-- items of a list or tuple -/
def areSizes : D → Bool
  | .lst xs => xs.all isSize
  | .tup xs => xs.all isSize
  | _ => false
theorem bAll_of {xs : List Bool} {k : D → Prop} (h : k (.bl (xs.all id))) : bAll [.lst (xs.map D.bl)] k := ⟨xs, rfl, h⟩
theorem v_are_sizes {d : D} {k : D → Prop} {ex : Exn → Prop} (ht : (tyNm d).isSome = true) (hb : d ≠ .bag) (hi : ∀ xs, d = .lst xs ∨ d = .tup xs → xs.length ≤ LN ∧ ∀ x ∈ xs, (tyNm x).isSome = true) (h : k (.bl (areSizes d))) (hkt : ∀ xs, d ≠ .ktp xs := by intro xs z; cases z) : m_are_sizes [d] k ex := by
  have aux : ∀ t, tyNm d = some t → kitBs t ["list", "tuple"] = some false → areSizes d = false → m_are_sizes [d] k ex := fun t e hb hi => by
    rw [m_are_sizes_eq]
    exact ⟨t, false, e, hb, by rw [hi] at h; exact h⟩
  have main : ∀ xs : List D, xs.length ≤ LN → (∀ x ∈ xs, (tyNm x).isSome = true) → k (.bl (xs.all isSize)) → ∀ ρ : MEnv, lcGo (.nm 1) tYesM (xCall m_is_size (aCons (xVar 1) aNil)) [Sl.sh d, Sl.no] (fun l => bAll [l] k) xs [] := fun xs hl hx hk ρ => by
    refine lcGo_all (fun x => .bl (isSize x)) xs (fun x hxm k' hk' => v_is_size (hx x hxm) hk') ?_
    have e : xs.map (fun x => D.bl (isSize x)) = (xs.map isSize).map D.bl := by rw [List.map_map] <;> rfl
    rw [e]
    refine bAll_of ?_
    rw [List.all_map]
    exact hk
  cases d with
  | non => exact aux _ rfl rfl rfl
  | bl b => exact aux _ rfl rfl rfl
  | int i => exact aux _ rfl rfl rfl
  | str x => exact aux _ rfl rfl rfl
  | lst xs =>
    rw [m_are_sizes_eq]
    exact ⟨_, true, rfl, rfl, (hi xs (.inl rfl)).1, main xs (hi xs (.inl rfl)).1 (hi xs (.inl rfl)).2 h []⟩
  | tup xs =>
    rw [m_are_sizes_eq]
    exact ⟨_, true, rfl, rfl, (hi xs (.inr rfl)).1, main xs (hi xs (.inr rfl)).1 (hi xs (.inr rfl)).2 h []⟩
  | dct x => exact aux _ rfl rfl rfl
  | ins c x => cases ht
  | new a c x => cases ht
  | ktp x => exact absurd rfl (hkt x)
  | scr x => cases ht
  | dtt x => cases ht
  | exo a b c => cases ht
  | bag => exact absurd rfl hb

/-! ### data of nums -/
def nums (l : List Int) : D := .lst (l.map D.int)
theorem nums_ty (l : List Int) : ∀ x ∈ l.map D.int, (tyNm x).isSome = true := fun x hx => by
  obtain ⟨i, _, rfl⟩ := List.mem_map.mp hx
  rfl
theorem shps_ints : ∀ l : List Int, shps (l.map D.int) = true
  | [] => by simp [shps]
  | i :: l => by rw [List.map_cons, shps, shps_ints l] <;> rfl
theorem deps_ints : ∀ l : List Int, deps (l.map D.int) = 0
  | [] => by simp [deps]
  | i :: l => by rw [List.map_cons, deps, deps_ints l] <;> rfl
theorem okE_ints (l : List Int) : okE (nums l) := by
  refine ⟨by show shp (.lst _) = true; rw [shp]; exact shps_ints l, ?_⟩
  show dep (.lst _) ≤ 64
  rw [dep, deps_ints]
  decide
theorem okE_int (i : Int) : okE (.int i) := ⟨by simp [shp], by simp [dep]⟩
theorem okE_bl (i : Bool) : okE (.bl i) := ⟨by simp [shp], by simp [dep]⟩
theorem okE_nil : okE (.lst []) := okE_ints []
theorem eqD_int (i j : Int) : eqD (.int i) (.int j) = decide (i = j) := by
  rw [eqD]
  by_cases h : i = j
  · subst h; simp
  · simp [h]
theorem eqD_bl (i j : Bool) : eqD (.bl i) (.bl j) = (i == j) := by rw [eqD]
theorem eqDs_ints : ∀ a b : List Int, eqDs (a.map D.int) (b.map D.int) = decide (a = b)
  | [], [] => by simp [eqDs]
  | [], _ :: _ => by simp [eqDs]
  | _ :: _, [] => by simp [eqDs]
  | x :: a, y :: b => by
    rw [List.map_cons, List.map_cons, eqDs, eqDs_ints a b, eqD_int]
    by_cases h : x = y
    · subst h; simp
    · simp [h]
theorem eqD_ints (a b : List Int) : eqD (nums a) (nums b) = decide (a = b) := by
  show eqD (.lst _) (.lst _) = _
  rw [eqD, eqDs_ints]
theorem inD_ints (i : Int) : ∀ l : List Int, inD (.int i) (l.map D.int) = decide (i ∈ l)
  | [] => by simp [inD]
  | x :: l => by
    have ih := inD_ints i l
    unfold inD at ih ⊢
    rw [List.map_cons, List.any_cons, ih, eqD_int]
    by_cases h : x = i
    · subst h; simp
    · have h' : ¬ i = x := fun z => h z.symm
      simp [h, h']
theorem flat_ints (l : List Int) : (l.map D.int).all flatD = true := by
  rw [List.all_map, List.all_eq_true]
  intro x _
  rfl
theorem all_sizes {l : List Int} (h : ∀ i ∈ l, 1 ≤ i ∧ i ≤ 5) : (l.map D.int).all isSize = true := by
  rw [List.all_map, List.all_eq_true]
  intro x hx
  obtain ⟨h1, h2⟩ := h x hx
  show (decide (1 ≤ x) && decide (x ≤ 5)) = true
  simp [h1, h2]
theorem v_are_sizesI {l : List Int} {k : D → Prop} {ex : Exn → Prop} (hl : l.length ≤ 60) (h : ∀ i ∈ l, 1 ≤ i ∧ i ≤ 5) (hk : k (.bl true)) : m_are_sizes [nums l] k ex := by
  refine v_are_sizes rfl (fun z => nomatch z) (fun xs hx => ?_) (by show k (.bl ((l.map D.int).all isSize)); rw [all_sizes h]; exact hk)
  rcases hx with e | e
  · cases e
    exact ⟨by rw [List.length_map]; exact Nat.le_trans hl (by decide), nums_ty l⟩
  · cases e

theorem v_are_sizesT {l : List Int} {k : D → Prop} {ex : Exn → Prop} (hl : l.length ≤ 60) (h : ∀ i ∈ l, 1 ≤ i ∧ i ≤ 5) (hk : k (.bl true)) : m_are_sizes [.tup (l.map D.int)] k ex := by
  refine v_are_sizes rfl (fun z => nomatch z) (fun xs hx => ?_) (by show k (.bl ((l.map D.int).all isSize)); rw [all_sizes h]; exact hk)
  rcases hx with e | e
  · cases e
  · cases e
    exact ⟨by rw [List.length_map]; exact Nat.le_trans hl (by decide), nums_ty l⟩
/-! ### drawn rules -/
structure Told where
  s : List Int
  p : List Int
  o : List Int
  w : List Int
  soft : Bool
  wh : Str
  of : Int
def In5 (l : List Int) : Prop := l.length ≤ 60 ∧ ∀ i ∈ l, 1 ≤ i ∧ i ≤ 5
structure TOk (t : Told) : Prop where
  s0 : t.s ≠ []
  s : In5 t.s
  p : In5 t.p
  o : In5 t.o
  w : In5 t.w
  wh : t.wh = "any" ∨ t.wh = "side"
  of : 0 ≤ t.of ∧ t.of ≤ 5
def badD (t : Told) : D := .dct [(.inr "pillar", nums t.p), (.inr "sold", nums t.o), (.inr "wall", nums t.w)]
def toldD (t : Told) : D := .dct [(.inr "sizes", nums t.s), (.inr "bad", badD t), (.inr "soft", .bl t.soft), (.inr "where", .str t.wh), (.inr "offer", .int t.of)]
theorem v_take {n : Int} {k : D → Prop} {ex : Exn → Prop} (h0 : 0 < n) (h1 : n < 1073741824) (h : ∀ r, 0 ≤ r → r < n → k (.int r)) : m__law_take [.bag, .int n] k ex := by
  rw [m__law_take_eq]
  exact ⟨⟨h0, h1⟩, h⟩
theorem sub5 {l : List D} (h : l.Sublist (rangeD 1 5)) : ∃ ns : List Int, l = ns.map D.int ∧ In5 ns := by
  have e : rangeD 1 5 = ([1, 2, 3, 4, 5] : List Int).map D.int := rfl
  rw [e] at h
  obtain ⟨ns, h1, rfl⟩ := List.sublist_map_iff.mp h
  refine ⟨ns, rfl, Nat.le_trans h1.length_le (by decide), fun i hi => ?_⟩
  have := h1.subset hi
  simp at this
  omega
theorem v_lengths {k : D → Prop} {ex : Exn → Prop} (h : ∀ l, In5 l → k (nums l)) : m__law_lengths [.bag] k ex := by
  rw [m__law_lengths_eq]
  refine v_take (n := 6) (by decide) (by decide) fun r r0 r1 => ?_
  by_cases hr : r < 3
  · have t : decide (r < 3) = true := decide_eq_true hr
    show (if decide (r < 3) = true then _ else _)
    rw [t, if_pos rfl]
    have e : r = 0 ∨ r = 1 ∨ r = 2 := by omega
    rcases e with rfl | rfl | rfl
    · exact h [] ⟨by decide, by simp⟩
    · exact h [1] ⟨by decide, by simp⟩
    · exact h [1, 2] ⟨by decide, by simp⟩
  · have t : decide (r < 3) = false := decide_eq_false hr
    show (if decide (r < 3) = true then _ else _)
    rw [t, if_neg Bool.false_ne_true]
    refine ⟨⟨by decide, by decide, by decide, by decide⟩, by decide, lcGo_any _ _ (fun d hd k' hk => v_take (by decide) (by decide) fun r _ _ => ⟨okE_int _, okE_int _, hk _⟩) (fun d hd k' hk => hk) fun l hl => ?_⟩
    obtain ⟨ns, rfl, h5⟩ := sub5 hl
    exact h ns h5
theorem v_sizes {k : D → Prop} {ex : Exn → Prop} (h : ∀ l, l ≠ [] → In5 l → k (nums l)) : m__law_sizes [.bag] k ex := by
  rw [m__law_sizes_eq]
  refine v_take (n := 6) (by decide) (by decide) fun r r0 r1 => ?_
  by_cases hr : r < 4
  · have t : decide (r < 4) = true := decide_eq_true hr
    show (if decide (r < 4) = true then _ else _)
    rw [t, if_pos rfl]
    have e : r = 0 ∨ r = 1 ∨ r = 2 ∨ r = 3 := by omega
    rcases e with rfl | rfl | rfl | rfl
    · exact h [2] (by simp) ⟨by decide, by simp⟩
    · exact h [1, 2] (by simp) ⟨by decide, by simp⟩
    · exact h [2, 3] (by simp) ⟨by decide, by simp⟩
    · exact h [2, 3, 4] (by simp) ⟨by decide, by simp⟩
  · have t : decide (r < 4) = false := decide_eq_false hr
    show (if decide (r < 4) = true then _ else _)
    rw [t, if_neg Bool.false_ne_true]
    refine ⟨⟨by decide, by decide, by decide, by decide⟩, by decide, lcGo_any _ _ (fun d hd k' hk => v_take (by decide) (by decide) fun r _ _ => ⟨okE_int _, okE_int _, hk _⟩) (fun d hd k' hk => hk) fun l hl => ?_⟩
    obtain ⟨ns, rfl, h5⟩ := sub5 hl
    cases ns with
    | nil =>
      refine v_take (by decide) (by decide) fun r r0 r1 => h [1 + r] (by simp) ⟨by simp, fun i hi => ?_⟩
      rw [List.mem_singleton.mp hi]
      omega
    | cons x ns => exact h (x :: ns) (by simp) h5
theorem v_ends {k : D → Prop} {ex : Exn → Prop} (h : k (.lst [.str "pillar", .str "sold", .str "wall"])) : m__law_ends [] k ex := by
  rw [m__law_ends_eq]
  exact h
theorem v_rule {k : D → Prop} {ex : Exn → Prop} (h : ∀ t, TOk t → k (toldD t)) : m__law_rule [.bag] k ex := by
  rw [m__law_rule_eq]
  refine v_sizes fun s s0 s5 => ?_
  refine v_ends ⟨by decide, ?_⟩
  refine v_lengths fun p p5 => v_lengths fun o o5 => v_lengths fun w w5 => ?_
  refine v_take (n := 3) (by decide) (by decide) fun r1 _ _ => ⟨okE_int _, okE_int _, ?_⟩
  refine v_take (n := 3) (by decide) (by decide) fun r2 a2 b2 => ?_
  have wh : ∃ z : Str, (z = "any" ∨ z = "side") ∧ L2.atI [D.str "any", D.str "any", D.str "side"] r2 = some (.str z) := by
    have e : r2 = 0 ∨ r2 = 1 ∨ r2 = 2 := by omega
    rcases e with rfl | rfl | rfl
    · exact ⟨_, .inl rfl, rfl⟩
    · exact ⟨_, .inl rfl, rfl⟩
    · exact ⟨_, .inr rfl, rfl⟩
  obtain ⟨z, hz, ez⟩ := wh
  show (match L2.atI [D.str "any", D.str "any", D.str "side"] r2 with | some d => _ | none => False)
  rw [ez]
  refine ⟨show 2 + 1 < LN by decide, ?_⟩
  refine v_take (by decide) (by decide) fun r3 a3 b3 => v_take (by decide) (by decide) fun r4 a4 b4 => ?_
  have of : ∃ i : Int, (0 ≤ i ∧ i ≤ 5) ∧ L2.atI [D.int 0, D.int 0, D.int 0, D.int 1, D.int 2, D.int (1 + r3)] r4 = some (.int i) := by
    have e : r4 = 0 ∨ r4 = 1 ∨ r4 = 2 ∨ r4 = 3 ∨ r4 = 4 ∨ r4 = 5 := by omega
    rcases e with rfl | rfl | rfl | rfl | rfl | rfl
    · exact ⟨0, by decide, rfl⟩
    · exact ⟨0, by decide, rfl⟩
    · exact ⟨0, by decide, rfl⟩
    · exact ⟨1, by decide, rfl⟩
    · exact ⟨2, by decide, rfl⟩
    · exact ⟨1 + r3, by omega, rfl⟩
  obtain ⟨i, hi, ei⟩ := of
  show (match L2.atI [D.int 0, D.int 0, D.int 0, D.int 1, D.int 2, D.int (1 + r3)] r4 with | some d => _ | none => False)
  rw [ei]
  refine ⟨show 4 < LN by decide, ?_⟩
  exact h ⟨s, p, o, w, eqD (.int r1) (.int 0), z, i⟩ ⟨s0, s5, p5, o5, w5, hz, hi⟩
theorem in5_60 {l : List Int} (h : In5 l) : l.length ≤ 60 := h.1
theorem v_are_bad {t : Told} {k : D → Prop} {ex : Exn → Prop} (h : TOk t) (hk : k (.bl true)) : m_are_bad [badD t] k ex := by
  rw [m_are_bad_eq]
  refine ⟨_, true, rfl, rfl, ?_⟩
  refine ⟨fun kv hkv => ?_, lcGo_all (fun _ => .bl true) _ (fun d hd k' hk' => ?_) ?_⟩
  · have : kv.1 = .inr "pillar" ∨ kv.1 = .inr "sold" ∨ kv.1 = .inr "wall" := by
      rcases List.mem_cons.mp hkv with e | e
      · rw [e]; exact .inl rfl
      · rcases List.mem_cons.mp e with e | e
        · rw [e]; exact .inr (.inl rfl)
        · rw [List.mem_singleton.mp e]; exact .inr (.inr rfl)
    rcases this with e | e | e <;> (rw [e]; show _ ≤ LN; decide)
  · rcases List.mem_cons.mp hd with e | e
    · subst e
      exact v_is_end rfl (v_are_sizesI (in5_60 h.p) h.p.2 hk')
    · rcases List.mem_cons.mp e with e | e
      · subst e
        exact v_is_end rfl (v_are_sizesI (in5_60 h.o) h.o.2 hk')
      · have e := List.mem_singleton.mp e
        subst e
        exact v_is_end rfl (v_are_sizesI (in5_60 h.w) h.w.2 hk')
  · exact bAll_of (xs := [true, true, true]) hk
theorem v_are_badN {k : D → Prop} {ex : Exn → Prop} (hk : k (.bl true)) : m_are_bad [.non] k ex := by
  rw [m_are_bad_eq]
  exact hk
theorem v_is_offer {i : Int} {k : D → Prop} {ex : Exn → Prop} (h0 : 0 ≤ i) (h5 : i ≤ 5) (hk : k (.bl true)) : m_is_offer [.int i] k ex := by
  rw [m_is_offer_eq]
  refine v_is_number rfl ?_
  show (if decide (0 ≤ i) = true then k (.bl (decide (i ≤ 5))) else _)
  rw [decide_eq_true h0, if_pos rfl, decide_eq_true h5]
  exact hk
/-- the arguments of which a rule is made -/
structure AOk (sz bd : D) (t : Told) : Prop where
  s : sz = nums t.s ∨ sz = .tup (t.s.map D.int)
  b : bd = badD t ∨ (bd = .non ∧ t.p = [] ∧ t.o = [] ∧ t.w = [])
theorem AOk.bad {sz bd : D} {t : Told} {k : D → Prop} {ex : Exn → Prop} (a : AOk sz bd t) (h : TOk t) (hk : k (.bl true)) : m_are_bad [bd] k ex := by
  rcases a.b with e | ⟨e, _⟩
  · rw [e]; exact v_are_bad h hk
  · rw [e]; exact v_are_badN hk
theorem v_first_wrong {sz bd : D} {t : Told} {k : D → Prop} {ex : Exn → Prop} (a : AOk sz bd t) (h : TOk t) (hk : k .non) : m_first_wrong [sz, bd, .bl t.soft, .str t.wh, .int t.of] k ex := by
  rw [m_first_wrong_eq]
  have hl : decide ((0 : Int) < ((t.s.map D.int).length : Int)) = true := by
    rw [List.length_map]
    have : 0 < t.s.length := by cases e : t.s with | nil => exact absurd e h.s0 | cons x r => simp
    exact decide_eq_true (by omega)
  have hw : inD (.str t.wh) [D.str "any", D.str "side"] = true := by
    rcases h.wh with e | e
    · rw [e]; rfl
    · rw [e]; rfl
  have rest : ∀ b : Bool, b = true → ((flatD (.bl false) = true ∧ ([D.bl b, .bl true, .bl true, .bl (inD (.str t.wh) [D.str "any", D.str "side"]), .bl true]).all flatD = true) ∧ (fun c : Bool => if c = true then False else k .non) (inD (.bl false) [.bl b, .bl true, .bl true, .bl (inD (.str t.wh) [D.str "any", D.str "side"]), .bl true])) := fun b hb => by
    rw [hb, hw]
    exact ⟨⟨rfl, rfl⟩, hk⟩
  rcases a.s with e | e
  · subst e
    refine v_are_sizesI (in5_60 h.s) h.s.2 ?_
    refine a.bad h ⟨_, true, rfl, rfl, ?_⟩
    refine ⟨_, true, rfl, rfl, ⟨⟨rfl, rfl⟩, ?_⟩⟩
    show (3 < LN ∧ _)
    refine ⟨by decide, v_is_offer h.of.1 h.of.2 ⟨show 4 < LN by decide, ?_⟩⟩
    exact rest _ hl
  · subst e
    refine v_are_sizesT (in5_60 h.s) h.s.2 ?_
    refine a.bad h ⟨_, true, rfl, rfl, ?_⟩
    refine ⟨_, true, rfl, rfl, ⟨⟨rfl, rfl⟩, ?_⟩⟩
    show (3 < LN ∧ _)
    refine ⟨by decide, v_is_offer h.of.1 h.of.2 ⟨show 4 < LN by decide, ?_⟩⟩
    exact rest _ hl
def badS (t : Told) : D := .dct [(.inr "pillar", nums (sortU t.p)), (.inr "sold", nums (sortU t.o)), (.inr "wall", nums (sortU t.w))]
def ruD (t : Told) : D := .ins "Rule" [("its_sizes", .tup ((sortU t.s).map D.int)), ("its_bad", badS t), ("its_soft", .bl t.soft), ("its_where", .str t.wh), ("its_offer", .int t.of)]
theorem v_init {sz bd : D} {t : Told} {k : D → Prop} {ex : Exn → Prop} (a : AOk sz bd t) (h : TOk t) (hk : k (ruD t)) : m_Rule___init__ [sz, bd, .bl t.soft, .str t.wh, .int t.of] k ex := by
  rw [m_Rule___init___eq]
  intro x
  refine v_first_wrong a h ?_
  have tail : ∀ {A B : D}, ∀ k' : D → Prop, A = .tup ((sortU t.s).map D.int) → B = badS t → k' (.ins "Rule" [("its_sizes", A), ("its_bad", B), ("its_soft", .bl t.soft), ("its_where", .str t.wh), ("its_offer", .int t.of)]) → k' (ruD t) := fun k' e1 e2 h => by subst e1 e2; exact h
  rcases a.s with e | e <;> rcases a.b with e2 | ⟨e2, p0, o0, w0⟩ <;> subst e e2
  · refine ⟨rfl, t.s, rfl, in5_60 h.s, show 0 < 1000 by decide, ?_⟩
    refine ⟨rfl, show 3 ≤ LN by decide, ?_⟩
    refine ⟨t.p, rfl, in5_60 h.p, ⟨t.o, rfl, in5_60 h.o, ⟨t.w, rfl, in5_60 h.w, ?_⟩⟩⟩
    refine ⟨show 1 < 1000 by decide, rfl, show 2 < 1000 by decide, rfl, show 3 < 1000 by decide, rfl, show 4 < 1000 by decide, rfl, hk⟩
  · refine ⟨rfl, t.s, rfl, in5_60 h.s, show 0 < 1000 by decide, ?_⟩
    refine ⟨rfl, show 3 ≤ LN by decide, ?_⟩
    refine ⟨[], rfl, by decide, ⟨[], rfl, by decide, ⟨[], rfl, by decide, ?_⟩⟩⟩
    have e : ruD t = .ins "Rule" [("its_sizes", .tup ((sortU t.s).map D.int)), ("its_bad", .dct [(.inr "pillar", nums (sortU [])), (.inr "sold", nums (sortU [])), (.inr "wall", nums (sortU []))]), ("its_soft", .bl t.soft), ("its_where", .str t.wh), ("its_offer", .int t.of)] := by
      unfold ruD badS
      rw [p0, o0, w0]
    rw [e] at hk
    refine ⟨show 1 < 1000 by decide, rfl, show 2 < 1000 by decide, rfl, show 3 < 1000 by decide, rfl, show 4 < 1000 by decide, rfl, hk⟩
  · refine ⟨rfl, t.s, rfl, in5_60 h.s, show 0 < 1000 by decide, ?_⟩
    refine ⟨rfl, show 3 ≤ LN by decide, ?_⟩
    refine ⟨t.p, rfl, in5_60 h.p, ⟨t.o, rfl, in5_60 h.o, ⟨t.w, rfl, in5_60 h.w, ?_⟩⟩⟩
    refine ⟨show 1 < 1000 by decide, rfl, show 2 < 1000 by decide, rfl, show 3 < 1000 by decide, rfl, show 4 < 1000 by decide, rfl, hk⟩
  · refine ⟨rfl, t.s, rfl, in5_60 h.s, show 0 < 1000 by decide, ?_⟩
    refine ⟨rfl, show 3 ≤ LN by decide, ?_⟩
    refine ⟨[], rfl, by decide, ⟨[], rfl, by decide, ⟨[], rfl, by decide, ?_⟩⟩⟩
    have e : ruD t = .ins "Rule" [("its_sizes", .tup ((sortU t.s).map D.int)), ("its_bad", .dct [(.inr "pillar", nums (sortU [])), (.inr "sold", nums (sortU [])), (.inr "wall", nums (sortU []))]), ("its_soft", .bl t.soft), ("its_where", .str t.wh), ("its_offer", .int t.of)] := by
      unfold ruD badS
      rw [p0, o0, w0]
    rw [e] at hk
    refine ⟨show 1 < 1000 by decide, rfl, show 2 < 1000 by decide, rfl, show 3 < 1000 by decide, rfl, show 4 < 1000 by decide, rfl, hk⟩
theorem v_made {t : Told} {k : D → Prop} {ex : Exn → Prop} (h : TOk t) (hk : k (ruD t)) : m__law_made [toldD t] k ex := by
  rw [m__law_made_eq]
  exact v_init ⟨.inl rfl, .inl rfl⟩ h hk
/-! ### stretches -/
structure Stt where
  l : Str
  n : Int
  r : Str
def stD (x : Stt) : D := .tup [.str x.l, .int x.n, .str x.r]
def IsE (e : Str) : Prop := e = "pillar" ∨ e = "sold" ∨ e = "wall"
structure SOk (x : Stt) : Prop where
  l : IsE x.l
  r : IsE x.r
  n0 : 0 ≤ x.n
  n1 : x.n ≤ 1000
def turnS (x : Stt) : Stt := ⟨x.r, x.n, x.l⟩
theorem SOk.turn {x : Stt} (h : SOk x) : SOk (turnS x) := ⟨h.r, h.l, h.n0, h.n1⟩
theorem atI_ok {α : Type} {xs : List α} {r : Int} (h0 : 0 ≤ r) (h1 : r < xs.length) : L2.atI xs r = some (xs[r.toNat]'(by omega)) := by
  unfold L2.atI ixN
  rw [if_pos h0, if_pos h1]
  show xs[r.toNat]? = _
  rw [List.getElem?_eq_getElem]
theorem v_one {xs : List D} (h0 : xs ≠ []) (h1 : xs.length < 1073741824) (h : ∀ d ∈ xs, k d) : m__law_one [.bag, .lst xs] k ex := by
  rw [m__law_one_eq]
  have l0 : 0 < xs.length := List.length_pos_iff.mpr h0
  refine v_take (n := xs.length) (by omega) (by omega) fun r r0 r1 => ?_
  show (match L2.atI xs r with | some d => k d | none => False)
  rw [atI_ok r0 r1]
  exact h _ (List.getElem_mem _)
theorem v_end (h : ∀ e, IsE e → k (.str e)) : m__law_end [.bag] k ex := by
  rw [m__law_end_eq]
  refine v_ends (v_one (by simp) (by decide) fun d hd => ?_)
  simp at hd
  rcases hd with rfl | rfl | rfl
  · exact h _ (.inl rfl)
  · exact h _ (.inr (.inl rfl))
  · exact h _ (.inr (.inr rfl))
theorem v_stretch {u : Int} (u0 : 0 ≤ u) (u1 : u ≤ 1000) (h : ∀ x, SOk x → x.n ≤ u → k (stD x)) : m__law_stretch [.bag, .int u] k ex := by
  rw [m__law_stretch_eq]
  refine v_end fun l hl => v_take (n := u + 1) (by omega) (by omega) fun r r0 r1 => v_end fun e he => ?_
  exact h ⟨l, r, e⟩ ⟨hl, he, r0, by show r ≤ 1000; omega⟩ (by show r ≤ u; omega)
theorem TOk.size {t : Told} (h : TOk t) {s : Int} (hs : s ∈ sortU t.s) : 1 ≤ s ∧ s ≤ 5 := h.s.2 s (mem_sortU.mp hs)
theorem v_check_size {t : Told} {s : Int} (h : TOk t) (hs : s ∈ sortU t.s) (hk : k .non) : m_check_size [ruD t, .int s] k ex := by
  rw [m_check_size_eq]
  refine v_is_size rfl ?_
  obtain ⟨h1, h2⟩ := h.size hs
  have e : isSize (.int s) = true := by show (decide (1 ≤ s) && decide (s ≤ 5)) = true; simp [h1, h2]
  rw [e]
  refine ⟨rfl, ⟨rfl, flat_ints _⟩, ?_⟩
  rw [inD_ints, decide_eq_true hs]
  exact hk
def rng (n : Nat) : List Int := (List.range n).map fun (i : Nat) => (i : Int)
theorem rangeD_rng (n : Nat) : rangeD 0 n = (rng n).map D.int := by
  unfold rangeD rng
  rw [List.map_map]
  congr 1
  funext i
  show D.int (0 + (i : Int)) = D.int i
  rw [Int.zero_add]
def possL (any : Bool) (d : Int) : List Int := if d < 0 then [] else if any = true then rng (d + 1).toNat else sortU [0, d]
def anyB (t : Told) : Bool := decide (t.wh = "any")
theorem okE_any : okE (.str "any") := ⟨by rw [shp]; decide +kernel, by rw [dep]; decide⟩
theorem okE_wh {z : Str} (h : z = "any" ∨ z = "side") : okE (.str z) := by rcases h with rfl | rfl <;> exact ⟨by rw [shp]; decide +kernel, by rw [dep]; decide⟩
theorem eqD_str (x y : Str) : eqD (.str x) (.str y) = decide (x = y) := by
  rw [eqD]
  by_cases h : x = y
  · subst h; simp
  · rw [decide_eq_false h]
    exact beq_eq_false_iff_ne.mpr h
theorem v_possible {t : Told} {x : Stt} {s : Int} (h : TOk t) (hx : SOk x) (hs : s ∈ sortU t.s) (hk : k (nums (possL (anyB t) (x.n - s)))) : m_possible [ruD t, stD x, .int s] k ex := by
  rw [m_possible_eq]
  refine v_check_size h hs ?_
  obtain ⟨h1, h2⟩ := h.size hs
  have n0 := hx.n0
  have n1 := hx.n1
  show (if decide (x.n - s < 0) = true then k (.lst []) else _)
  by_cases hd : x.n - s < 0
  · rw [decide_eq_true hd, if_pos rfl]
    unfold possL at hk
    rw [if_pos hd] at hk
    exact hk
  · rw [decide_eq_false hd, if_neg Bool.false_ne_true]
    unfold possL at hk
    rw [if_neg hd] at hk
    refine ⟨rfl, okE_wh h.wh, okE_any, ?_⟩
    rw [eqD_str]
    show (if anyB t = true then _ else _)
    cases ha : anyB t with
    | true =>
      rw [ha, if_pos rfl] at hk
      rw [if_pos rfl]
      refine ⟨by omega, by omega, ?_⟩
      rw [rangeD_rng]
      exact hk
    | false =>
      rw [ha, if_neg Bool.false_ne_true] at hk
      rw [if_neg Bool.false_ne_true]
      exact hk
def badAt (t : Told) (e : Str) : List Int := if e = "pillar" then sortU t.p else if e = "sold" then sortU t.o else sortU t.w
theorem v_bad_at {t : Told} {e : Str} (he : IsE e) (hk : k (nums (badAt t e))) : m_Rule_bad_at [ruD t, .str e] k ex := by
  rw [m_Rule_bad_at_eq]
  rcases he with rfl | rfl | rfl
  · exact v_is_end rfl ⟨rfl, hk⟩
  · exact v_is_end rfl ⟨rfl, hk⟩
  · exact v_is_end rfl ⟨rfl, hk⟩
def goodL (t : Told) (x : Stt) (s : Int) (l : List Int) : List Int := l.filter fun b => (!decide (b ∈ badAt t x.l)) && (!decide (x.n - s - b ∈ badAt t x.r))
theorem nums_filter (p : D → Bool) (q : Int → Bool) (l : List Int) (h : ∀ i, p (.int i) = q i) : (l.map D.int).filter p = (l.filter q).map D.int := by
  rw [List.filter_map]
  congr 1
  apply List.filter_congr
  intro i _
  exact h i
theorem v_good {t : Told} {x : Stt} {s : Int} {l : List Int} (hx : SOk x) (hl : l.length ≤ LN) (hk : k (nums (goodL t x s l))) : m_good_befores [ruD t, stD x, .int s, nums l] k ex := by
  rw [m_good_befores_eq]
  refine ⟨rfl, ⟨rfl, rfl⟩, v_bad_at hx.l ⟨⟨rfl, rfl⟩, v_bad_at hx.r ⟨rfl, ?_⟩⟩⟩
  refine ⟨by rw [List.length_map]; exact hl, lcGo_nm (fun d => match d with
    | .int b => (!decide (b ∈ badAt t x.l)) && (!decide (x.n - s - b ∈ badAt t x.r))
    | _ => false) id _ _ (fun d hd k' hk' => ?_) (fun d hd _ k' hk' => hk') ?_⟩
  · obtain ⟨b, _, rfl⟩ := List.mem_map.mp hd
    refine ⟨⟨rfl, flat_ints _⟩, ?_⟩
    rw [inD_ints]
    cases q : decide (b ∈ badAt t x.l) with
    | true =>
      rw [if_neg (by simp)]
      simpa [q] using hk'
    | false =>
      rw [if_pos (by simp)]
      refine ⟨⟨rfl, flat_ints _⟩, ?_⟩
      rw [inD_ints]
      simpa [q] using hk'
  · rw [List.nil_append, List.map_id, nums_filter _ (fun b => (!decide (b ∈ badAt t x.l)) && (!decide (x.n - s - b ∈ badAt t x.r))) l (fun _ => rfl)]
    exact hk
def letL (t : Told) (x : Stt) (s : Int) : List Int := if goodL t x s (possL (anyB t) (x.n - s)) = [] ∧ t.soft = true then possL (anyB t) (x.n - s) else goodL t x s (possL (anyB t) (x.n - s))
theorem rng_len (n : Nat) : (rng n).length = n := by unfold rng; rw [List.length_map, List.length_range]
theorem poss_len {any : Bool} {d : Int} (h : d ≤ 1000) : (possL any d).length ≤ 1001 := by
  unfold possL
  split
  · decide
  · split
    · rw [rng_len]; omega
    · exact Nat.le_trans (sortU_len _) (show 2 ≤ 1001 by decide)
theorem good_len (t : Told) (x : Stt) (s : Int) (l : List Int) : (goodL t x s l).length ≤ l.length := List.length_filter_le _ _
theorem let_len {t : Told} {x : Stt} {s : Int} (h : TOk t) (hx : SOk x) (hs : s ∈ sortU t.s) : (letL t x s).length ≤ 1001 := by
  have h1 := (h.size hs).1
  have n1 := hx.n1
  have := poss_len (any := anyB t) (d := x.n - s) (by omega)
  have := good_len t x s (possL (anyB t) (x.n - s))
  unfold letL
  split <;> omega
theorem v_let {t : Told} {x : Stt} {s : Int} (h : TOk t) (hx : SOk x) (hs : s ∈ sortU t.s) (hk : k (nums (letL t x s))) : m_let [ruD t, stD x, .int s] k ex := by
  rw [m_let_eq]
  have h1 := (h.size hs).1
  have n1 := hx.n1
  refine v_possible h hx hs (v_good hx (Nat.le_trans (poss_len (by omega)) (by decide)) ?_)
  refine ⟨okE_ints _, okE_nil, ?_⟩
  have e : eqD (nums (goodL t x s (possL (anyB t) (x.n - s)))) (.lst []) = decide (goodL t x s (possL (anyB t) (x.n - s)) = []) := eqD_ints _ []
  show (if eqD (nums (goodL t x s (possL (anyB t) (x.n - s)))) (.lst []) = true then _ else _)
  rw [e]
  unfold letL at hk
  by_cases hg : goodL t x s (possL (anyB t) (x.n - s)) = []
  · rw [decide_eq_true hg, if_pos rfl]
    refine ⟨rfl, ?_⟩
    show (if t.soft = true then k (nums (possL (anyB t) (x.n - s))) else k (nums (goodL t x s (possL (anyB t) (x.n - s)))))
    cases hsf : t.soft with
    | true => rw [if_pos ⟨hg, hsf⟩] at hk; rw [if_pos rfl]; exact hk
    | false => rw [if_neg (fun z => by rw [hsf] at z; exact Bool.false_ne_true z.2)] at hk; rw [if_neg Bool.false_ne_true]; exact hk
  · rw [decide_eq_false hg, if_neg Bool.false_ne_true]
    rw [if_neg (fun z => hg z.1)] at hk
    exact hk
def offL (t : Told) (x : Stt) (s : Int) : List Int := if 0 < t.of then (letL t x s).take t.of.toNat else letL t x s
theorem cut_take (l : List Int) {i : Int} (h : 0 < i) : cutD (l.map D.int) none (some i) = (l.take i.toNat).map D.int := by
  unfold cutD
  rw [HT.sIx_none, show HT.sIx (l.map D.int).length (l.map D.int).length (some i) = min i.toNat (l.map D.int).length from if_neg (by omega), List.drop_zero, Nat.sub_zero, ← List.map_take]
  congr 1
  rw [List.length_map]
  by_cases h : i.toNat ≤ l.length
  · rw [Nat.min_eq_left h]
  · rw [Nat.min_eq_right (by omega), List.take_of_length_le (by omega), List.take_of_length_le (by omega)]
theorem off_len {t : Told} {x : Stt} {s : Int} (h : TOk t) (hx : SOk x) (hs : s ∈ sortU t.s) : (offL t x s).length ≤ 1001 := by
  have := let_len h hx hs
  unfold offL
  split
  · rw [List.length_take]; omega
  · omega
theorem v_offered {t : Told} {x : Stt} {s : Int} (h : TOk t) (hx : SOk x) (hs : s ∈ sortU t.s) (hk : k (nums (offL t x s))) : m_offered [ruD t, stD x, .int s] k ex := by
  rw [m_offered_eq]
  refine v_let h hx hs ⟨rfl, ?_⟩
  unfold offL at hk
  show (if decide (0 < t.of) = true then _ else _)
  by_cases ho : 0 < t.of
  · rw [if_pos ho] at hk
    rw [decide_eq_true ho, if_pos rfl]
    refine ⟨rfl, ?_⟩
    show k (.lst (cutD ((letL t x s).map D.int) none (some t.of)))
    rw [cut_take _ ho]
    exact hk
  · rw [if_neg ho] at hk
    rw [decide_eq_false ho, if_neg Bool.false_ne_true]
    exact hk
theorem v_fits {x : Stt} {s b : Int} (s1 : 1 ≤ s) (s5 : s ≤ 5) (b0 : 0 ≤ b) (hb : b + s ≤ x.n) (hk : k (.bl true)) : m_fits [stD x, .int s, .int b] k ex := by
  rw [m_fits_eq]
  refine v_is_size rfl ?_
  have e : isSize (.int s) = true := by show (decide (1 ≤ s) && decide (s ≤ 5)) = true; simp [s1, s5]
  rw [e]
  refine v_is_number rfl ?_
  have e : isNum (.int b) = true := decide_eq_true b0
  rw [e]
  show k (.bl (decide (b + s ≤ x.n)))
  rw [decide_eq_true hb]
  exact hk
theorem v_parts {x : Stt} {s b : Int} (s1 : 1 ≤ s) (s5 : s ≤ 5) (b0 : 0 ≤ b) (hb : b + s ≤ x.n) (hk : k (.tup [stD ⟨x.l, b, "sold"⟩, stD ⟨"sold", x.n - s - b, x.r⟩])) : m_parts [stD x, .int s, .int b] k ex := by
  rw [m_parts_eq]
  refine v_fits s1 s5 b0 hb ?_
  exact ⟨rfl, hk⟩
/-! ### == of a thing with itself -/
mutual
theorem eqD_refl : ∀ d, shp d = true → eqD d d = true
  | .non, _ => by rw [eqD]
  | .bl b, _ => by rw [eqD]; simp
  | .int i, _ => by rw [eqD]; simp
  | .str x, _ => by rw [eqD]; simp
  | .lst xs, h => by rw [eqD]; exact eqDs_refl xs (by simpa [shp] using h)
  | .tup xs, h => by rw [eqD]; exact eqDs_refl xs (by simpa [shp] using h)
  | .dct _, h => by simp [shp] at h
  | .ins _ _, h => by simp [shp] at h
  | .new _ _ _, h => by simp [shp] at h
  | .scr _, h => by simp [shp] at h
  | .ktp _, h => by simp [shp] at h
  | .dtt _, h => by simp [shp] at h
  | .exo _ _ _, h => by simp [shp] at h
  | .bag, h => by simp [shp] at h
theorem eqDs_refl : ∀ ds, shps ds = true → eqDs ds ds = true
  | [], _ => by rw [eqDs]
  | d :: ds, h => by
    rw [eqDs]
    simp only [shps, Bool.and_eq_true] at h
    rw [eqD_refl d h.1, eqDs_refl ds h.2] <;> rfl
end
theorem ne_same {d : D} {k : Bool → Prop} (h : okE d) (hk : k false) : dNe d d k := ⟨h, h, by rw [eqD_refl d h.1]; exact hk⟩
theorem eq_same {d : D} {k : Bool → Prop} (h : okE d) (hk : k true) : dEq d d k := ⟨h, h, by rw [eqD_refl d h.1]; exact hk⟩
theorem strOk_E {e : Str} (h : IsE e) : PyData.strOk e = true := by rcases h with rfl | rfl | rfl <;> decide +kernel
theorem shp_st {x : Stt} (hl : IsE x.l) (hr : IsE x.r) : shp (stD x) = true := by
  show shp (.tup _) = true
  simp only [shp, shps, strOk_E hl, strOk_E hr, Bool.and_self]
theorem dep_st (x : Stt) : dep (stD x) = 1 := by
  show dep (.tup _) = 1
  simp [dep, deps]
theorem okE_st {x : Stt} (hl : IsE x.l) (hr : IsE x.r) : okE (stD x) := ⟨shp_st hl hr, by rw [dep_st]; decide⟩
theorem okE_st2 {x y : Stt} (hl : IsE x.l) (hr : IsE x.r) (hl' : IsE y.l) (hr' : IsE y.r) : okE (.tup [stD x, stD y]) := by
  refine ⟨?_, ?_⟩
  · simp only [shp, shps, shp_st hl hr, shp_st hl' hr', Bool.and_self]
  · simp only [dep, deps, dep_st]; decide
/-! ### the choices turned about -/
theorem rng_asc (n : Nat) : (rng n).Pairwise (· < ·) := by
  unfold rng
  rw [List.pairwise_map]
  exact List.pairwise_lt_range.imp fun h => by omega
theorem mem_rng {n : Nat} {b : Int} : b ∈ rng n ↔ 0 ≤ b ∧ b < n := by
  unfold rng
  rw [List.mem_map]
  constructor
  · rintro ⟨i, hi, rfl⟩
    have := List.mem_range.mp hi
    omega
  · rintro ⟨h0, h1⟩
    exact ⟨b.toNat, List.mem_range.mpr (by omega), by omega⟩
theorem poss_asc (any : Bool) (d : Int) : (possL any d).Pairwise (· < ·) := by
  unfold possL
  split
  · exact List.Pairwise.nil
  · split
    · exact rng_asc _
    · exact asc_sortU _
theorem mem_poss {any : Bool} {d b : Int} : b ∈ possL any d ↔ 0 ≤ d ∧ ((any = true ∧ 0 ≤ b ∧ b ≤ d) ∨ (any = false ∧ (b = 0 ∨ b = d))) := by
  unfold possL
  by_cases h : d < 0
  · rw [if_pos h]
    constructor
    · intro z; cases z
    · rintro ⟨z, _⟩; omega
  · rw [if_neg h]
    cases any with
    | true =>
      rw [if_pos rfl, mem_rng]
      constructor
      · rintro ⟨h0, h1⟩; exact ⟨by omega, .inl ⟨rfl, h0, by omega⟩⟩
      · rintro ⟨_, ⟨_, h0, h1⟩ | ⟨z, _⟩⟩
        · omega
        · cases z
    | false =>
      rw [if_neg Bool.false_ne_true, mem_sortU]
      simp
      omega
theorem poss_mirror {any : Bool} {d b : Int} (h : b ∈ possL any d) : d - b ∈ possL any d := by
  rw [mem_poss] at h ⊢
  obtain ⟨h0, ⟨ha, h1, h2⟩ | ⟨ha, h1⟩⟩ := h
  · exact ⟨h0, .inl ⟨ha, by omega, by omega⟩⟩
  · exact ⟨h0, .inr ⟨ha, by omega⟩⟩
theorem mem_good {t : Told} {x : Stt} {s b : Int} {l : List Int} : b ∈ goodL t x s l ↔ b ∈ l ∧ b ∉ badAt t x.l ∧ x.n - s - b ∉ badAt t x.r := by
  unfold goodL
  rw [List.mem_filter]
  simp
theorem good_asc {t : Told} {x : Stt} {s : Int} {l : List Int} (h : l.Pairwise (· < ·)) : (goodL t x s l).Pairwise (· < ·) := h.sublist List.filter_sublist
theorem let_asc (t : Told) (x : Stt) (s : Int) : (letL t x s).Pairwise (· < ·) := by
  unfold letL
  split
  · exact poss_asc _ _
  · exact good_asc (poss_asc _ _)
theorem off_asc (t : Told) (x : Stt) (s : Int) : (offL t x s).Pairwise (· < ·) := by
  unfold offL
  split
  · exact (let_asc t x s).sublist (List.take_sublist _ _)
  · exact let_asc t x s
theorem good_turn {t : Told} {x : Stt} {s b : Int} : b ∈ goodL t (turnS x) s (possL (anyB t) (x.n - s)) ↔ x.n - s - b ∈ goodL t x s (possL (anyB t) (x.n - s)) := by
  rw [mem_good, mem_good]
  have e : x.n - s - (x.n - s - b) = b := by omega
  constructor
  · rintro ⟨h1, h2, h3⟩
    refine ⟨poss_mirror h1, h3, ?_⟩
    rw [e]; exact h2
  · rintro ⟨h1, h2, h3⟩
    have := poss_mirror h1
    rw [e] at this h3
    exact ⟨this, h3, h2⟩
theorem good_nil {t : Told} {x : Stt} {s : Int} : goodL t (turnS x) s (possL (anyB t) (x.n - s)) = [] ↔ goodL t x s (possL (anyB t) (x.n - s)) = [] := by
  rw [List.eq_nil_iff_forall_not_mem, List.eq_nil_iff_forall_not_mem]
  constructor
  · intro h b hb
    refine h (x.n - s - b) (good_turn.mpr ?_)
    rw [show x.n - s - (x.n - s - b) = b by omega]
    exact hb
  · intro h b hb
    exact h _ (good_turn.mp hb)
theorem let_turn {t : Told} {x : Stt} {s b : Int} : b ∈ letL t (turnS x) s ↔ x.n - s - b ∈ letL t x s := by
  show b ∈ (if goodL t (turnS x) s (possL (anyB t) (x.n - s)) = [] ∧ t.soft = true then possL (anyB t) (x.n - s) else goodL t (turnS x) s (possL (anyB t) (x.n - s))) ↔ _
  unfold letL
  by_cases h : goodL t x s (possL (anyB t) (x.n - s)) = [] ∧ t.soft = true
  · rw [if_pos h, if_pos ⟨good_nil.mpr h.1, h.2⟩]
    constructor
    · exact poss_mirror
    · intro z
      have := poss_mirror z
      rw [show x.n - s - (x.n - s - b) = b by omega] at this
      exact this
  · rw [if_neg h, if_neg (fun z => h ⟨good_nil.mp z.1, z.2⟩)]
    exact good_turn
theorem sorted_asc {l : List Int} (h : l.Pairwise (· ≠ ·)) : (l.mergeSort).Pairwise (· < ·) := by
  have h1 := mergeSort_sorted l
  have h2 : (l.mergeSort).Pairwise (· ≠ ·) := (List.mergeSort_perm l _).symm.pairwise h (fun a => a.symm)
  exact (h1.and h2).imp fun ⟨a, b⟩ => by omega
theorem off_turn {t : Told} {x : Stt} {s : Int} (h0 : t.of = 0) : offL t (turnS x) s = ((offL t x s).map fun b => x.n - s - b).mergeSort := by
  have e : ∀ y : Stt, offL t y s = letL t y s := fun y => by unfold offL; rw [if_neg (by omega)]
  rw [e, e]
  refine asc_eq (let_asc t _ s) (sorted_asc ?_) fun b => ?_
  · rw [List.pairwise_map]
    exact (let_asc t x s).imp fun h => by omega
  · rw [let_turn, List.mem_mergeSort, List.mem_map]
    constructor
    · intro h; exact ⟨_, h, by omega⟩
    · rintro ⟨c, hc, rfl⟩
      rw [show x.n - s - (x.n - s - c) = c by omega]
      exact hc
theorem off_turn_nil {t : Told} {x : Stt} {s : Int} (h0 : t.of = 0) : offL t (turnS x) s = [] ↔ offL t x s = [] := by
  rw [off_turn h0]
  constructor
  · intro h
    have := congrArg List.length h
    simpa using this
  · intro h; rw [h, List.map_nil, List.mergeSort_nil]
theorem off_mem {t : Told} {x : Stt} {s b : Int} (h : b ∈ offL t x s) : 0 ≤ b ∧ b + s ≤ x.n := by
  have hl : b ∈ letL t x s := by
    unfold offL at h
    split at h
    · exact List.mem_of_mem_take h
    · exact h
  have hp : b ∈ possL (anyB t) (x.n - s) := by
    unfold letL at hl
    split at hl
    · exact hl
    · exact (mem_good.mp hl).1
  obtain ⟨h0, ⟨_, h1, h2⟩ | ⟨_, h1⟩⟩ := mem_poss.mp hp <;> omega
theorem bag_ok (ns : List Int) (k : D → Prop) (h : ns.length ≤ 63) (hk : ∀ ms, k (bag4 ms)) : m__law_bag [.scr ns] k no1 := by
  rw [m__law_bag_eq]
  refine ⟨Nat.le_trans h (by decide), ?_⟩
  have hc : ∃ cs : List Int, cs.length ≤ 63 ∧ cutD (ns.map D.int) none (some 63) = cs.map D.int := ⟨ns.take 63, by rw [List.length_take]; omega, by rw [cut_take _ (by decide)] <;> rfl⟩
  obtain ⟨cs, hl, e⟩ := hc
  show (cutD (ns.map D.int) none (some 63)).length ≤ LN ∧ lcGo _ _ _ _ _ (cutD (ns.map D.int) none (some 63)) []
  rw [e]
  refine ⟨by rw [List.length_map]; exact Nat.le_trans hl (by decide), lcGo_all (fun d => match d with
    | .int b => .int (if b < 0 then -b else b)
    | _ => .non) _ (fun d hd k' hk' => ?_) ?_⟩
  · obtain ⟨b, _, rfl⟩ := List.mem_map.mp hd
    exact hk'
  · have := hk (cs.map fun b => if b < 0 then -b else b)
    unfold bag4 at this
    rw [List.map_map] at this ⊢
    exact this
theorem told_offer (t : Told) (i : Int) : putD [(.inr "sizes", nums t.s), (.inr "bad", badD t), (.inr "soft", .bl t.soft), (.inr "where", .str t.wh), (.inr "offer", .int t.of)] (.inr "offer") (.int i) = [(.inr "sizes", nums t.s), (.inr "bad", badD t), (.inr "soft", .bl t.soft), (.inr "where", .str t.wh), (.inr "offer", .int i)] := by
  rfl
/-! ### rules changed -/
theorem sortU_id {l : List Int} (h : l.Pairwise (· < ·)) : sortU l = l := asc_eq (asc_sortU l) h fun _ => mem_sortU
theorem sortU_sortU (l : List Int) : sortU (sortU l) = sortU l := sortU_id (asc_sortU l)
theorem In5.sort {l : List Int} (h : In5 l) : In5 (sortU l) := ⟨Nat.le_trans (sortU_len l) h.1, fun i hi => h.2 i (mem_sortU.mp hi)⟩
theorem sortU_ne {l : List Int} (h : l ≠ []) : sortU l ≠ [] := by
  cases l with
  | nil => exact absurd rfl h
  | cons x r =>
    intro z
    have : x ∈ sortU (x :: r) := mem_sortU.mpr List.mem_cons_self
    rw [z] at this
    cases this
def canon (t : Told) : Told := { t with s := sortU t.s, p := sortU t.p, o := sortU t.o, w := sortU t.w }
theorem TOk.canon {t : Told} (h : TOk t) : TOk (LW.canon t) := ⟨sortU_ne h.s0, h.s.sort, h.p.sort, h.o.sort, h.w.sort, h.wh, h.of⟩
theorem ruD_canon {t t' : Told} (h1 : t'.s = sortU t.s ∨ t'.s = t.s) (h2 : t'.p = sortU t.p ∨ t'.p = t.p) (h3 : t'.o = sortU t.o ∨ t'.o = t.o) (h4 : t'.w = sortU t.w ∨ t'.w = t.w) (h5 : t'.soft = t.soft) (h6 : t'.wh = t.wh) (h7 : t'.of = t.of) : ruD t' = ruD t := by
  have e1 : sortU t'.s = sortU t.s := by rcases h1 with e | e <;> rw [e] <;> exact sortU_sortU _
  have e2 : sortU t'.p = sortU t.p := by rcases h2 with e | e <;> rw [e] <;> exact sortU_sortU _
  have e3 : sortU t'.o = sortU t.o := by rcases h3 with e | e <;> rw [e] <;> exact sortU_sortU _
  have e4 : sortU t'.w = sortU t.w := by rcases h4 with e | e <;> rw [e] <;> exact sortU_sortU _
  unfold ruD badS
  rw [e1, e2, e3, e4, h5, h6, h7]
theorem inD_wh {z : Str} (hz : z = "any" ∨ z = "side") : inD (.str z) [D.str "any", D.str "side"] = true := by
  rcases hz with e | e <;> (rw [e]; rfl)
/-- other bad lengths of an end -/
def setBad (t : Told) (e : Str) (l : List Int) : Told := if e = "pillar" then { t with p := l } else if e = "sold" then { t with o := l } else { t with w := l }
theorem bad_set {t : Told} {e e' : Str} {l : List Int} (h : IsE e) (h' : IsE e') : badAt (setBad t e l) e' = if e' = e then sortU l else badAt t e' := by
  rcases h with rfl | rfl | rfl <;> rcases h' with rfl | rfl | rfl <;> rfl
theorem lc_notin {j i : Nat} {ρ : MEnv} {A B : List Int} {k : D → Prop} (hi : ∀ d, (ρ.set j (.sh d))[i]? = some (.sh (nums B))) (hj : ∀ d, (ρ.set j (.sh d))[j]? = some (.sh d)) (h : k (nums (A.filter fun a => !decide (a ∈ B)))) : lcGo (.nm j) (tCmpM dNotIn (xVar j) (xVar i)) (xVar j) ρ k (A.map D.int) [] := by
  refine lcGo_nm (fun d => match d with
    | .int b => !decide (b ∈ B)
    | _ => false) id _ _ (fun d hd k' hk' => ?_) (fun d hd _ k' hk' => ?_) ?_
  · obtain ⟨b, _, rfl⟩ := List.mem_map.mp hd
    unfold tCmpM xVar
    rw [hj, hi]
    refine ⟨⟨rfl, flat_ints _⟩, ?_⟩
    rw [inD_ints]
    exact hk'
  · unfold xVar
    rw [hj]
    exact hk'
  · rw [List.nil_append, List.map_id, nums_filter _ (fun b => !decide (b ∈ B)) A (fun _ => rfl)]
    exact h
theorem off_some {t : Told} {x : Stt} {s : Int} (h : letL t x s ≠ []) : offL t x s ≠ [] := by
  unfold offL
  split
  · intro z
    rw [List.take_eq_nil_iff] at z
    rcases z with z | z
    · omega
    · exact h z
  · exact h
theorem poss_nil {any : Bool} {d : Int} : possL any d = [] ↔ d < 0 := by
  constructor
  · intro h
    refine Classical.byContradiction fun hd => ?_
    have : (0 : Int) ∈ possL any d := mem_poss.mpr ⟨by omega, by cases any; exact .inr ⟨rfl, .inl rfl⟩; exact .inl ⟨rfl, by omega, by omega⟩⟩
    rw [h] at this
    cases this
  · intro h
    unfold possL
    rw [if_pos h]
theorem good_bare {t : Told} {x : Stt} {s : Int} {l : List Int} : goodL { t with p := [], o := [], w := [] } x s l = l := by
  have e : ∀ y : Str, badAt { t with p := [], o := [], w := [] } y = [] := fun y => by
    unfold badAt
    split
    · rfl
    · split <;> rfl
  unfold goodL
  rw [e, e]
  exact List.filter_eq_self.mpr fun _ _ => by simp
theorem let_bare {t : Told} {x : Stt} {s : Int} : letL { t with p := [], o := [], w := [] } x s = possL (anyB t) (x.n - s) := by
  unfold letL
  split
  · rfl
  · exact good_bare
theorem off_bare {t : Told} {x : Stt} {s : Int} : offL { t with p := [], o := [], w := [] } x s = [] ↔ x.n < s := by
  constructor
  · intro h
    refine Classical.byContradiction fun hd => ?_
    refine off_some (t := { t with p := [], o := [], w := [] }) (x := x) (s := s) ?_ h
    rw [let_bare]
    intro z
    have := poss_nil.mp z
    omega
  · intro h
    have e : letL { t with p := [], o := [], w := [] } x s = [] := by rw [let_bare]; exact poss_nil.mpr (by omega)
    unfold offL
    rw [e]
    split
    · rw [List.take_nil]
    · rfl
theorem xVar_of {i : Nat} {ρ : MEnv} {d : D} {k : D → Prop} {ex : Exn → Prop} (h : ρ[i]? = some (.sh d)) (hk : k d) : xVar i ρ k ex := by
  unfold xVar
  rw [h]
  exact hk
theorem xNil_of {ρ : MEnv} {k : D → Prop} {ex : Exn → Prop} (hk : k (.lst [])) : xLst aNil ρ k ex := hk
theorem okE_E {e : Str} (h : IsE e) : okE (.str e) := ⟨by rw [shp]; exact strOk_E h, by rw [dep]; decide⟩
theorem nums_add (l : List Int) (i : Int) : D.lst (l.map D.int ++ [.int i]) = nums (l ++ [i]) := by
  unfold nums
  rw [List.map_append] <;> rfl
theorem filter_sub {A B : List Int} (h : ∀ a ∈ A, a ∈ B) : (A.filter fun a => !decide (a ∈ B)) = [] := by
  rw [List.filter_eq_nil_iff]
  intro a ha
  simp [h a ha]
theorem nums_nil {l : List Int} {kk : Bool → Prop} (h : l = []) (hk : kk false) : dNe (nums l) (.lst []) kk := by
  subst h
  exact ne_same okE_nil hk
theorem asc_len : ∀ {l : List Int} {a b : Int}, l.Pairwise (· < ·) → (∀ i ∈ l, a ≤ i ∧ i ≤ b) → (l.length : Int) ≤ max 0 (b - a + 1)
  | [], a, b, _, _ => by show (0 : Int) ≤ _; omega
  | x :: r, a, b, h, hb => by
    have h1 := hb x List.mem_cons_self
    have ih := asc_len (l := r) (a := a + 1) (b := b) (List.pairwise_cons.mp h).2 fun i hi => by
      have := (List.pairwise_cons.mp h).1 i hi
      have := hb i (List.mem_cons_of_mem _ hi)
      omega
    rw [List.length_cons]
    omega
theorem sort_len {l : List Int} (h : In5 l) : (sortU l).length ≤ 5 := by
  have := asc_len (asc_sortU l) (a := 1) (b := 5) h.sort.2
  omega
theorem bad_in {t : Told} (h : TOk t) (e : Str) : (badAt t e).length ≤ 5 ∧ ∀ i ∈ badAt t e, 1 ≤ i ∧ i ≤ 5 := by
  unfold badAt
  split
  · exact ⟨sort_len h.p, h.p.sort.2⟩
  · split
    · exact ⟨sort_len h.o, h.o.sort.2⟩
    · exact ⟨sort_len h.w, h.w.sort.2⟩
theorem bad_asc (t : Told) (e : Str) : (badAt t e).Pairwise (· < ·) := by
  unfold badAt
  split
  · exact asc_sortU _
  · split
    · exact asc_sortU _
    · exact asc_sortU _
/-! ### two clauses; loops by what is left -/
theorem lcIn_all {j : Nat} {me : MX} {ρ : MEnv} {K : List D → Prop} (f : D → D) : ∀ (ds acc : List D), (∀ d ∈ ds, ∀ k' : D → Prop, k' (f d) → me (ρ.set j (.sh d)) k' no1) → acc.length + ds.length ≤ LN → K (acc ++ ds.map f) → lcIn (.nm j) tYesM me ρ K ds acc
  | [], acc, _, _, h => by
    rw [List.map_nil, List.append_nil] at h
    exact h
  | d :: ds, acc, h1, hl, h => by
    refine h1 d List.mem_cons_self _ ⟨by rw [List.length_cons] at hl; omega, lcIn_all f ds _ (fun d' hd => h1 d' (List.mem_cons_of_mem _ hd)) (by rw [List.length_append, List.length_singleton]; rw [List.length_cons] at hl; omega) ?_⟩
    rw [List.append_assoc]
    exact h
theorem lc2_all {i j : Nat} {vs1 : List Nat} {mi1 : MA} {me : MX} {ρ : MEnv} {k : D → Prop} (F : D → List D) (f : D → D → D) : ∀ (ds acc : List D), (∀ d ∈ ds, ∀ k' : List D → Prop, k' (F d) → mi1 (ρ.set i (.sh d)) k' no1) → (∀ d ∈ ds, ∀ e ∈ F d, ∀ k' : D → Prop, k' (f d e) → me ((wipeM (ρ.set i (.sh d)) vs1).set j (.sh e)) k' no1) →
    acc.length + (ds.flatMap F).length ≤ LN → k (.lst (acc ++ ds.flatMap fun d => (F d).map (f d))) → lc2Go (.nm i) tYesM vs1 mi1 (.nm j) tYesM me ρ k ds acc
  | [], acc, _, _, _, h => by
    rw [List.flatMap_nil, List.append_nil] at h
    exact h
  | d :: ds, acc, h1, h2, hl, h => by
    rw [List.flatMap_cons, List.length_append] at hl
    refine h1 d List.mem_cons_self _ (lcIn_all (f d) _ _ (fun e he => h2 d List.mem_cons_self e he) (by omega) (lc2_all F f ds _ (fun d' hd => h1 d' (List.mem_cons_of_mem _ hd)) (fun d' hd => h2 d' (List.mem_cons_of_mem _ hd)) ?_ ?_))
    · rw [List.length_append, List.length_map]; omega
    · rw [List.append_assoc]
      exact h
theorem forGo_rem {G : MG} {m : MS} {M : MD} (I : List D → MEnv → Prop) : ∀ (ds : List D) (ρ : MEnv), I ds ρ → (∀ d r ρ (M' : MD), I (d :: r) ρ → (∀ ρ', I r ρ' → M'.nx ρ' ∧ M'.ct ρ') → M'.rt = M.rt → M'.ex = M.ex → M'.bk = M.nx → G d ρ fun ρ' => m M' ρ') → (∀ ρ, I [] ρ → M.nx ρ) → forGo G m ds M ρ
  | [], ρ, h, _, hn => hn ρ h
  | d :: ds, ρ, h, hs, hn => by
    refine hs d ds ρ _ h (fun ρ' i => ?_) rfl rfl rfl
    have r := forGo_rem I ds ρ' i hs hn
    exact ⟨r, r⟩
theorem v_mixed {xs : List D} (hl : xs.length < LN) (h : ∀ ys : List D, ys.Perm xs → k (.lst ys)) : m__law_mixed [.bag, .lst xs] k ex := by
  rw [m__law_mixed_eq]
  refine forGo_rem (fun rem ρ => ∃ ys a3, ρ = [.sh .bag, .sh (.lst xs), .ow (.lst ys), a3] ∧ (ys ++ rem).Perm xs) xs _ ⟨[], _, rfl, List.Perm.refl _⟩ (fun d r ρ M hρ hM hrt hex hbk => ?_) fun ρ hρ => ?_
  · obtain ⟨ys, a3, rfl, hp⟩ := hρ
    have hy : ys.length + (r.length + 1) = xs.length := by
      have := hp.length_eq
      rw [List.length_append, List.length_cons] at this
      exact this
    have hLN : LN = 100000 := rfl
    first
    | refine ⟨rfl, v_take (n := (ys.length : Int) + 1) (by omega) (by omega) fun j j0 j1 => ?_⟩
    | refine v_take (n := (ys.length : Int) + 1) (by omega) (by omega) fun j j0 j1 => ⟨rfl, ?_⟩
    refine ⟨⟨j0, by omega, by omega⟩, (hM _ ⟨ys.take j.toNat ++ [d] ++ ys.drop j.toNat, _, rfl, ?_⟩).1⟩
    refine List.Perm.trans ?_ hp
    have e : ys = ys.take j.toNat ++ ys.drop j.toNat := (List.take_append_drop _ _).symm
    generalize ys.take j.toNat = A at e ⊢
    generalize ys.drop j.toNat = B at e ⊢
    subst e
    rw [List.append_assoc, List.append_assoc, List.append_assoc]
    refine List.Perm.append_left A ?_
    exact (List.perm_middle (a := d) (l₁ := B) (l₂ := r)).symm
  · obtain ⟨ys, a3, rfl, hp⟩ := hρ
    rw [List.append_nil] at hp
    exact h ys hp
theorem sFor_of {G : MG} {mi : MA} {m : MS} {M : MD} {ρ : MEnv} (h : mi ρ (fun ds => forGo G m ds M ρ) (M.ex ρ)) : sFor G mi m M ρ := h
theorem mSeq_of {m : MX} {ρ : MEnv} {k : List D → Prop} {ex : Exn → Prop} (h : m ρ (fun d => iSeqD d k) ex) : mSeq m ρ k ex := h
theorem sSeq_of {m n : MS} {M : MD} {ρ : MEnv} (h : m { M with nx := n M } ρ) : sSeq m n M ρ := h
/-! ### the span -/
def allBad (t : Told) : List Int := sortU t.p ++ (sortU t.o ++ sortU t.w)
def gbad (t : Told) : Int := maxL (0 :: allBad t)
theorem mem_allBad {t : Told} {e : Str} {i : Int} (he : IsE e) (h : i ∈ badAt t e) : i ∈ allBad t := by
  unfold allBad
  rcases he with rfl | rfl | rfl
  · exact List.mem_append_left _ h
  · exact List.mem_append_right _ (List.mem_append_left _ h)
  · exact List.mem_append_right _ (List.mem_append_right _ h)
theorem gbad_ge {t : Told} {e : Str} {i : Int} (he : IsE e) (h : i ∈ badAt t e) : i ≤ gbad t := (maxL_mem (l := 0 :: allBad t) (by simp)).2 i (List.mem_cons_of_mem _ (mem_allBad he h))
theorem gbad_in {t : Told} (h : TOk t) : 0 ≤ gbad t ∧ gbad t ≤ 5 := by
  refine ⟨(maxL_mem (l := 0 :: allBad t) (by simp)).2 0 List.mem_cons_self, ?_⟩
  have := (maxL_mem (l := 0 :: allBad t) (by simp)).1
  show maxL (0 :: allBad t) ≤ 5
  generalize maxL (0 :: allBad t) = m at this ⊢
  rcases List.mem_cons.mp this with e | e
  · omega
  · unfold allBad at e
    rcases List.mem_append.mp e with e | e
    · exact (h.p.sort.2 m e).2
    · rcases List.mem_append.mp e with e | e
      · exact (h.o.sort.2 m e).2
      · exact (h.w.sort.2 m e).2
theorem atI_last {α : Type} {xs : List α} (h : xs ≠ []) : L2.atI xs (-1) = some (xs.getLast h) := by
  have : 0 < xs.length := List.length_pos_iff.mpr h
  unfold L2.atI ixN
  rw [if_neg (by decide), if_pos (by omega)]
  show xs[(-1 + (xs.length : Int)).toNat]? = _
  rw [show (-1 + (xs.length : Int)).toNat = xs.length - 1 by omega, List.getLast_eq_getElem, List.getElem?_eq_getElem]
def smax (t : Told) : Int := maxL (sortU t.s)
theorem asc_last : ∀ {l : List Int} (h : l ≠ []), l.Pairwise (· < ·) → l.getLast h = maxL l
  | [x], _, _ => rfl
  | x :: y :: r, _, hp => by
    have ih := asc_last (l := y :: r) (by simp) (List.pairwise_cons.mp hp).2
    have := (List.pairwise_cons.mp hp).1 _ (maxL_mem (l := y :: r) (by simp)).1
    rw [List.getLast_cons (by simp), ih]
    show _ = max x (maxL (y :: r))
    omega
def spanL (t : Told) : Int := if t.of = 0 then gbad t + smax t + 1 else 2 * gbad t + smax t + t.of
theorem span_in {t : Told} (h : TOk t) : 2 ≤ spanL t ∧ spanL t ≤ 20 := by
  have g := gbad_in h
  have m := maxL_mem (sortU_ne h.s0)
  have s := h.s.sort.2 _ m.1
  have o := h.of
  unfold spanL smax
  split <;> omega
/-- from the span on: 0 is a good choice -/
theorem zero_good {t : Told} {x : Stt} {s : Int} (h : TOk t) (hx : SOk x) (hs : s ∈ sortU t.s) (hn : spanL t ≤ x.n) : (0 : Int) ∈ goodL t x s (possL (anyB t) (x.n - s)) := by
  have g := gbad_in h
  have m := (maxL_mem (sortU_ne h.s0)).2 s hs
  have o := h.of
  have hd : gbad t < x.n - s := by
    unfold spanL smax at hn
    split at hn <;> omega
  refine mem_good.mpr ⟨mem_poss.mpr ⟨by omega, ?_⟩, fun z => ?_, fun z => ?_⟩
  · cases anyB t with
    | true => exact .inl ⟨rfl, by omega, by omega⟩
    | false => exact .inr ⟨rfl, .inl rfl⟩
  · have := (bad_in h x.l).2 0 z
    omega
  · have := gbad_ge hx.r z
    omega
theorem let_far {t : Told} {x : Stt} {s : Int} (h : TOk t) (hx : SOk x) (hs : s ∈ sortU t.s) (hn : spanL t ≤ x.n) : letL t x s = goodL t x s (possL (anyB t) (x.n - s)) := by
  have z := zero_good h hx hs hn
  unfold letL
  rw [if_neg fun y => by rw [y.1] at z; cases z]
theorem off_far {t : Told} {x : Stt} {s : Int} (h : TOk t) (hx : SOk x) (hs : s ∈ sortU t.s) (hn : spanL t ≤ x.n) : offL t x s ≠ [] := off_some fun z => by
  have y := zero_good h hx hs hn
  rw [← let_far h hx hs hn, z] at y
  cases y
theorem off_good {t : Told} {x : Stt} {s b : Int} (h : TOk t) (hx : SOk x) (hs : s ∈ sortU t.s) (hn : spanL t ≤ x.n) (hb : b ∈ offL t x s) : b ∉ badAt t x.l ∧ x.n - s - b ∉ badAt t x.r := by
  have : b ∈ letL t x s := by
    unfold offL at hb
    split at hb
    · exact List.mem_of_mem_take hb
    · exact hb
  rw [let_far h hx hs hn] at this
  exact (mem_good.mp this).2
/-! ### all sales -/
def saleD (s b : Int) : D := .tup [.int s, .int b]
def salesD (t : Told) (x : Stt) : List D := (sortU t.s).flatMap fun s => (offL t x s).map (saleD s)
theorem mem_sales {t : Told} {x : Stt} {d : D} (h : d ∈ salesD t x) : ∃ s b, d = saleD s b ∧ s ∈ sortU t.s ∧ b ∈ offL t x s := by
  obtain ⟨s, hs, hd⟩ := List.mem_flatMap.mp h
  obtain ⟨b, hb, rfl⟩ := List.mem_map.mp hd
  exact ⟨s, b, rfl, hs, hb⟩
theorem flatMap_len {α β : Type} {l : List α} {f : α → List β} {n : Nat} (h : ∀ a ∈ l, (f a).length ≤ n) : (l.flatMap f).length ≤ l.length * n := by
  induction l with
  | nil => simp
  | cons a r ih =>
    rw [List.flatMap_cons, List.length_append, List.length_cons, Nat.succ_mul]
    have := h a List.mem_cons_self
    have := ih fun b hb => h b (List.mem_cons_of_mem _ hb)
    omega
theorem sales_len {t : Told} {x : Stt} (h : TOk t) (hx : SOk x) : (salesD t x).length ≤ 5005 := by
  have := flatMap_len (l := sortU t.s) (f := fun s => (offL t x s).map (saleD s)) (n := 1001) fun s hs => by rw [List.length_map]; exact off_len h hx hs
  have h5 := sort_len h.s
  show ((sortU t.s).flatMap fun s => (offL t x s).map (saleD s)).length ≤ 5005
  have : (sortU t.s).length * 1001 ≤ 5 * 1001 := Nat.mul_le_mul_right _ h5
  omega
theorem v_sales {t : Told} {x : Stt} (h : TOk t) (hx : SOk x) (hk : k (.lst (salesD t x))) : m_sales [ruD t, stD x] k ex := by
  rw [m_sales_eq]
  refine ⟨rfl, lc2_all (fun d => match d with
    | .int s => (offL t x s).map D.int
    | _ => []) (fun d e => .tup [d, e]) _ _ (fun d hd k' hk' => ?_) (fun d hd e he k' hk' => hk') ?_ ?_⟩
  · obtain ⟨s, hs, rfl⟩ := List.mem_map.mp hd
    exact v_offered h hx hs hk'
  · show 0 + (((sortU t.s).map D.int).flatMap _).length ≤ LN
    rw [List.flatMap_map]
    have := flatMap_len (l := sortU t.s) (f := fun s => (offL t x s).map D.int) (n := 1001) fun s hs => by rw [List.length_map]; exact off_len h hx hs
    have h5 := sort_len h.s
    have h6 : (sortU t.s).length * 1001 ≤ 5 * 1001 := Nat.mul_le_mul_right _ h5
    have hLN : LN = 100000 := rfl
    show 0 + ((sortU t.s).flatMap fun s => (offL t x s).map D.int).length ≤ LN
    omega
  · have e : (((sortU t.s).map D.int).flatMap fun d => (match d with | .int s => (offL t x s).map D.int | _ => []).map fun e => D.tup [d, e]) = salesD t x := by
      rw [List.flatMap_map]
      unfold salesD
      congr 1
      funext s
      show ((offL t x s).map D.int).map _ = _
      rw [List.map_map] <;> rfl
    rw [List.nil_append, e]
    exact hk
/-! ### alike -/
variable {k : D → Prop} {ex : Exn → Prop}
theorem okR_bl (b : Bool) : okR (.bl b) := okR_of (by simp [shp]) (by simp [dep]) (by simp [shw]) (by simp [wgt])
theorem shw_E {e : Str} (h : IsE e) : shw (.str e) = true := by rcases h with rfl | rfl | rfl <;> decide +kernel
theorem wgt_E {e : Str} (h : IsE e) : wgt (.str e) ≤ 6 := by rcases h with rfl | rfl | rfl <;> decide +kernel
theorem shw_st {x : Stt} (hl : IsE x.l) (hr : IsE x.r) (h0 : 0 ≤ x.n) (h1 : x.n ≤ 100000) : shw (stD x) = true := by
  show shw (.tup _) = true
  have e : shw (.int x.n) = true := by rw [shw]; exact decide_eq_true ⟨h0, by omega⟩
  rw [shw]
  simp only [shws, shw_E hl, shw_E hr, e, Bool.and_self]
theorem wgt_st {x : Stt} (hl : IsE x.l) (hr : IsE x.r) : wgt (stD x) ≤ 15 := by
  show wgt (.tup _) ≤ 15
  have a := wgt_E hl
  have b := wgt_E hr
  rw [wgt]
  simp only [wgts]
  have e : wgt (.int x.n) = 0 := by rw [wgt]
  omega
theorem okR_st {x : Stt} (h : SOk x) : okR (stD x) := okR_of (shp_st h.l h.r) (by rw [dep_st]; decide) (shw_st h.l h.r h.n0 (by have := h.n1; omega)) (by have := wgt_st h.l h.r; omega)
theorem sts_ok : ∀ (l : List Stt), (∀ x ∈ l, SOk x) → shps (l.map stD) = true ∧ deps (l.map stD) ≤ 1 ∧ shws (l.map stD) = true ∧ wgts (l.map stD) ≤ 16 * l.length
  | [], _ => by simp [shps, deps, shws, wgts]
  | x :: l, h => by
    obtain ⟨a1, a2, a3, a4⟩ := sts_ok l fun y hy => h y (List.mem_cons_of_mem _ hy)
    have hx := h x List.mem_cons_self
    have b1 := shp_st hx.l hx.r
    have b2 := dep_st x
    have b3 := shw_st hx.l hx.r hx.n0 (by have := hx.n1; omega)
    have b4 := wgt_st hx.l hx.r
    simp only [List.map_cons, shps, deps, shws, wgts, b1, a1, b3, a3, Bool.and_self, List.length_cons, true_and]
    refine ⟨?_, ?_⟩
    · omega
    · omega
theorem okE_sts {l : List Stt} (h : ∀ x ∈ l, SOk x) : okE (.lst (l.map stD)) := by
  obtain ⟨a1, a2, a3, a4⟩ := sts_ok l h
  refine ⟨by rw [shp]; exact a1, ?_⟩
  rw [dep]; omega
theorem okR_sts {l : List Stt} (h : ∀ x ∈ l, SOk x) (hl : l.length ≤ 400) : okR (.lst (l.map stD)) := by
  obtain ⟨a1, a2, a3, a4⟩ := sts_ok l h
  refine okR_of (by rw [shp]; exact a1) ?_ (by rw [shw]; exact a3) ?_
  · rw [dep]; omega
  · rw [wgt]; omega
/-! ### the law's own offers -/
def rawBad (t : Told) (e : Str) : List Int := if e = "pillar" then t.p else if e = "sold" then t.o else t.w
theorem mem_raw {t : Told} {e : Str} {b : Int} : b ∈ rawBad t e ↔ b ∈ badAt t e := by
  unfold rawBad badAt
  split
  · exact mem_sortU.symm
  · split
    · exact mem_sortU.symm
    · exact mem_sortU.symm
theorem v_befores {t : Told} {x : Stt} {s : Int} (h : TOk t) (hx : SOk x) (h1 : 1 ≤ s) (h2 : s ≤ 5) (hk : k (nums (possL (anyB t) (x.n - s)))) : m__law_befores [toldD t, stD x, .int s] k ex := by
  rw [m__law_befores_eq]
  have n0 := hx.n0
  have n1 := hx.n1
  refine ⟨rfl, ?_⟩
  show (if decide (x.n < s) = true then k (.lst []) else _)
  by_cases hd : x.n - s < 0
  · rw [decide_eq_true (show x.n < s by omega), if_pos rfl]
    unfold possL at hk
    rw [if_pos hd] at hk
    exact hk
  · rw [decide_eq_false (show ¬ x.n < s by omega), if_neg Bool.false_ne_true]
    unfold possL at hk
    rw [if_neg hd] at hk
    refine ⟨okE_wh h.wh, okE_any, ?_⟩
    rw [eqD_str]
    show (if anyB t = true then _ else _)
    cases ha : anyB t with
    | true =>
      rw [ha, if_pos rfl] at hk
      rw [if_pos rfl]
      refine ⟨by omega, by omega, ?_⟩
      rw [rangeD_rng]
      exact hk
    | false =>
      rw [ha, if_neg Bool.false_ne_true] at hk
      rw [if_neg Bool.false_ne_true]
      exact ⟨[0, x.n - s], rfl, by show 2 ≤ 60; decide, hk⟩
theorem told_bad {t : Told} {e : Str} {K : D → Prop} (he : IsE e) (hk : K (nums (rawBad t e))) : dSub1 (badD t) (.str e) K := by
  rcases he with rfl | rfl | rfl
  · exact hk
  · exact hk
  · exact hk
def spoilB (t : Told) (x : Stt) (s b : Int) : Bool := decide (b ∈ badAt t x.l) || decide (x.n - s - b ∈ badAt t x.r)
theorem v_spoils {t : Told} {x : Stt} {s b : Int} (hx : SOk x) (hk : k (.bl (spoilB t x s b))) : m__law_spoils [toldD t, stD x, .int s, .int b] k ex := by
  rw [m__law_spoils_eq]
  refine ⟨rfl, ?_⟩
  unfold spoilB at hk
  refine told_bad hx.l ⟨⟨rfl, flat_ints _⟩, ?_⟩
  rw [inD_ints, decide_eq_decide.mpr (mem_raw (t := t) (e := x.l) (b := b))]
  cases q : decide (b ∈ badAt t x.l) with
  | true => rw [q, Bool.true_or] at hk; exact hk
  | false =>
    rw [q, Bool.false_or] at hk
    refine told_bad hx.r ⟨⟨rfl, flat_ints _⟩, ?_⟩
    rw [inD_ints, decide_eq_decide.mpr (mem_raw (t := t) (e := x.r) (b := x.n - s - b))]
    exact hk
theorem v_offers {t : Told} {x : Stt} {s : Int} (h : TOk t) (hx : SOk x) (hs : s ∈ sortU t.s) (hk : k (nums (offL t x s))) : m__law_offers [toldD t, stD x, .int s] k ex := by
  rw [m__law_offers_eq]
  obtain ⟨h1, h2⟩ := h.size hs
  have lp := poss_len (any := anyB t) (d := x.n - s) (by have := hx.n1; omega)
  refine v_befores h hx h1 h2 ?_
  refine ⟨by rw [List.length_map]; exact Nat.le_trans lp (by decide), lcGo_nm (fun d => match d with
    | .int b => !spoilB t x s b
    | _ => false) id _ _ (fun d hd k' hk' => ?_) (fun d hd _ k' hk' => hk') ?_⟩
  · obtain ⟨b, _, rfl⟩ := List.mem_map.mp hd
    exact v_spoils hx hk'
  · rw [List.nil_append, List.map_id, nums_filter _ (fun b => !spoilB t x s b) _ (fun _ => rfl)]
    have eg : (possL (anyB t) (x.n - s)).filter (fun b => !spoilB t x s b) = goodL t x s (possL (anyB t) (x.n - s)) := by
      unfold goodL spoilB
      congr 1
      funext b
      simp
    rw [eg]
    refine ⟨okE_ints _, okE_nil, ?_⟩
    have e : eqD (D.lst (List.map D.int (goodL t x s (possL (anyB t) (x.n - s))))) (.lst []) = decide (goodL t x s (possL (anyB t) (x.n - s)) = []) := eqD_ints _ []
    rw [e]
    have fin : ∀ l : List Int, l = letL t x s → (if decide (0 < t.of) = true then k (.lst (cutD (l.map D.int) none (some t.of))) else k (nums l)) := fun l hl => by
      subst hl
      unfold offL at hk
      by_cases ho : 0 < t.of
      · rw [if_pos ho] at hk
        rw [decide_eq_true ho, if_pos rfl, cut_take _ ho]
        exact hk
      · rw [if_neg ho] at hk
        rw [decide_eq_false ho, if_neg Bool.false_ne_true]
        exact hk
    unfold letL at fin
    by_cases hg : goodL t x s (possL (anyB t) (x.n - s)) = []
    · rw [decide_eq_true hg]
      show (if t.soft = true then _ else _)
      cases hsf : t.soft with
      | true => rw [if_pos rfl]; exact fin _ (if_pos ⟨hg, hsf⟩).symm
      | false => rw [if_neg Bool.false_ne_true]; exact fin _ (if_neg (fun z => by rw [hsf] at z; exact Bool.false_ne_true z.2)).symm
    · rw [decide_eq_false hg]
      exact fin _ (if_neg (fun z => hg z.1)).symm
/-! ### stretches that come -/
def Kid (t : Told) (x y : Stt) : Prop := 0 < y.n ∧ ∃ s b, s ∈ t.s ∧ b ∈ offL t x s ∧ (y = ⟨x.l, b, "sold"⟩ ∨ y = ⟨"sold", x.n - s - b, x.r⟩)
inductive Reach (t : Told) (x0 : Stt) : Stt → Prop
  | refl : Reach t x0 x0
  | step {x y : Stt} : Reach t x0 x → Kid t x y → Reach t x0 y
theorem Kid.lt {t : Told} {x y : Stt} (ht : TOk t) (h : Kid t x y) : y.n < x.n := by
  obtain ⟨h0, s, b, hs, hb, e⟩ := h
  obtain ⟨s1, _⟩ := ht.s.2 s hs
  obtain ⟨b0, bn⟩ := off_mem hb
  rcases e with rfl | rfl
  · show b < x.n; omega
  · show x.n - s - b < x.n; omega
theorem Kid.ok {t : Told} {x y : Stt} (ht : TOk t) (hx : SOk x) (h : Kid t x y) : SOk y := by
  have hlt := h.lt ht
  obtain ⟨h0, s, b, hs, hb, e⟩ := h
  have n1 := hx.n1
  have sE : IsE "sold" := .inr (.inl rfl)
  rcases e with rfl | rfl
  · exact ⟨hx.l, sE, Int.le_of_lt h0, by have : b < x.n := hlt; show b ≤ 1000; omega⟩
  · exact ⟨sE, hx.r, Int.le_of_lt h0, by have : x.n - s - b < x.n := hlt; show x.n - s - b ≤ 1000; omega⟩
theorem Reach.ok {t : Told} {x0 y : Stt} (ht : TOk t) (h0 : SOk x0) (h : Reach t x0 y) : SOk y := by
  induction h with
  | refl => exact h0
  | step _ k ih => exact k.ok ht ih
instance instStt : DecidableEq Stt := fun ⟨a, b, c⟩ ⟨d, e, f⟩ => if h : a = d ∧ b = e ∧ c = f then isTrue (by obtain ⟨rfl, rfl, rfl⟩ := h; rfl) else isFalse (fun z => h (by cases z; exact ⟨rfl, rfl, rfl⟩))
def addK (l : List Stt) (y : Stt) : List Stt := if y ∈ l then l else l ++ [y]
def univ : List Stt := (List.range 1001).flatMap fun (n : Nat) => [⟨"pillar", n, "pillar"⟩, ⟨"pillar", n, "sold"⟩, ⟨"pillar", n, "wall"⟩, ⟨"sold", n, "pillar"⟩, ⟨"sold", n, "sold"⟩, ⟨"sold", n, "wall"⟩, ⟨"wall", n, "pillar"⟩, ⟨"wall", n, "sold"⟩, ⟨"wall", n, "wall"⟩]
theorem univ_mem {y : Stt} (h : SOk y) : y ∈ univ := by
  unfold univ
  refine List.mem_flatMap.mpr ⟨y.n.toNat, List.mem_range.mpr (by have := h.n1; have := h.n0; omega), ?_⟩
  have e : ((y.n.toNat : Nat) : Int) = y.n := Int.toNat_of_nonneg h.n0
  obtain ⟨l, n, r⟩ := y
  have hl : IsE l := h.l
  have hr : IsE r := h.r
  rw [e]
  rcases hl with rfl | rfl | rfl <;> rcases hr with rfl | rfl | rfl <;> simp
theorem univ_len : univ.length = 9009 := by
  unfold univ
  rw [List.length_flatMap]
  decide +kernel
theorem nodup_le {α : Type} [DecidableEq α] : ∀ (l u : List α), l.Nodup → (∀ x ∈ l, x ∈ u) → l.length ≤ u.length
  | [], u, _, _ => Nat.zero_le _
  | a :: l, u, hn, hs => by
    have ha := hs a List.mem_cons_self
    obtain ⟨h1, h2⟩ := List.nodup_cons.mp hn
    have := nodup_le l (u.erase a) h2 fun x hx => by
      have ne : x ≠ a := fun z => h1 (z ▸ hx)
      exact (List.mem_erase_of_ne ne).mpr (hs x (List.mem_cons_of_mem _ hx))
    rw [List.length_erase_of_mem ha] at this
    have : 0 < u.length := List.length_pos_of_mem ha
    rw [List.length_cons]; omega
/-- the search: what was found, what waits -/
structure Bfs (t : Told) (x0 : Stt) (F Q : List Stt) : Prop where
  nd : F.Nodup
  st : x0 ∈ F
  rc : ∀ y ∈ F, Reach t x0 y
  qs : ∀ y ∈ Q, y ∈ F
  cl : ∀ y ∈ F, y ∉ Q → ∀ z, Kid t y z → z ∈ F
/-- .. while the children of y are looked at; R are still to be looked at -/
structure BfsP (t : Told) (x0 y : Stt) (R F Q : List Stt) : Prop where
  nd : F.Nodup
  st : x0 ∈ F
  yf : y ∈ F
  rc : ∀ u ∈ F, Reach t x0 u
  qs : ∀ u ∈ Q, u ∈ F
  kd : ∀ z ∈ R, Kid t y z
  cl : ∀ u ∈ F, u ∉ Q → u ≠ y → ∀ z, Kid t u z → z ∈ F
  cy : ∀ z, Kid t y z → z ∈ F ∨ z ∈ R
section
variable {t : Told} {x0 y z : Stt} {F Q R : List Stt}
theorem Bfs.start : Bfs t x0 [x0] [x0] := ⟨List.pairwise_singleton _ _, List.mem_cons_self, fun y hy => by rw [List.mem_singleton.mp hy]; exact .refl, fun y hy => hy, fun y hy hn => absurd hy hn⟩
theorem Bfs.pop (h : Bfs t x0 F (y :: Q)) (hC : ∀ z, z ∈ R ↔ Kid t y z) : BfsP t x0 y R F Q :=
  ⟨h.nd, h.st, h.qs y List.mem_cons_self, h.rc, fun u hu => h.qs u (List.mem_cons_of_mem _ hu), fun z hz => (hC z).mp hz, fun u hu hq ne z hz => h.cl u hu (fun m => (List.mem_cons.mp m).elim ne hq) z hz, fun z hz => .inr ((hC z).mpr hz)⟩
theorem BfsP.old (h : BfsP t x0 y (z :: R) F Q) (hz : z ∈ F) : BfsP t x0 y R F Q :=
  ⟨h.nd, h.st, h.yf, h.rc, h.qs, fun u hu => h.kd u (List.mem_cons_of_mem _ hu), h.cl, fun u hu => (h.cy u hu).elim .inl fun m => (List.mem_cons.mp m).elim (fun e => .inl (e ▸ hz)) .inr⟩
theorem BfsP.new (h : BfsP t x0 y (z :: R) F Q) (hz : z ∉ F) : BfsP t x0 y R (F ++ [z]) (Q ++ [z]) := by
  have kz := h.kd z List.mem_cons_self
  refine ⟨?_, List.mem_append_left _ h.st, List.mem_append_left _ h.yf, fun u hu => ?_, fun u hu => ?_, fun u hu => h.kd u (List.mem_cons_of_mem _ hu), fun u hu hq ne w hw => ?_, fun u hu => ?_⟩
  · exact List.nodup_append.mpr ⟨h.nd, List.pairwise_singleton _ _, fun a ha b hb => by rw [List.mem_singleton.mp hb]; exact fun e => hz (e ▸ ha)⟩
  · rcases List.mem_append.mp hu with m | m
    · exact h.rc u m
    · rw [List.mem_singleton.mp m]; exact .step (h.rc y h.yf) kz
  · rcases List.mem_append.mp hu with m | m
    · exact List.mem_append_left _ (h.qs u m)
    · exact List.mem_append_right _ m
  · rcases List.mem_append.mp hu with m | m
    · exact List.mem_append_left _ (h.cl u m (fun q => hq (List.mem_append_left _ q)) ne w hw)
    · exact absurd (List.mem_append_right _ m) hq
  · rcases h.cy u hu with m | m
    · exact .inl (List.mem_append_left _ m)
    · rcases List.mem_cons.mp m with e | e
      · exact .inl (List.mem_append_right _ (by rw [e]; exact List.mem_singleton.mpr rfl))
      · exact .inr e
theorem BfsP.done (h : BfsP t x0 y [] F Q) : Bfs t x0 F Q :=
  ⟨h.nd, h.st, h.rc, h.qs, fun u hu hq z hz => by
    by_cases e : u = y
    · subst e
      exact (h.cy z hz).elim id fun m => nomatch m
    · exact h.cl u hu hq e z hz⟩
theorem Bfs.fin (h : Bfs t x0 F []) : ∀ u, u ∈ F ↔ Reach t x0 u := fun u => ⟨h.rc u, fun r => by
  induction r with
  | refl => exact h.st
  | step _ k ih => exact h.cl _ ih (fun m => nomatch m) _ k⟩
theorem BfsP.len (h : BfsP t x0 y R F Q) (ht : TOk t) (h0 : SOk x0) : F.length ≤ 9009 := by
  rw [← univ_len]
  exact nodup_le F univ h.nd fun u hu => univ_mem ((h.rc u hu).ok ht h0)
theorem Bfs.len (h : Bfs t x0 F Q) (ht : TOk t) (h0 : SOk x0) : F.length ≤ 9009 := by
  rw [← univ_len]
  exact nodup_le F univ h.nd fun u hu => univ_mem ((h.rc u hu).ok ht h0)
end
def rawSales (t : Told) (x : Stt) (l : List Int) : List D := l.flatMap fun s => (offL t x s).map (saleD s)
theorem raw_len {t : Told} {x : Stt} (h : TOk t) (hx : SOk x) {l : List Int} (hl : ∀ s ∈ l, s ∈ t.s) : (rawSales t x l).length ≤ l.length * 1001 := by
  unfold rawSales
  exact flatMap_len fun s hs => by rw [List.length_map]; exact off_len h hx (mem_sortU.mpr (hl s hs))
theorem v_all_salesL {t : Told} {x : Stt} (h : TOk t) (hx : SOk x) (hk : k (.lst (rawSales t x t.s))) : m__law_all_sales [toldD t, stD x] k ex := by
  rw [m__law_all_sales_eq]
  refine forGo_rem (fun r ρ => ∃ (dn td : List Int) (b3 b4 : Sl), t.s = dn ++ td ∧ r = td.map D.int ∧ ρ = [.sh (toldD t), .sh (stD x), .ow (.lst (rawSales t x dn)), b3, b4]) _ _ ⟨[], t.s, _, _, rfl, rfl, rfl⟩ (fun d r ρ M' hI hM hrt hex hbk => ?_) (fun ρ hI => ?_)
  · obtain ⟨dn, td, b3, b4, e1, e2, rfl⟩ := hI
    cases td with
    | nil => cases e2
    | cons s td =>
      rw [List.map_cons] at e2
      injection e2 with e3 e4
      subst e3 e4
      have hs : s ∈ t.s := by rw [e1]; simp
      have lo := off_len h hx (mem_sortU.mpr hs)
      have l1 := raw_len h hx (l := dn) fun u hu => by rw [e1]; exact List.mem_append_left _ hu
      have l2 : dn.length + 1 ≤ 60 := by
        have := h.s.1
        rw [e1, List.length_append, List.length_cons] at this
        omega
      refine v_offers h hx (mem_sortU.mpr hs) ⟨by rw [List.length_map]; exact Nat.le_trans lo (by decide), lcGo_all (fun e => .tup [.int s, e]) _ (fun e he k' hk' => hk') ?_⟩
      refine ⟨?_, (hM _ ⟨dn ++ [s], td, .sh (.int s), b4, by rw [e1]; simp, rfl, ?_⟩).1⟩
      · rw [List.length_map, List.length_map]
        show _ ≤ 100000
        omega
      · have e : rawSales t x (dn ++ [s]) = rawSales t x dn ++ List.map (fun e => D.tup [.int s, e]) (List.map D.int (offL t x s)) := by
          unfold rawSales
          rw [List.flatMap_append, List.flatMap_cons, List.flatMap_nil, List.append_nil, List.map_map]
          rfl
        rw [e]
        rfl
  · obtain ⟨dn, td, b3, b4, e1, e2, rfl⟩ := hI
    cases td with
    | cons s td => cases e2
    | nil =>
      rw [List.append_nil] at e1
      rw [← e1]
      exact hk
theorem v_partedL {x : Stt} {s b : Int} (hk : k (.tup [stD ⟨x.l, b, "sold"⟩, stD ⟨"sold", x.n - s - b, x.r⟩])) : m__law_parted [stD x, .int s, .int b] k ex := by
  rw [m__law_parted_eq]
  exact ⟨rfl, hk⟩
/-! ### the dict of stretches -/
def stK (y : Stt) : List Key := [.inr y.l, .inl y.n, .inr y.r]
theorem stK_key (y : Stt) : keyT (stD y) = some (stK y) := rfl
theorem stK_D (y : Stt) : kDs (stK y) = stD y := rfl
theorem stK_inj {x y : Stt} (h : stK x = stK y) : x = y := by
  obtain ⟨a, b, c⟩ := x
  obtain ⟨d, e, f⟩ := y
  unfold stK at h
  simp only [List.cons.injEq, Sum.inr.injEq, Sum.inl.injEq, and_true] at h
  obtain ⟨rfl, rfl, rfl⟩ := h
  rfl
theorem stK_ok {y : Stt} (h : SOk y) : keyOks (stK y) := by
  refine ⟨fun q hq => ?_, by show 3 ≤ 100000; decide⟩
  unfold stK at hq
  simp only [List.mem_cons, List.not_mem_nil, or_false] at hq
  rcases hq with rfl | rfl | rfl
  · rcases h.l with e | e | e <;> (rw [e]; show Str.length _ ≤ LN; decide)
  · exact trivial
  · rcases h.r with e | e | e <;> (rw [e]; show Str.length _ ≤ LN; decide)
def dtD (l : List (Stt × D)) : List (List Key × D) := l.map fun p => (stK p.1, p.2)
theorem dt_val (l : List (Stt × D)) (y : Stt) : valT (dtD l) (stK y) = (l.find? fun p => decide (p.1 = y)).map (·.2) := by
  induction l with
  | nil => rfl
  | cons p l ih =>
    unfold valT dtD at *
    rw [List.map_cons]
    by_cases e : p.1 = y
    · rw [List.find?_cons_of_pos (by simpa using congrArg stK e), List.find?_cons_of_pos (by simpa using e)] <;> rfl
    · have e' : stK p.1 ≠ stK y := fun z => e (stK_inj z)
      rw [List.find?_cons_of_neg (by simpa using e'), List.find?_cons_of_neg (by simpa using e)]
      exact ih
theorem dt_some (l : List (Stt × D)) (y : Stt) : (valT (dtD l) (stK y)).isSome = decide (y ∈ l.map (·.1)) := by
  rw [dt_val]
  by_cases h : y ∈ l.map (·.1)
  · rw [decide_eq_true h]
    obtain ⟨p, hp, rfl⟩ := List.mem_map.mp h
    cases q : l.find? fun r => decide (r.1 = p.1) with
    | none => exact absurd (by simpa using List.find?_eq_none.mp q p hp) (fun z : False => z)
    | some r => rfl
  · rw [decide_eq_false h]
    cases q : l.find? fun r => decide (r.1 = y) with
    | none => rfl
    | some r =>
      have h1 := List.find?_some q
      have h2 := List.mem_of_find?_eq_some q
      exact absurd (List.mem_map.mpr ⟨r, h2, by simpa using h1⟩) h
theorem dt_new {l : List (Stt × D)} {y : Stt} {d : D} (h : y ∉ l.map (·.1)) : putT (dtD l) (stK y) d = dtD (l ++ [(y, d)]) := by
  have e : ((dtD l).any fun kv => decide (kv.1 = stK y)) = false := by
    rw [List.any_eq_false]
    intro kv hkv z
    obtain ⟨p, hp, rfl⟩ := List.mem_map.mp hkv
    have z : stK p.1 = stK y := by simpa using z
    exact h (List.mem_map.mpr ⟨p, hp, stK_inj z⟩)
  unfold putT
  rw [e, if_neg Bool.false_ne_true]
  unfold dtD
  rw [List.map_append] <;> rfl
theorem dt_find {l : List (Stt × D)} {y : Stt} (h : y ∈ l.map (·.1)) : ∃ d, (y, d) ∈ l ∧ valT (dtD l) (stK y) = some d := by
  have := dt_some l y
  rw [decide_eq_true h, dt_val] at this
  rw [dt_val]
  cases q : l.find? fun r => decide (r.1 = y) with
  | none => rw [q] at this; cases this
  | some r =>
    have h1 : r.1 = y := by simpa using List.find?_some q
    exact ⟨r.2, by rw [← h1]; exact List.mem_of_find?_eq_some q, rfl⟩
def pairsOf (t : Told) (x : Stt) (l : List Int) : List (Int × Int) := l.flatMap fun s => (offL t x s).map fun b => (s, b)
theorem raw_pairs (t : Told) (x : Stt) (l : List Int) : rawSales t x l = (pairsOf t x l).map fun p => saleD p.1 p.2 := by
  unfold rawSales pairsOf
  rw [List.map_flatMap]
  congr 1
  funext s
  rw [List.map_map] <;> rfl
theorem mem_pairs {t : Told} {x : Stt} {l : List Int} {s b : Int} : (s, b) ∈ pairsOf t x l ↔ s ∈ l ∧ b ∈ offL t x s := by
  unfold pairsOf
  constructor
  · intro h
    obtain ⟨s', hs, h⟩ := List.mem_flatMap.mp h
    obtain ⟨b', hb, e⟩ := List.mem_map.mp h
    cases e
    exact ⟨hs, hb⟩
  · intro ⟨h1, h2⟩
    exact List.mem_flatMap.mpr ⟨s, h1, List.mem_map.mpr ⟨b, h2, rfl⟩⟩
def tf (F : List Stt) : List (List Key × D) := dtD (F.map fun y => (y, .bl true))
theorem tf_put (F : List Stt) (y : Stt) : putT (tf F) (stK y) (.bl true) = tf (addK F y) := by
  unfold addK
  by_cases h : y ∈ F
  · rw [if_pos h]
    unfold putT
    have e : ((tf F).any fun kv => decide (kv.1 = stK y)) = true := by
      rw [List.any_eq_true]
      exact ⟨(stK y, .bl true), List.mem_map.mpr ⟨(y, .bl true), List.mem_map.mpr ⟨y, h, rfl⟩, rfl⟩, by simp⟩
    rw [if_pos e]
    unfold tf dtD
    rw [List.map_map, List.map_map, List.map_map]
    apply List.map_congr_left
    intro z _
    show (if stK z = stK y then (stK z, D.bl true) else (stK z, D.bl true)) = _
    split <;> rfl
  · rw [if_neg h]
    unfold tf
    rw [dt_new (by rw [List.map_map]; intro z; obtain ⟨w, hw, e⟩ := List.mem_map.mp z; exact h (e ▸ hw)), List.map_append] <;> rfl
theorem mem_addK {F : List Stt} {y z : Stt} : z ∈ addK F y ↔ z ∈ F ∨ z = y := by
  unfold addK
  split
  · rename_i h
    exact ⟨.inl, fun q => q.elim id fun e => e ▸ h⟩
  · rw [List.mem_append, List.mem_singleton]
theorem nodup_addK {F : List Stt} {y : Stt} (h : F.Nodup) : (addK F y).Nodup := by
  unfold addK
  split
  · exact h
  · rename_i hy
    exact List.nodup_append.mpr ⟨h, List.pairwise_singleton _ _, fun a ha b hb => by rw [List.mem_singleton.mp hb]; exact fun e => hy (e ▸ ha)⟩
def part1 (x : Stt) (p : Int × Int) : Stt := ⟨x.l, p.2, "sold"⟩
def part2 (x : Stt) (p : Int × Int) : Stt := ⟨"sold", x.n - p.1 - p.2, x.r⟩
theorem part_ok {t : Told} {x z : Stt} {p : Int × Int} (ht : TOk t) (hx : SOk x) (hp : p ∈ pairsOf t x t.s) (hz : z = part1 x p ∨ z = part2 x p) : SOk z := by
  obtain ⟨s, b⟩ := p
  obtain ⟨hs, hb⟩ := mem_pairs.mp hp
  obtain ⟨s1, _⟩ := ht.s.2 s hs
  obtain ⟨b0, bn⟩ := off_mem hb
  have n1 := hx.n1
  have sE : IsE "sold" := .inr (.inl rfl)
  rcases hz with rfl | rfl
  · exact ⟨hx.l, sE, b0, by show b ≤ 1000; omega⟩
  · exact ⟨sE, hx.r, by show 0 ≤ x.n - s - b; omega, by show x.n - s - b ≤ 1000; omega⟩
theorem kid_iff {t : Told} {x z : Stt} : Kid t x z ↔ 0 < z.n ∧ ∃ p ∈ pairsOf t x t.s, z = part1 x p ∨ z = part2 x p := by
  constructor
  · intro ⟨h0, s, b, hs, hb, e⟩
    exact ⟨h0, (s, b), mem_pairs.mpr ⟨hs, hb⟩, e⟩
  · intro ⟨h0, ⟨s, b⟩, hp, e⟩
    obtain ⟨hs, hb⟩ := mem_pairs.mp hp
    exact ⟨h0, s, b, hs, hb, e⟩
theorem nodup_len {F : List Stt} (h : F.Nodup) (ho : ∀ z ∈ F, SOk z) : F.length ≤ 9009 := by
  rw [← univ_len]
  exact nodup_le F univ h fun u hu => univ_mem (ho u hu)
theorem v_children {t : Told} {x : Stt} (h : TOk t) (hx : SOk x) (hk : ∀ C : List Stt, (∀ z, z ∈ C ↔ Kid t x z) → k (.lst (C.map stD))) : m__law_children [toldD t, stD x] k ex := by
  rw [m__law_children_eq]
  refine v_all_salesL h hx ?_
  refine forGo_rem (fun r ρ => ∃ (dn td : List (Int × Int)) (F : List Stt) (b3 b4 b5 : Sl), pairsOf t x t.s = dn ++ td ∧ r = td.map (fun p => saleD p.1 p.2) ∧ ρ = [.sh (toldD t), .sh (stD x), .ow (.dtt (tf F)), b3, b4, b5] ∧ F.Nodup ∧ ∀ z, z ∈ F ↔ ∃ p ∈ dn, z = part1 x p ∨ z = part2 x p) _ _
    ⟨[], pairsOf t x t.s, [], _, _, _, rfl, raw_pairs t x t.s, rfl, List.Pairwise.nil, fun z => by simp⟩ (fun d r ρ M' hI hM hrt hex hbk => ?_) (fun ρ hI => ?_)
  · obtain ⟨dn, td, F, b3, b4, b5, e1, e2, rfl, nd, hF⟩ := hI
    cases td with
    | nil => cases e2
    | cons p td =>
      rw [List.map_cons] at e2
      injection e2 with e3 e4
      subst e3 e4
      have hp : p ∈ pairsOf t x t.s := by rw [e1]; simp
      have ok : ∀ z ∈ F, SOk z := fun z hz => by
        obtain ⟨p', hp', e⟩ := (hF z).mp hz
        exact part_ok h hx (by rw [e1]; exact List.mem_append_left _ hp') e
      have n1 := nodup_addK (y := part1 x p) nd
      have o1 : ∀ z ∈ addK F (part1 x p), SOk z := fun z hz => (mem_addK.mp hz).elim (ok z) fun e => part_ok h hx hp (.inl e)
      have l0 := nodup_len nd ok
      have l1 := nodup_len n1 o1
      refine ⟨rfl, v_partedL ?_⟩
      refine ⟨?_, ?_⟩
      · show ((F.map _).map _).length < 100000
        rw [List.length_map, List.length_map]; omega
      rw [show putT (tf F) [.inr x.l, .inl p.2, .inr "sold"] (.bl true) = tf (addK F (part1 x p)) from tf_put F (part1 x p)]
      refine ⟨?_, ?_⟩
      · show (((addK F (part1 x p)).map _).map _).length < 100000
        rw [List.length_map, List.length_map]; omega
      rw [show putT (tf (addK F (part1 x p))) [.inr "sold", .inl (x.n - p.1 - p.2), .inr x.r] (.bl true) = tf (addK (addK F (part1 x p)) (part2 x p)) from tf_put _ (part2 x p)]
      refine (hM _ ⟨dn ++ [p], td, addK (addK F (part1 x p)) (part2 x p), .sh (.int p.1), .sh (.int p.2), .sh (stD (part2 x p)), by rw [e1]; simp, rfl, rfl, nodup_addK n1, fun z => ?_⟩).1
      rw [mem_addK, mem_addK, hF z]
      constructor
      · rintro ((⟨q, hq, e⟩ | e) | e)
        · exact ⟨q, List.mem_append_left _ hq, e⟩
        · exact ⟨p, by simp, .inl e⟩
        · exact ⟨p, by simp, .inr e⟩
      · rintro ⟨q, hq, e⟩
        rcases List.mem_append.mp hq with m | m
        · exact .inl (.inl ⟨q, m, e⟩)
        · rw [List.mem_singleton.mp m] at e
          exact e.elim (fun e => .inl (.inr e)) .inr
  · obtain ⟨dn, td, F, b3, b4, b5, e1, e2, rfl, nd, hF⟩ := hI
    cases td with
    | cons s td => cases e2
    | nil =>
      rw [List.append_nil] at e1
      have ok : ∀ z ∈ F, SOk z := fun z hz => by
        obtain ⟨p', hp', e⟩ := (hF z).mp hz
        exact part_ok h hx (by rw [e1]; exact hp') e
      refine ⟨fun kv hkv => ?_, ?_⟩
      · obtain ⟨q, hq, rfl⟩ := List.mem_map.mp hkv
        obtain ⟨z, hz, rfl⟩ := List.mem_map.mp hq
        exact stK_ok (ok z hz)
      · have ek : keysT (tf F) = F.map stD := by
          unfold keysT tf dtD
          rw [List.map_map, List.map_map]
          rfl
        rw [ek]
        refine lcGo_nm (fun d => match d with
          | .tup [_, .int n, _] => decide (0 < n)
          | _ => false) id _ _ (fun d hd k' hk' => ?_) (fun d hd _ k' hk' => hk') ?_
        · obtain ⟨z, hz, rfl⟩ := List.mem_map.mp hd
          exact hk'
        · rw [List.nil_append, List.map_id]
          have ef : (F.map stD).filter (fun d => match d with
              | .tup [_, .int n, _] => decide (0 < n)
              | _ => false) = (F.filter fun z => decide (0 < z.n)).map stD := by
            rw [List.filter_map]
            rfl
          rw [ef]
          refine hk _ fun z => ?_
          rw [List.mem_filter, hF z, kid_iff, e1]
          constructor
          · rintro ⟨a, b⟩; exact ⟨by simpa using b, a⟩
          · rintro ⟨a, b⟩; exact ⟨b, by simpa using a⟩
theorem own_at {i j : Nat} {ρ : MEnv} {ds : List D} {r : Int} {d : D} {k : D → Prop} (ex : Exn → Prop) (h1 : ρ[i]? = some (.ow (.lst ds))) (h2 : ρ[j]? = some (.sh (.int r))) (h3 : L2.atI ds r = some d) (hk : k d) : xOwnAt i (xVar j) ρ k ex := by
  unfold xOwnAt
  rw [h1]
  refine xVar_of h2 ?_
  show (match L2.atI ds r with | some d => k d | none => False)
  rw [h3]
  exact hk
theorem own_ix {i j : Nat} {ρ : MEnv} {kvs : List (List Key × D)} {y : D} {z : List Key} {d : D} {k : D → Prop} (ex : Exn → Prop) (h1 : ρ[i]? = some (.ow (.dtt kvs))) (h2 : ρ[j]? = some (.sh y)) (h3 : keyT y = some z) (h4 : valT kvs z = some d) (hk : k d) : xOwnIx i (xVar j) ρ k ex := by
  unfold xOwnIx
  rw [h1]
  refine xVar_of h2 ?_
  rw [h3]
  show (match valT kvs z with | some d => k d | none => False)
  rw [h4]
  exact hk
structure Itm where
  b : Int
  s : Int
  p : Int
  z : Stt
def itemD (w : Itm) : D := .tup [.tup [.int w.b, .int w.s], .int w.p, stD w.z]
def hasN (w : Itm) : Bool := decide (0 < w.z.n)
theorem pairs_len {t : Told} {x : Stt} (h : TOk t) (hx : SOk x) : (pairsOf t x (sortU t.s)).length ≤ 5005 := by
  have := sales_len h hx
  rw [show salesD t x = rawSales t x (sortU t.s) from rfl, raw_pairs, List.length_map] at this
  exact this
theorem tr_item {w : Itm} {ρ : MEnv} {kk : MEnv → Prop} (hk : kk ((((ρ.set 7 (.sh (.int w.b))).set 8 (.sh (.int w.s))).set 9 (.sh (.int w.p))).set 10 (.sh (stD w.z)))) : Tr.m (.tp [.tp [.nm 7, .nm 8], .nm 9, .nm 10]) (itemD w) ρ kk := by
  unfold itemD
  simp only [Tr.m, Tr.ms]
  exact ⟨rfl, rfl, hk⟩
theorem eqD_nilS (l : List Stt) : eqD (.lst (l.map stD)) (.lst []) = decide (l = []) := by
  cases l with
  | nil => rfl
  | cons a l => rw [List.map_cons, eqD, eqDs]; rfl
/-! ### sorted stretches -/
theorem leD_trans (a b c : D) (h1 : leD a b = true) (h2 : leD b c = true) : leD a c = true := by
  unfold leD PySem.W.dataLt at *
  rw [Bool.not_eq_true'] at *
  cases q : PyProof.Rows.lexLt PyProof.Rows.itemOrd (PySem.W.keyToks (toP c)) (PySem.W.keyToks (toP a)) with
  | false => rfl
  | true =>
    rcases PyProof.Rows.lex_negTrans _ (PySem.W.keyToks (toP b)) _ q with z | z
    · rw [h2] at z; cases z
    · rw [h1] at z; cases z
theorem leD_total (a b : D) : (leD a b || leD b a) = true := by
  unfold leD PySem.W.dataLt
  cases q : PyProof.Rows.lexLt PyProof.Rows.itemOrd (PySem.W.keyToks (toP b)) (PySem.W.keyToks (toP a)) with
  | false => rfl
  | true =>
    cases q2 : PyProof.Rows.lexLt PyProof.Rows.itemOrd (PySem.W.keyToks (toP a)) (PySem.W.keyToks (toP b)) with
    | false => rfl
    | true =>
      have := PyProof.Rows.lex_trans _ _ _ q q2
      rw [PyProof.Rows.lex_irrefl] at this
      cases this
theorem leD_anti {x y : Stt} (h1 : leD (stD x) (stD y) = true) (h2 : leD (stD y) (stD x) = true) : stD x = stD y := by
  unfold leD PySem.W.dataLt at h1 h2
  rw [Bool.not_eq_true'] at h1 h2
  have e := PyProof.Rows.lex_total _ _ h2 h1
  obtain ⟨a, b, c⟩ := x
  obtain ⟨d, f, g⟩ := y
  simp only [stD, toP, toPs, PySem.W.keyToks, PySem.W.keyToksAll, List.cons_append, List.nil_append, List.cons.injEq, Sum.inl.injEq, Sum.inr.injEq, and_true, true_and] at e
  obtain ⟨e1, e2, e3⟩ := e
  rw [PySem.W.str_of_cps e1, PySem.W.str_of_cps e3, e2]
theorem perm_of_mem {α : Type} [DecidableEq α] : ∀ (l m : List α), l.Nodup → m.Nodup → (∀ x, x ∈ l ↔ x ∈ m) → l.Perm m
  | [], m, _, _, h => by
    cases m with
    | nil => exact .nil
    | cons a m => exact absurd ((h a).mpr List.mem_cons_self) (fun z => nomatch z)
  | a :: l, m, hl, hm, h => by
    have ha := (h a).mp List.mem_cons_self
    obtain ⟨h1, h2⟩ := List.nodup_cons.mp hl
    refine ((perm_of_mem l (m.erase a) h2 (hm.erase a) fun x => ?_).cons a).trans (List.perm_cons_erase ha).symm
    constructor
    · intro hx
      have ne : x ≠ a := fun z => h1 (z ▸ hx)
      exact (List.mem_erase_of_ne ne).mpr ((h x).mp (List.mem_cons_of_mem _ hx))
    · intro hx
      have hx' := (List.Nodup.mem_erase_iff hm).mp hx
      exact (List.mem_cons.mp ((h x).mpr hx'.2)).elim (fun z => absurd z hx'.1) id
theorem sorted_eq {l m : List Stt} (p : l.Perm m) : (l.map stD).mergeSort leD = (m.map stD).mergeSort leD := by
  have p1 := List.mergeSort_perm (l.map stD) leD
  have p2 := List.mergeSort_perm (m.map stD) leD
  refine List.Perm.eq_of_pairwise (le := fun a b => leD a b = true) (fun a b ha hb h1 h2 => ?_) (List.pairwise_mergeSort leD_trans leD_total _) (List.pairwise_mergeSort leD_trans leD_total _) ((p1.trans (p.map stD)).trans p2.symm)
  obtain ⟨x, _, rfl⟩ := List.mem_map.mp (p1.mem_iff.mp ha)
  obtain ⟨y, _, rfl⟩ := List.mem_map.mp (p2.mem_iff.mp hb)
  exact leD_anti h1 h2
theorem sorted_sts (l : List Stt) : ∃ m : List Stt, (l.map stD).mergeSort leD = m.map stD ∧ m.Perm l := by
  refine ⟨l.mergeSort (fun x y => leD (stD x) (stD y)), ?_, List.mergeSort_perm _ _⟩
  exact (List.map_mergeSort (r := fun x y => leD (stD x) (stD y)) (s := leD) (f := stD) (l := l) fun a _ b _ => rfl).symm
theorem sortOk_sts {l : List Stt} (h : ∀ x ∈ l, SOk x) : SortOk (l.map stD) := by
  refine ⟨fun d hd => ?_, fun d hd e he => ?_, fun d hd => ?_⟩
  · obtain ⟨x, hx, rfl⟩ := List.mem_map.mp hd
    exact ⟨shp_st (h x hx).l (h x hx).r, by rw [dep_st]; decide⟩
  · obtain ⟨x, hx, rfl⟩ := List.mem_map.mp hd
    obtain ⟨y, hy, rfl⟩ := List.mem_map.mp he
    simp [stD, toP, toPs, PySem.W.alike, PySem.W.alikeAll]
  · obtain ⟨x, hx, rfl⟩ := List.mem_map.mp hd
    exact ⟨_, _, rfl⟩
def withN (F : List Stt) : List Stt := F.filter fun z => decide (0 < z.n)
theorem keys_dt (L : List (Stt × D)) : keysT (dtD L) = (L.map (·.1)).map stD := by
  unfold keysT dtD
  rw [List.map_map, List.map_map]
  rfl
theorem filt_n (F : List Stt) : (F.map stD).filter (fun d => match d with
    | .tup [_, .int n, _] => decide (0 < n)
    | _ => false) = (withN F).map stD := by
  rw [List.filter_map]
  rfl
theorem v_roomy (hk : ∀ t x, TOk t → SOk x → x.n ≤ 60 → k (.tup [toldD t, stD x])) : m__law_roomy [.bag] k ex := by
  rw [m__law_roomy_eq]
  refine v_one (by simp) (by decide) fun sz hsz => ?_
  have hs : ∃ l : List Int, sz = nums l ∧ l ≠ [] ∧ In5 l := by
    simp only [List.mem_cons, List.not_mem_nil, or_false] at hsz
    rcases hsz with rfl | rfl | rfl | rfl
    · exact ⟨[1], rfl, by simp, by decide, by decide⟩
    · exact ⟨[2], rfl, by simp, by decide, by decide⟩
    · exact ⟨[1, 2], rfl, by simp, by decide, by decide⟩
    · exact ⟨[3], rfl, by simp, by decide, by decide⟩
  obtain ⟨l, rfl, l0, l5⟩ := hs
  refine v_ends ⟨by decide, ?_⟩
  refine v_one (by simp) (by decide) fun wh hwh => v_one (by simp) (by decide) fun o ho => ?_
  have hw : ∃ z : Str, wh = .str z ∧ (z = "any" ∨ z = "side") := by
    simp only [List.mem_cons, List.not_mem_nil, or_false] at hwh
    rcases hwh with rfl | rfl
    · exact ⟨_, rfl, .inl rfl⟩
    · exact ⟨_, rfl, .inr rfl⟩
  have hof : ∃ i : Int, o = .int i ∧ 0 ≤ i ∧ i ≤ 5 := by
    simp only [List.mem_cons, List.not_mem_nil, or_false] at ho
    rcases ho with rfl | rfl | rfl
    · exact ⟨0, rfl, by decide, by decide⟩
    · exact ⟨0, rfl, by decide, by decide⟩
    · exact ⟨2, rfl, by decide, by decide⟩
  obtain ⟨z, rfl, hz⟩ := hw
  obtain ⟨i, rfl, i0, i5⟩ := hof
  refine ⟨show 2 + 2 < LN by decide, ?_⟩
  refine v_end fun a ha => v_take (n := 21) (by decide) (by decide) fun r r0 r1 => v_end fun b hb => ?_
  have n5 : In5 [] := ⟨by decide, fun i hi => nomatch hi⟩
  exact hk ⟨l, [], [], [], false, z, i⟩ ⟨a, 40 + r, b⟩ ⟨l0, l5, n5, n5, n5, hz, i0, i5⟩ ⟨ha, hb, by show 0 ≤ 40 + r; omega, by show 40 + r ≤ 1000; omega⟩ (by show 40 + r ≤ 60; omega)
structure In4 (x y : Stt) : Prop where
  l : y.l = x.l ∨ y.l = "sold"
  r : y.r = x.r ∨ y.r = "sold"
  n : y.n ≤ x.n
theorem Reach.in4 {t : Told} {x y : Stt} (ht : TOk t) (h : Reach t x y) : In4 x y := by
  induction h with
  | refl => exact ⟨.inl rfl, .inl rfl, Int.le_refl _⟩
  | @step u v _ k ih =>
    have hlt := k.lt ht
    obtain ⟨h0, s, b, hs, hb, e⟩ := k
    have hn := ih.n
    rcases e with rfl | rfl
    · exact ⟨ih.l, .inr rfl, by omega⟩
    · exact ⟨.inr rfl, ih.r, by omega⟩
def univ4 (x : Stt) : List Stt := (List.range 61).flatMap fun (n : Nat) => [⟨x.l, n, x.r⟩, ⟨x.l, n, "sold"⟩, ⟨"sold", n, x.r⟩, ⟨"sold", n, "sold"⟩]
theorem univ4_len (x : Stt) : (univ4 x).length = 244 := by
  unfold univ4
  rw [List.length_flatMap]
  show ((List.range 61).map fun _ => 4).sum = 244
  decide +kernel
theorem in4_mem {x y : Stt} (h : In4 x y) (h0 : 0 ≤ y.n) (h60 : x.n ≤ 60) : y ∈ univ4 x := by
  unfold univ4
  have hn := h.n
  refine List.mem_flatMap.mpr ⟨y.n.toNat, List.mem_range.mpr (by omega), ?_⟩
  have e : ((y.n.toNat : Nat) : Int) = y.n := Int.toNat_of_nonneg h0
  obtain ⟨l, n, r⟩ := y
  have hl : l = x.l ∨ l = "sold" := h.l
  have hr : r = x.r ∨ r = "sold" := h.r
  rw [e]
  rcases hl with rfl | rfl <;> rcases hr with rfl | rfl <;> simp
/-! ### least numbers of sales -/
inductive RN (t : Told) (x : Stt) : Nat → Stt → Prop
  | refl : RN t x 0 x
  | step {n : Nat} {y z : Stt} : RN t x n y → Kid t y z → RN t x (n + 1) z
theorem RN.reach {t : Told} {x y : Stt} {n : Nat} (h : RN t x n y) : Reach t x y := by
  induction h with
  | refl => exact .refl
  | step _ k ih => exact .step ih k
structure Dst (t : Told) (x : Stt) (F : List (Stt × Nat)) (Q : List Stt) : Prop where
  rc : ∀ p ∈ F, RN t x p.2 p.1
  st : (x, 0) ∈ F
  so : Q.Pairwise fun a b => ∀ p ∈ F, ∀ q ∈ F, p.1 = a → q.1 = b → p.2 ≤ q.2
  up : ∀ p ∈ F, ∀ q ∈ F, q.1 ∈ Q → p.2 ≤ q.2 + 1
  cl : ∀ p ∈ F, p.1 ∉ Q → ∀ z, Kid t p.1 z → ∃ q ∈ F, q.1 = z ∧ q.2 ≤ p.2 + 1
structure DstP (t : Told) (x : Stt) (y : Stt × Nat) (R : List Stt) (F : List (Stt × Nat)) (Q : List Stt) : Prop where
  rc : ∀ p ∈ F, RN t x p.2 p.1
  st : (x, 0) ∈ F
  yf : y ∈ F
  kd : ∀ z ∈ R, Kid t y.1 z
  so : Q.Pairwise fun a b => ∀ p ∈ F, ∀ q ∈ F, p.1 = a → q.1 = b → p.2 ≤ q.2
  ys : ∀ p ∈ F, p.1 ∈ Q → y.2 ≤ p.2
  up : ∀ p ∈ F, p.2 ≤ y.2 + 1
  cl : ∀ p ∈ F, p.1 ∉ Q → p.1 ≠ y.1 → ∀ z, Kid t p.1 z → ∃ q ∈ F, q.1 = z ∧ q.2 ≤ p.2 + 1
  cy : ∀ z, Kid t y.1 z → z ∈ R ∨ ∃ q ∈ F, q.1 = z ∧ q.2 ≤ y.2 + 1
theorem nd_key {α β : Type} {F : List (α × β)} (nd : (F.map (·.1)).Nodup) {p q : α × β} (hp : p ∈ F) (hq : q ∈ F) (e : p.1 = q.1) : p = q := by
  induction F with
  | nil => cases hp
  | cons a F ih =>
    rw [List.map_cons] at nd
    obtain ⟨n1, n2⟩ := List.nodup_cons.mp nd
    rcases List.mem_cons.mp hp with rfl | hp'
    · rcases List.mem_cons.mp hq with rfl | hq'
      · rfl
      · exact absurd (List.mem_map.mpr ⟨q, hq', e.symm⟩) n1
    · rcases List.mem_cons.mp hq with rfl | hq'
      · exact absurd (List.mem_map.mpr ⟨p, hp', e⟩) n1
      · exact ih n2 hp' hq'
theorem Dst.start (t : Told) (x : Stt) : Dst t x [(x, 0)] [x] := by
  refine ⟨fun p hp => ?_, List.mem_singleton.mpr rfl, List.pairwise_singleton _ _, fun p hp q hq _ => ?_, fun p hp hn => ?_⟩
  · rw [List.mem_singleton.mp hp]; exact .refl
  · rw [List.mem_singleton.mp hp]; exact Nat.zero_le _
  · rw [List.mem_singleton.mp hp] at hn; exact absurd (List.mem_singleton.mpr rfl) hn
theorem Dst.pop {t : Told} {x : Stt} {y : Stt × Nat} {F : List (Stt × Nat)} {Q R : List Stt} (h : Dst t x F (y.1 :: Q)) (hy : y ∈ F) (hC : ∀ z, z ∈ R ↔ Kid t y.1 z) : DstP t x y R F Q := by
  obtain ⟨s1, s2⟩ := List.pairwise_cons.mp h.so
  exact ⟨h.rc, h.st, hy, fun z hz => (hC z).mp hz, s2, fun p hp hq => s1 _ hq y hy p hp rfl rfl, fun p hp => h.up p hp y hy List.mem_cons_self, fun p hp hq ne z hz => h.cl p hp (fun m => (List.mem_cons.mp m).elim ne hq) z hz, fun z hz => .inl ((hC z).mpr hz)⟩
theorem DstP.old {t : Told} {x z : Stt} {y : Stt × Nat} {F : List (Stt × Nat)} {Q R : List Stt} (h : DstP t x y (z :: R) F Q) (hz : z ∈ F.map (·.1)) : DstP t x y R F Q := by
  refine ⟨h.rc, h.st, h.yf, fun u hu => h.kd u (List.mem_cons_of_mem _ hu), h.so, h.ys, h.up, h.cl, fun u hu => ?_⟩
  rcases h.cy u hu with m | m
  · rcases List.mem_cons.mp m with rfl | m
    · obtain ⟨q, hq, e⟩ := List.mem_map.mp hz
      exact .inr ⟨q, hq, e, h.up q hq⟩
    · exact .inl m
  · exact .inr m
theorem DstP.new {t : Told} {x z : Stt} {y : Stt × Nat} {F : List (Stt × Nat)} {Q R : List Stt} (h : DstP t x y (z :: R) F Q) (hz : z ∉ F.map (·.1)) (hQ : ∀ u ∈ Q, u ∈ F.map (·.1)) : DstP t x y R (F ++ [(z, y.2 + 1)]) (Q ++ [z]) := by
  have kz := h.kd z List.mem_cons_self
  have old : ∀ {p : Stt × Nat}, p ∈ F ++ [(z, y.2 + 1)] → p.1 ≠ z → p ∈ F := fun hp ne => by
    rcases List.mem_append.mp hp with m | m
    · exact m
    · rw [List.mem_singleton.mp m] at ne; exact absurd rfl ne
  have nw : ∀ {p : Stt × Nat}, p ∈ F ++ [(z, y.2 + 1)] → p.1 = z → p = (z, y.2 + 1) := fun {p} hp e => by
    rcases List.mem_append.mp hp with m | m
    · exact absurd (List.mem_map.mpr ⟨p, m, e⟩) hz
    · exact List.mem_singleton.mp m
  have ne : ∀ {u}, u ∈ Q → u ≠ z := fun hu e => hz (e ▸ hQ _ hu)
  refine ⟨fun p hp => ?_, List.mem_append_left _ h.st, List.mem_append_left _ h.yf, fun u hu => h.kd u (List.mem_cons_of_mem _ hu), ?_, fun p hp hq => ?_, fun p hp => ?_, fun p hp hq hn w hw => ?_, fun u hu => ?_⟩
  · rcases List.mem_append.mp hp with m | m
    · exact h.rc p m
    · rw [List.mem_singleton.mp m]; exact .step (h.rc y h.yf) kz
  · refine List.pairwise_append.mpr ⟨?_, List.pairwise_singleton _ _, fun a ha b hb p hp q hq e1 e2 => ?_⟩
    · refine h.so.imp_of_mem fun {a b} ha hb r p hp q hq e1 e2 => r p (old hp (e1 ▸ ne ha)) q (old hq (e2 ▸ ne hb)) e1 e2
    · rw [List.mem_singleton.mp hb] at e2
      rw [nw hq e2]
      exact h.up p (old hp (e1 ▸ ne ha))
  · rcases List.mem_append.mp hq with m | m
    · exact h.ys p (old hp (ne m)) m
    · rw [nw hp (List.mem_singleton.mp m)]; exact Nat.le_succ _
  · rcases List.mem_append.mp hp with m | m
    · exact h.up p m
    · rw [List.mem_singleton.mp m]; exact Nat.le_refl _
  · have nz : p.1 ≠ z := fun e => hq (List.mem_append_right _ (List.mem_singleton.mpr e))
    obtain ⟨q, hq1, e, l⟩ := h.cl p (old hp nz) (fun m => hq (List.mem_append_left _ m)) hn w hw
    exact ⟨q, List.mem_append_left _ hq1, e, l⟩
  · rcases h.cy u hu with m | ⟨q, hq, e, l⟩
    · rcases List.mem_cons.mp m with rfl | m
      · exact .inr ⟨_, List.mem_append_right _ (List.mem_singleton.mpr rfl), rfl, Nat.le_refl _⟩
      · exact .inl m
    · exact .inr ⟨q, List.mem_append_left _ hq, e, l⟩
theorem DstP.done {t : Told} {x : Stt} {y : Stt × Nat} {F : List (Stt × Nat)} {Q : List Stt} (h : DstP t x y [] F Q) (nd : (F.map (·.1)).Nodup) : Dst t x F Q := by
  refine ⟨h.rc, h.st, h.so, fun p hp q hq m => ?_, fun p hp hq z hz => ?_⟩
  · have := h.ys q hq m
    have := h.up p hp
    omega
  · by_cases e : p.1 = y.1
    · have := nd_key nd hp h.yf e
      subst this
      exact (h.cy z hz).elim (fun m => nomatch m) id
    · exact h.cl p hp hq e z hz
theorem Dst.least {t : Told} {x y : Stt} {n : Nat} {F : List (Stt × Nat)} (h : Dst t x F []) (r : RN t x n y) : ∃ q ∈ F, q.1 = y ∧ q.2 ≤ n := by
  induction r with
  | refl => exact ⟨_, h.st, rfl, Nat.le_refl _⟩
  | @step n y z _ k ih =>
    obtain ⟨q, hq, rfl, l⟩ := ih
    obtain ⟨q', hq', e, l'⟩ := h.cl q hq (fun m => nomatch m) z k
    exact ⟨q', hq', e, by omega⟩
theorem Dst.same {t : Told} {x y : Stt} {d e : Nat} {F G : List (Stt × Nat)} (h1 : Dst t x F []) (h2 : Dst t x G []) (n1 : (F.map (·.1)).Nodup) (n2 : (G.map (·.1)).Nodup) (m1 : (y, d) ∈ F) (m2 : (y, e) ∈ G) : d = e := by
  obtain ⟨q, hq, e1, l1⟩ := h1.least (h2.rc _ m2)
  obtain ⟨r, hr, e2, l2⟩ := h2.least (h1.rc _ m1)
  have := nd_key n1 hq m1 e1
  have := nd_key n2 hr m2 e2
  subst_vars
  exact Nat.le_antisymm l1 l2
/-! ### ways -/
inductive Wy (t : Told) : Stt → Int → List (Int × Int) → Stt → Int → Prop
  | nil {x : Stt} {a : Int} : Wy t x a [] x a
  | cons {x y z : Stt} {a c s b p : Int} {ps : List (Int × Int)} : s ∈ t.s → b ∈ offL t x s → (z = part1 x (s, b) ∧ p = 0 ∨ z = part2 x (s, b) ∧ p = b + s) → 0 < z.n → Wy t z (a + p) ps y c → Wy t x a ((a + b, s) :: ps) y c
theorem Wy.snoc {t : Told} {x y z : Stt} {a c s b p : Int} {ps : List (Int × Int)} (h : Wy t x a ps y c) (hs : s ∈ t.s) (hb : b ∈ offL t y s) (hz : z = part1 y (s, b) ∧ p = 0 ∨ z = part2 y (s, b) ∧ p = b + s) (h0 : 0 < z.n) : Wy t x a (ps ++ [(c + b, s)]) z (c + p) := by
  induction h with
  | nil => exact .cons hs hb hz h0 .nil
  | cons g1 g2 g3 g4 _ ih => exact .cons g1 g2 g3 g4 (ih hb hz)
def twoI (x : Stt) (q : Int × Int) : List Itm := [⟨q.2, q.1, 0, part1 x q⟩, ⟨q.2, q.1, q.2 + q.1, part2 x q⟩].filter hasN
def splitF (t : Told) (x : Stt) : List Itm := (pairsOf t x (sortU t.s)).flatMap (twoI x)
theorem mem_split {t : Told} {x : Stt} {w : Itm} (h : w ∈ splitF t x) : w.s ∈ t.s ∧ w.b ∈ offL t x w.s ∧ (w.z = part1 x (w.s, w.b) ∧ w.p = 0 ∨ w.z = part2 x (w.s, w.b) ∧ w.p = w.b + w.s) ∧ 0 < w.z.n := by
  obtain ⟨q, hq, hw⟩ := List.mem_flatMap.mp h
  obtain ⟨s, b⟩ := q
  obtain ⟨h1, h2⟩ := mem_pairs.mp hq
  obtain ⟨m, p⟩ := List.mem_filter.mp hw
  have p : 0 < w.z.n := by simpa [hasN] using p
  simp only [List.mem_cons, List.not_mem_nil, or_false] at m
  rcases m with rfl | rfl
  · exact ⟨mem_sortU.mp h1, h2, .inl ⟨rfl, rfl⟩, p⟩
  · exact ⟨mem_sortU.mp h1, h2, .inr ⟨rfl, rfl⟩, p⟩
theorem split_kid {t : Told} {x z : Stt} : z ∈ (splitF t x).map (·.z) ↔ Kid t x z := by
  rw [kid_iff, List.mem_map]
  constructor
  · rintro ⟨w, hw, rfl⟩
    obtain ⟨h1, h2, h3, h4⟩ := mem_split hw
    exact ⟨h4, (w.s, w.b), mem_pairs.mpr ⟨h1, h2⟩, h3.elim (fun e => .inl e.1) fun e => .inr e.1⟩
  · rintro ⟨h0, ⟨s, b⟩, hp, e⟩
    obtain ⟨h1, h2⟩ := mem_pairs.mp hp
    have hp' : (s, b) ∈ pairsOf t x (sortU t.s) := mem_pairs.mpr ⟨mem_sortU.mpr h1, h2⟩
    rcases e with rfl | rfl
    · exact ⟨⟨b, s, 0, part1 x (s, b)⟩, List.mem_flatMap.mpr ⟨_, hp', List.mem_filter.mpr ⟨by simp, by simpa [hasN] using h0⟩⟩, rfl⟩
    · exact ⟨⟨b, s, b + s, part2 x (s, b)⟩, List.mem_flatMap.mpr ⟨_, hp', List.mem_filter.mpr ⟨by simp, by simpa [hasN] using h0⟩⟩, rfl⟩
theorem two_len (x : Stt) (q : Int × Int) : (twoI x q).length ≤ 2 := List.length_filter_le _ _
theorem v_splitF {t : Told} {x : Stt} (h : TOk t) (hx : SOk x) (hk : k (.lst ((splitF t x).map itemD))) : m_split [ruD t, stD x] k ex := by
  rw [m_split_eq]
  have pl := pairs_len h hx
  refine v_sales h hx ?_
  refine forGo_rem (fun r ρ => ∃ (dn td : List (Int × Int)) (b3 b4 b5 b6 b7 b8 : Sl), pairsOf t x (sortU t.s) = dn ++ td ∧ r = td.map (fun p => saleD p.1 p.2) ∧ ρ = [.sh (ruD t), .sh (stD x), .ow (.lst ((dn.flatMap (twoI x)).map itemD)), b3, b4, b5, b6, b7, b8]) _ _
    ⟨[], pairsOf t x (sortU t.s), _, _, _, _, _, _, rfl, raw_pairs t x (sortU t.s), rfl⟩ (fun d r ρ M' hI hM hrt hex hbk => ?_) (fun ρ hI => ?_)
  · obtain ⟨dn, td, b3, b4, b5, b6, b7, b8, e1, e2, rfl⟩ := hI
    cases td with
    | nil => cases e2
    | cons p td =>
      rw [List.map_cons] at e2
      injection e2 with e3 e4
      subst e3 e4
      obtain ⟨s, b⟩ := p
      have hp : (s, b) ∈ pairsOf t x (sortU t.s) := by rw [e1]; simp
      obtain ⟨hs, hb⟩ := mem_pairs.mp hp
      obtain ⟨s1, s5⟩ := h.size hs
      obtain ⟨b0, bn⟩ := off_mem hb
      have dl : dn.length + 1 ≤ 5005 := by
        rw [e1, List.length_append, List.length_cons] at pl
        omega
      have wl : (dn.flatMap (twoI x)).length ≤ dn.length * 2 := flatMap_len fun q _ => two_len x q
      refine ⟨rfl, v_parts s1 s5 b0 bn ⟨rfl, ?_⟩⟩
      refine ⟨by show 2 ≤ 100000; decide, lcGo_nm (fun d => match d with
        | .tup [_, _, .tup [_, .int n, _]] => decide (0 < n)
        | _ => false) id _ _ (fun d hd k' hk' => ?_) (fun d hd _ k' hk' => hk') ?_⟩
      · simp only [List.mem_cons, List.not_mem_nil, or_false] at hd
        rcases hd with rfl | rfl
        · exact hk'
        · exact hk'
      · rw [List.nil_append, List.map_id]
        have ef : (List.filter (fun d => match d with
            | .tup [_, _, .tup [_, .int n, _]] => decide (0 < n)
            | _ => false) [itemD ⟨b, s, 0, part1 x (s, b)⟩, itemD ⟨b, s, b + s, part2 x (s, b)⟩]) = (twoI x (s, b)).map itemD := by
          unfold twoI
          rw [show ([itemD ⟨b, s, 0, part1 x (s, b)⟩, itemD ⟨b, s, b + s, part2 x (s, b)⟩] : List D) = [⟨b, s, 0, part1 x (s, b)⟩, ⟨b, s, b + s, part2 x (s, b)⟩].map itemD from rfl, List.filter_map]
          rfl
        have fl := two_len x (s, b)
        generalize hf : twoI x (s, b) = nw at ef fl
        generalize hg : dn.flatMap (twoI x) = ws at wl
        refine Eq.mpr (congrArg (fun l : List D => (match D.lst l with
          | .lst es => (ws.map itemD).length + es.length ≤ LN ∧ M'.nx [.sh (ruD t), .sh (stD x), .ow (.lst (ws.map itemD ++ es)), .sh (.int s), .sh (.int b), .sh (stD (part1 x (s, b))), .sh (stD (part2 x (s, b))), .sh (.lst [itemD ⟨b, s, 0, part1 x (s, b)⟩, itemD ⟨b, s, b + s, part2 x (s, b)⟩]), b8]
          | _ => False)) ef) ?_
        refine ⟨?_, ?_⟩
        · rw [List.length_map, List.length_map]
          show _ ≤ 100000
          omega
        rw [← List.map_append]
        have e : (dn ++ [(s, b)]).flatMap (twoI x) = ws ++ nw := by rw [List.flatMap_append, List.flatMap_cons, List.flatMap_nil, List.append_nil, hf, hg]
        rw [← e]
        exact (hM _ ⟨dn ++ [(s, b)], td, _, _, _, _, _, _, by rw [e1]; simp, rfl, rfl⟩).1
  · obtain ⟨dn, td, b3, b4, b5, b6, b7, b8, e1, e2, rfl⟩ := hI
    cases td with
    | cons s td => cases e2
    | nil =>
      rw [List.append_nil] at e1
      unfold splitF at hk
      rw [e1] at hk
      exact hk
abbrev Pl := List (Int × Int)
abbrev WL := List (Stt × (Pl × Int))
def plD (ps : Pl) : List D := ps.map fun q => .tup [.int q.1, .int q.2]
def wyD (w : Pl × Int) : D := .tup [.lst (plD w.1), .int w.2]
def wlD (L : WL) : List (Stt × D) := L.map fun p => (p.1, wyD p.2)
def depW (L : WL) : List (Stt × Nat) := L.map fun p => (p.1, p.2.1.length)
theorem wl_keys (L : WL) : (wlD L).map (·.1) = L.map (·.1) := by unfold wlD; rw [List.map_map]; rfl
theorem dep_keys (L : WL) : (depW L).map (·.1) = L.map (·.1) := by unfold depW; rw [List.map_map]; rfl
def lookW (ps : Pl) (seat : Int) (st : WL × List Stt) (w : Itm) : WL × List Stt := if w.z ∈ st.1.map (·.1) then st else (st.1 ++ [(w.z, (ps ++ [(seat + w.b, w.s)], seat + w.p))], st.2 ++ [w.z])
def findW (L : WL) (y : Stt) : Pl × Int := ((L.find? fun p => decide (p.1 = y)).map (·.2)).getD ([], 0)
theorem find_mem {L : WL} {y : Stt} (h : y ∈ L.map (·.1)) : (y, findW L y) ∈ L ∧ valT (dtD (wlD L)) (stK y) = some (wyD (findW L y)) := by
  have h' : y ∈ (wlD L).map (·.1) := by rw [wl_keys]; exact h
  rw [dt_val]
  unfold findW wlD
  rw [List.find?_map]
  show _ ∧ ((L.find? fun p => decide (p.1 = y)).map fun p => (p.1, wyD p.2)).map (·.2) = _
  cases q : L.find? fun p => decide (p.1 = y) with
  | none =>
    obtain ⟨p, hp, e⟩ := List.mem_map.mp h
    have := List.find?_eq_none.mp q p hp
    simp [e] at this
  | some r =>
    have h1 : r.1 = y := by simpa using List.find?_some q
    exact ⟨by rw [← h1]; exact List.mem_of_find?_eq_some q, rfl⟩
def stepW (t : Told) (st : WL × List Stt) : WL × List Stt := match st.2 with
  | [] => st
  | y :: Q => (splitF t y).foldl (lookW (findW st.1 y).1 (findW st.1 y).2) (st.1, Q)
def iter {α : Type} (f : α → α) : Nat → α → α
  | 0, a => a
  | n + 1, a => f (iter f n a)
def startW (x : Stt) : WL × List Stt := ([(x, ([], 0))], [x])
def OutW (t : Told) (x : Stt) (L : WL) : Prop := ∃ n, iter (stepW t) n (startW x) = (L, [])
theorem iter_fix {α : Type} {f : α → α} {a b : α} {n : Nat} (h : iter f n a = b) (hb : f b = b) : ∀ m, n ≤ m → iter f m a = b := by
  intro m hm
  induction m with
  | zero => rw [Nat.le_zero.mp hm] at h; exact h
  | succ m ih =>
    by_cases e : n = m + 1
    · rw [← e]; exact h
    · show f (iter f m a) = b
      rw [ih (by omega), hb]
theorem OutW.uniq {t : Told} {x : Stt} {L M : WL} (h1 : OutW t x L) (h2 : OutW t x M) : L = M := by
  obtain ⟨n, h1⟩ := h1
  obtain ⟨m, h2⟩ := h2
  have a := iter_fix h1 rfl (n + m) (by omega)
  have b := iter_fix h2 rfl (n + m) (by omega)
  rw [a] at b
  exact congrArg Prod.fst b
/-- what the search tells -/
structure WOut (t : Told) (x : Stt) (L : WL) : Prop where
  out : OutW t x L
  nd : (L.map (·.1)).Nodup
  rc : ∀ u, u ∈ L.map (·.1) ↔ Reach t x u
  ds : Dst t x (depW L) []
  wy : ∀ p ∈ L, Wy t x 0 p.2.1 p.1 p.2.2
  le : ∀ p ∈ L, (p.2.1.length : Int) + p.1.n ≤ x.n
theorem v_waysW {t : Told} {x : Stt} (h : TOk t) (hx : SOk x) (hk : ∀ L : WL, WOut t x L → k (.dtt (dtD (wlD L)))) : m_ways [ruD t, stD x] k ex := by
  rw [m_ways_eq]
  have n1 := hx.n1
  refine ⟨fun n ρ => ∃ (L : WL) (wt : List Stt) (b4 b5 b6 b7 b8 b9 b10 : Sl), ρ = [.sh (ruD t), .sh (stD x), .ow (.dtt (dtD (wlD L))), .ow (.lst (wt.map stD)), b4, b5, b6, b7, b8, b9, b10] ∧ Bfs t x (L.map (·.1)) wt ∧ wt.length ≤ L.length ∧ (∃ j, iter (stepW t) j (startW x) = (L, wt)) ∧ Dst t x (depW L) wt ∧ (∀ p ∈ L, Wy t x 0 p.2.1 p.1 p.2.2) ∧ (∀ p ∈ L, (p.2.1.length : Int) + p.1.n ≤ x.n) ∧ n = 2 * (9009 - L.length) + wt.length, ⟨_, [(x, ([], 0))], [x], _, _, _, _, _, _, _, rfl, Bfs.start, Nat.le_refl _, ⟨0, rfl⟩, Dst.start t x, fun p hp => by rw [List.mem_singleton.mp hp]; exact .nil, fun p hp => by rw [List.mem_singleton.mp hp]; show (0 : Int) + x.n ≤ x.n; omega, rfl⟩, ?_⟩
  rintro n ρ ⟨L, wt, b4, b5, b6, b7, b8, b9, b10, rfl, B, hwl, hj, ds, wy, le, hn0⟩
  have lL := B.len h hx
  rw [List.length_map] at lL
  have ok : ∀ z ∈ wt, SOk z := fun z hz => (B.rc z (B.qs z hz)).ok h hx
  refine ⟨okE_sts ok, okE_nil, ?_⟩
  rw [eqD_nilS]
  cases wt with
  | nil =>
    rw [decide_eq_true rfl]
    exact hk L ⟨hj, B.nd, B.fin, ds, wy, le⟩
  | cons y wt =>
    rw [decide_eq_false (fun z => nomatch z)]
    have yF : y ∈ L.map (·.1) := B.qs y List.mem_cons_self
    have yO : SOk y := (B.rc y yF).ok h hx
    obtain ⟨hv1, hv2⟩ := find_mem yF
    generalize hfw : findW L y = fw at hv1 hv2
    obtain ⟨ps, seat⟩ := fw
    have hv4 : (ps.length : Int) + y.n ≤ x.n := le _ hv1
    have hv5 : Wy t x 0 ps y seat := wy _ hv1
    have hv6 : (y, ps.length) ∈ depW L := List.mem_map.mpr ⟨_, hv1, rfl⟩
    have y0 := yO.n0
    refine own_ix (i := 2) (j := 4) (ρ := [.sh (ruD t), .sh (stD x), .ow (.dtt (dtD (wlD L))), .ow (.lst (wt.map stD)), .sh (stD y), b5, b6, b7, b8, b9, b10]) ex rfl rfl (stK_key y) hv2 ?_
    refine ⟨rfl, ?_⟩
    refine v_splitF h yO ?_
    obtain ⟨j, hj⟩ := hj
    have hj' : iter (stepW t) (j + 1) (startW x) = (splitF t y).foldl (lookW ps seat) (L, wt) := by
      show stepW t (iter (stepW t) j (startW x)) = _
      rw [hj]
      show (splitF t y).foldl (lookW (findW L y).1 (findW L y).2) (L, wt) = _
      rw [hfw]
    generalize hS : (splitF t y).foldl (lookW ps seat) (L, wt) = S at hj'
    refine forGo_rem (fun r ρ => ∃ (td : List Itm) (L : WL) (wt : List Stt) (b7 b8 b9 b10 : Sl), r = td.map itemD ∧ ρ = [.sh (ruD t), .sh (stD x), .ow (.dtt (dtD (wlD L))), .ow (.lst (wt.map stD)), .sh (stD y), .sh (.lst (plD ps)), .sh (.int seat), b7, b8, b9, b10] ∧ BfsP t x y (td.map (·.z)) (L.map (·.1)) wt ∧ wt.length ≤ L.length ∧ td.foldl (lookW ps seat) (L, wt) = S ∧ (∀ w ∈ td, w ∈ splitF t y) ∧ DstP t x (y, ps.length) (td.map (·.z)) (depW L) wt ∧ (∀ p ∈ L, Wy t x 0 p.2.1 p.1 p.2.2) ∧ (∀ p ∈ L, (p.2.1.length : Int) + p.1.n ≤ x.n) ∧ 2 * (9009 - L.length) + wt.length < n) _ _ ⟨splitF t y, L, wt, b7, b8, b9, b10, rfl, rfl, B.pop (fun z => split_kid), by rw [List.length_cons] at hwl; omega, hS, fun w hw => hw, ds.pop hv6 (fun z => split_kid), wy, le, by rw [List.length_cons] at hn0; omega⟩ (fun d r ρ M' hI hM hrt hex hbk => ?_) (fun ρ hI => ?_)
    · obtain ⟨td, L, wt, b7, b8, b9, b10, e1, rfl, B, hwl, hS, htd, ds, wy, le, hn⟩ := hI
      cases td with
      | nil => cases e1
      | cons w td =>
        rw [List.map_cons] at e1
        injection e1 with e2 e3
        subst e2 e3
        have lL := B.len h hx
        rw [List.length_map] at lL
        rw [List.map_cons] at B ds
        rw [List.foldl_cons] at hS
        have htd' : ∀ w ∈ td, w ∈ splitF t y := fun u hu => htd u (List.mem_cons_of_mem _ hu)
        refine tr_item ?_
        show (if (!(valT (dtD (wlD L)) (stK w.z)).isSome) = true then _ else _)
        rw [dt_some, wl_keys]
        by_cases hz : w.z ∈ L.map (·.1)
        · rw [decide_eq_true hz]
          rw [show lookW ps seat (L, wt) w = (L, wt) from if_pos hz] at hS
          exact (hM _ ⟨td, L, wt, _, _, _, _, rfl, rfl, B.old hz, hwl, hS, htd', ds.old (by rw [dep_keys]; exact hz), wy, le, hn⟩).1
        · rw [decide_eq_false hz]
          rw [show lookW ps seat (L, wt) w = (L ++ [(w.z, (ps ++ [(seat + w.b, w.s)], seat + w.p))], wt ++ [w.z]) from if_neg hz] at hS
          have B2 := B.new hz
          have l2 := B2.len h hx
          rw [List.length_append, List.length_map, List.length_singleton] at l2
          have kd := (B.kd w.z List.mem_cons_self).lt h
          have k0 := (B.kd w.z List.mem_cons_self).1
          obtain ⟨w1, w2, w3, w4⟩ := mem_split (htd w List.mem_cons_self)
          refine ⟨?_, ?_⟩
          · show (plD ps).length + 1 ≤ 100000
            unfold plD
            rw [List.length_map]
            omega
          refine ⟨?_, ?_⟩
          · show ((L.map _).map _).length < 100000
            rw [List.length_map, List.length_map]; omega
          have hz' : w.z ∉ (wlD L).map (·.1) := by rw [wl_keys]; exact hz
          rw [show putT (dtD (wlD L)) [.inr w.z.l, .inl w.z.n, .inr w.z.r] (.tup [.lst (plD ps ++ [.tup [.int (seat + w.b), .int w.s]]), .int (seat + w.p)]) = dtD (wlD L ++ [(w.z, .tup [.lst (plD ps ++ [.tup [.int (seat + w.b), .int w.s]]), .int (seat + w.p)])]) from dt_new hz']
          refine ⟨?_, ?_⟩
          · rw [List.length_map]
            show wt.length < 100000
            omega
          refine (hM _ ⟨td, L ++ [(w.z, (ps ++ [(seat + w.b, w.s)], seat + w.p))], wt ++ [w.z], .sh (.int w.b), .sh (.int w.s), .sh (.int w.p), .sh (stD w.z), rfl, ?_, ?_, ?_, hS, htd', ?_, ?_, ?_, ?_⟩).1
          · unfold wlD wyD plD
            simp only [List.map_append, List.map_cons, List.map_nil]
            rfl
          · rw [List.map_append]
            exact B2
          · rw [List.length_append, List.length_append, List.length_singleton, List.length_singleton]; omega
          · have := ds.new (by rw [dep_keys]; exact hz) (by rw [dep_keys]; exact B.qs)
            unfold depW at this ⊢
            rw [List.map_append, List.map_cons, List.map_nil, List.length_append, List.length_singleton]
            exact this
          · intro p hp
            rcases List.mem_append.mp hp with m | m
            · exact wy p m
            · rw [List.mem_singleton.mp m]
              exact hv5.snoc w1 w2 w3 w4
          · intro p hp
            rcases List.mem_append.mp hp with m | m
            · exact le p m
            · rw [List.mem_singleton.mp m]
              show (((ps ++ [(seat + w.b, w.s)]).length : Nat) : Int) + w.z.n ≤ x.n
              rw [List.length_append, List.length_singleton]
              omega
          · rw [List.length_append, List.length_append, List.length_singleton, List.length_singleton]
            omega
    · obtain ⟨td, L, wt, b7, b8, b9, b10, e1, rfl, B, hwl, hS, htd, ds, wy, le, hn⟩ := hI
      cases td with
      | cons z td => cases e1
      | nil => exact ⟨_, hn, L, wt, _, _, _, _, _, _, _, rfl, B.done, hwl, ⟨j + 1, hj'.trans hS.symm⟩, ds.done (by rw [dep_keys]; exact B.nd), wy, le, rfl⟩
/-! ### the law's own search, with numbers -/
def cmD (L : List (Stt × Nat)) : List (Stt × D) := L.map fun p => (p.1, .int (p.2 : Int))
theorem cm_keys (L : List (Stt × Nat)) : (cmD L).map (·.1) = L.map (·.1) := by unfold cmD; rw [List.map_map]; rfl
structure COut (t : Told) (x : Stt) (L : List (Stt × Nat)) : Prop where
  nd : (L.map (·.1)).Nodup
  rc : ∀ u, u ∈ L.map (·.1) ↔ Reach t x u
  ds : Dst t x L []
theorem v_comingN {t : Told} {x : Stt} (h : TOk t) (hx : SOk x) (hk : ∀ L : List (Stt × Nat), COut t x L → k (.dtt (dtD (cmD L)))) : m__law_coming [toldD t, stD x] k ex := by
  rw [m__law_coming_eq]
  refine ⟨fun n ρ => ∃ (L : List (Stt × Nat)) (wt : List Stt) (a : Nat) (b5 b6 : Sl), ρ = [.sh (toldD t), .sh (stD x), .ow (.dtt (dtD (cmD L))), .ow (.lst (wt.map stD)), .sh (.int (a : Int)), b5, b6] ∧ Bfs t x (L.map (·.1)) (wt.drop a) ∧ a ≤ wt.length ∧ wt.length = L.length ∧ Dst t x L (wt.drop a) ∧ n = 2 * (9009 - L.length) + (wt.length - a), ⟨_, [(x, 0)], [x], 0, _, _, rfl, Bfs.start, Nat.zero_le _, rfl, Dst.start t x, rfl⟩, ?_⟩
  rintro n ρ ⟨L, wt, a, b5, b6, rfl, B, ha, hwl, ds, hn0⟩
  have lL := B.len h hx
  rw [List.length_map] at lL
  show (if decide ((a : Int) < ((wt.map stD).length : Int)) = true then _ else _)
  by_cases hlt : a < wt.length
  · rw [decide_eq_true (by rw [List.length_map]; exact_mod_cast hlt), if_pos rfl]
    obtain ⟨y, hy⟩ : ∃ y, wt.drop a = y :: wt.drop (a + 1) := ⟨wt[a], List.drop_eq_getElem_cons hlt⟩
    have hay : L2.atI (wt.map stD) (a : Int) = some (stD y) := by
      rw [atI_ok (by omega) (by rw [List.length_map]; omega)]
      have e := List.drop_eq_getElem_cons hlt
      rw [hy] at e
      injection e with e _
      simp [e]
    have yF : y ∈ L.map (·.1) := B.qs y (by rw [hy]; exact List.mem_cons_self)
    obtain ⟨⟨y', dy⟩, hdy, rfl⟩ := List.mem_map.mp yF
    have yO : SOk y' := (B.rc y' yF).ok h hx
    refine own_at (i := 3) (j := 4) (ρ := [.sh (toldD t), .sh (stD x), .ow (.dtt (dtD (cmD L))), .ow (.lst (wt.map stD)), .sh (.int (a : Int)), b5, b6]) ex rfl rfl hay ?_
    refine v_children h yO fun C hC => ?_
    rw [hy] at B ds
    refine forGo_rem (fun r ρ => ∃ (td : List Stt) (L : List (Stt × Nat)) (wt : List Stt) (b6 : Sl), r = td.map stD ∧ ρ = [.sh (toldD t), .sh (stD x), .ow (.dtt (dtD (cmD L))), .ow (.lst (wt.map stD)), .sh (.int ((a : Int) + 1)), .sh (stD y'), b6] ∧ BfsP t x y' td (L.map (·.1)) (wt.drop (a + 1)) ∧ a + 1 ≤ wt.length ∧ wt.length = L.length ∧ DstP t x (y', dy) td L (wt.drop (a + 1)) ∧ 2 * (9009 - L.length) + (wt.length - (a + 1)) < n) _ _ ⟨C, L, wt, b6, rfl, rfl, B.pop hC, hlt, hwl, ds.pop hdy hC, by omega⟩ (fun d r ρ M' hI hM hrt hex hbk => ?_) (fun ρ hI => ?_)
    · obtain ⟨td, L, wt, b6, e1, rfl, B, ha, hwl, ds, hn⟩ := hI
      cases td with
      | nil => cases e1
      | cons z td =>
        rw [List.map_cons] at e1
        injection e1 with e2 e3
        subst e2 e3
        have lL := B.len h hx
        rw [List.length_map] at lL
        show (if (!(valT (dtD (cmD L)) (stK z)).isSome) = true then _ else _)
        rw [dt_some, cm_keys]
        by_cases hz : z ∈ L.map (·.1)
        · rw [decide_eq_true hz]
          exact (hM _ ⟨td, L, wt, _, rfl, rfl, B.old hz, ha, hwl, ds.old hz, hn⟩).1
        · rw [decide_eq_false hz]
          obtain ⟨v, hv1, hv2⟩ := dt_find (l := cmD L) (y := y') (by rw [cm_keys]; exact B.yf)
          obtain ⟨⟨q1, q2⟩, hq, eq⟩ := List.mem_map.mp hv1
          injection eq with eq1 eq2
          have eq1 : y' = q1 := eq1.symm
          have eq2 : D.int (q2 : Int) = v := eq2
          subst eq1 eq2
          have := nd_key B.nd hq ds.yf rfl
          injection this with _ eq3
          have eq3 : dy = q2 := eq3.symm
          subst eq3
          have B2 := B.new hz
          have l2 := B2.len h hx
          rw [List.length_append, List.length_map, List.length_singleton] at l2
          refine own_ix (i := 2) (j := 5) (ρ := [.sh (toldD t), .sh (stD x), .ow (.dtt (dtD (cmD L))), .ow (.lst (wt.map stD)), .sh (.int ((a : Int) + 1)), .sh (stD y'), .sh (stD z)]) ex rfl rfl (stK_key y') hv2 ?_
          refine ⟨?_, ?_⟩
          · show ((L.map _).map _).length < 100000
            rw [List.length_map, List.length_map]; omega
          have hz' : z ∉ (cmD L).map (·.1) := by rw [cm_keys]; exact hz
          rw [show putT (dtD (cmD L)) [.inr z.l, .inl z.n, .inr z.r] (.int ((dy : Int) + 1)) = dtD (cmD L ++ [(z, .int ((dy : Int) + 1))]) from dt_new hz']
          refine ⟨?_, ?_⟩
          · rw [List.length_map]
            show wt.length < 100000
            omega
          refine (hM _ ⟨td, L ++ [(z, dy + 1)], wt ++ [z], .sh (stD z), rfl, ?_, ?_, ?_, ?_, ?_, ?_⟩).1
          · unfold cmD
            simp only [List.map_append, List.map_cons, List.map_nil]
            rfl
          · rw [List.map_append, List.drop_append_of_le_length ha]
            exact B2
          · rw [List.length_append]; omega
          · rw [List.length_append, List.length_append, hwl] <;> rfl
          · rw [List.drop_append_of_le_length ha]
            exact ds.new hz B.qs
          · rw [List.length_append, List.length_append, List.length_singleton, List.length_singleton]
            omega
    · obtain ⟨td, L, wt, b6, e1, rfl, B, ha, hwl, ds, hn⟩ := hI
      cases td with
      | cons z td => cases e1
      | nil => exact ⟨_, hn, L, wt, a + 1, _, _, rfl, B.done, ha, hwl, ds.done B.nd, rfl⟩
  · rw [decide_eq_false (by rw [List.length_map]; omega), if_neg Bool.false_ne_true]
    have e : wt.drop a = [] := List.drop_eq_nil_of_le (by omega)
    rw [e] at B ds
    exact hk L ⟨B.nd, B.fin, ds⟩

end LW
end
section
set_option Elab.async false
set_option linter.all false
set_option maxRecDepth 100000
set_option maxHeartbeats 4000000
namespace LW
open PySem L2 Evl DM
variable {k : D → Prop} {ex : Exn → Prop}
def wayD (L : WL) (y : Stt) : D := if y ∈ L.map (·.1) ∧ 0 < y.n then .lst (plD (findW L y).1) else .non
theorem v_way_to {t : Told} {x y : Stt} (h : TOk t) (hx : SOk x) (hk : ∀ L, WOut t x L → k (wayD L y)) : m_way_to [ruD t, stD x, stD y] k ex := by
  rw [m_way_to_eq]
  refine v_waysW h hx fun L W => ?_
  have hk := hk L W
  unfold wayD at hk
  show (if (valT (dtD (wlD L)) (stK y)).isSome = true then _ else _)
  rw [dt_some, wl_keys]
  by_cases hy : y ∈ L.map (·.1)
  · rw [decide_eq_true hy, if_pos rfl]
    by_cases h0 : 0 < y.n
    · rw [if_pos ⟨hy, h0⟩] at hk
      obtain ⟨_, hv⟩ := find_mem hy
      show (if decide (0 < y.n) = true then _ else _)
      rw [decide_eq_true h0, if_pos rfl]
      show (match valT (dtD (wlD L)) (stK y) with | some d => _ | none => False)
      rw [hv]
      exact hk
    · rw [if_neg (fun z => h0 z.2)] at hk
      show (if decide (0 < y.n) = true then _ else _)
      rw [decide_eq_false h0, if_neg Bool.false_ne_true]
      exact hk
  · rw [decide_eq_false hy, if_neg Bool.false_ne_true]
    rw [if_neg (fun z => hy z.1)] at hk
    exact hk
theorem v_whole_int {i : Int} (hk : k (.bl true)) : m__law_is_whole_number [.int i] k ex := by
  rw [m__law_is_whole_number_eq]
  exact ⟨_, _, rfl, rfl, ⟨_, _, rfl, rfl, hk⟩⟩
theorem v_splay {ps : Pl} (hk : k (.bl true)) : m__law_is_stretch_play [.lst (plD ps)] k ex := by
  rw [m__law_is_stretch_play_eq]
  refine ⟨_, _, rfl, rfl, ?_⟩
  refine forGo_inv (fun ρ => ∃ b1 b2, ρ = [.sh (.lst (plD ps)), b1, b2]) _ _ ⟨_, _, rfl⟩ (fun d hd ρ M hρ hM hrt hex => ?_) fun ρ hρ => ?_
  · obtain ⟨b1, b2, rfl⟩ := hρ
    obtain ⟨⟨a, b⟩, _, rfl⟩ := List.mem_map.mp hd
    refine ⟨_, _, rfl, rfl, ?_⟩
    refine ⟨okE_int _, okE_int _, ?_⟩
    rw [eqD_int]
    refine ⟨by show 2 ≤ 100000; decide, lcGo_nm (fun _ => false) id _ _ (fun d hd k' hk' => ?_) (fun d hd z => nomatch z) ?_⟩
    · simp only [List.mem_cons, List.not_mem_nil, or_false] at hd
      rcases hd with rfl | rfl
      · exact v_whole_int hk'
      · exact v_whole_int hk'
    · refine ⟨okE_nil, okE_nil, ?_⟩
      exact (hM _ ⟨_, _, rfl⟩).1
  · obtain ⟨b1, b2, rfl⟩ := hρ
    exact hk
theorem cut_to (xs : List D) {i : Int} (h : 0 ≤ i) : cutD xs none (some i) = xs.take i.toNat := by
  unfold cutD
  rw [HT.sIx_none, show HT.sIx xs.length xs.length (some i) = min i.toNat xs.length from if_neg (by omega), List.drop_zero, Nat.sub_zero]
  rcases Nat.le_total i.toNat xs.length with q | q
  · rw [Nat.min_eq_left q]
  · rw [Nat.min_eq_right q, List.take_of_length_le q, List.take_of_length_le (Nat.le_refl _)]
theorem cut_from (xs : List D) {i : Int} (h : 0 ≤ i) : cutD xs (some i) none = xs.drop i.toNat := by
  unfold cutD
  rw [HT.sIx_none, show HT.sIx xs.length 0 (some i) = min i.toNat xs.length from if_neg (by omega)]
  rcases Nat.le_total i.toNat xs.length with q | q
  · rw [Nat.min_eq_left q]
    exact List.take_of_length_le (by rw [List.length_drop]; exact Nat.le_refl _)
  · rw [Nat.min_eq_right q, List.drop_of_length_le (Nat.le_refl _), List.drop_of_length_le q, List.take_nil]
def enumF : Nat → List D → List D
  | _, [] => []
  | n, d :: ds => .tup [.int (n : Int), d] :: enumF (n + 1) ds
theorem enum_eq (ds : List D) : enumD ds = enumF 0 ds := by
  have h : ∀ (ds : List D) (n : Nat), (List.range' n ds.length).zipWith (fun (i : Nat) d => D.tup [.int (i : Int), d]) ds = enumF n ds := by
    intro ds
    induction ds with
    | nil => intro n; rfl
    | cons d ds ih =>
      intro n
      rw [List.length_cons, List.range'_succ, List.zipWith_cons_cons, ih]
      rfl
  have := h ds 0
  rw [← List.range_eq_range'] at this
  exact this
abbrev Ent := Int × Stt
def entD (e : Ent) : D := .tup [.int 0, .int e.1, stD e.2]
def twoE (c : Int) (y : Stt) (s b : Int) : List Ent := [(c, part1 y (s, b)), (c + b + s, part2 y (s, b))].filter fun e => decide (0 < e.2.n)
theorem tr_ent {n : Int} {e : Ent} {ρ : MEnv} {kk : MEnv → Prop} (hk : kk ((((ρ.set 3 (.sh (.int n))).set 4 (.sh (.int 0))).set 5 (.sh (.int e.1))).set 6 (.sh (stD e.2)))) : Tr.m (.tp [.nm 3, .tp [.nm 4, .nm 5, .nm 6]]) (.tup [.int n, entD e]) ρ kk := by
  unfold entD
  simp only [Tr.m, Tr.ms]
  exact ⟨rfl, rfl, hk⟩
theorem v_sold0 {t : Told} {pre post : List Ent} {c s b : Int} {y : Stt} (h : TOk t) (okp : ∀ e ∈ pre, SOk e.2) (oky : SOk y) (hs : s ∈ t.s) (hb : b ∈ offL t y s) (hp : ∀ e ∈ pre, e.1 + e.2.n ≤ c) (hl : (pre ++ (c, y) :: post).length ≤ 90000) (hk : k (.lst ((pre ++ twoE c y s b ++ post).map entD))) : m__law_sold [toldD t, .lst ((pre ++ (c, y) :: post).map entD), .tup [.int 0, .int (c + b), .int s]] k ex := by
  rw [m__law_sold_eq]
  obtain ⟨s1, _⟩ := h.s.2 s hs
  obtain ⟨b0, bn⟩ := off_mem hb
  have hs' := mem_sortU.mpr hs
  show forGo _ _ (enumD _) _ _
  rw [enum_eq]
  refine forGo_rem (fun r ρ => ∃ (dn td : List Ent) (b3 b4 b5 b6 b7 b8 b9 b10 : Sl), pre = dn ++ td ∧ r = enumF dn.length ((td ++ (c, y) :: post).map entD) ∧ ρ = [.sh (toldD t), .sh (.lst ((pre ++ (c, y) :: post).map entD)), .sh (.tup [.int 0, .int (c + b), .int s]), b3, b4, b5, b6, b7, b8, b9, b10]) _ _ ⟨[], pre, _, _, _, _, _, _, _, _, rfl, rfl, rfl⟩ (fun d r ρ M' hI hM hrt hex hbk => ?_) (fun ρ hI => ?_)
  · obtain ⟨dn, td, b3, b4, b5, b6, b7, b8, b9, b10, e1, e2, rfl⟩ := hI
    cases td with
    | cons e td =>
      rw [List.cons_append, List.map_cons, enumF] at e2
      injection e2 with e3 e4
      subst e3 e4
      have he : e ∈ pre := by rw [e1]; simp
      refine tr_ent ?_
      refine ⟨okE_int _, okE_int _, ?_⟩
      rw [eqD_int]
      refine ⟨⟨rfl, flat_ints _⟩, ?_⟩
      rw [inD_ints, decide_eq_true hs]
      refine v_offers h (okp e he) hs' ⟨⟨rfl, flat_ints _⟩, ?_⟩
      rw [inD_ints, decide_eq_false (fun z => by
        obtain ⟨z0, zn⟩ := off_mem z
        have := hp e he
        omega)]
      exact (hM _ ⟨dn ++ [e], td, _, _, _, _, _, _, _, _, by rw [e1]; simp, by rw [List.length_append]; rfl, rfl⟩).1
    | nil =>
      rw [List.append_nil] at e1
      rw [List.nil_append, List.map_cons, enumF] at e2
      injection e2 with e3 e4
      subst e3 e1
      refine tr_ent ?_
      refine ⟨okE_int _, okE_int _, ?_⟩
      rw [eqD_int]
      refine ⟨⟨rfl, flat_ints _⟩, ?_⟩
      rw [inD_ints, decide_eq_true hs]
      refine v_offers h oky hs' ⟨⟨rfl, flat_ints _⟩, ?_⟩
      have ec : c + b - c = b := by omega
      rw [inD_ints]
      show if decide (c + b - c ∈ _) = true then _ else _
      rw [ec, decide_eq_true hb, if_pos rfl]
      show m__law_parted [stD y, .int s, .int (c + b - c)] _ _
      rw [ec]
      refine v_partedL ⟨rfl, ?_⟩
      refine ⟨by show 2 ≤ 100000; decide, lcGo_nm (fun d => match d with
        | .tup [_, _, .tup [_, .int n, _]] => decide (0 < n)
        | _ => false) id _ _ (fun d hd k' hk' => ?_) (fun d hd _ k' hk' => hk') ?_⟩
      · simp only [List.mem_cons, List.not_mem_nil, or_false] at hd
        rcases hd with rfl | rfl
        · exact hk'
        · exact hk'
      · rw [List.nil_append, List.map_id]
        have ef : (List.filter (fun d => match d with
            | .tup [_, _, .tup [_, .int n, _]] => decide (0 < n)
            | _ => false) [entD (c, part1 y (s, b)), entD (c + b + s, part2 y (s, b))]) = (twoE c y s b).map entD := by
          unfold twoE
          rw [show ([entD (c, part1 y (s, b)), entD (c + b + s, part2 y (s, b))] : List D) = [(c, part1 y (s, b)), (c + b + s, part2 y (s, b))].map entD from rfl, List.filter_map]
          rfl
        have tl : (twoE c y s b).length ≤ 2 := List.length_filter_le _ _
        rw [List.length_append, List.length_cons] at hl
        have c1 : cutD ((pre ++ (c, y) :: post).map entD) none (some (pre.length : Int)) = pre.map entD := by
          rw [cut_to _ (by omega), Int.toNat_natCast, ← List.map_take, List.take_left]
        have c2 : cutD ((pre ++ (c, y) :: post).map entD) (some ((pre.length : Int) + 1)) none = post.map entD := by
          rw [cut_from _ (by omega), show ((pre.length : Int) + 1).toNat = pre.length + 1 from by omega, ← List.map_drop, ← List.drop_drop, List.drop_left]
          rfl
        rw [c1]
        refine Eq.mpr (congrArg (fun l => dAdd (D.lst (pre.map entD)) (D.lst l) _) ef) ?_
        refine ⟨by rw [List.length_map, List.length_map]; show _ ≤ 100000; omega, ?_⟩
        show dAdd (D.lst (pre.map entD ++ (twoE c y s b).map entD)) (D.lst (cutD ((pre ++ (c, y) :: post).map entD) (some ((pre.length : Int) + 1)) none)) M'.rt
        rw [c2]
        refine ⟨by rw [List.length_append, List.length_map, List.length_map, List.length_map]; show _ ≤ 100000; omega, ?_⟩
        rw [hrt, ← List.map_append, ← List.map_append]
        exact hk
  · obtain ⟨dn, td, b3, b4, b5, b6, b7, b8, b9, b10, e1, e2, rfl⟩ := hI
    cases td with
    | cons e td => cases e2
    | nil => cases e2

theorem twoE_mem {t : Told} {c s b : Int} {y : Stt} (h : TOk t) (oky : SOk y) (hs : s ∈ t.s) (hb : b ∈ offL t y s) {e : Ent} (he : e ∈ twoE c y s b) : SOk e.2 := by
  obtain ⟨m, _⟩ := List.mem_filter.mp he
  have hp := mem_pairs.mpr ⟨hs, hb⟩
  simp only [List.mem_cons, List.not_mem_nil, or_false] at m
  rcases m with rfl | rfl
  · exact part_ok h oky hp (.inl rfl)
  · exact part_ok h oky hp (.inr rfl)
theorem v_behindW {t : Told} {x y : Stt} {ps : Pl} {cy : Int} (h : TOk t) (hx : SOk x) (h0 : 0 < x.n) (hl : ps.length ≤ 2000) (W : Wy t x 0 ps y cy) (hk : ∀ sts : List Stt, y ∈ sts → (∀ z ∈ sts, SOk z) → sts.length ≤ 2001 → k (.lst (sts.map stD))) : m__law_behind [toldD t, stD x, .lst (plD ps)] k ex := by
  rw [m__law_behind_eq]
  show (if decide (0 < x.n) = true then _ else _)
  rw [decide_eq_true h0, if_pos rfl]
  refine forGo_rem (fun r ρ => ∃ (td : Pl) (z : Stt) (c : Int) (pre post : List Ent) (b4 b5 b6 : Sl), r = plD td ∧ Wy t z c td y cy ∧ ρ = [.sh (toldD t), .sh (stD x), .sh (.lst (plD ps)), .sh (.lst ((pre ++ (c, z) :: post).map entD)), b4, b5, b6] ∧ (∀ e ∈ pre ++ (c, z) :: post, SOk e.2) ∧ (∀ e ∈ pre, e.1 + e.2.n ≤ c) ∧ (pre ++ (c, z) :: post).length + td.length ≤ 2001) _ _
    ⟨ps, x, 0, [], [], _, _, _, rfl, W, rfl, fun e he => by rw [List.mem_singleton.mp he]; exact hx, (fun e he => nomatch he), by show 1 + _ ≤ _; omega⟩ (fun d r ρ M' hI hM hrt hex hbk => ?_) (fun ρ hI => ?_)
  · obtain ⟨td, z, c, pre, post, b4, b5, b6, e1, W, rfl, ok, hp, hl⟩ := hI
    cases W with
    | nil => cases e1
    | @cons _ _ z' _ _ s b p td hs hb hz hz0 W =>
      injection e1 with e2 e3
      subst e2 e3
      have oky : SOk z := ok (c, z) (by simp)
      obtain ⟨s1, _⟩ := h.s.2 s hs
      obtain ⟨b0, bn⟩ := off_mem hb
      rw [List.length_append, List.length_cons, List.length_cons] at hl
      refine ⟨rfl, ?_⟩
      refine v_sold0 h (fun e he => ok e (List.mem_append_left _ he)) oky hs hb hp (by rw [List.length_append, List.length_cons]; omega) ?_
      have ok2 : ∀ e ∈ pre ++ twoE c z s b ++ post, SOk e.2 := fun e he => by
        rcases List.mem_append.mp he with m | m
        · rcases List.mem_append.mp m with m | m
          · exact ok e (List.mem_append_left _ m)
          · exact twoE_mem h oky hs hb m
        · exact ok e (List.mem_append_right _ (List.mem_cons_of_mem _ m))
      have go : ∃ pre' post' : List Ent, pre ++ twoE c z s b ++ post = pre' ++ (c + p, z') :: post' ∧ (∀ e ∈ pre', e.1 + e.2.n ≤ c + p) := by
        rcases hz with ⟨rfl, rfl⟩ | ⟨rfl, rfl⟩
        · refine ⟨pre, ([(c + b + s, part2 z (s, b))].filter fun e => decide (0 < e.2.n)) ++ post, ?_, fun e he => by have := hp e he; omega⟩
          unfold twoE
          rw [List.filter_cons_of_pos (by simpa using hz0), Int.add_zero]
          simp
        · refine ⟨pre ++ ([(c, part1 z (s, b))].filter fun e => decide (0 < e.2.n)), post, ?_, fun e he => ?_⟩
          · unfold twoE
            rw [show ([(c, part1 z (s, b)), (c + b + s, part2 z (s, b))] : List Ent) = [(c, part1 z (s, b))] ++ [(c + b + s, part2 z (s, b))] from rfl, List.filter_append, List.filter_cons_of_pos (a := (c + b + s, part2 z (s, b))) (by simpa using hz0), show c + (b + s) = c + b + s from by omega]
            simp
          · rcases List.mem_append.mp he with m | m
            · have := hp e m; omega
            · have := (List.mem_filter.mp m).1
              rw [List.mem_singleton.mp this]
              show c + b ≤ c + (b + s)
              omega
      obtain ⟨pre', post', eq, hp'⟩ := go
      have tl : (twoE c z s b).length ≤ 2 := List.length_filter_le _ _
      have ll : (pre ++ twoE c z s b ++ post).length ≤ pre.length + 2 + post.length := by
        rw [List.length_append, List.length_append]; omega
      rw [eq] at ok2 ll ⊢
      exact (hM _ ⟨td, z', c + p, pre', post', _, _, _, rfl, W, rfl, ok2, hp', by omega⟩).1
  · obtain ⟨td, z, c, pre, post, b4, b5, b6, e1, W, rfl, ok, hp, hl⟩ := hI
    cases W with
    | cons => cases e1
    | nil =>
      have ll : (pre ++ (cy, y) :: post).length ≤ 2001 := by
        have : (pre ++ (cy, y) :: post).length + 0 ≤ 2001 := hl
        omega
      refine ⟨by rw [List.length_map]; show _ ≤ 100000; omega, lcGo_all (fun d => match d with
        | .tup [_, _, q] => q
        | _ => .non) _ (fun d hd k' hk' => ?_) ?_⟩
      · obtain ⟨e, _, rfl⟩ := List.mem_map.mp hd
        exact hk'
      · rw [List.map_map]
        have e : (pre ++ (cy, y) :: post).map ((fun d => match d with
            | D.tup [_, _, q] => q
            | _ => .non) ∘ entD) = ((pre ++ (cy, y) :: post).map (·.2)).map stD := by
          rw [List.map_map]
          rfl
        refine Eq.mpr (congrArg (fun l : List D => k (.lst l)) e) ?_
        refine hk _ (List.mem_map.mpr ⟨(cy, y), by simp, rfl⟩) (fun z hz => ?_) (by rw [List.length_map]; exact ll)
        obtain ⟨e, he, rfl⟩ := List.mem_map.mp hz
        exact ok e he

theorem noL_st (x : Stt) : noLD (stD x) = true := by simp [stD, noLD, noLDs]
theorem noLs_sts (l : List Stt) : noLDs (l.map stD) = true := by
  induction l with
  | nil => rfl
  | cons a l ih => rw [List.map_cons, noLDs, noL_st, ih]; rfl
theorem noLs_pl (l : Pl) : noLDs (plD l) = true := by
  induction l with
  | nil => rfl
  | cons a l ih => show noLDs (_ :: plD l) = true; rw [noLDs, ih]; simp [noLD, noLDs]
theorem pl_ok (l : Pl) : shps (plD l) = true ∧ deps (plD l) ≤ 2 := by
  induction l with
  | nil => exact ⟨by show shps [] = true; rw [shps], by show deps [] ≤ 2; rw [deps]; decide⟩
  | cons a l ih =>
    refine ⟨?_, ?_⟩
    · show shps (D.tup [.int a.1, .int a.2] :: plD l) = true
      simp [shps, shp, ih.1]
    · show deps (D.tup [.int a.1, .int a.2] :: plD l) ≤ 2
      rw [deps]
      have : dep (D.tup [.int a.1, .int a.2]) = 1 := by simp [dep, deps]
      have := ih.2
      omega
theorem okE_pl (l : Pl) : okE (.lst (plD l)) := by
  obtain ⟨h1, h2⟩ := pl_ok l
  exact ⟨by rw [shp]; exact h1, by rw [dep]; omega⟩
theorem inD_sts {x : Stt} {l : List Stt} (hx : SOk x) (h : x ∈ l) : inD (stD x) (l.map stD) = true := by
  unfold inD
  rw [List.any_eq_true]
  exact ⟨stD x, List.mem_map.mpr ⟨x, h, rfl⟩, eqD_refl _ (shp_st hx.l hx.r)⟩
theorem v_right {t : Told} {x y : Stt} {C : List (Stt × Nat)} (h : TOk t) (hx : SOk x) (hy : SOk y) (hC : COut t x C) (hk : k (.bl true)) : m__law_right [ruD t, .dtt (dtD (cmD C)), stD x, stD y, toldD t] k ex := by
  rw [m__law_right_eq]
  refine v_way_to h hx fun L W => ?_
  have kk : y ∈ L.map (·.1) ↔ y ∈ C.map (·.1) := (W.rc y).trans (hC.rc y).symm
  show (if (!(valT (dtD (cmD C)) (stK y)).isSome) = true then _ else _)
  rw [dt_some, cm_keys]
  have y0 := hy.n0
  by_cases hz : y ∈ C.map (·.1) ∧ 0 < y.n
  · obtain ⟨hc, hn⟩ := hz
    have hw : wayD L y = .lst (plD (findW L y).1) := if_pos ⟨kk.mpr hc, hn⟩
    rw [decide_eq_true hc, hw]
    refine ⟨okE_int _, okE_int _, ?_⟩
    rw [eqD_int, decide_eq_false (by omega)]
    obtain ⟨m1, _⟩ := find_mem (kk.mpr hc)
    generalize hfw : findW L y = fw at m1 hw ⊢
    obtain ⟨ps, seat⟩ := fw
    have le := W.le _ m1
    have wy := W.wy _ m1
    have le : (ps.length : Int) + y.n ≤ x.n := le
    have wy : Wy t x 0 ps y seat := wy
    have hx1 := hx.n1
    refine v_splay ⟨rfl, ?_⟩
    obtain ⟨⟨q1, q2⟩, hq, eq⟩ := List.mem_map.mp hc
    have eq : q1 = y := eq
    subst eq
    have same : ps.length = q2 := Dst.same W.ds hC.ds (by rw [dep_keys]; exact W.nd) hC.nd (List.mem_map.mpr ⟨_, m1, rfl⟩) hq
    have hd : valT (dtD (cmD C)) (stK q1) = some (.int (q2 : Int)) := by
      obtain ⟨d, hd1, hd2⟩ := dt_find (l := cmD C) (y := q1) (by rw [cm_keys]; exact hc)
      obtain ⟨⟨r1, r2⟩, hr, er⟩ := List.mem_map.mp hd1
      injection er with er1 er2
      have er1 : q1 = r1 := er1.symm
      subst er1
      have := nd_key hC.nd hr hq rfl
      injection this with _ e3
      rw [hd2, ← er2, ← e3]
    show (match valT (dtD (cmD C)) (stK q1) with | some d => _ | none => False)
    rw [hd]
    refine ⟨okE_int _, okE_int _, ?_⟩
    rw [eqD_int, decide_eq_true (by unfold plD; rw [List.length_map, same])]
    have lp : (plD ps).length = ps.length := by unfold plD; rw [List.length_map]
    have l0 : 0 < x.n := by omega
    have l2 : ps.length ≤ 2000 := by omega
    refine v_behindW h hx l0 l2 wy fun sts hs ok sl => ?_
    refine ⟨noLs_sts sts, ?_⟩
    have ht : truD (.lst (sts.map stD)) = some true := by
      cases sts with
      | nil => cases hs
      | cons a sts => rfl
    show (match truD (.lst (sts.map stD)) with | some true => _ | some false => _ | none => False)
    rw [ht]
    refine ⟨noLs_pl ps, ?_⟩
    refine ⟨by rw [lp]; show _ < 100000; omega, ?_⟩
    refine ⟨okE_st hy.l hy.r, okE_sts ok, ?_⟩
    rw [inD_sts hy hs]
    refine v_way_to h hx fun L' W' => ?_
    have := W'.out.uniq W.out
    subst this
    rw [hw]
    refine ⟨okE_pl _, okE_pl _, ?_⟩
    rw [eqD_refl _ (okE_pl ps).1]
    exact hk
  · have hw : wayD L y = .non := if_neg (fun z => hz ⟨kk.mp z.1, z.2⟩)
    rw [hw]
    by_cases hc : y ∈ C.map (·.1)
    · rw [decide_eq_true hc]
      refine ⟨okE_int _, okE_int _, ?_⟩
      rw [eqD_int, decide_eq_true (by
        have : ¬ 0 < y.n := fun z => hz ⟨hc, z⟩
        omega)]
      exact hk
    · rw [decide_eq_false hc]
      exact hk

theorem lcGo_P {j : Nat} {me : MX} {ρ : MEnv} {k : D → Prop} (P : D → Prop) : ∀ (ds acc : List D), (∀ d ∈ ds, ∀ k' : D → Prop, (∀ e, P e → k' e) → me (ρ.set j (.sh d)) k' no1) → (∀ l : List D, l.length = ds.length → (∀ e ∈ l, P e) → k (.lst (acc ++ l))) → lcGo (.nm j) tYesM me ρ k ds acc
  | [], acc, _, h => by
    have := h [] rfl (fun e he => nomatch he)
    rw [List.append_nil] at this
    exact this
  | d :: ds, acc, h2, h => h2 d List.mem_cons_self _ fun e he => lcGo_P P ds (acc ++ [e]) (fun d' hd => h2 d' (List.mem_cons_of_mem _ hd)) fun l hl hP => by
      have := h (e :: l) (by rw [List.length_cons, List.length_cons, hl]) (fun u hu => (List.mem_cons.mp hu).elim (fun z => z ▸ he) (hP u))
      rw [List.append_assoc]
      exact this
def IsSt (d : D) : Prop := ∃ z, SOk z ∧ d = stD z
theorem v_sortK {t : Told} {x : Stt} {C : List (Stt × Nat)} (ht : TOk t) (hx : SOk x) (hC : COut t x C) : SortOk (keysT (dtD (cmD C))) ∧ (∀ kv ∈ dtD (cmD C), keyOks kv.1) ∧ ∃ S : List Stt, (keysT (dtD (cmD C))).mergeSort leD = S.map stD ∧ (∀ z ∈ S, SOk z) ∧ S.length ≤ 9009 := by
  have ok : ∀ z ∈ C.map (·.1), SOk z := fun z hz => ((hC.rc z).mp hz).ok ht hx
  have ek : keysT (dtD (cmD C)) = (C.map (·.1)).map stD := by rw [keys_dt, cm_keys]
  have ll := nodup_len hC.nd ok
  refine ⟨?_, fun kv hkv => ?_, ?_⟩
  · rw [ek]; exact sortOk_sts ok
  · obtain ⟨q, hq, rfl⟩ := List.mem_map.mp hkv
    exact stK_ok (ok q.1 (by rw [← cm_keys]; exact List.mem_map.mpr ⟨q, hq, rfl⟩))
  · rw [ek]
    obtain ⟨S, eS, pS⟩ := sorted_sts (C.map (·.1))
    rw [eS]
    exact ⟨S, rfl, fun z hz => ok z (pS.mem_iff.mp hz), by rw [pS.length_eq]; exact ll⟩
theorem cut_st {S : List Stt} {ys : List D} {i : Int} (i0 : 0 ≤ i) (ok : ∀ z ∈ S, SOk z) (py : ys.Perm (S.map stD)) : (∀ d ∈ cutD ys none (some i), IsSt d) ∧ (cutD ys none (some i)).length ≤ i.toNat := by
  rw [cut_to _ i0]
  refine ⟨fun d hd => ?_, List.length_take_le _ _⟩
  have := py.mem_iff.mp (List.mem_of_mem_take hd)
  obtain ⟨z, hz, rfl⟩ := List.mem_map.mp this
  exact ⟨z, ok z hz, rfl⟩
theorem env12 {ρ : MEnv} (h : ρ.length = 12) : ∃ a b c d e f g h i j k l, ρ = [a, b, c, d, e, f, g, h, i, j, k, l] := by
  match ρ, h with
  | [a, b, c, d, e, f, g, h, i, j, k, l], _ => exact ⟨a, b, c, d, e, f, g, h, i, j, k, l, rfl⟩
theorem law_ok : ms_law mdLaw (.no :: .sh .bag :: List.replicate 10 .no) := by
  refine ⟨⟨by decide, by decide⟩, forGo_inv (fun ρ => ρ.length = 12 ∧ ρ[1]? = some (.sh .bag)) _ _ ⟨rfl, rfl⟩ (fun d hd ρ M hρ hM hrt hex => ?_) fun ρ _ => rfl⟩
  obtain ⟨hl, hb⟩ := hρ
  obtain ⟨a0, a1, a2, a3, a4, a5, a6, a7, a8, a9, a10, a11, rfl⟩ := env12 hl
  have hb : a1 = .sh .bag := by simpa using hb
  subst hb
  obtain ⟨i, _, rfl⟩ := List.mem_map.mp hd
  have rest : ∀ (t : Told) (x : Stt), TOk t → SOk x → (sSeq (sPar 5 false 6 false (xCall m__law_made (aCons (xVar 3) aNil)) (xCall m__law_stretch (aCons (xVar 1) (aCons (xC (.int 12)) aNil)))) (sSeq (sAsg 7 (xLst (aCons (xCall m__law_coming (aCons (xVar 3) (aCons (xVar 4) aNil))) (aCons (xCall m__law_coming (aCons (xVar 3) (aCons (xVar 6) aNil))) aNil)))) (sSeq (sAsg 8 (xOp dAdd (xSl (xCall m__law_mixed (aCons (xVar 1) (aCons (xB1 bSortK (aCons (xOp dSub1 (xVar 7) (xC (.int 0))) aNil)) aNil))) oNone (oSome (xC (.int 4)))) (xSl (xCall m__law_mixed (aCons (xVar 1) (aCons (xB1 bSortK (aCons (xOp dSub1 (xVar 7) (xC (.int 1))) aNil)) aNil))) oNone (oSome (xC (.int 2)))))) (sFor (gN 9) (mSeq (xOp dAdd (xOp dAdd (xVar 8) (xLc [10] (.nm 10) (mRange1 (xC (.int 2))) tYesM (xCall m__law_stretch (aCons (xVar 1) (aCons (xC (.int 12)) aNil))))) (xLst (aCons (xVar 4) (aCons (xVar 6) aNil))))) (sFor (gN 11) (mSeq (xCall m__law_mixed (aCons (xVar 1) (aCons (xLst (aCons (xC (.int 0)) (aCons (xC (.int 1)) aNil))) aNil)))) (sIf (tNotM (xB (xCall m__law_right (aCons (xVar 5) (aCons (xOp dSub1 (xVar 7) (xVar 11)) (aCons (xOp dSub1 (xLst (aCons (xVar 4) (aCons (xVar 6) aNil))) (xVar 11)) (aCons (xVar 9) (aCons (xVar 3) aNil)))))))) (sRet (xC (.bl false))) sNext)))))) M [a0, .sh .bag, .sh (.int (0 + (i : Int))), .sh (toldD t), .sh (stD x), a5, a6, a7, a8, a9, a10, a11] := by
    intro t x ht hx
    refine v_made ht (v_stretch (by decide) (by decide) fun y hy y12 => ?_)
    refine v_comingN ht hx fun C1 hC1 => v_comingN ht hy fun C2 hC2 => ?_
    obtain ⟨q1, q2, S1, e1, o1, s1⟩ := v_sortK ht hx hC1
    refine ⟨q1, q2, ?_⟩
    rw [e1]
    refine v_mixed (xs := S1.map stD) (by rw [List.length_map]; show _ < 100000; omega) fun y1 p1 => ?_
    obtain ⟨q3, q4, S2, e2, o2, s2⟩ := v_sortK ht hy hC2
    refine ⟨q3, q4, ?_⟩
    rw [e2]
    refine v_mixed (xs := S2.map stD) (by rw [List.length_map]; show _ < 100000; omega) fun y2 p2 => ?_
    obtain ⟨i1, l1⟩ := cut_st (i := 4) (by decide) o1 p1
    obtain ⟨i2, l2⟩ := cut_st (i := 2) (by decide) o2 p2
    have l1 : (cutD y1 none (some 4)).length ≤ 4 := l1
    have l2 : (cutD y2 none (some 2)).length ≤ 2 := l2
    refine ⟨by show _ ≤ 100000; omega, ?_⟩
    generalize cutD y1 none (some 4) = d1 at i1 l1 ⊢
    generalize cutD y2 none (some 2) = d2 at i2 l2 ⊢
    refine ⟨⟨by decide, by decide⟩, by decide, lcGo_P IsSt _ _ (fun d hd k' hk' => v_stretch (by decide) (by decide) fun z hz _ => hk' _ ⟨z, hz, rfl⟩) fun d3 l3 i3 => ?_⟩
    have l3 : d3.length = 2 := l3
    rw [List.nil_append]
    refine ⟨by rw [List.length_append]; show _ ≤ 100000; omega, ?_⟩
    refine ⟨by rw [List.length_append, List.length_append]; show _ + 2 ≤ 100000; omega, ?_⟩
    have iA : ∀ d ∈ d1 ++ d2 ++ d3 ++ [stD x, stD y], IsSt d := fun d hd => by
      simp only [List.mem_append, List.mem_cons, List.not_mem_nil, or_false] at hd
      rcases hd with ((m | m) | m) | (rfl | rfl)
      · exact i1 d m
      · exact i2 d m
      · exact i3 d m
      · exact ⟨x, hx, rfl⟩
      · exact ⟨y, hy, rfl⟩
    refine forGo_inv (fun ρ => ∃ b9 b10 b11, ρ = [a0, .sh .bag, .sh (.int (0 + (i : Int))), .sh (toldD t), .sh (stD x), .sh (ruD t), .sh (stD y), .sh (.lst [.dtt (dtD (cmD C1)), .dtt (dtD (cmD C2))]), .sh (.lst (d1 ++ d2)), b9, b10, b11]) _ _ ⟨_, _, _, rfl⟩ (fun d hd ρ M1 hρ hM1 hrt1 hex1 => ?_) fun ρ hρ => ?_
    · obtain ⟨b9, b10, b11, rfl⟩ := hρ
      obtain ⟨z, hz, rfl⟩ := iA d hd
      refine v_mixed (by decide) fun ys py => ?_
      refine forGo_inv (fun ρ => ∃ b11, ρ = [a0, .sh .bag, .sh (.int (0 + (i : Int))), .sh (toldD t), .sh (stD x), .sh (ruD t), .sh (stD y), .sh (.lst [.dtt (dtD (cmD C1)), .dtt (dtD (cmD C2))]), .sh (.lst (d1 ++ d2)), .sh (stD z), b10, b11]) _ _ ⟨_, rfl⟩ (fun d hd ρ M2 hρ hM2 hrt2 hex2 => ?_) fun ρ hρ => ?_
      · obtain ⟨b11, rfl⟩ := hρ
        have := py.mem_iff.mp hd
        simp only [List.mem_cons, List.not_mem_nil, or_false] at this
        rcases this with rfl | rfl
        · refine v_right ht hx hz hC1 ?_
          exact (hM2 _ ⟨_, rfl⟩).1
        · refine v_right ht hy hz hC2 ?_
          exact (hM2 _ ⟨_, rfl⟩).1
      · obtain ⟨b11, rfl⟩ := hρ
        exact (hM1 _ ⟨_, _, _, rfl⟩).1
    · obtain ⟨b9, b10, b11, rfl⟩ := hρ
      exact (hM _ ⟨rfl, rfl⟩).1
  show (if decide ((0 : Int) < 0 + (i : Int)) = true then _ else _)
  by_cases hi : (0 : Int) < 0 + (i : Int)
  · rw [decide_eq_true hi, if_pos rfl]
    refine v_rule fun t ht => v_stretch (by decide) (by decide) fun x hx h16 => ⟨rfl, ?_⟩
    exact rest t x ht hx
  · rw [decide_eq_false hi, if_neg Bool.false_ne_true]
    refine v_roomy fun t x ht hx h60 => ⟨rfl, ?_⟩
    exact rest t x ht hx

end LW
end
section
set_option Elab.async false
set_option linter.all false
set_option maxRecDepth 100000
set_option maxHeartbeats 0
namespace LW
open PySem L2 Evl DM
def top (i : Nat) : Stmt := PySem.Challenge.pw_loneseats_k62_plays_to_stretches.main.body.getD i (.Pass ⟨0, 0, 0, 0⟩)
def topM (i j : Nat) : Stmt := match top i with
  | .ClassDef _ _ _ b _ _ _ _ _ _ _ => b.getD j (.Pass ⟨0, 0, 0, 0⟩)
  | _ => .Pass ⟨0, 0, 0, 0⟩
def dfl_Rule___init__ : List He.Dv := [.non]
def kwd_Rule___init__ : List (Str × He.Dv) := [("soft", .bl false), ("where", .str "any"), ("offer", .int 0)]
def fn : List He.DefD := [⟨("_law_bag", none), "_law_bag", "_law_bag", defArgs (top 37), defBody (top 37), defScope (top 37), [], []⟩,
  ⟨("_law_take", none), "_law_take", "_law_take", defArgs (top 38), defBody (top 38), defScope (top 38), [], []⟩,
  ⟨("_law_sizes", none), "_law_sizes", "_law_sizes", defArgs (top 44), defBody (top 44), defScope (top 44), [], []⟩,
  ⟨("_law_ends", none), "_law_ends", "_law_ends", defArgs (top 41), defBody (top 41), defScope (top 41), [], []⟩,
  ⟨("_law_lengths", none), "_law_lengths", "_law_lengths", defArgs (top 43), defBody (top 43), defScope (top 43), [], []⟩,
  ⟨("_law_rule", none), "_law_rule", "_law_rule", defArgs (top 45), defBody (top 45), defScope (top 45), [], []⟩,
  ⟨("_law_one", none), "_law_one", "_law_one", defArgs (top 40), defBody (top 40), defScope (top 40), [], []⟩,
  ⟨("_law_end", none), "_law_end", "_law_end", defArgs (top 42), defBody (top 42), defScope (top 42), [], []⟩,
  ⟨("_law_stretch", none), "_law_stretch", "_law_stretch", defArgs (top 47), defBody (top 47), defScope (top 47), [], []⟩,
  ⟨("_law_roomy", none), "_law_roomy", "_law_roomy", defArgs (top 59), defBody (top 59), defScope (top 59), [], []⟩,
  ⟨("is_integer", none), "is_integer", "is_integer", defArgs (top 10), defBody (top 10), defScope (top 10), [], []⟩,
  ⟨("is_size", none), "is_size", "is_size", defArgs (top 13), defBody (top 13), defScope (top 13), [], []⟩,
  ⟨("are_sizes", none), "are_sizes", "are_sizes", defArgs (top 14), defBody (top 14), defScope (top 14), [], []⟩,
  ⟨("is_end", none), "is_end", "is_end", defArgs (top 12), defBody (top 12), defScope (top 12), [], []⟩,
  ⟨("are_bad", none), "are_bad", "are_bad", defArgs (top 32), defBody (top 32), defScope (top 32), [], []⟩,
  ⟨("is_number", none), "is_number", "is_number", defArgs (top 11), defBody (top 11), defScope (top 11), [], []⟩,
  ⟨("is_offer", none), "is_offer", "is_offer", defArgs (top 33), defBody (top 33), defScope (top 33), [], []⟩,
  ⟨("first_wrong", none), "first_wrong", "first_wrong", defArgs (top 34), defBody (top 34), defScope (top 34), [], []⟩,
  ⟨("Rule", some "__init__"), "__init__", "Rule.__init__", defArgs (topM 35 0), defBody (topM 35 0), defScope (topM 35 0), dfl_Rule___init__, kwd_Rule___init__⟩,
  ⟨("_law_made", none), "_law_made", "_law_made", defArgs (top 46), defBody (top 46), defScope (top 46), [], []⟩,
  ⟨("_law_befores", none), "_law_befores", "_law_befores", defArgs (top 48), defBody (top 48), defScope (top 48), [], []⟩,
  ⟨("_law_spoils", none), "_law_spoils", "_law_spoils", defArgs (top 49), defBody (top 49), defScope (top 49), [], []⟩,
  ⟨("_law_offers", none), "_law_offers", "_law_offers", defArgs (top 50), defBody (top 50), defScope (top 50), [], []⟩,
  ⟨("_law_all_sales", none), "_law_all_sales", "_law_all_sales", defArgs (top 51), defBody (top 51), defScope (top 51), [], []⟩,
  ⟨("_law_parted", none), "_law_parted", "_law_parted", defArgs (top 52), defBody (top 52), defScope (top 52), [], []⟩,
  ⟨("_law_children", none), "_law_children", "_law_children", defArgs (top 55), defBody (top 55), defScope (top 55), [], []⟩,
  ⟨("_law_coming", none), "_law_coming", "_law_coming", defArgs (top 56), defBody (top 56), defScope (top 56), [], []⟩,
  ⟨("_law_mixed", none), "_law_mixed", "_law_mixed", defArgs (top 39), defBody (top 39), defScope (top 39), [], []⟩,
  ⟨("check_size", none), "check_size", "check_size", defArgs (top 19), defBody (top 19), defScope (top 19), [], []⟩,
  ⟨("possible", none), "possible", "possible", defArgs (top 20), defBody (top 20), defScope (top 20), [], []⟩,
  ⟨("Rule", some "bad_at"), "bad_at", "Rule.bad_at", defArgs (topM 35 5), defBody (topM 35 5), defScope (topM 35 5), [], []⟩,
  ⟨("good_befores", none), "good_befores", "good_befores", defArgs (top 21), defBody (top 21), defScope (top 21), [], []⟩,
  ⟨("let", none), "let", "let", defArgs (top 22), defBody (top 22), defScope (top 22), [], []⟩,
  ⟨("offered", none), "offered", "offered", defArgs (top 23), defBody (top 23), defScope (top 23), [], []⟩,
  ⟨("sales", none), "sales", "sales", defArgs (top 24), defBody (top 24), defScope (top 24), [], []⟩,
  ⟨("fits", none), "fits", "fits", defArgs (top 16), defBody (top 16), defScope (top 16), [], []⟩,
  ⟨("parts", none), "parts", "parts", defArgs (top 17), defBody (top 17), defScope (top 17), [], []⟩,
  ⟨("split", none), "split", "split", defArgs (top 26), defBody (top 26), defScope (top 26), [], []⟩,
  ⟨("ways", none), "ways", "ways", defArgs (top 27), defBody (top 27), defScope (top 27), [], []⟩,
  ⟨("way_to", none), "way_to", "way_to", defArgs (top 28), defBody (top 28), defScope (top 28), [], []⟩,
  ⟨("_law_is_whole_number", none), "_law_is_whole_number", "_law_is_whole_number", defArgs (top 53), defBody (top 53), defScope (top 53), [], []⟩,
  ⟨("_law_is_stretch_play", none), "_law_is_stretch_play", "_law_is_stretch_play", defArgs (top 58), defBody (top 58), defScope (top 58), [], []⟩,
  ⟨("_law_sold", none), "_law_sold", "_law_sold", defArgs (top 54), defBody (top 54), defScope (top 54), [], []⟩,
  ⟨("_law_behind", none), "_law_behind", "_law_behind", defArgs (top 57), defBody (top 57), defScope (top 57), [], []⟩,
  ⟨("_law_right", none), "_law_right", "_law_right", defArgs (top 60), defBody (top 60), defScope (top 60), [], []⟩,
  ⟨("law", none), "law", "law", defArgs (top 61), defBody (top 61), defScope (top 61), [], []⟩]
def fa : List He.Fa := [.free "abs",
  .free "range",
  .free "dict",
  .free "len",
  .int "MOST_SIZE" (5),
  .free "isinstance",
  .free "bool",
  .free "int",
  .free "all",
  .free "list",
  .free "tuple",
  .glo "ENDS",
  .free "str",
  .glo "PLACES",
  .int "MOST_OFFER" (5),
  .free "sorted",
  .free "set",
  .cls "Rule",
  .noat "Rule" "its_sizes",
  .noat "Rule" "its_bad",
  .noat "Rule" "its_soft",
  .noat "Rule" "its_where",
  .noat "Rule" "its_offer",
  .free "enumerate",
  .glo "law",
  .glo "_law_bag",
  .glo "_law_take",
  .glo "_law_sizes",
  .glo "_law_ends",
  .glo "_law_lengths",
  .glo "_law_rule",
  .glo "_law_one",
  .glo "_law_end",
  .glo "_law_stretch",
  .glo "_law_roomy",
  .glo "is_integer",
  .glo "is_size",
  .glo "are_sizes",
  .glo "is_end",
  .glo "are_bad",
  .glo "is_number",
  .glo "is_offer",
  .glo "first_wrong",
  .mkr "Rule",
  .glo "Rule",
  .glo "_law_made",
  .glo "_law_befores",
  .glo "_law_spoils",
  .glo "_law_offers",
  .glo "_law_all_sales",
  .glo "_law_parted",
  .glo "_law_children",
  .glo "_law_coming",
  .glo "_law_mixed",
  .glo "check_size",
  .glo "possible",
  .meth "Rule" "bad_at",
  .glo "good_befores",
  .glo "let",
  .glo "offered",
  .glo "sales",
  .glo "fits",
  .glo "parts",
  .glo "split",
  .glo "ways",
  .glo "way_to",
  .glo "_law_is_whole_number",
  .glo "_law_is_stretch_play",
  .glo "_law_sold",
  .glo "_law_behind",
  .glo "_law_right"]
def exs (K : PySem.W.Frag) : List Bool := [He.tupB K "ENDS" (strsV ["pillar", "sold", "wall"]), He.tupB K "PLACES" (strsV ["any", "side"]), propB K "Rule" "sizes" "its_sizes", propB K "Rule" "where" "its_where", propB K "Rule" "soft" "its_soft", propB K "Rule" "offer" "its_offer"]
def ex (K : PySem.W.Frag) : Bool := (exs K).all id
theorem ex_at {K : PySem.W.Frag} (h : ex K = true) (i : Nat) {b : Bool} (e : (exs K)[i]? = some b) : b = true := List.all_eq_true.mp h b (List.mem_of_getElem? e)
variable {P : Program} {w : World} {K : PySem.W.Frag} {mg : Str → Option Value} {base : Heap}
theorem Z_ex0 (Z : Zs fa fn ex K mg) : He.tupB K "ENDS" (strsV ["pillar", "sold", "wall"]) = true := ex_at Z.more 0 rfl
theorem Z_ex1 (Z : Zs fa fn ex K mg) : He.tupB K "PLACES" (strsV ["any", "side"]) = true := ex_at Z.more 1 rfl
theorem Z_ex2 (Z : Zs fa fn ex K mg) : propB K "Rule" "sizes" "its_sizes" = true := ex_at Z.more 2 rfl
theorem Z_ex3 (Z : Zs fa fn ex K mg) : propB K "Rule" "where" "its_where" = true := ex_at Z.more 3 rfl
theorem Z_ex4 (Z : Zs fa fn ex K mg) : propB K "Rule" "soft" "its_soft" = true := ex_at Z.more 4 rfl
theorem Z_ex5 (Z : Zs fa fn ex K mg) : propB K "Rule" "offer" "its_offer" = true := ex_at Z.more 5 rfl
abbrev n__law_bag : List Str := ["_law_script", "_law_cell"]
theorem sc__law_bag : FnScope n__law_bag ["_law_script"] (defScope (top 37)) := ⟨rfl, rfl, rfl, by decide +kernel, rfl, by decide +kernel, by decide +kernel⟩
theorem g__law_bag (Z : Zs fa fn ex K mg) : GFn P w K mg base "_law_bag" ["_law_script"] 1 true m__law_bag := by
  rw [m__law_bag_eq]
  obtain ⟨fd, F⟩ := Z.fnd 0 _ rfl
  have ND : (n__law_bag).Nodup := (sc__law_bag).nd
  refine ⟨⟨fd, F.bindsN (fun _ _ _ _ _ _ us hl => match us, hl with | [_], _ => rfl), fn_mk F sc__law_bag fun cdv A outer s H E hcd hr => ?_⟩, Z.gl 25, F.kp⟩
  exact (css_one (cs_ret (ce_lst (ca_cons ce_int (ca_cons ce_int (ca_cons ce_int (ca_cons (ce_sh (ce_lc (.nm 1) ND (ci_seq (ce_sh (ce_slL (ce_var 0) co_none (co_some ce_int)))) (blkOk_by (N := n__law_bag) (sc := defScope (top 37)) (own := [("_law_cell", 1)]) (by decide +kernel)) rfl (by decide) (fun _ _ _ _ _ => pg_name (i := 1) ND rfl (by first | exact .inl rfl | exact .inr rfl)) (fun _ _ _ _ _ => cts_nil) (fun _ _ _ _ _ => (c_abs (Z.fr 0) (ce_var 1))))) ca_nil)))))))
abbrev n__law_take : List Str := ["_law_bag_here", "_law_many", "_law_cell", "_law_mixed_here", "_law_drawn", "_law_begin", "_law_second"]
theorem sc__law_take : FnScope n__law_take ["_law_bag_here", "_law_many"] (defScope (top 38)) := ⟨rfl, rfl, rfl, by decide +kernel, rfl, by decide +kernel, by decide +kernel⟩
theorem g__law_take (Z : Zs fa fn ex K mg) : GFn P w K mg base "_law_take" ["_law_bag_here", "_law_many"] 1 false m__law_take := by
  rw [m__law_take_eq]
  obtain ⟨fd, F⟩ := Z.fnd 1 _ rfl
  have ND : (n__law_take).Nodup := (sc__law_take).nd
  refine ⟨⟨fd, F.bindsN (fun _ _ _ _ _ _ us hl => match us, hl with | [_, _], _ => rfl), fn_take F sc__law_take rfl rfl fun cdv A outer s H E hr => ?_⟩, Z.gl 26, F.kp⟩
  exact (bss_cons (bs_if (bt_cmp op_eqI (bx_x0 bx_bag) bx_int)
    (bss_cons (bs_asg 1 ND bx_int) (bss_cons (bs_if (bt_cmp op_lt (bx_x2 bx_bag) (bx_len (Z.fr 3) (bx_cs bx_bag))) (bss_cons (bs_asg 1 ND (bx_cell (bx_cs bx_bag) (bx_x2 bx_bag))) bss_nil) bss_nil) (bss_cons (bs_aug2 bx_bag bx_int) (bss_cons (bs_if (bt_cmp op_ge (bx_var 1) (bx_pow bx_int bx_int)) (bss_cons (bs_set0 bx_bag (bx_var 1)) bss_nil) bss_nil)
      (bss_cons (bs_asg 2 ND (bx_add (bx_add (bx_mul (bx_x1 bx_bag) bx_int) (bx_mod (bx_toint (Z.fr 7) (bx_var 1)) bx_int)) (bx_mul bx_int (bx_x2 bx_bag)))) (bss_cons (bs_set1 bx_bag (bx_mod (bx_toint (Z.fr 7) (bx_var 2)) bx_int)) bss_nil)))))) bss_nil)
  (bss_cons (bs_if (bt_cmp op_gt (bx_x0 bx_bag) bx_int) (bss_cons (bs_asg 3 ND (bx_mod (bx_toint (Z.fr 7) (bx_x0 bx_bag)) (bx_var 0))) (bss_cons (bs_set0 bx_bag (bx_div (bx_x0 bx_bag) (bx_var 0))) (bss_cons (bs_ret (bx_var 3)) bss_nil))) bss_nil)
  (bss_cons (bs_asg 4 ND (bx_mod (bx_toint (Z.fr 7) (bx_mul (bx_add (bx_x1 bx_bag) bx_int) bx_int)) bx_int))
  (bss_cons (bs_asg 5 ND (bx_mod (bx_toint (Z.fr 7) (bx_mul (bx_mod (bx_toint (Z.fr 7) (bx_mul (bx_var 4) (bx_var 4))) bx_int) bx_int)) bx_int))
  (bss_cons (bs_ret (bx_mod (bx_toint (Z.fr 7) (bx_div (bx_var 5) bx_int)) (bx_var 0))) bss_nil)))))
abbrev n__law_sizes : List Str := ["_law_bag_here", "_law_way", "_law_k"]
theorem sc__law_sizes : FnScope n__law_sizes ["_law_bag_here"] (defScope (top 44)) := ⟨rfl, rfl, rfl, by decide +kernel, rfl, by decide +kernel, by decide +kernel⟩
theorem g__law_sizes (Z : Zs fa fn ex K mg) : GFn P w K mg base "_law_sizes" ["_law_bag_here"] 2 false m__law_sizes := by
  rw [m__law_sizes_eq]
  obtain ⟨fd, F⟩ := Z.fnd 2 _ rfl
  have ND : (n__law_sizes).Nodup := (sc__law_sizes).nd
  refine ⟨⟨fd, F.bindsN (fun _ _ _ _ _ _ us hl => match us, hl with | [_], _ => rfl), fn_mk F sc__law_sizes fun cdv A outer s H E hcd hr => ?_⟩, Z.gl 27, F.kp⟩
  exact (css_cons (cs_asg 1 ND (ce_call (g__law_take Z) (hr.mono (by decide)) tkF (ca_cons (ce_var 0) (ca_cons ce_int ca_nil)))) (css_cons (cs_if (t_lt (ce_var 1) ce_int) (css_one (cs_ret (ce_sub (hr.units) (ce_sh (ce_lst (ca_cons (ce_sh (ce_lst (ca_cons ce_int ca_nil))) (ca_cons (ce_sh (ce_lst (ca_cons ce_int (ca_cons ce_int ca_nil)))) (ca_cons (ce_sh (ce_lst (ca_cons ce_int (ca_cons ce_int ca_nil)))) (ca_cons (ce_sh (ce_lst (ca_cons ce_int (ca_cons ce_int (ca_cons ce_int ca_nil))))) ca_nil)))))) (ce_var 1)))) css_nil) (css_one (cs_ret (ce_orT (ce_sh (ce_lc (.nm 2) ND (ci_range2 (Z.fr 1) ce_int ce_int) (blkOk_by (N := n__law_sizes) (sc := defScope (top 44)) (own := [("_law_k", 2)]) (by decide +kernel)) rfl (by decide) (fun _ _ _ _ _ => pg_name (i := 2) ND rfl (by first | exact .inl rfl | exact .inr rfl)) (fun _ _ _ _ _ => (cts_one (t_eq (hr.units) (ce_call (g__law_take Z) (hr.mono (by decide)) takes0 (ca_cons (ce_var 0) (ca_cons ce_int ca_nil))) ce_int))) (fun _ _ _ _ _ => (ce_var 2)))) (ce_one (ce_sh (ce_lst (ca_cons (ce_add ce_int (ce_call (g__law_take Z) (hr.mono (by decide)) tkF (ca_cons (ce_var 0) (ca_cons ce_int ca_nil)))) ca_nil)))))))))
abbrev n__law_ends : List Str := []
theorem sc__law_ends : FnScope n__law_ends [] (defScope (top 41)) := ⟨rfl, rfl, rfl, by decide +kernel, rfl, by decide +kernel, by decide +kernel⟩
theorem g__law_ends (Z : Zs fa fn ex K mg) : GFn P w K mg base "_law_ends" [] 1 false m__law_ends := by
  rw [m__law_ends_eq]
  obtain ⟨fd, F⟩ := Z.fnd 3 _ rfl
  have ND : (n__law_ends).Nodup := (sc__law_ends).nd
  refine ⟨⟨fd, F.bindsN (fun _ _ _ _ _ _ us hl => match us, hl with | [], _ => rfl), fn_mk F sc__law_ends fun cdv A outer s H E hcd hr => ?_⟩, Z.gl 28, F.kp⟩
  exact (css_one (cs_ret (ce_sh (ce_lst (ca_cons ce_str (ca_cons ce_str (ca_cons ce_str ca_nil)))))))
abbrev n__law_lengths : List Str := ["_law_bag_here", "_law_way", "_law_k"]
theorem sc__law_lengths : FnScope n__law_lengths ["_law_bag_here"] (defScope (top 43)) := ⟨rfl, rfl, rfl, by decide +kernel, rfl, by decide +kernel, by decide +kernel⟩
theorem g__law_lengths (Z : Zs fa fn ex K mg) : GFn P w K mg base "_law_lengths" ["_law_bag_here"] 2 false m__law_lengths := by
  rw [m__law_lengths_eq]
  obtain ⟨fd, F⟩ := Z.fnd 4 _ rfl
  have ND : (n__law_lengths).Nodup := (sc__law_lengths).nd
  refine ⟨⟨fd, F.bindsN (fun _ _ _ _ _ _ us hl => match us, hl with | [_], _ => rfl), fn_mk F sc__law_lengths fun cdv A outer s H E hcd hr => ?_⟩, Z.gl 29, F.kp⟩
  exact (css_cons (cs_asg 1 ND (ce_call (g__law_take Z) (hr.mono (by decide)) tkF (ca_cons (ce_var 0) (ca_cons ce_int ca_nil)))) (css_cons (cs_if (t_lt (ce_var 1) ce_int) (css_one (cs_ret (ce_sub (hr.units) (ce_sh (ce_lst (ca_cons (ce_sh (ce_lst ca_nil)) (ca_cons (ce_sh (ce_lst (ca_cons ce_int ca_nil))) (ca_cons (ce_sh (ce_lst (ca_cons ce_int (ca_cons ce_int ca_nil)))) ca_nil))))) (ce_var 1)))) css_nil) (css_one (cs_ret (ce_sh (ce_lc (.nm 2) ND (ci_range2 (Z.fr 1) ce_int ce_int) (blkOk_by (N := n__law_lengths) (sc := defScope (top 43)) (own := [("_law_k", 2)]) (by decide +kernel)) rfl (by decide) (fun _ _ _ _ _ => pg_name (i := 2) ND rfl (by first | exact .inl rfl | exact .inr rfl)) (fun _ _ _ _ _ => (cts_one (t_eq (hr.units) (ce_call (g__law_take Z) (hr.mono (by decide)) takes0 (ca_cons (ce_var 0) (ca_cons ce_int ca_nil))) ce_int))) (fun _ _ _ _ _ => (ce_var 2))))))))
abbrev n__law_rule : List Str := ["_law_bag_here", "_law_found", "_law_end_here"]
theorem sc__law_rule : FnScope n__law_rule ["_law_bag_here"] (defScope (top 45)) := ⟨rfl, rfl, rfl, by decide +kernel, rfl, by decide +kernel, by decide +kernel⟩
theorem g__law_rule (Z : Zs fa fn ex K mg) : GFn P w K mg base "_law_rule" ["_law_bag_here"] 3 true m__law_rule := by
  rw [m__law_rule_eq]
  obtain ⟨fd, F⟩ := Z.fnd 5 _ rfl
  have ND : (n__law_rule).Nodup := (sc__law_rule).nd
  refine ⟨⟨fd, F.bindsN (fun _ _ _ _ _ _ us hl => match us, hl with | [_], _ => rfl), fn_mk F sc__law_rule fun cdv A outer s H E hcd hr => ?_⟩, Z.gl 30, F.kp⟩
  exact (css_cons (cs_own 1 ND (ce_disp (cpp_cons ce_str (ce_call (g__law_sizes Z) (hr.mono (by decide)) tkF (ca_cons (ce_var 0) ca_nil)) (cpp_cons ce_str (ce_sh (c_dict (Z.fr 2) (ce_sh (ce_lc (.nm 2) ND (ci_seq (ce_call0 (g__law_ends Z) (hr.mono (by decide)) tkF)) (blkOk_by (N := n__law_rule) (sc := defScope (top 45)) (own := [("_law_end_here", 2)]) (by decide +kernel)) rfl (by decide) (fun _ _ _ _ _ => pg_name (i := 2) ND rfl (by first | exact .inl rfl | exact .inr rfl)) (fun _ _ _ _ _ => cts_nil) (fun _ _ _ _ _ => (ce_tup (ca_cons (ce_var 2) (ca_cons (ce_call (g__law_lengths Z) (hr.mono (by decide)) takes0 (ca_cons (ce_var 0) ca_nil)) ca_nil)))))))) cpp_nil)))) (css_cons (cs_setD2 1 (u1 hr.units) (c_eq (hr.units) (ce_call (g__law_take Z) (hr.mono (by decide)) tkF (ca_cons (ce_var 0) (ca_cons ce_int ca_nil))) ce_int) (ce_sub (hr.units) (ce_sh (ce_lst (ca_cons ce_str (ca_cons ce_str (ca_cons ce_str ca_nil))))) (ce_call (g__law_take Z) (hr.mono (by decide)) tkF (ca_cons (ce_var 0) (ca_cons ce_int ca_nil))))) (css_cons (cs_setD 1 (u1 hr.units) ce_str (ce_sub (hr.units) (ce_sh (ce_lst (ca_cons ce_int (ca_cons ce_int (ca_cons ce_int (ca_cons ce_int (ca_cons ce_int (ca_cons (ce_add ce_int (ce_call (g__law_take Z) (hr.mono (by decide)) tkF (ca_cons (ce_var 0) (ca_cons ce_int ca_nil)))) ca_nil)))))))) (ce_call (g__law_take Z) (hr.mono (by decide)) tkF (ca_cons (ce_var 0) (ca_cons ce_int ca_nil))))) (css_one (cs_retOwn 1)))))
abbrev n__law_one : List Str := ["_law_bag_here", "_law_things"]
theorem sc__law_one : FnScope n__law_one ["_law_bag_here", "_law_things"] (defScope (top 40)) := ⟨rfl, rfl, rfl, by decide +kernel, rfl, by decide +kernel, by decide +kernel⟩
theorem g__law_one (Z : Zs fa fn ex K mg) : GFn P w K mg base "_law_one" ["_law_bag_here", "_law_things"] 2 false m__law_one := by
  rw [m__law_one_eq]
  obtain ⟨fd, F⟩ := Z.fnd 6 _ rfl
  have ND : (n__law_one).Nodup := (sc__law_one).nd
  refine ⟨⟨fd, F.bindsN (fun _ _ _ _ _ _ us hl => match us, hl with | [_, _], _ => rfl), fn_mk F sc__law_one fun cdv A outer s H E hcd hr => ?_⟩, Z.gl 31, F.kp⟩
  exact (css_one (cs_ret (ce_sub (hr.units) (ce_var 1) (ce_call (g__law_take Z) (hr.mono (by decide)) tkF (ca_cons (ce_var 0) (ca_cons (c_len (Z.fr 3) (ce_var 1)) ca_nil))))))
abbrev n__law_end : List Str := ["_law_bag_here"]
theorem sc__law_end : FnScope n__law_end ["_law_bag_here"] (defScope (top 42)) := ⟨rfl, rfl, rfl, by decide +kernel, rfl, by decide +kernel, by decide +kernel⟩
theorem g__law_end (Z : Zs fa fn ex K mg) : GFn P w K mg base "_law_end" ["_law_bag_here"] 3 false m__law_end := by
  rw [m__law_end_eq]
  obtain ⟨fd, F⟩ := Z.fnd 7 _ rfl
  have ND : (n__law_end).Nodup := (sc__law_end).nd
  refine ⟨⟨fd, F.bindsN (fun _ _ _ _ _ _ us hl => match us, hl with | [_], _ => rfl), fn_mk F sc__law_end fun cdv A outer s H E hcd hr => ?_⟩, Z.gl 32, F.kp⟩
  exact (css_one (cs_ret (ce_call (g__law_one Z) (hr.mono (by decide)) tkF (ca_cons (ce_var 0) (ca_cons (ce_call0 (g__law_ends Z) (hr.mono (by decide)) tkF) ca_nil)))))
abbrev n__law_stretch : List Str := ["_law_bag_here", "_law_upto"]
theorem sc__law_stretch : FnScope n__law_stretch ["_law_bag_here", "_law_upto"] (defScope (top 47)) := ⟨rfl, rfl, rfl, by decide +kernel, rfl, by decide +kernel, by decide +kernel⟩
theorem g__law_stretch (Z : Zs fa fn ex K mg) : GFn P w K mg base "_law_stretch" ["_law_bag_here", "_law_upto"] 4 false m__law_stretch := by
  rw [m__law_stretch_eq]
  obtain ⟨fd, F⟩ := Z.fnd 8 _ rfl
  have ND : (n__law_stretch).Nodup := (sc__law_stretch).nd
  refine ⟨⟨fd, F.bindsN (fun _ _ _ _ _ _ us hl => match us, hl with | [_, _], _ => rfl), fn_mk F sc__law_stretch fun cdv A outer s H E hcd hr => ?_⟩, Z.gl 33, F.kp⟩
  exact (css_one (cs_ret (ce_tup (ca_cons (ce_call (g__law_end Z) (hr.mono (by decide)) tkF (ca_cons (ce_var 0) ca_nil)) (ca_cons (ce_call (g__law_take Z) (hr.mono (by decide)) tkF (ca_cons (ce_var 0) (ca_cons (ce_add (ce_var 1) ce_int) ca_nil))) (ca_cons (ce_call (g__law_end Z) (hr.mono (by decide)) tkF (ca_cons (ce_var 0) ca_nil)) ca_nil))))))
abbrev n__law_roomy : List Str := ["_law_bag_here", "_law_told", "_law_end_here"]
theorem sc__law_roomy : FnScope n__law_roomy ["_law_bag_here"] (defScope (top 59)) := ⟨rfl, rfl, rfl, by decide +kernel, rfl, by decide +kernel, by decide +kernel⟩
theorem g__law_roomy (Z : Zs fa fn ex K mg) : GFn P w K mg base "_law_roomy" ["_law_bag_here"] 4 false m__law_roomy := by
  rw [m__law_roomy_eq]
  obtain ⟨fd, F⟩ := Z.fnd 9 _ rfl
  have ND : (n__law_roomy).Nodup := (sc__law_roomy).nd
  refine ⟨⟨fd, F.bindsN (fun _ _ _ _ _ _ us hl => match us, hl with | [_], _ => rfl), fn_mk F sc__law_roomy fun cdv A outer s H E hcd hr => ?_⟩, Z.gl 34, F.kp⟩
  exact (css_cons (cs_own 1 ND (ce_disp (cpp_cons ce_str (ce_call (g__law_one Z) (hr.mono (by decide)) tkF (ca_cons (ce_var 0) (ca_cons (ce_sh (ce_lst (ca_cons (ce_sh (ce_lst (ca_cons ce_int ca_nil))) (ca_cons (ce_sh (ce_lst (ca_cons ce_int ca_nil))) (ca_cons (ce_sh (ce_lst (ca_cons ce_int (ca_cons ce_int ca_nil)))) (ca_cons (ce_sh (ce_lst (ca_cons ce_int ca_nil))) ca_nil)))))) ca_nil))) (cpp_cons ce_str (ce_sh (c_dict (Z.fr 2) (ce_sh (ce_lc (.nm 2) ND (ci_seq (ce_call0 (g__law_ends Z) (hr.mono (by decide)) tkF)) (blkOk_by (N := n__law_roomy) (sc := defScope (top 59)) (own := [("_law_end_here", 2)]) (by decide +kernel)) rfl (by decide) (fun _ _ _ _ _ => pg_name (i := 2) ND rfl (by first | exact .inl rfl | exact .inr rfl)) (fun _ _ _ _ _ => cts_nil) (fun _ _ _ _ _ => (ce_tup (ca_cons (ce_var 2) (ca_cons (ce_sh (ce_lst ca_nil)) ca_nil)))))))) cpp_nil)))) (css_cons (cs_setD3 1 (u1 hr.units) ce_bl (ce_call (g__law_one Z) (hr.mono (by decide)) tkF (ca_cons (ce_var 0) (ca_cons (ce_sh (ce_lst (ca_cons ce_str (ca_cons ce_str ca_nil)))) ca_nil))) (ce_call (g__law_one Z) (hr.mono (by decide)) tkF (ca_cons (ce_var 0) (ca_cons (ce_sh (ce_lst (ca_cons ce_int (ca_cons ce_int (ca_cons ce_int ca_nil))))) ca_nil)))) (css_freeze 1 (css_one (cs_ret (ce_tup (ca_cons (ce_var 1) (ca_cons (ce_tup (ca_cons (ce_call (g__law_end Z) (hr.mono (by decide)) tkF (ca_cons (ce_var 0) ca_nil)) (ca_cons (ce_add ce_int (ce_call (g__law_take Z) (hr.mono (by decide)) tkF (ca_cons (ce_var 0) (ca_cons ce_int ca_nil)))) (ca_cons (ce_call (g__law_end Z) (hr.mono (by decide)) tkF (ca_cons (ce_var 0) ca_nil)) ca_nil)))) ca_nil))))))))
abbrev n_is_integer : List Str := ["thing"]
theorem sc_is_integer : FnScope n_is_integer ["thing"] (defScope (top 10)) := ⟨rfl, rfl, rfl, by decide +kernel, rfl, by decide +kernel, by decide +kernel⟩
theorem g_is_integer (Z : Zs fa fn ex K mg) : GFn P w K mg base "is_integer" ["thing"] 1 false m_is_integer := by
  rw [m_is_integer_eq]
  obtain ⟨fd, F⟩ := Z.fnd 10 _ rfl
  have ND : (n_is_integer).Nodup := (sc_is_integer).nd
  refine ⟨⟨fd, F.bindsN (fun _ _ _ _ _ _ us hl => match us, hl with | [_], _ => rfl), fn_mk F sc_is_integer fun cdv A outer s H E hcd hr => ?_⟩, Z.gl 35, F.kp⟩
  exact (css_one (cs_ret (ce_and (ce_isi (Z.fr 5) (Z.fr 7) PyProof.Rows.boot_int (ce_var 0)) (ce_one (ce_not (ce_isi (Z.fr 5) (Z.fr 6) PyProof.Rows.boot_bool (ce_var 0)))))))
abbrev n_is_size : List Str := ["thing"]
theorem sc_is_size : FnScope n_is_size ["thing"] (defScope (top 13)) := ⟨rfl, rfl, rfl, by decide +kernel, rfl, by decide +kernel, by decide +kernel⟩
theorem g_is_size (Z : Zs fa fn ex K mg) : GFn P w K mg base "is_size" ["thing"] 2 false m_is_size := by
  rw [m_is_size_eq]
  obtain ⟨fd, F⟩ := Z.fnd 11 _ rfl
  have ND : (n_is_size).Nodup := (sc_is_size).nd
  refine ⟨⟨fd, F.bindsN (fun _ _ _ _ _ _ us hl => match us, hl with | [_], _ => rfl), fn_mk F sc_is_size fun cdv A outer s H E hcd hr => ?_⟩, Z.gl 36, F.kp⟩
  exact (css_one (cs_ret (ce_and (ce_call (g_is_integer Z) (hr.mono (by decide)) tkF (ca_cons (ce_var 0) ca_nil)) (ce_one (ce_chain op_le cmpd_le op_le cmpd_le ce_int (ce_var 0) (ce_gi (Z.int 4)))))))
abbrev n_are_sizes : List Str := ["thing", "one"]
theorem sc_are_sizes : FnScope n_are_sizes ["thing"] (defScope (top 14)) := ⟨rfl, rfl, rfl, by decide +kernel, rfl, by decide +kernel, by decide +kernel⟩
theorem g_are_sizes (Z : Zs fa fn ex K mg) : GFn P w K mg base "are_sizes" ["thing"] 3 false m_are_sizes := by
  rw [m_are_sizes_eq]
  obtain ⟨fd, F⟩ := Z.fnd 12 _ rfl
  have ND : (n_are_sizes).Nodup := (sc_are_sizes).nd
  refine ⟨⟨fd, F.bindsN (fun _ _ _ _ _ _ us hl => match us, hl with | [_], _ => rfl), fn_mk F sc_are_sizes fun cdv A outer s H E hcd hr => ?_⟩, Z.gl 37, F.kp⟩
  exact (css_one (cs_ret (ce_and (ce_isi2 (Z.fr 5) (Z.fr 9) PyProof.Rows.boot_list (Z.fr 10) PyProof.Rows.boot_tuple (ce_var 0)) (ce_one (c_all (Z.fr 8) (ce_sh (ce_lc (.nm 1) ND (ci_seq (ce_var 0)) (blkOk_by (N := n_are_sizes) (sc := defScope (top 14)) (own := [("one", 1)]) (by decide +kernel)) rfl (by decide) (fun _ _ _ _ _ => pg_name (i := 1) ND rfl (by first | exact .inl rfl | exact .inr rfl)) (fun _ _ _ _ _ => cts_nil) (fun _ _ _ _ _ => (ce_call (g_is_size Z) (hr.mono (by decide)) takes0 (ca_cons (ce_var 1) ca_nil))))))))))
abbrev n_is_end : List Str := ["thing"]
theorem sc_is_end : FnScope n_is_end ["thing"] (defScope (top 12)) := ⟨rfl, rfl, rfl, by decide +kernel, rfl, by decide +kernel, by decide +kernel⟩
theorem g_is_end (Z : Zs fa fn ex K mg) : GFn P w K mg base "is_end" ["thing"] 1 false m_is_end := by
  rw [m_is_end_eq]
  obtain ⟨fd, F⟩ := Z.fnd 13 _ rfl
  have ND : (n_is_end).Nodup := (sc_is_end).nd
  refine ⟨⟨fd, F.bindsN (fun _ _ _ _ _ _ us hl => match us, hl with | [_], _ => rfl), fn_mk F sc_is_end fun cdv A outer s H E hcd hr => ?_⟩, Z.gl 38, F.kp⟩
  exact (css_one (cs_ret (ce_and (ce_isi (Z.fr 5) (Z.fr 12) PyProof.Rows.boot_str (ce_var 0)) (ce_one (c_in (ce_var 0) (ce_gt (Z.gl 11) (Z_ex0 Z)))))))
abbrev n_are_bad : List Str := ["thing", "end"]
theorem sc_are_bad : FnScope n_are_bad ["thing"] (defScope (top 32)) := ⟨rfl, rfl, rfl, by decide +kernel, rfl, by decide +kernel, by decide +kernel⟩
theorem g_are_bad (Z : Zs fa fn ex K mg) : GFn P w K mg base "are_bad" ["thing"] 4 false m_are_bad := by
  rw [m_are_bad_eq]
  obtain ⟨fd, F⟩ := Z.fnd 14 _ rfl
  have ND : (n_are_bad).Nodup := (sc_are_bad).nd
  refine ⟨⟨fd, F.bindsN (fun _ _ _ _ _ _ us hl => match us, hl with | [_], _ => rfl), fn_mk F sc_are_bad fun cdv A outer s H E hcd hr => ?_⟩, Z.gl 39, F.kp⟩
  exact (css_cons (cs_if (t_isN (ce_var 0) ce_non) (css_one (cs_ret ce_bl)) css_nil) (css_cons (cs_if (ct_not (tT_of (by intro _; rfl) (ce_isi (Z.fr 5) (Z.fr 2) PyProof.Rows.boot_dict (ce_var 0)))) (css_one (cs_ret ce_bl)) css_nil) (css_one (cs_ret (c_all (Z.fr 8) (ce_sh (ce_lcL (.nm 1) 0 feeds_keys ND (ci_keys 0) (blkOk_by (N := n_are_bad) (sc := defScope (top 32)) (own := [("end", 1)]) (by decide +kernel)) rfl (by decide) (fun _ _ _ _ _ => pg_name (i := 1) ND rfl (by first | exact .inl rfl | exact .inr rfl)) (fun _ _ _ _ _ => cts_nil) (fun _ _ _ _ _ => (ce_and (ce_call (g_is_end Z) (hr.mono (by decide)) takes0 (ca_cons (ce_var 1) ca_nil)) (ce_one (ce_call (g_are_sizes Z) (hr.mono (by decide)) takes0 (ca_cons (ce_sub (hr.units) (ce_var 0) (ce_var 1)) ca_nil))))))))))))
abbrev n_is_number : List Str := ["thing"]
theorem sc_is_number : FnScope n_is_number ["thing"] (defScope (top 11)) := ⟨rfl, rfl, rfl, by decide +kernel, rfl, by decide +kernel, by decide +kernel⟩
theorem g_is_number (Z : Zs fa fn ex K mg) : GFn P w K mg base "is_number" ["thing"] 2 false m_is_number := by
  rw [m_is_number_eq]
  obtain ⟨fd, F⟩ := Z.fnd 15 _ rfl
  have ND : (n_is_number).Nodup := (sc_is_number).nd
  refine ⟨⟨fd, F.bindsN (fun _ _ _ _ _ _ us hl => match us, hl with | [_], _ => rfl), fn_mk F sc_is_number fun cdv A outer s H E hcd hr => ?_⟩, Z.gl 40, F.kp⟩
  exact (css_one (cs_ret (ce_and (ce_call (g_is_integer Z) (hr.mono (by decide)) tkF (ca_cons (ce_var 0) ca_nil)) (ce_one (c_ge (ce_var 0) ce_int)))))
abbrev n_is_offer : List Str := ["thing"]
theorem sc_is_offer : FnScope n_is_offer ["thing"] (defScope (top 33)) := ⟨rfl, rfl, rfl, by decide +kernel, rfl, by decide +kernel, by decide +kernel⟩
theorem g_is_offer (Z : Zs fa fn ex K mg) : GFn P w K mg base "is_offer" ["thing"] 3 false m_is_offer := by
  rw [m_is_offer_eq]
  obtain ⟨fd, F⟩ := Z.fnd 16 _ rfl
  have ND : (n_is_offer).Nodup := (sc_is_offer).nd
  refine ⟨⟨fd, F.bindsN (fun _ _ _ _ _ _ us hl => match us, hl with | [_], _ => rfl), fn_mk F sc_is_offer fun cdv A outer s H E hcd hr => ?_⟩, Z.gl 41, F.kp⟩
  exact (css_one (cs_ret (ce_and (ce_call (g_is_number Z) (hr.mono (by decide)) tkF (ca_cons (ce_var 0) ca_nil)) (ce_one (c_le (ce_var 0) (ce_gi (Z.int 14)))))))
abbrev n_first_wrong : List Str := ["sizes", "bad", "soft", "where", "offer", "good"]
theorem sc_first_wrong : FnScope n_first_wrong ["sizes", "bad", "soft", "where", "offer"] (defScope (top 34)) := ⟨rfl, rfl, rfl, by decide +kernel, rfl, by decide +kernel, by decide +kernel⟩
theorem g_first_wrong (Z : Zs fa fn ex K mg) : GFn P w K mg base "first_wrong" ["sizes", "bad", "soft", "where", "offer"] 5 false m_first_wrong := by
  rw [m_first_wrong_eq]
  obtain ⟨fd, F⟩ := Z.fnd 17 _ rfl
  have ND : (n_first_wrong).Nodup := (sc_first_wrong).nd
  refine ⟨⟨fd, F.bindsN (fun _ _ _ _ _ _ us hl => match us, hl with | [_, _, _, _, _], _ => rfl), fn_mk F sc_first_wrong fun cdv A outer s H E hcd hr => ?_⟩, Z.gl 42, F.kp⟩
  exact (css_cons (cs_own 5 ND (ce_lst (ca_cons (ce_and (ce_call (g_are_sizes Z) (hr.mono (by decide)) tkF (ca_cons (ce_var 0) ca_nil)) (ce_one (c_gt (c_len (Z.fr 3) (ce_var 0)) ce_int))) (ca_cons (ce_call (g_are_bad Z) (hr.mono (by decide)) tkF (ca_cons (ce_var 1) ca_nil)) (ca_cons (ce_isi (Z.fr 5) (Z.fr 6) PyProof.Rows.boot_bool (ce_var 2)) ca_nil))))) (css_cons (c_app 5 (ce_and (ce_isi (Z.fr 5) (Z.fr 12) PyProof.Rows.boot_str (ce_var 3)) (ce_one (c_in (ce_var 3) (ce_gt (Z.gl 13) (Z_ex1 Z)))))) (css_cons (c_app 5 (ce_call (g_is_offer Z) (hr.mono (by decide)) tkF (ca_cons (ce_var 4) ca_nil))) (css_freeze 5 (css_one (cs_ret (ce_if (t_in ce_bl (ce_var 5)) ce_never ce_non)))))))
abbrev n_Rule___init__ : List Str := ["self", "sizes", "bad", "soft", "where", "offer", "found", "told", "end"]
theorem sc_Rule___init__ : FnScope n_Rule___init__ ["self", "sizes", "bad", "soft", "where", "offer"] (defScope (topM 35 0)) := ⟨rfl, rfl, rfl, by decide +kernel, rfl, by decide +kernel, by decide +kernel⟩
theorem i_Rule___init__ (Z : Zs fa fn ex K mg) : ∃ fd, FunD K "__init__" "Rule.__init__" (defArgs (topM 35 0)) (defBody (topM 35 0)) (defScope (topM 35 0)) (dfl_Rule___init__.map (He.Dv.v K)) (kwd_Rule___init__.map fun q => (q.1, q.2.v K)) (He.ma K (He.ga K "Rule") "__init__") fd ∧ FnG P w K mg base (L2.CX P w) 6 (He.ma K (He.ga K "Rule") "__init__") fd ["self", "sizes", "bad", "soft", "where", "offer"] (spI K 6 "Rule" m_Rule___init__) := by
  rw [m_Rule___init___eq]
  obtain ⟨fd, F⟩ := Z.fnd 18 _ rfl
  have ND : (n_Rule___init__).Nodup := (sc_Rule___init__).nd
  refine ⟨fd, F, fn_init F sc_Rule___init__ fun cdv A outer s H E hcd hr => ?_⟩
  exact (css_cons (cs_asg 6 ND (ce_call (g_first_wrong Z) (hr.mono (by decide)) tkF (ca_cons (ce_var 1) (ca_cons (ce_var 2) (ca_cons (ce_var 3) (ca_cons (ce_var 4) (ca_cons (ce_var 5) ca_nil))))))) (css_cons (cs_if (t_notN (ce_var 6) ce_non) (css_one cs_never) css_nil) (css_cons (cs_asg 7 ND (ce_if (t_isN (ce_var 2) ce_non) (ce_sh ce_dnew) (ce_var 2))) (css_cons (cs_fld 0 (Z.cls 17) (Z.noat 18) (c_tuple (Z.fr 10) (ce_sh (ce_sortSet (Z.fr 15) (Z.fr 16) (ce_var 1))))) (css_cons (cs_fld 0 (Z.cls 17) (Z.noat 19) (ce_sh (ce_dc (.nm 8) ND (ci_seq (ce_gt (Z.gl 11) (Z_ex0 Z))) (blkOk_by (N := n_Rule___init__) (sc := defScope (topM 35 0)) (own := [("end", 8)]) (by decide +kernel)) rfl (by decide) (fun _ _ _ _ _ => pg_name (i := 8) ND rfl (by first | exact .inl rfl | exact .inr rfl)) (fun _ _ _ _ _ => cts_nil) (fun _ _ _ _ _ => (ce_var 8)) (fun _ _ _ _ _ => (ce_sh (ce_sortSet (Z.fr 15) (Z.fr 16) (ce_get2 (u1 hr.units) (ce_var 7) (ce_var 8) (ce_sh (ce_lst ca_nil)) ⟨rfl, rfl, rfl, rfl⟩))))))) (css_cons (cs_fld 0 (Z.cls 17) (Z.noat 20) (ce_var 3)) (css_cons (cs_fld 0 (Z.cls 17) (Z.noat 21) (ce_var 4)) (css_one (cs_fld 0 (Z.cls 17) (Z.noat 22) (ce_var 5))))))))))
theorem c_make_Rule_0 (Z : Zs fa fn ex K mg) : CFn P w K mg base "Rule" 2 ["soft", "where", "offer"] 6 gd_2_3 m_Rule___init__ := by
  obtain ⟨fd, F, ok⟩ := i_Rule___init__ (P := P) (w := w) (base := base) Z
  obtain ⟨its, mv, B⟩ := F.kbinds (ps := ["self", "sizes", "bad", "soft", "where", "offer"]) 3 ["soft", "where", "offer"] [] (fun us _ _ ws => us ++ ws) (by intro z; cases z) (by intro z; cases z) (by intro q hq; cases hq) (fun r1 _ _ r4 => r1.append r4) (fun T D doc pm an cdv ct us its mv ws h1 h2 h3 h4 => match us, its, mv, ws, h1, h2, h3, h4 with
    | [_, _, _], [_], [], [_, _, _], _, _, _, _ => ⟨_, rfl, rfl⟩)
  refine ⟨⟨fd, _, _, _, B, ok, fun x vs zs l1 l2 => ⟨?_, vs ++ zs, rfl, fun b H ds es h1 h2 => h1.append h2⟩⟩, Z.mkr 43, Z.gl 44⟩
  show (.ref x :: vs ++ zs : List V).length = _
  rw [List.length_append, List.length_cons, l1, l2] <;> rfl
abbrev n__law_made : List Str := ["_law_told"]
theorem sc__law_made : FnScope n__law_made ["_law_told"] (defScope (top 46)) := ⟨rfl, rfl, rfl, by decide +kernel, rfl, by decide +kernel, by decide +kernel⟩
theorem g__law_made (Z : Zs fa fn ex K mg) : GFn P w K mg base "_law_made" ["_law_told"] 8 false m__law_made := by
  rw [m__law_made_eq]
  obtain ⟨fd, F⟩ := Z.fnd 19 _ rfl
  have ND : (n__law_made).Nodup := (sc__law_made).nd
  refine ⟨⟨fd, F.bindsN (fun _ _ _ _ _ _ us hl => match us, hl with | [_], _ => rfl), fn_mk F sc__law_made fun cdv A outer s H E hcd hr => ?_⟩, Z.gl 45, F.kp⟩
  exact (css_one (cs_ret (ce_sh (ce_make (c_make_Rule_0 Z) (hr.mono (by decide)) tkF (ca_cons (ce_sub (hr.units) (ce_var 0) ce_str) (ca_cons (ce_sub (hr.units) (ce_var 0) ce_str) ca_nil)) (ck_cons (ce_sub (hr.units) (ce_var 0) ce_str) (ck_cons (ce_sub (hr.units) (ce_var 0) ce_str) (ck_cons (ce_sub (hr.units) (ce_var 0) ce_str) ck_nil)))))))
abbrev n__law_befores : List Str := ["_law_told", "_law_stretch_here", "_law_size", "_law_left", "_law_length", "_law_right_here"]
theorem sc__law_befores : FnScope n__law_befores ["_law_told", "_law_stretch_here", "_law_size"] (defScope (top 48)) := ⟨rfl, rfl, rfl, by decide +kernel, rfl, by decide +kernel, by decide +kernel⟩
theorem g__law_befores (Z : Zs fa fn ex K mg) : GFn P w K mg base "_law_befores" ["_law_told", "_law_stretch_here", "_law_size"] 1 false m__law_befores := by
  rw [m__law_befores_eq]
  obtain ⟨fd, F⟩ := Z.fnd 20 _ rfl
  have ND : (n__law_befores).Nodup := (sc__law_befores).nd
  refine ⟨⟨fd, F.bindsN (fun _ _ _ _ _ _ us hl => match us, hl with | [_, _, _], _ => rfl), fn_mk F sc__law_befores fun cdv A outer s H E hcd hr => ?_⟩, Z.gl 46, F.kp⟩
  exact (css_cons (cs_asgG (ce_var 1) (gm_tup [3, 4, 5] rfl (pgs_cons (pg_name (i := 3) ND rfl (by first | exact .inl rfl | exact .inr rfl)) (pgs_cons (pg_name (i := 4) ND rfl (by first | exact .inl rfl | exact .inr rfl)) (pgs_cons (pg_name (i := 5) ND rfl (by first | exact .inl rfl | exact .inr rfl)) pgs_nil))))) (css_cons (cs_if (t_lt (ce_var 4) (ce_var 2)) (css_one (cs_ret (ce_sh (ce_lst ca_nil)))) css_nil) (css_cons (cs_if (t_eq (hr.units) (ce_sub (hr.units) (ce_var 0) ce_str) ce_str) (css_one (cs_ret (ce_sh (ce_lrg1 (Z.fr 9) (Z.fr 1) (ce_add (c_sub (ce_var 4) (ce_var 2)) ce_int))))) css_nil) (css_one (cs_ret (ce_sh (ce_sortSet (Z.fr 15) (Z.fr 16) (ce_sh (ce_lst (ca_cons ce_int (ca_cons (c_sub (ce_var 4) (ce_var 2)) ca_nil)))))))))))
abbrev n__law_spoils : List Str := ["_law_told", "_law_stretch_here", "_law_size", "_law_before", "_law_left", "_law_length", "_law_right_here"]
theorem sc__law_spoils : FnScope n__law_spoils ["_law_told", "_law_stretch_here", "_law_size", "_law_before"] (defScope (top 49)) := ⟨rfl, rfl, rfl, by decide +kernel, rfl, by decide +kernel, by decide +kernel⟩
theorem g__law_spoils (Z : Zs fa fn ex K mg) : GFn P w K mg base "_law_spoils" ["_law_told", "_law_stretch_here", "_law_size", "_law_before"] 1 false m__law_spoils := by
  rw [m__law_spoils_eq]
  obtain ⟨fd, F⟩ := Z.fnd 21 _ rfl
  have ND : (n__law_spoils).Nodup := (sc__law_spoils).nd
  refine ⟨⟨fd, F.bindsN (fun _ _ _ _ _ _ us hl => match us, hl with | [_, _, _, _], _ => rfl), fn_mk F sc__law_spoils fun cdv A outer s H E hcd hr => ?_⟩, Z.gl 47, F.kp⟩
  exact (css_cons (cs_asgG (ce_var 1) (gm_tup [4, 5, 6] rfl (pgs_cons (pg_name (i := 4) ND rfl (by first | exact .inl rfl | exact .inr rfl)) (pgs_cons (pg_name (i := 5) ND rfl (by first | exact .inl rfl | exact .inr rfl)) (pgs_cons (pg_name (i := 6) ND rfl (by first | exact .inl rfl | exact .inr rfl)) pgs_nil))))) (css_one (cs_ret (ce_or (c_in (ce_var 3) (ce_sub (hr.units) (ce_sub (hr.units) (ce_var 0) ce_str) (ce_var 4))) (ce_one (c_in (c_sub (c_sub (ce_var 5) (ce_var 2)) (ce_var 3)) (ce_sub (hr.units) (ce_sub (hr.units) (ce_var 0) ce_str) (ce_var 6))))))))
abbrev n__law_offers : List Str := ["_law_told", "_law_stretch_here", "_law_size", "_law_some", "_law_good", "_law_before"]
theorem sc__law_offers : FnScope n__law_offers ["_law_told", "_law_stretch_here", "_law_size"] (defScope (top 50)) := ⟨rfl, rfl, rfl, by decide +kernel, rfl, by decide +kernel, by decide +kernel⟩
theorem g__law_offers (Z : Zs fa fn ex K mg) : GFn P w K mg base "_law_offers" ["_law_told", "_law_stretch_here", "_law_size"] 2 false m__law_offers := by
  rw [m__law_offers_eq]
  obtain ⟨fd, F⟩ := Z.fnd 22 _ rfl
  have ND : (n__law_offers).Nodup := (sc__law_offers).nd
  refine ⟨⟨fd, F.bindsN (fun _ _ _ _ _ _ us hl => match us, hl with | [_, _, _], _ => rfl), fn_mk F sc__law_offers fun cdv A outer s H E hcd hr => ?_⟩, Z.gl 48, F.kp⟩
  exact (css_cons (cs_asg 3 ND (ce_call (g__law_befores Z) (hr.mono (by decide)) tkF (ca_cons (ce_var 0) (ca_cons (ce_var 1) (ca_cons (ce_var 2) ca_nil))))) (css_cons (cs_asgLc 4 (.nm 5) ND (ci_seq (ce_var 3)) (blkOk_by (N := n__law_offers) (sc := defScope (top 50)) (own := [("_law_before", 5)]) (by decide +kernel)) rfl (by decide) (fun _ _ _ _ _ => pg_name (i := 5) ND rfl (by first | exact .inl rfl | exact .inr rfl)) (fun _ _ _ _ _ => (cts_one (ct_not (tT_of (by intro _; rfl) (ce_call (g__law_spoils Z) (hr.mono (by decide)) takes0 (ca_cons (ce_var 0) (ca_cons (ce_var 1) (ca_cons (ce_var 2) (ca_cons (ce_var 5) ca_nil))))))))) (fun _ _ _ _ _ => (ce_var 5)) (sw_true rfl rfl rfl (by decide +kernel))) (css_cons (cs_if ((cw_and (t_eq (hr.units) (ce_var 4) (ce_sh (ce_lst ca_nil))) (cw_and1 (tT_of (by intro _; rfl) (ce_sub (hr.units) (ce_var 0) ce_str))))).pt (css_one (cs_asg 4 ND (ce_var 3))) css_nil) (css_one (cs_ret (ce_if (t_gt (ce_sub (hr.units) (ce_var 0) ce_str) ce_int) (ce_sh (ce_slL (ce_var 4) co_none (co_some (ce_sub (hr.units) (ce_var 0) ce_str)))) (ce_var 4)))))))
abbrev n__law_all_sales : List Str := ["_law_told", "_law_stretch_here", "_law_found", "_law_size", "_law_before"]
theorem sc__law_all_sales : FnScope n__law_all_sales ["_law_told", "_law_stretch_here"] (defScope (top 51)) := ⟨rfl, rfl, rfl, by decide +kernel, rfl, by decide +kernel, by decide +kernel⟩
theorem g__law_all_sales (Z : Zs fa fn ex K mg) : GFn P w K mg base "_law_all_sales" ["_law_told", "_law_stretch_here"] 3 false m__law_all_sales := by
  rw [m__law_all_sales_eq]
  obtain ⟨fd, F⟩ := Z.fnd 23 _ rfl
  have ND : (n__law_all_sales).Nodup := (sc__law_all_sales).nd
  refine ⟨⟨fd, F.bindsN (fun _ _ _ _ _ _ us hl => match us, hl with | [_, _], _ => rfl), fn_mk F sc__law_all_sales fun cdv A outer s H E hcd hr => ?_⟩, Z.gl 49, F.kp⟩
  exact (css_cons (cs_own 2 ND (ce_lst ca_nil)) (css_cons (cs_for poF (ci_seq (ce_sub (hr.units) (ce_var 0) ce_str)) (gm_name 3 ND) (css_one (c_ext 2 (ce_sh (ce_lc (.nm 4) ND (ci_seq (ce_call (g__law_offers Z) (hr.mono (by decide)) tkF (ca_cons (ce_var 0) (ca_cons (ce_var 1) (ca_cons (ce_var 3) ca_nil))))) (blkOk_by (N := n__law_all_sales) (sc := defScope (top 51)) (own := [("_law_before", 4)]) (by decide +kernel)) rfl (by decide) (fun _ _ _ _ _ => pg_name (i := 4) ND rfl (by first | exact .inl rfl | exact .inr rfl)) (fun _ _ _ _ _ => cts_nil) (fun _ _ _ _ _ => (ce_tup (ca_cons (ce_var 3) (ca_cons (ce_var 4) ca_nil))))))))) (css_freeze 2 (css_one (cs_ret (ce_var 2))))))
abbrev n__law_parted : List Str := ["_law_stretch_here", "_law_size", "_law_before", "_law_left", "_law_length", "_law_right_here"]
theorem sc__law_parted : FnScope n__law_parted ["_law_stretch_here", "_law_size", "_law_before"] (defScope (top 52)) := ⟨rfl, rfl, rfl, by decide +kernel, rfl, by decide +kernel, by decide +kernel⟩
theorem g__law_parted (Z : Zs fa fn ex K mg) : GFn P w K mg base "_law_parted" ["_law_stretch_here", "_law_size", "_law_before"] 1 false m__law_parted := by
  rw [m__law_parted_eq]
  obtain ⟨fd, F⟩ := Z.fnd 24 _ rfl
  have ND : (n__law_parted).Nodup := (sc__law_parted).nd
  refine ⟨⟨fd, F.bindsN (fun _ _ _ _ _ _ us hl => match us, hl with | [_, _, _], _ => rfl), fn_mk F sc__law_parted fun cdv A outer s H E hcd hr => ?_⟩, Z.gl 50, F.kp⟩
  exact (css_cons (cs_asgG (ce_var 0) (gm_tup [3, 4, 5] rfl (pgs_cons (pg_name (i := 3) ND rfl (by first | exact .inl rfl | exact .inr rfl)) (pgs_cons (pg_name (i := 4) ND rfl (by first | exact .inl rfl | exact .inr rfl)) (pgs_cons (pg_name (i := 5) ND rfl (by first | exact .inl rfl | exact .inr rfl)) pgs_nil))))) (css_one (cs_ret (ce_tup (ca_cons (ce_tup (ca_cons (ce_var 3) (ca_cons (ce_var 2) (ca_cons ce_str ca_nil)))) (ca_cons (ce_tup (ca_cons ce_str (ca_cons (c_sub (c_sub (ce_var 4) (ce_var 1)) (ce_var 2)) (ca_cons (ce_var 5) ca_nil)))) ca_nil))))))
abbrev n__law_children : List Str := ["_law_told", "_law_stretch_here", "_law_found", "_law_size", "_law_before", "_law_part"]
theorem sc__law_children : FnScope n__law_children ["_law_told", "_law_stretch_here"] (defScope (top 55)) := ⟨rfl, rfl, rfl, by decide +kernel, rfl, by decide +kernel, by decide +kernel⟩
theorem g__law_children (Z : Zs fa fn ex K mg) : GFn P w K mg base "_law_children" ["_law_told", "_law_stretch_here"] 4 false m__law_children := by
  rw [m__law_children_eq]
  obtain ⟨fd, F⟩ := Z.fnd 25 _ rfl
  have ND : (n__law_children).Nodup := (sc__law_children).nd
  refine ⟨⟨fd, F.bindsN (fun _ _ _ _ _ _ us hl => match us, hl with | [_, _], _ => rfl), fn_mk F sc__law_children fun cdv A outer s H E hcd hr => ?_⟩, Z.gl 51, F.kp⟩
  exact (css_cons (cs_own 2 ND ce_dnewT) (css_cons (cs_for poF (ci_seq (ce_call (g__law_all_sales Z) (hr.mono (by decide)) tkF (ca_cons (ce_var 0) (ca_cons (ce_var 1) ca_nil)))) (gm_tup [3, 4] rfl (pgs_cons (pg_name (i := 3) ND rfl (by first | exact .inl rfl | exact .inr rfl)) (pgs_cons (pg_name (i := 4) ND rfl (by first | exact .inl rfl | exact .inr rfl)) pgs_nil))) (css_one (cs_for poF (ci_seq (ce_call (g__law_parted Z) (hr.mono (by decide)) tkF (ca_cons (ce_var 1) (ca_cons (ce_var 3) (ca_cons (ce_var 4) ca_nil))))) (gm_name 5 ND) (css_one (cs_setT 2 (u1 hr.units) (ce_var 5) ce_bl))))) (css_freeze 2 (css_one (cs_ret (ce_sh (ce_lcLT (.nm 5) 2 ND (ci_keysT 2) (blkOk_by (N := n__law_children) (sc := defScope (top 55)) (own := [("_law_part", 5)]) (by decide +kernel)) rfl (by decide) (fun _ _ _ _ _ => pg_name (i := 5) ND rfl (by first | exact .inl rfl | exact .inr rfl)) (fun _ _ _ _ _ => (cts_one (t_gt (ce_sub (hr.units) (ce_var 5) ce_int) ce_int))) (fun _ _ _ _ _ => (ce_var 5)))))))))
abbrev n__law_coming : List Str := ["_law_told", "_law_stretch_here", "_law_found", "_law_waiting", "_law_at", "_law_one_here", "_law_part"]
theorem sc__law_coming : FnScope n__law_coming ["_law_told", "_law_stretch_here"] (defScope (top 56)) := ⟨rfl, rfl, rfl, by decide +kernel, rfl, by decide +kernel, by decide +kernel⟩
theorem g__law_coming (Z : Zs fa fn ex K mg) : GFn P w K mg base "_law_coming" ["_law_told", "_law_stretch_here"] 5 true m__law_coming := by
  rw [m__law_coming_eq]
  obtain ⟨fd, F⟩ := Z.fnd 26 _ rfl
  have ND : (n__law_coming).Nodup := (sc__law_coming).nd
  refine ⟨⟨fd, F.bindsN (fun _ _ _ _ _ _ us hl => match us, hl with | [_, _], _ => rfl), fn_mk F sc__law_coming fun cdv A outer s H E hcd hr => ?_⟩, Z.gl 52, F.kp⟩
  exact (css_cons (cs_parN3 ND (caf_cons (ce_disp1T (hr.units) (ce_var 1) ce_int) (caf_cons (ce_lst (ca_cons (ce_var 1) ca_nil)) (caf_cons ce_int caf_nil)))) (css_cons (cs_while poF (ct_peek 3 (t_lt (ce_var 4) (c_len (Z.fr 3) (ce_var 3)))) (css_cons (cs_asg 5 ND (ce_ownAt 3 (ce_var 4))) (css_cons (cs_aug 4 ND ip_add ce_int) (css_one (cs_for poF (ci_seq (ce_call (g__law_children Z) (hr.mono (by decide)) tkF (ca_cons (ce_var 0) (ca_cons (ce_var 5) ca_nil)))) (gm_name 6 ND) (css_one (cs_if (ct_peek 2 (t_ninK (hr.units) (ce_var 6) (ce_var 2))) (css_cons (cs_setT 2 (u1 hr.units) (ce_var 6) (ce_add (ce_ownIx 2 (hr.units) (ce_var 5)) ce_int)) (css_one (c_app 3 (ce_var 6)))) css_nil))))))) (css_one (cs_retOwn 2))))
abbrev n__law_mixed : List Str := ["_law_bag_here", "_law_things", "_law_found", "_law_thing"]
theorem sc__law_mixed : FnScope n__law_mixed ["_law_bag_here", "_law_things"] (defScope (top 39)) := ⟨rfl, rfl, rfl, by decide +kernel, rfl, by decide +kernel, by decide +kernel⟩
theorem g__law_mixed (Z : Zs fa fn ex K mg) : GFn P w K mg base "_law_mixed" ["_law_bag_here", "_law_things"] 2 true m__law_mixed := by
  rw [m__law_mixed_eq]
  obtain ⟨fd, F⟩ := Z.fnd 27 _ rfl
  have ND : (n__law_mixed).Nodup := (sc__law_mixed).nd
  refine ⟨⟨fd, F.bindsN (fun _ _ _ _ _ _ us hl => match us, hl with | [_, _], _ => rfl), fn_mk F sc__law_mixed fun cdv A outer s H E hcd hr => ?_⟩, Z.gl 53, F.kp⟩
  exact (css_cons (cs_own 2 ND (ce_lst ca_nil)) (css_cons (cs_for poF (ci_seq (ce_var 1)) (gm_name 3 ND) (css_one (c_ins 2 (ce_peek 2 (ce_call (g__law_take Z) (hr.mono (by decide)) tkF (ca_cons (ce_var 0) (ca_cons (ce_add (c_len (Z.fr 3) (ce_var 2)) ce_int) ca_nil)))) (ce_var 3)))) (css_one (cs_retOwn 2))))
abbrev n_check_size : List Str := ["rule", "size"]
theorem sc_check_size : FnScope n_check_size ["rule", "size"] (defScope (top 19)) := ⟨rfl, rfl, rfl, by decide +kernel, rfl, by decide +kernel, by decide +kernel⟩
theorem g_check_size (Z : Zs fa fn ex K mg) : GFn P w K mg base "check_size" ["rule", "size"] 3 false m_check_size := by
  rw [m_check_size_eq]
  obtain ⟨fd, F⟩ := Z.fnd 28 _ rfl
  have ND : (n_check_size).Nodup := (sc_check_size).nd
  refine ⟨⟨fd, F.bindsN (fun _ _ _ _ _ _ us hl => match us, hl with | [_, _], _ => rfl), fn_mk F sc_check_size fun cdv A outer s H E hcd hr => ?_⟩, Z.gl 54, F.kp⟩
  exact (css_one (cs_if ((cw_or (ct_not (tT_of (by intro _; rfl) (ce_call (g_is_size Z) (hr.mono (by decide)) tkF (ca_cons (ce_var 1) ca_nil)))) (cw_or1 (t_nin (ce_var 1) (ce_prop (propB_ok (k := 0) (Z_ex2 Z) (Z.cls 17) (Z.noat 18)) (hr.mono (by decide)) (ce_var 0)))))).pt (css_one cs_never) css_nil))
abbrev n_possible : List Str := ["rule", "stretch", "size", "rest"]
theorem sc_possible : FnScope n_possible ["rule", "stretch", "size"] (defScope (top 20)) := ⟨rfl, rfl, rfl, by decide +kernel, rfl, by decide +kernel, by decide +kernel⟩
theorem g_possible (Z : Zs fa fn ex K mg) : GFn P w K mg base "possible" ["rule", "stretch", "size"] 4 false m_possible := by
  rw [m_possible_eq]
  obtain ⟨fd, F⟩ := Z.fnd 29 _ rfl
  have ND : (n_possible).Nodup := (sc_possible).nd
  refine ⟨⟨fd, F.bindsN (fun _ _ _ _ _ _ us hl => match us, hl with | [_, _, _], _ => rfl), fn_mk F sc_possible fun cdv A outer s H E hcd hr => ?_⟩, Z.gl 55, F.kp⟩
  exact (css_cons (cs_expr (ce_call (g_check_size Z) (hr.mono (by decide)) tkF (ca_cons (ce_var 0) (ca_cons (ce_var 2) ca_nil)))) (css_cons (cs_asg 3 ND (c_sub (ce_sub (hr.units) (ce_var 1) ce_int) (ce_var 2))) (css_cons (cs_if (t_lt (ce_var 3) ce_int) (css_one (cs_ret (ce_sh (ce_lst ca_nil)))) css_nil) (css_one (cs_ret (ce_if (t_eq (hr.units) (ce_prop (propB_ok (k := 0) (Z_ex3 Z) (Z.cls 17) (Z.noat 21)) (hr.mono (by decide)) (ce_var 0)) ce_str) (ce_sh (ce_lrg1 (Z.fr 9) (Z.fr 1) (ce_add (ce_var 3) ce_int))) (ce_sh (ce_sort2 (Z.fr 15) hcd ce_int (ce_var 3)))))))))
abbrev n_Rule_bad_at : List Str := ["self", "end"]
theorem sc_Rule_bad_at : FnScope n_Rule_bad_at ["self", "end"] (defScope (topM 35 5)) := ⟨rfl, rfl, rfl, by decide +kernel, rfl, by decide +kernel, by decide +kernel⟩
theorem g_Rule_bad_at (Z : Zs fa fn ex K mg) : MFn P w K mg base "Rule" "bad_at" ["self", "end"] 2 false m_Rule_bad_at := by
  rw [m_Rule_bad_at_eq]
  obtain ⟨fd, F⟩ := Z.fnd 30 _ rfl
  have ND : (n_Rule_bad_at).Nodup := (sc_Rule_bad_at).nd
  refine ⟨⟨fd, F.bindsN (fun _ _ _ _ _ _ us hl => match us, hl with | [_, _], _ => rfl), fn_mk F sc_Rule_bad_at fun cdv A outer s H E hcd hr => ?_⟩, Z.meth 56, Z.cls 17⟩
  exact (css_cons (cs_if (ct_not (tT_of (by intro _; rfl) (ce_call (g_is_end Z) (hr.mono (by decide)) tkF (ca_cons (ce_var 1) ca_nil)))) (css_one cs_never) css_nil) (css_one (cs_ret (ce_sh (c_list (Z.fr 9) (ce_sub (hr.units) (ce_fld (c := "Rule") (Z.cls 17) (Z.noat 19) (ce_var 0)) (ce_var 1)))))))
abbrev n_good_befores : List Str := ["rule", "stretch", "size", "some", "left", "length", "right", "ahead", "behind", "before"]
theorem sc_good_befores : FnScope n_good_befores ["rule", "stretch", "size", "some"] (defScope (top 21)) := ⟨rfl, rfl, rfl, by decide +kernel, rfl, by decide +kernel, by decide +kernel⟩
theorem g_good_befores (Z : Zs fa fn ex K mg) : GFn P w K mg base "good_befores" ["rule", "stretch", "size", "some"] 3 false m_good_befores := by
  rw [m_good_befores_eq]
  obtain ⟨fd, F⟩ := Z.fnd 31 _ rfl
  have ND : (n_good_befores).Nodup := (sc_good_befores).nd
  refine ⟨⟨fd, F.bindsN (fun _ _ _ _ _ _ us hl => match us, hl with | [_, _, _, _], _ => rfl), fn_mk F sc_good_befores fun cdv A outer s H E hcd hr => ?_⟩, Z.gl 57, F.kp⟩
  exact (css_cons (cs_asgG (ce_var 1) (gm_tup [4, 5, 6] rfl (pgs_cons (pg_name (i := 4) ND rfl (by first | exact .inl rfl | exact .inr rfl)) (pgs_cons (pg_name (i := 5) ND rfl (by first | exact .inl rfl | exact .inr rfl)) (pgs_cons (pg_name (i := 6) ND rfl (by first | exact .inl rfl | exact .inr rfl)) pgs_nil))))) (css_cons (cs_asgG (ce_tup (ca_cons (ce_meth (g_Rule_bad_at Z) (hr.mono (by decide)) tkF (ce_var 0) (ca_cons (ce_var 4) ca_nil)) (ca_cons (ce_meth (g_Rule_bad_at Z) (hr.mono (by decide)) tkF (ce_var 0) (ca_cons (ce_var 6) ca_nil)) ca_nil))) (gm_tup [7, 8] rfl (pgs_cons (pg_name (i := 7) ND rfl (by first | exact .inl rfl | exact .inr rfl)) (pgs_cons (pg_name (i := 8) ND rfl (by first | exact .inl rfl | exact .inr rfl)) pgs_nil)))) (css_one (cs_ret (ce_sh (ce_lc (.nm 9) ND (ci_seq (ce_var 3)) (blkOk_by (N := n_good_befores) (sc := defScope (top 21)) (own := [("before", 9)]) (by decide +kernel)) rfl (by decide) (fun _ _ _ _ _ => pg_name (i := 9) ND rfl (by first | exact .inl rfl | exact .inr rfl)) (fun _ _ _ _ _ => (cts_one ((cw_and (t_nin (ce_var 9) (ce_var 7)) (cw_and1 (t_nin (c_sub (c_sub (ce_var 5) (ce_var 2)) (ce_var 9)) (ce_var 8))))).pt)) (fun _ _ _ _ _ => (ce_var 9))))))))
abbrev n_let : List Str := ["rule", "stretch", "size", "some", "good"]
theorem sc_let : FnScope n_let ["rule", "stretch", "size"] (defScope (top 22)) := ⟨rfl, rfl, rfl, by decide +kernel, rfl, by decide +kernel, by decide +kernel⟩
theorem g_let (Z : Zs fa fn ex K mg) : GFn P w K mg base "let" ["rule", "stretch", "size"] 5 false m_let := by
  rw [m_let_eq]
  obtain ⟨fd, F⟩ := Z.fnd 32 _ rfl
  have ND : (n_let).Nodup := (sc_let).nd
  refine ⟨⟨fd, F.bindsN (fun _ _ _ _ _ _ us hl => match us, hl with | [_, _, _], _ => rfl), fn_mk F sc_let fun cdv A outer s H E hcd hr => ?_⟩, Z.gl 58, F.kp⟩
  exact (css_cons (cs_asg 3 ND (ce_call (g_possible Z) (hr.mono (by decide)) tkF (ca_cons (ce_var 0) (ca_cons (ce_var 1) (ca_cons (ce_var 2) ca_nil))))) (css_cons (cs_asg 4 ND (ce_call (g_good_befores Z) (hr.mono (by decide)) tkF (ca_cons (ce_var 0) (ca_cons (ce_var 1) (ca_cons (ce_var 2) (ca_cons (ce_var 3) ca_nil)))))) (css_one (cs_ret (ce_if ((cw_and (t_eq (hr.units) (ce_var 4) (ce_sh (ce_lst ca_nil))) (cw_and1 (tT_of (by intro _; rfl) (ce_prop (propB_ok (k := 0) (Z_ex4 Z) (Z.cls 17) (Z.noat 20)) (hr.mono (by decide)) (ce_var 0)))))).pt (ce_var 3) (ce_var 4))))))
abbrev n_offered : List Str := ["rule", "stretch", "size", "found"]
theorem sc_offered : FnScope n_offered ["rule", "stretch", "size"] (defScope (top 23)) := ⟨rfl, rfl, rfl, by decide +kernel, rfl, by decide +kernel, by decide +kernel⟩
theorem g_offered (Z : Zs fa fn ex K mg) : GFn P w K mg base "offered" ["rule", "stretch", "size"] 6 false m_offered := by
  rw [m_offered_eq]
  obtain ⟨fd, F⟩ := Z.fnd 33 _ rfl
  have ND : (n_offered).Nodup := (sc_offered).nd
  refine ⟨⟨fd, F.bindsN (fun _ _ _ _ _ _ us hl => match us, hl with | [_, _, _], _ => rfl), fn_mk F sc_offered fun cdv A outer s H E hcd hr => ?_⟩, Z.gl 59, F.kp⟩
  exact (css_cons (cs_asg 3 ND (ce_call (g_let Z) (hr.mono (by decide)) tkF (ca_cons (ce_var 0) (ca_cons (ce_var 1) (ca_cons (ce_var 2) ca_nil))))) (css_one (cs_ret (ce_if (t_gt (ce_prop (propB_ok (k := 0) (Z_ex5 Z) (Z.cls 17) (Z.noat 22)) (hr.mono (by decide)) (ce_var 0)) ce_int) (ce_sh (ce_slL (ce_var 3) co_none (co_some (ce_prop (propB_ok (k := 0) (Z_ex5 Z) (Z.cls 17) (Z.noat 22)) (hr.mono (by decide)) (ce_var 0))))) (ce_var 3)))))
abbrev n_sales : List Str := ["rule", "stretch", "size", "before"]
theorem sc_sales : FnScope n_sales ["rule", "stretch"] (defScope (top 24)) := ⟨rfl, rfl, rfl, by decide +kernel, rfl, by decide +kernel, by decide +kernel⟩
theorem g_sales (Z : Zs fa fn ex K mg) : GFn P w K mg base "sales" ["rule", "stretch"] 7 false m_sales := by
  rw [m_sales_eq]
  obtain ⟨fd, F⟩ := Z.fnd 34 _ rfl
  have ND : (n_sales).Nodup := (sc_sales).nd
  refine ⟨⟨fd, F.bindsN (fun _ _ _ _ _ _ us hl => match us, hl with | [_, _], _ => rfl), fn_mk F sc_sales fun cdv A outer s H E hcd hr => ?_⟩, Z.gl 60, F.kp⟩
  exact (css_one (cs_ret (ce_sh (ce_lc2 (vs1 := [3]) (.nm 2) (.nm 3) ND (ci_seq (ce_prop (propB_ok (k := 0) (Z_ex2 Z) (Z.cls 17) (Z.noat 18)) (hr.mono (by decide)) (ce_var 0))) (blkOk_by (N := n_sales) (sc := defScope (top 24)) (own := [("size", 2), ("before", 3)]) (by decide +kernel)) rfl (by decide) (by decide) (by decide) (fun _ _ _ _ _ => pg_name (i := 2) ND rfl (by first | exact .inl rfl | exact .inr rfl)) (fun _ _ _ _ _ => cts_nil) (fun _ _ _ _ _ => (ci_seq (ce_call (g_offered Z) (hr.mono (by decide)) takes0 (ca_cons (ce_var 0) (ca_cons (ce_var 1) (ca_cons (ce_var 2) ca_nil)))))) (fun _ _ _ _ _ => pg_name (i := 3) ND rfl (by first | exact .inl rfl | exact .inr rfl)) (fun _ _ _ _ _ => cts_nil) (fun _ _ _ _ _ => (ce_tup (ca_cons (ce_var 2) (ca_cons (ce_var 3) ca_nil))))))))
abbrev n_fits : List Str := ["stretch", "size", "before"]
theorem sc_fits : FnScope n_fits ["stretch", "size", "before"] (defScope (top 16)) := ⟨rfl, rfl, rfl, by decide +kernel, rfl, by decide +kernel, by decide +kernel⟩
theorem g_fits (Z : Zs fa fn ex K mg) : GFn P w K mg base "fits" ["stretch", "size", "before"] 3 false m_fits := by
  rw [m_fits_eq]
  obtain ⟨fd, F⟩ := Z.fnd 35 _ rfl
  have ND : (n_fits).Nodup := (sc_fits).nd
  refine ⟨⟨fd, F.bindsN (fun _ _ _ _ _ _ us hl => match us, hl with | [_, _, _], _ => rfl), fn_mk F sc_fits fun cdv A outer s H E hcd hr => ?_⟩, Z.gl 61, F.kp⟩
  exact (css_one (cs_ret (ce_and (ce_call (g_is_size Z) (hr.mono (by decide)) tkF (ca_cons (ce_var 1) ca_nil)) (ce_and (ce_call (g_is_number Z) (hr.mono (by decide)) tkF (ca_cons (ce_var 2) ca_nil)) (ce_one (c_le (ce_add (ce_var 2) (ce_var 1)) (ce_sub (hr.units) (ce_var 0) ce_int)))))))
abbrev n_parts : List Str := ["stretch", "size", "before", "left", "length", "right"]
theorem sc_parts : FnScope n_parts ["stretch", "size", "before"] (defScope (top 17)) := ⟨rfl, rfl, rfl, by decide +kernel, rfl, by decide +kernel, by decide +kernel⟩
theorem g_parts (Z : Zs fa fn ex K mg) : GFn P w K mg base "parts" ["stretch", "size", "before"] 4 false m_parts := by
  rw [m_parts_eq]
  obtain ⟨fd, F⟩ := Z.fnd 36 _ rfl
  have ND : (n_parts).Nodup := (sc_parts).nd
  refine ⟨⟨fd, F.bindsN (fun _ _ _ _ _ _ us hl => match us, hl with | [_, _, _], _ => rfl), fn_mk F sc_parts fun cdv A outer s H E hcd hr => ?_⟩, Z.gl 62, F.kp⟩
  exact (css_cons (cs_if (ct_not (tT_of (by intro _; rfl) (ce_call (g_fits Z) (hr.mono (by decide)) tkF (ca_cons (ce_var 0) (ca_cons (ce_var 1) (ca_cons (ce_var 2) ca_nil)))))) (css_one cs_never) css_nil) (css_cons (cs_asgG (ce_var 0) (gm_tup [3, 4, 5] rfl (pgs_cons (pg_name (i := 3) ND rfl (by first | exact .inl rfl | exact .inr rfl)) (pgs_cons (pg_name (i := 4) ND rfl (by first | exact .inl rfl | exact .inr rfl)) (pgs_cons (pg_name (i := 5) ND rfl (by first | exact .inl rfl | exact .inr rfl)) pgs_nil))))) (css_one (cs_ret (ce_tup (ca_cons (ce_tup (ca_cons (ce_var 3) (ca_cons (ce_var 2) (ca_cons ce_str ca_nil)))) (ca_cons (ce_tup (ca_cons ce_str (ca_cons (c_sub (c_sub (ce_var 4) (ce_var 1)) (ce_var 2)) (ca_cons (ce_var 5) ca_nil)))) ca_nil)))))))
abbrev n_split : List Str := ["rule", "stretch", "found", "size", "before", "first", "second", "some", "one"]
theorem sc_split : FnScope n_split ["rule", "stretch"] (defScope (top 26)) := ⟨rfl, rfl, rfl, by decide +kernel, rfl, by decide +kernel, by decide +kernel⟩
theorem g_split (Z : Zs fa fn ex K mg) : GFn P w K mg base "split" ["rule", "stretch"] 8 false m_split := by
  rw [m_split_eq]
  obtain ⟨fd, F⟩ := Z.fnd 37 _ rfl
  have ND : (n_split).Nodup := (sc_split).nd
  refine ⟨⟨fd, F.bindsN (fun _ _ _ _ _ _ us hl => match us, hl with | [_, _], _ => rfl), fn_mk F sc_split fun cdv A outer s H E hcd hr => ?_⟩, Z.gl 63, F.kp⟩
  exact (css_cons (cs_own 2 ND (ce_lst ca_nil)) (css_cons (cs_for poF (ci_seq (ce_call (g_sales Z) (hr.mono (by decide)) tkF (ca_cons (ce_var 0) (ca_cons (ce_var 1) ca_nil)))) (gm_tup [3, 4] rfl (pgs_cons (pg_name (i := 3) ND rfl (by first | exact .inl rfl | exact .inr rfl)) (pgs_cons (pg_name (i := 4) ND rfl (by first | exact .inl rfl | exact .inr rfl)) pgs_nil))) (css_cons (cs_asgG (ce_call (g_parts Z) (hr.mono (by decide)) tkF (ca_cons (ce_var 1) (ca_cons (ce_var 3) (ca_cons (ce_var 4) ca_nil)))) (gm_tup [5, 6] rfl (pgs_cons (pg_name (i := 5) ND rfl (by first | exact .inl rfl | exact .inr rfl)) (pgs_cons (pg_name (i := 6) ND rfl (by first | exact .inl rfl | exact .inr rfl)) pgs_nil)))) (css_cons (cs_asg 7 ND (ce_sh (ce_lst (ca_cons (ce_tup (ca_cons (ce_tup (ca_cons (ce_var 4) (ca_cons (ce_var 3) ca_nil))) (ca_cons ce_int (ca_cons (ce_var 5) ca_nil)))) (ca_cons (ce_tup (ca_cons (ce_tup (ca_cons (ce_var 4) (ca_cons (ce_var 3) ca_nil))) (ca_cons (ce_add (ce_var 4) (ce_var 3)) (ca_cons (ce_var 6) ca_nil)))) ca_nil))))) (css_one (c_ext 2 (ce_sh (ce_lc (.nm 8) ND (ci_seq (ce_var 7)) (blkOk_by (N := n_split) (sc := defScope (top 26)) (own := [("one", 8)]) (by decide +kernel)) rfl (by decide) (fun _ _ _ _ _ => pg_name (i := 8) ND rfl (by first | exact .inl rfl | exact .inr rfl)) (fun _ _ _ _ _ => (cts_one (t_gt (ce_sub (hr.units) (ce_sub (hr.units) (ce_var 8) ce_int) ce_int) ce_int))) (fun _ _ _ _ _ => (ce_var 8))))))))) (css_freeze 2 (css_one (cs_ret (ce_var 2))))))
abbrev n_ways : List Str := ["rule", "stretch", "found", "waiting", "here", "play", "seat", "before", "size", "place", "part"]
theorem sc_ways : FnScope n_ways ["rule", "stretch"] (defScope (top 27)) := ⟨rfl, rfl, rfl, by decide +kernel, rfl, by decide +kernel, by decide +kernel⟩
theorem g_ways (Z : Zs fa fn ex K mg) : GFn P w K mg base "ways" ["rule", "stretch"] 9 true m_ways := by
  rw [m_ways_eq]
  obtain ⟨fd, F⟩ := Z.fnd 38 _ rfl
  have ND : (n_ways).Nodup := (sc_ways).nd
  refine ⟨⟨fd, F.bindsN (fun _ _ _ _ _ _ us hl => match us, hl with | [_, _], _ => rfl), fn_mk F sc_ways fun cdv A outer s H E hcd hr => ?_⟩, Z.gl 64, F.kp⟩
  exact (css_cons (cs_par true true ND (ce_disp1T (hr.units) (ce_var 1) (ce_tup (ca_cons (ce_sh (ce_lst ca_nil)) (ca_cons ce_int ca_nil)))) (ce_lst (ca_cons (ce_var 1) ca_nil))) (css_cons (cs_while poF (ct_peek 3 (t_ne (hr.units) (ce_var 3) (ce_sh (ce_lst ca_nil)))) (css_cons (cs_pop0 3 (gm_name 4 ND)) (css_cons (cs_asgG (ce_ownIx 2 (hr.units) (ce_var 4)) (gm_tup [5, 6] rfl (pgs_cons (pg_name (i := 5) ND rfl (by first | exact .inl rfl | exact .inr rfl)) (pgs_cons (pg_name (i := 6) ND rfl (by first | exact .inl rfl | exact .inr rfl)) pgs_nil)))) (css_one (cs_for poF (ci_seq (ce_call (g_split Z) (hr.mono (by decide)) tkF (ca_cons (ce_var 0) (ca_cons (ce_var 4) ca_nil)))) (gm_tr (.tp [.tp [.nm 7, .nm 8], .nm 9, .nm 10]) (gr_tp (grs_cons (gr_tp (grs_cons (gr_nm 7 ND) (grs_cons (gr_nm 8 ND) grs_nil))) (grs_cons (gr_nm 9 ND) (grs_cons (gr_nm 10 ND) grs_nil))))) (css_one (cs_if (ct_peek 2 (t_ninK (hr.units) (ce_var 10) (ce_var 2))) (css_cons (cs_setT 2 (u1 hr.units) (ce_var 10) (ce_tup (ca_cons (ce_add (ce_var 5) (ce_sh (ce_lst (ca_cons (ce_tup (ca_cons (ce_add (ce_var 6) (ce_var 7)) (ca_cons (ce_var 8) ca_nil))) ca_nil)))) (ca_cons (ce_add (ce_var 6) (ce_var 9)) ca_nil)))) (css_one (c_app 3 (ce_var 10)))) css_nil))))))) (css_one (cs_retOwn 2))))
abbrev n_way_to : List Str := ["rule", "stretch", "other", "found"]
theorem sc_way_to : FnScope n_way_to ["rule", "stretch", "other"] (defScope (top 28)) := ⟨rfl, rfl, rfl, by decide +kernel, rfl, by decide +kernel, by decide +kernel⟩
theorem g_way_to (Z : Zs fa fn ex K mg) : GFn P w K mg base "way_to" ["rule", "stretch", "other"] 10 true m_way_to := by
  rw [m_way_to_eq]
  obtain ⟨fd, F⟩ := Z.fnd 39 _ rfl
  have ND : (n_way_to).Nodup := (sc_way_to).nd
  refine ⟨⟨fd, F.bindsN (fun _ _ _ _ _ _ us hl => match us, hl with | [_, _, _], _ => rfl), fn_mk F sc_way_to fun cdv A outer s H E hcd hr => ?_⟩, Z.gl 65, F.kp⟩
  exact (css_cons (cs_asg 3 ND (ce_sh (ce_call (g_ways Z) (hr.mono (by decide)) tkF (ca_cons (ce_var 0) (ca_cons (ce_var 1) ca_nil))))) (css_one (cs_ret (ce_if ((cw_and (t_inK (hr.units) (ce_var 2) (ce_var 3)) (cw_and1 (t_gt (ce_sub (hr.units) (ce_var 2) ce_int) ce_int)))).pt (c_list (Z.fr 9) (ce_sub (hr.units) (ce_sub (hr.units) (ce_var 3) (ce_var 2)) ce_int)) ce_nonF))))
abbrev n__law_is_whole_number : List Str := ["_law_thing"]
theorem sc__law_is_whole_number : FnScope n__law_is_whole_number ["_law_thing"] (defScope (top 53)) := ⟨rfl, rfl, rfl, by decide +kernel, rfl, by decide +kernel, by decide +kernel⟩
theorem g__law_is_whole_number (Z : Zs fa fn ex K mg) : GFn P w K mg base "_law_is_whole_number" ["_law_thing"] 1 false m__law_is_whole_number := by
  rw [m__law_is_whole_number_eq]
  obtain ⟨fd, F⟩ := Z.fnd 40 _ rfl
  have ND : (n__law_is_whole_number).Nodup := (sc__law_is_whole_number).nd
  refine ⟨⟨fd, F.bindsN (fun _ _ _ _ _ _ us hl => match us, hl with | [_], _ => rfl), fn_mk F sc__law_is_whole_number fun cdv A outer s H E hcd hr => ?_⟩, Z.gl 66, F.kp⟩
  exact (css_one (cs_ret (ce_and (ce_isi (Z.fr 5) (Z.fr 7) PyProof.Rows.boot_int (ce_var 0)) (ce_one (ce_not (ce_isi (Z.fr 5) (Z.fr 6) PyProof.Rows.boot_bool (ce_var 0)))))))
abbrev n__law_is_stretch_play : List Str := ["_law_thing", "_law_sale", "_law_part"]
theorem sc__law_is_stretch_play : FnScope n__law_is_stretch_play ["_law_thing"] (defScope (top 58)) := ⟨rfl, rfl, rfl, by decide +kernel, rfl, by decide +kernel, by decide +kernel⟩
theorem g__law_is_stretch_play (Z : Zs fa fn ex K mg) : GFn P w K mg base "_law_is_stretch_play" ["_law_thing"] 2 false m__law_is_stretch_play := by
  rw [m__law_is_stretch_play_eq]
  obtain ⟨fd, F⟩ := Z.fnd 41 _ rfl
  have ND : (n__law_is_stretch_play).Nodup := (sc__law_is_stretch_play).nd
  refine ⟨⟨fd, F.bindsN (fun _ _ _ _ _ _ us hl => match us, hl with | [_], _ => rfl), fn_mk F sc__law_is_stretch_play fun cdv A outer s H E hcd hr => ?_⟩, Z.gl 67, F.kp⟩
  exact (css_cons (cs_if (ct_not (tT_of (by intro _; rfl) (ce_isi (Z.fr 5) (Z.fr 9) PyProof.Rows.boot_list (ce_var 0)))) (css_one (cs_ret ce_bl)) css_nil) (css_cons (cs_for poF (ci_seq (ce_var 0)) (gm_name 1 ND) (css_cons (cs_if ((cw_or (ct_not (tT_of (by intro _; rfl) (ce_isi (Z.fr 5) (Z.fr 10) PyProof.Rows.boot_tuple (ce_var 1)))) (cw_or1 (t_ne (hr.units) (c_len (Z.fr 3) (ce_var 1)) ce_int)))).pt (css_one (cs_ret ce_bl)) css_nil) (css_one (cs_if (t_ne (hr.units) (ce_sh (ce_lc (.nm 2) ND (ci_seq (ce_var 1)) (blkOk_by (N := n__law_is_stretch_play) (sc := defScope (top 58)) (own := [("_law_part", 2)]) (by decide +kernel)) rfl (by decide) (fun _ _ _ _ _ => pg_name (i := 2) ND rfl (by first | exact .inl rfl | exact .inr rfl)) (fun _ _ _ _ _ => (cts_one (ct_not (tT_of (by intro _; rfl) (ce_call (g__law_is_whole_number Z) (hr.mono (by decide)) takes0 (ca_cons (ce_var 2) ca_nil)))))) (fun _ _ _ _ _ => (ce_var 2)))) (ce_sh (ce_lst ca_nil))) (css_one (cs_ret ce_bl)) css_nil)))) (css_one (cs_ret ce_bl))))
abbrev n__law_sold : List Str := ["_law_told", "_law_here", "_law_sale", "_law_at", "_law_row", "_law_seat", "_law_stretch_here", "_law_first", "_law_second", "_law_some", "_law_one_here"]
theorem sc__law_sold : FnScope n__law_sold ["_law_told", "_law_here", "_law_sale"] (defScope (top 54)) := ⟨rfl, rfl, rfl, by decide +kernel, rfl, by decide +kernel, by decide +kernel⟩
theorem g__law_sold (Z : Zs fa fn ex K mg) : GFn P w K mg base "_law_sold" ["_law_told", "_law_here", "_law_sale"] 3 false m__law_sold := by
  rw [m__law_sold_eq]
  obtain ⟨fd, F⟩ := Z.fnd 42 _ rfl
  have ND : (n__law_sold).Nodup := (sc__law_sold).nd
  refine ⟨⟨fd, F.bindsN (fun _ _ _ _ _ _ us hl => match us, hl with | [_, _, _], _ => rfl), fn_mk F sc__law_sold fun cdv A outer s H E hcd hr => ?_⟩, Z.gl 68, F.kp⟩
  exact (css_cons (cs_for poF (ci_enum (Z.fr 23) (ce_var 1)) (gm_tr (.tp [.nm 3, .tp [.nm 4, .nm 5, .nm 6]]) (gr_tp (grs_cons (gr_nm 3 ND) (grs_cons (gr_tp (grs_cons (gr_nm 4 ND) (grs_cons (gr_nm 5 ND) (grs_cons (gr_nm 6 ND) grs_nil)))) grs_nil)))) (css_one (cs_if ((cw_and (t_eq (hr.units) (ce_var 4) (ce_sub (hr.units) (ce_var 2) ce_int)) (cw_and (t_in (ce_sub (hr.units) (ce_var 2) ce_int) (ce_sub (hr.units) (ce_var 0) ce_str)) (cw_and1 (t_in (c_sub (ce_sub (hr.units) (ce_var 2) ce_int) (ce_var 5)) (ce_call (g__law_offers Z) (hr.mono (by decide)) tkF (ca_cons (ce_var 0) (ca_cons (ce_var 6) (ca_cons (ce_sub (hr.units) (ce_var 2) ce_int) ca_nil))))))))).pt (css_cons (cs_asgG (ce_call (g__law_parted Z) (hr.mono (by decide)) tkF (ca_cons (ce_var 6) (ca_cons (ce_sub (hr.units) (ce_var 2) ce_int) (ca_cons (c_sub (ce_sub (hr.units) (ce_var 2) ce_int) (ce_var 5)) ca_nil)))) (gm_tup [7, 8] rfl (pgs_cons (pg_name (i := 7) ND rfl (by first | exact .inl rfl | exact .inr rfl)) (pgs_cons (pg_name (i := 8) ND rfl (by first | exact .inl rfl | exact .inr rfl)) pgs_nil)))) (css_cons (cs_asg 9 ND (ce_sh (ce_lst (ca_cons (ce_tup (ca_cons (ce_var 4) (ca_cons (ce_var 5) (ca_cons (ce_var 7) ca_nil)))) (ca_cons (ce_tup (ca_cons (ce_var 4) (ca_cons (ce_add (ce_sub (hr.units) (ce_var 2) ce_int) (ce_sub (hr.units) (ce_var 2) ce_int)) (ca_cons (ce_var 8) ca_nil)))) ca_nil))))) (css_one (cs_ret (ce_add (ce_add (ce_sh (ce_slL (ce_var 1) co_none (co_some (ce_var 3)))) (ce_sh (ce_lc (.nm 10) ND (ci_seq (ce_var 9)) (blkOk_by (N := n__law_sold) (sc := defScope (top 54)) (own := [("_law_one_here", 10)]) (by decide +kernel)) rfl (by decide) (fun _ _ _ _ _ => pg_name (i := 10) ND rfl (by first | exact .inl rfl | exact .inr rfl)) (fun _ _ _ _ _ => (cts_one (t_gt (ce_sub (hr.units) (ce_sub (hr.units) (ce_var 10) ce_int) ce_int) ce_int))) (fun _ _ _ _ _ => (ce_var 10))))) (ce_sh (ce_slL (ce_var 1) (co_some (ce_add (ce_var 3) ce_int)) co_none))))))) css_nil))) (css_one (cs_ret ce_non)))
abbrev n__law_behind : List Str := ["_law_told", "_law_stretch_here", "_law_play", "_law_here", "_law_seat", "_law_size", "_law_one_here"]
theorem sc__law_behind : FnScope n__law_behind ["_law_told", "_law_stretch_here", "_law_play"] (defScope (top 57)) := ⟨rfl, rfl, rfl, by decide +kernel, rfl, by decide +kernel, by decide +kernel⟩
theorem g__law_behind (Z : Zs fa fn ex K mg) : GFn P w K mg base "_law_behind" ["_law_told", "_law_stretch_here", "_law_play"] 4 true m__law_behind := by
  rw [m__law_behind_eq]
  obtain ⟨fd, F⟩ := Z.fnd 43 _ rfl
  have ND : (n__law_behind).Nodup := (sc__law_behind).nd
  refine ⟨⟨fd, F.bindsN (fun _ _ _ _ _ _ us hl => match us, hl with | [_, _, _], _ => rfl), fn_mk F sc__law_behind fun cdv A outer s H E hcd hr => ?_⟩, Z.gl 69, F.kp⟩
  exact (css_cons (cs_asg 3 ND (ce_if (t_gt (ce_sub (hr.units) (ce_var 1) ce_int) ce_int) (ce_sh (ce_lst (ca_cons (ce_tup (ca_cons ce_int (ca_cons ce_int (ca_cons (ce_var 1) ca_nil)))) ca_nil))) (ce_sh (ce_lst ca_nil)))) (css_cons (cs_for poF (ci_seq (ce_var 2)) (gm_tup [4, 5] rfl (pgs_cons (pg_name (i := 4) ND rfl (by first | exact .inl rfl | exact .inr rfl)) (pgs_cons (pg_name (i := 5) ND rfl (by first | exact .inl rfl | exact .inr rfl)) pgs_nil))) (css_cons (cs_asg 3 ND (ce_call (g__law_sold Z) (hr.mono (by decide)) tkF (ca_cons (ce_var 0) (ca_cons (ce_var 3) (ca_cons (ce_tup (ca_cons ce_int (ca_cons (ce_var 4) (ca_cons (ce_var 5) ca_nil)))) ca_nil))))) (css_one (cs_if (t_isN (ce_var 3) ce_non) (css_one (cs_ret ce_nonF)) css_nil)))) (css_one (cs_ret (ce_lc (.nm 6) ND (ci_seq (ce_var 3)) (blkOk_by (N := n__law_behind) (sc := defScope (top 57)) (own := [("_law_one_here", 6)]) (by decide +kernel)) rfl (by decide) (fun _ _ _ _ _ => pg_name (i := 6) ND rfl (by first | exact .inl rfl | exact .inr rfl)) (fun _ _ _ _ _ => cts_nil) (fun _ _ _ _ _ => (ce_sub (hr.units) (ce_var 6) ce_int)))))))
abbrev n__law_right : List Str := ["_law_rule_here", "_law_known", "_law_stretch_here", "_law_other", "_law_told", "_law_found", "_law_here", "_law_kept"]
theorem sc__law_right : FnScope n__law_right ["_law_rule_here", "_law_known", "_law_stretch_here", "_law_other", "_law_told"] (defScope (top 60)) := ⟨rfl, rfl, rfl, by decide +kernel, rfl, by decide +kernel, by decide +kernel⟩
theorem g__law_right (Z : Zs fa fn ex K mg) : GFn P w K mg base "_law_right" ["_law_rule_here", "_law_known", "_law_stretch_here", "_law_other", "_law_told"] 11 false m__law_right := by
  rw [m__law_right_eq]
  obtain ⟨fd, F⟩ := Z.fnd 44 _ rfl
  have ND : (n__law_right).Nodup := (sc__law_right).nd
  refine ⟨⟨fd, F.bindsN (fun _ _ _ _ _ _ us hl => match us, hl with | [_, _, _, _, _], _ => rfl), fn_mk F sc__law_right fun cdv A outer s H E hcd hr => ?_⟩, Z.gl 70, F.kp⟩
  exact (css_cons (cs_own 5 ND (ce_call (g_way_to Z) (hr.mono (by decide)) tkF (ca_cons (ce_var 0) (ca_cons (ce_var 2) (ca_cons (ce_var 3) ca_nil))))) (css_cons (cs_if ((cw_or (t_ninK (hr.units) (ce_var 3) (ce_var 1)) (cw_or1 (t_eq (hr.units) (ce_sub (hr.units) (ce_var 3) ce_int) ce_int)))).pt (css_one (cs_ret (ce_peek 5 (c_isN (ce_var 5) ce_non)))) css_nil) (css_cons (cs_if ((cw_or (ct_not (tT_of (by intro _; rfl) (ce_peek 5 (ce_call (g__law_is_stretch_play Z) (hr.mono (by decide)) tkF (ca_cons (ce_var 5) ca_nil))))) (cw_or1 (ct_peek 5 (t_ne (hr.units) (c_len (Z.fr 3) (ce_var 5)) (ce_sub (hr.units) (ce_var 1) (ce_var 3))))))).pt (css_one (cs_ret ce_bl)) css_nil) (css_cons (cs_par false false ND (ce_orT (ce_sh (ce_peekF 5 (ce_call (g__law_behind Z) (hr.mono (by decide)) tkF (ca_cons (ce_var 4) (ca_cons (ce_var 2) (ca_cons (ce_var 5) ca_nil)))))) (ce_one (ce_sh (ce_lst ca_nil)))) (ce_sh (ce_peekF 5 (c_list (Z.fr 9) (ce_var 5))))) (css_cons (c_app 5 ce_non) (css_one (cs_ret (ce_and (c_inDD (hr.units65) (ce_var 3) (ce_var 6)) (ce_one (c_eq (hr.units) (ce_sh (ce_call (g_way_to Z) (hr.mono (by decide)) tkF (ca_cons (ce_var 0) (ca_cons (ce_var 2) (ca_cons (ce_var 3) ca_nil))))) (ce_var 7)))))))))))
abbrev n_law : List Str := ["_law_script", "_law_bag_here", "_law_turn", "_law_told", "_law_stretch_here", "_law_rule_here", "_law_near", "_law_known", "_law_others", "_law_other", "_law_k", "_law_at"]
theorem sc_law : FnScope n_law ["_law_script"] (defScope (top 61)) := ⟨rfl, rfl, rfl, by decide +kernel, rfl, by decide +kernel, by decide +kernel⟩
theorem k_law (Z : Zs fa fn ex K mg) (hv : ms_law mdLaw (.no :: .sh .bag :: List.replicate 10 .no)) (hbag : ∀ (ns : List Int) (k : D → Prop), ns.length ≤ 63 → (∀ ms, k (bag4 ms)) → m__law_bag [.scr ns] k no1) : ∃ fd, (∀ (s : Shared) (v : Value), BindsTo s fd ⟨[v], []⟩ [("_law_script", v)]) ∧ ∀ base, FnG P w K mg base (L2.CX P w) 12 (He.ga K "law") fd ["_law_script"] (spLaw K) := by
  obtain ⟨fd, F⟩ := Z.fnd 45 _ rfl
  have ND : (n_law).Nodup := (sc_law).nd
  have b := FunD.bindsA (ps := ["_law_script"]) F fun _ _ _ _ _ _ us hl => match us, hl with | [_], _ => rfl
  refine ⟨fd, fun s v => b s [v] rfl, fun base => fn_law (mBag := m__law_bag) (mrest := ms_law) F sc_law rfl (by decide) rfl (fun cdv A outer s H E hcd hr => ⟨?_, ?_⟩) hbag hv⟩
  · exact cs_own 1 ND (ce_call (g__law_bag Z) (hr.mono (by decide)) tkF (ca_cons (ce_var 0) ca_nil))
  · exact (css_cons (cs_for poF (ci_range1 (Z.fr 1) ce_int) (gm_name 2 ND) (css_cons (cs_asgG (ce_if (t_gt (ce_var 2) ce_int) (ce_tup (ca_cons (ce_sh (ce_call (g__law_rule Z) (hr.mono (by decide)) tkF (ca_cons (ce_var 1) ca_nil))) (ca_cons (ce_call (g__law_stretch Z) (hr.mono (by decide)) tkF (ca_cons (ce_var 1) (ca_cons ce_int ca_nil))) ca_nil))) (ce_call (g__law_roomy Z) (hr.mono (by decide)) tkF (ca_cons (ce_var 1) ca_nil))) (gm_tup [3, 4] rfl (pgs_cons (pg_name (i := 3) ND rfl (by first | exact .inl rfl | exact .inr rfl)) (pgs_cons (pg_name (i := 4) ND rfl (by first | exact .inl rfl | exact .inr rfl)) pgs_nil)))) (css_cons (cs_par false false ND (ce_call (g__law_made Z) (hr.mono (by decide)) tkF (ca_cons (ce_var 3) ca_nil)) (ce_call (g__law_stretch Z) (hr.mono (by decide)) tkF (ca_cons (ce_var 1) (ca_cons ce_int ca_nil)))) (css_cons (cs_asg 7 ND (ce_sh (ce_lst (ca_cons (ce_sh (ce_call (g__law_coming Z) (hr.mono (by decide)) tkF (ca_cons (ce_var 3) (ca_cons (ce_var 4) ca_nil)))) (ca_cons (ce_sh (ce_call (g__law_coming Z) (hr.mono (by decide)) tkF (ca_cons (ce_var 3) (ca_cons (ce_var 6) ca_nil)))) ca_nil))))) (css_cons (cs_asg 8 ND (ce_add (ce_sh (ce_slL (ce_sh (ce_call (g__law_mixed Z) (hr.mono (by decide)) tkF (ca_cons (ce_var 1) (ca_cons (ce_sh (c_sortK (Z.fr 15) (hr.units) (ce_sub (hr.units) (ce_var 7) ce_int))) ca_nil)))) co_none (co_some ce_int))) (ce_sh (ce_slL (ce_sh (ce_call (g__law_mixed Z) (hr.mono (by decide)) tkF (ca_cons (ce_var 1) (ca_cons (ce_sh (c_sortK (Z.fr 15) (hr.units) (ce_sub (hr.units) (ce_var 7) ce_int))) ca_nil)))) co_none (co_some ce_int))))) (css_one (cs_for poF (ci_seq (ce_add (ce_add (ce_var 8) (ce_sh (ce_lc (.nm 10) ND (ci_range1 (Z.fr 1) ce_int) (blkOk_by (N := n_law) (sc := defScope (top 61)) (own := [("_law_k", 10)]) (by decide +kernel)) rfl (by decide) (fun _ _ _ _ _ => pg_name (i := 10) ND rfl (by first | exact .inl rfl | exact .inr rfl)) (fun _ _ _ _ _ => cts_nil) (fun _ _ _ _ _ => (ce_call (g__law_stretch Z) (hr.mono (by decide)) takes0 (ca_cons (ce_var 1) (ca_cons ce_int ca_nil))))))) (ce_sh (ce_lst (ca_cons (ce_var 4) (ca_cons (ce_var 6) ca_nil)))))) (gm_name 9 ND) (css_one (cs_for poF (ci_seq (ce_sh (ce_call (g__law_mixed Z) (hr.mono (by decide)) tkF (ca_cons (ce_var 1) (ca_cons (ce_sh (ce_lst (ca_cons ce_int (ca_cons ce_int ca_nil)))) ca_nil))))) (gm_name 11 ND) (css_one (cs_if (ct_not (tT_of (by intro _; rfl) (ce_call (g__law_right Z) (hr.mono (by decide)) tkF (ca_cons (ce_var 5) (ca_cons (ce_sub (hr.units) (ce_var 7) (ce_var 11)) (ca_cons (ce_sub (hr.units) (ce_sh (ce_lst (ca_cons (ce_var 4) (ca_cons (ce_var 6) ca_nil)))) (ce_var 11)) (ca_cons (ce_var 9) (ca_cons (ce_var 3) ca_nil)))))))) (css_one (cs_ret ce_bl)) css_nil))))))))))) (css_one (cs_ret ce_bl)))
end LW
end
set_option Elab.async false
set_option linter.all false
set_option maxRecDepth 100000
set_option maxHeartbeats 0
namespace LW
open PySem L2 Evl DM
section
variable {P : Program} {w : World} {K : PySem.W.Frag} {mg : Str → Option Value}
theorem k_law0 (Z : Zs fa fn ex K mg) : ∃ fd, (∀ (s : Shared) (v : Value), BindsTo s fd ⟨[v], []⟩ [("_law_script", v)]) ∧ ∀ base, FnG P w K mg base (L2.CX P w) 12 (He.ga K "law") fd ["_law_script"] (spLaw K) := k_law Z law_ok bag_ok
end
def ls0 : List PySem.Str := ["_wall", "LoneError", "Wrong", "NoEnd", "NoSize", "NoChoice", "ENDS", "MOST_SIZE", "is_integer", "is_number", "is_end", "is_size", "are_sizes", "fits", "parts", "check_size", "possible", "good_befores", "let", "offered"]
def ls1 : List PySem.Str := ["sales", "split", "ways", "way_to", "PLACES", "MOST_OFFER", "are_bad", "is_offer", "first_wrong", "Rule", "_law_bag", "_law_take", "_law_mixed", "_law_one", "_law_ends", "_law_end", "_law_lengths", "_law_sizes", "_law_rule", "_law_made"]
def ls2 : List PySem.Str := ["_law_stretch", "_law_befores", "_law_spoils", "_law_offers", "_law_all_sales", "_law_parted", "_law_is_whole_number", "_law_sold", "_law_children", "_law_coming", "_law_behind", "_law_is_stretch_play", "_law_roomy", "_law_right"]
def loose : List PySem.Str := ls0 ++ ls1 ++ ls2
abbrev R : PySem.W.OpenRow := PySem.W.OpenLaw.row PySem.Challenge.rw_loneseats_k62_plays_to_stretches
abbrev hk : PySem.W.Hook := He.hookX 7 fa fn [] [] ex
def ob (s : PySem.W.SharedT) : He.AlX := He.obsX 7 fa fn [] [] ex (HandSHeadRun.getT s)
theorem ob_eq (s : PySem.W.SharedT) : ob s = hk.obs s.abs := He.obsX_eq (HandSHeadRun.getT_eq s)
theorem run (w : World) : HandSHeadRun.RunEq R (PySem.W.view R.prog [61]) hk ob 4000 loose w := by
  intro os
  kernel_rfl
end LW
open PySem PySem.W PySem.Calls PyProof.Rows
theorem PySem.Challenge.cw_loneseats_k62_plays_to_stretches_holds : PySem.Challenge.rw_loneseats_k62_plays_to_stretches.Holds := by
  w_on; o_law
  refine HandSHeadRun.head_any (r := OpenLaw.row PySem.Challenge.rw_loneseats_k62_plays_to_stretches) (q := view (OpenLaw.row PySem.Challenge.rw_loneseats_k62_plays_to_stretches).prog [61]) (H := LW.hk) (ob := LW.ob) (M := 4000) (loose := LW.loose) (d := HandSHeadRun.topDef (OpenLaw.row PySem.Challenge.rw_loneseats_k62_plays_to_stretches).prog 61) (kwd := []) LW.ob_eq
    (by kernel_rfl) (fun s => by kernel_rfl) LW.run (by kernel_rfl) (by kernel_rfl) (by kernel_rfl) (by rfl) (by first | assumption | decide +kernel) (by decide +kernel) ⟨rfl, rfl, rfl, rfl, rfl, by decide +kernel⟩ ?hw ?hc
  case hw => w_witness2
  case hc =>
    refine DM.walk_ofW (l := PySem.Challenge.rw_loneseats_k62_plays_to_stretches) (n := 63) (k := 12) (x := "_law_script") (CX := fun w => L2.CX (PySem.Challenge.rw_loneseats_k62_plays_to_stretches).prog w) rfl (by decide) (by kernel_rfl) ⟨⟨rfl, by decide, by decide⟩, rfl⟩ ?F (fun w H s e s' z => DM.cx_false z)
    intro w mg fa h Y G hmg0
    obtain ⟨K, KX, c⟩ := Y
    have Z := DM.Zs.of KX G c
    have hmg : mg ("law" : PySem.Str) = some (.ref fa) := by
      have e : (HandSHeadRun.topDef (OpenLaw.row PySem.Challenge.rw_loneseats_k62_plays_to_stretches).prog 61).name = ("law" : PySem.Str) := by kernel_rfl
      rw [← e]
      exact hmg0
    have e := hmg.symm.trans (Z.gl 24)
    cases e
    obtain ⟨fd, hb, hF⟩ := LW.k_law0 (P := (PySem.Challenge.rw_loneseats_k62_plays_to_stretches).prog) (w := w) Z
    exact ⟨K, fd, DM.spLaw K, KX, hb, fun H a ns hl hS => ⟨a, ns, rfl, hl, hS, fun _ => rfl⟩, fun base _ _ => hF base⟩
