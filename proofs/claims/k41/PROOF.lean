import PyProof.Rows.All
import Wide.All
import OpenK.AllK
import Wide.FinOn
import HandS.ForMost
import HandS.ForExc
import HandS.Ends
import HandS.Wide
import HandS.WideBits
import HandS.Style
import HandS.StrMore
import KE.KEqDict
import HandS.IsInst
import HandS.More
import HandS.Conv
import PyProof.AssignAttr
import HandS.ExcIs
import PyProof.ReprRoads
import PyProof.RowDictHeap
import KE.KDictZip
import PyProof.EnumMake
import HandS.SortInts
import HandS.Strs
import HandS.SetFor
import HandS.Text
import KE.SortData
import HandS.Deep
import HandS.Replace
import HandS.TupAny
import KE.GoesEnum
import PyProof.FitsInt
import PyProof.Rows.ReprOcc
import PyProof.ReprLen
import HandS.List
import PySem.Challenge.RW_twigfinds_k41_texts_that_write_no_tree
set_option Elab.async false
set_option linter.all false
set_option maxRecDepth 100000
/-! Data mirror, ahead of all: promises of defs where nothing is being shown (so that repr may be asked). -/
namespace DM
open PySem PySem.Spec PyProof.Rows L2
structure RoomG (k : Nat) (A : Around) : Prop where
  r : Room k A
  g : A.guards = some []
theorem RoomG.mono {k l : Nat} {A : Around} (h : RoomG l A) (e : k ≤ l) : RoomG k A := ⟨h.r.mono e, h.g⟩
theorem RoomG.deeper {k : Nat} {A : Around} (h : RoomG (k + 1) A) (env : PySem.Env) : RoomG k (A.deeper env) := ⟨h.r.deeper env, h.g⟩
theorem RoomG.units {k : Nat} {A : Around} (h : RoomG k A) : A.units + 64 < cLine := h.r.units
structure FnOkG (P : Program) (w : World) (K : PySem.W.Frag) (mg : Str → Option Value) (base : Heap) (CX : CXT) (k : Nat) (f : Addr) (fd : FuncData) (ps : List Str) (sp : Sp) : Prop where
  len : ∀ vs H Q E, sp vs H Q E → vs.length = ps.length
  run : ∀ (A : Around) (outer : List PySem.Env) (s : Shared) (H : Hp) (args : Args) (us : List Value) (vs : List V) (Q : VK) (E : XK), RoomG k A → Env0 P w K mg base A outer s H → BindsTo s fd args (ps.zip us) → Vals vs us → sp vs H Q E →
    codeAny (model P w) A (.call (.ref f) args) (CR CX outer P w H s Q E) s
section
variable {P : Program} {w : World} {K : PySem.W.Frag} {mg : Str → Option Value} {base : Heap}
theorem okG {x qual : Str} {st : Stmt} {f : Addr} {fd : FuncData} {N ps : List Str} {k : Nat} {sp : Sp} (F : Fun K x qual st f fd) (S : FnScope N ps (defScope st)) (len : ∀ vs H Q E, sp vs H Q E → vs.length = ps.length)
    (hbody : ∀ (cdv : Value) (A : Around) (outer : List PySem.Env) (s : Shared) (H : Hp) (vs : List V) (Q : VK) (E : XK), RoomG k (A.deeper (envOfC qual (defScope st) s.heap.objs.size f cdv)) → sp vs H Q E →
      ∃ t, PSs (cxOf (L2.CX P w) P w K mg base N qual (defScope st) f cdv A outer s H E) (defBody st) t ∧ t { nx := fun _ H' => Q .non H', rt := Q } (start N vs) H) : FnOkG P w K mg base (L2.CX P w) (k + 1) f fd ps sp := by
  obtain ⟨oc, od, kV, doc, pm, an, cdv, ct, osl, rfl, lk, hcd⟩ := F.ex
  refine ⟨len, fun A outer s H args us vs Q E hr e0 hb r hsp => ?_⟩
  have hl := len _ _ _ _ hsp
  have kin : K.In s.heap := e0.mod.kin.keeps fun b o e => (e0.bs b o e).1
  have lim : s.heap.NoLimit := e0.mod.nolimit.keeps fun b o e => (e0.bs b o e).1
  refine codeAny_call_function hr.r.depth (kin _ _ lk) rfl S.co S.gen rfl (PySem.W.codeRec_of kin hcd) (hb _ _ _ _ ?_)
  refine wpAny_newFunctionEnv_cells S.kind (fun ⟨n, v⟩ hy => ?_) fun env he s1 x => ?_
  · rcases S.par n (List.of_mem_zip hy).1 with q | q
    · exact .inl q
    · exact .inr ⟨q, PySem.W.cellsFrom_some _ _ _ (.inl q)⟩
  · subst he
    refine ⟨lim.keeps x.toInCall.keep, codeAny_func ?_⟩
    obtain ⟨t, ht, hq⟩ := hbody cdv A outer s H vs Q E (hr.deeper _) hsp
    have I : Inv (cxOf (L2.CX P w) P w K mg base N qual (defScope st) f cdv A outer s H E) [] (start N vs) H s1 := inv_start S hr.r.hd e0 hl r x
    refine wpAny_mono (ht.run [] s1 (start N vs) H _ I hq) (fun fl s' hs => ?_) fun e s' hs => hs
    cases fl with
    | ret u =>
      obtain ⟨v, σ', H', J, rv, q⟩ := hs
      exact ⟨v, H', J.os, J.bare, J.base, J.hok, rv, q⟩
    | next =>
      obtain ⟨σ', H', J, q⟩ := hs
      exact ⟨V.non, H', J.os, J.bare, J.base, J.hok, rfl, q⟩
    | brk =>
      obtain ⟨_, _, _, q⟩ := hs
      exact False.elim q
    | cont =>
      obtain ⟨_, _, _, q⟩ := hs
      exact False.elim q
end
section
variable {X : Cx} {CX : CXT} {k : Nat} {f : Addr} {fd : FuncData} {ps : List Str} {sp : Sp} {E : L2.St → XK} {x : Str} {q pos : Pos} {e : Expr} {es : List Expr} {t : TA}
theorem run_fnG {pins : List (Addr × Obj)} {σ : L2.St} {H : Hp} {s : Shared} {Q : VK} {us : List Value} {vs : List V} (F : FnOkG X.prog X.w X.K X.mg X.base CX k f fd ps sp) (hr : RoomG k X.A) (hb : Binds X.K fd ps []) (hx : PassesAt CX X σ (E σ))
    (I : Inv X pins σ H s) (r : Vals vs us) (h : sp vs H Q (E σ)) : wpAny (model X.prog X.w) X.A (call (.ref f) us) (EP X pins σ Q) X.xe s := by
  have b := hb s us I.kIn (by rw [List.append_nil, ← r.length]; exact F.len _ _ _ _ h)
  rw [List.append_nil] at b
  refine wpAny_call (codeAny_mono (F.run X.A X.stack s H ⟨us, []⟩ us vs Q (E σ) hr I.env0 b r h) fun r s' hq => ?_)
  cases r with
  | error e => exact hx pins H s e s' I hq
  | ok fl => cases fl <;> first | exact I.after hq | exact False.elim hq
theorem pe_callG (F : FnOkG X.prog X.w X.K X.mg X.base CX k f fd ps sp) (hr : RoomG k X.A) (hg : Gl X x) (hm : X.mg x = some (.ref f)) (hk : PySem.W.keepIn X.K (.ref f) = true) (hb : Binds X.K fd ps []) (hx : ∀ σ, PassesAt CX X σ (E σ))
    (ha : PA X (e :: es) t) (hdb : (x == ("__debug__" : Str)) = false := by decide) (he : starEach (e :: es) X.env = (false, eval e X.env) :: starEach es X.env := by rfl) (hpl : (backTo pos (starEach es X.env)).any (·.1) = false := by rfl) :
    PE X (.Call (.Name x q) (e :: es) [] pos) (tCallS sp E t) := by
  refine ⟨fun pins s σ H Q I h => ?_⟩
  refine wpAny_Call_Name_kw (ld_glob I hg hm ?_ hdb)
  exact PySem.W.callWith_K (h₀ := X.base) I.ok.mod.kin hk (thn (ha.run pos pins s σ H _ I h) fun us s1 ⟨vs, H1, I1, r, q⟩ => ⟨I1.kIn, run_fnG F hr hb (hx σ) I1 r q⟩) he hpl
end
theorem FnOkG.at {P : Program} {w : World} {K : PySem.W.Frag} {mg : Str → Option Value} {base : Heap} {CX : CXT} {k : Nat} {f : Addr} {fd : FuncData} {ps : List Str} {sp : Sp} (F : FnOkG P w K mg base CX k f fd ps sp) (hr : Room k callerA) :
    ∀ (outer : List PySem.Env) (s : Shared) (H : Hp) (args : Args) (us : List Value) (vs : List V) (Q : VK) (E : XK), Env0 P w K mg base callerA outer s H → BindsTo s fd args (ps.zip us) → Vals vs us → sp vs H Q E →
    codeAny (model P w) callerA (.call (.ref f) args) (CR CX outer P w H s Q E) s := fun outer s H args us vs Q E e0 b r h => F.run callerA outer s H args us vs Q E ⟨hr, rfl⟩ e0 b r h
end DM
set_option maxRecDepth 100000
/-! Data mirror, ahead of all, part 2: the law's call, where nothing is being shown. -/
namespace DM
open PySem PySem.Spec PyProof.Rows L2
def SysB (h : Heap) : Prop := ∃ mm, h.Ns sysModules mm
section
variable {P : Program} {w : World} {K : PySem.W.Frag} {mg mb : Str → Option Value} {CX : CXT} {k : Nat} {fa a : Addr} {fd : FuncData} {x : Str} {sp : Sp} {s₁ : Shared} {vs : List Value} {ns : List Int}
theorem law_callG (KX : K.In s₁.heap) (hns : s₁.heap.Ns mainGlobals mg) (hb : s₁.heap.Ns builtinsNs mb) (hbb : ∀ x : Str, x ≠ "__name__" → mb x = bootBuiltins x) (hlim : s₁.heap.NoLimit) (hg : s₁.gens = #[])
    (ha : s₁.heap.get? a = some { cls := .type "list", data := .seq vs.toArray }) (hi : IntsAre vs ns) (hl : ns.length ≤ sizeLine) (hr : Room k callerA)
    (hsm : SysB s₁.heap) (F : ∀ base : Heap, K.In base → base.Ns mainGlobals mg → SysB base → FnOkG P w K mg base CX k fa fd [x] sp) (hbind : ∀ (s : Shared) (u : Value), BindsTo s fd ⟨[u], []⟩ [(x, u)])
    (hsp : ∀ H : Hp, Only H → SqL K H a (ns.map V.int) → sp [.ref a] H (fun v _ => v = .bl true) fun _ _ _ => False)
    (hCX : ∀ H e s', CX [] H s₁ (fun _ _ _ => False) e s' → False) :
    codeAny (model P w) callerA (.call (.ref fa) ⟨[.ref a], []⟩) (fun r s' => r = .ok (.ret (.bool true)) ∧ OldK s₁.heap s'.heap ∧ s'.os = s₁.os ∧ AllBare s'.gens) s₁ := by
  have rv := vals_ints hi
  have lenV := hi.length
  have core : ∀ H : Hp, Only H → SqL K H a (ns.map V.int) → HOk P w H s₁.heap → (∀ b, H b ≠ none → b = a) → (H a ≠ none → K.lookup a = none) →
      codeAny (model P w) callerA (.call (.ref fa) ⟨[.ref a], []⟩) (fun r s' => r = .ok (.ret (.bool true)) ∧ OldK s₁.heap s'.heap ∧ s'.os = s₁.os ∧ AllBare s'.gens) s₁ := by
    intro H hO hS hok hA hK
    have free : ∀ {b : Addr} {o : Obj}, s₁.heap.get? b = some o → (∀ v n, o.data ≠ Data.seq v n) → H b = none := fun {b o} e d => by
      cases q : H b with
      | none => rfl
      | some u =>
        obtain rfl : b = a := hA b (by rw [q]; simp)
        rw [ha] at e
        cases e
        exact absurd rfl (d _ _)
    have nsK : ∀ {b : Addr} {m : Str → Option Value}, s₁.heap.Ns b m → (hidT s₁.heap H).Ns b m := fun {b m} ⟨o, es, ep, e, d, r⟩ => ⟨o, es, ep, hidT_get e (free e fun v n z => by rw [d] at z; cases z), d, r⟩
    have hKb : K.In (hidT s₁.heap H) := fun b o e => hidT_get (KX b o e) (by
      cases q : H b with
      | none => rfl
      | some u =>
        obtain rfl : b = a := hA b (by rw [q]; simp)
        have := hK (by rw [q]; simp)
        rw [this] at e
        cases e)
    have hM : Mod K mg (hidT s₁.heap H) := ⟨hKb, nsK hns, ⟨mb, nsK hb, hbb⟩, let ⟨mc, h1, h2⟩ := hlim; ⟨mc, nsK h1, h2⟩⟩
    have e0 : Env0 P w K mg (hidT s₁.heap H) callerA [] s₁ H := ⟨rfl, hM, fun b o e => of_hidT e, Nat.le_of_eq (hidT_size _ _), trivial, fun b hb => absurd (show b ∈ ([] : List Addr) from hb) (by simp), hok, .of_eq hg⟩
    refine codeAny_mono ((F _ hKb (nsK hns) (let ⟨mm, z⟩ := hsm; ⟨mm, nsK z⟩)).at hr [] s₁ H ⟨[.ref a], []⟩ [.ref a] [.ref a] _ _ e0 (hbind s₁ (.ref a)) (.cons rfl .nil) (hsp H hO hS)) fun r s' h => ?_
    cases r with
    | error e => exact (hCX H e s' h).elim
    | ok fl =>
      cases fl with
      | next => exact False.elim h
      | brk => exact False.elim h
      | cont => exact False.elim h
      | ret u =>
        obtain ⟨v, H', os, bare, un, hok', r', q⟩ := h
        have q' : v = .bl true := q
        subst q'
        obtain rfl : u = Value.bool true := r'
        refine ⟨rfl, OldK.of_keep fun b o e => ?_, os, bare⟩
        cases q : H b with
        | none => exact un.keep b o e q (by intro z; exact absurd (show b ∈ ([] : List Addr) from z) (by simp)) (by simp)
        | some u =>
          rcases hO b with z | ⟨ob, xs, z⟩
          · rw [q] at z; cases z
          · obtain ⟨e1, _⟩ := hok b _ z
            obtain ⟨e2, _⟩ := hok' b _ (un.frzs b ob _ z)
            rw [e] at e1; cases e1
            exact e2
  cases hk : K.lookup a with
  | some o =>
    have e := KX a o hk
    rw [ha] at e
    cases e
    exact core (fun _ => none) (fun _ => .inl rfl) (.inr ⟨_, vs.toArray, _, hk, rfl, rfl, rfl, by rw [List.size_toArray, lenV]; exact hl, by simpa using rv⟩) (fun b u z => by cases z) (fun b z => absurd rfl z) fun z => absurd rfl z
  | none =>
    refine core (fun b => if b = a then some (.frz { cls := .type "list", data := .seq vs.toArray } (.lst (ns.map V.int))) else none) (fun b => ?_) (.inl (.inr ⟨{ cls := .type "list", data := .seq vs.toArray }, if_pos rfl⟩)) (fun b u z => ?_) (fun b z => ?_) fun _ => hk
    · by_cases hb : b = a
      · exact .inr ⟨_, _, if_pos hb⟩
      · exact .inl (if_neg hb)
    · by_cases hb : b = a
      · have z' := (if_pos hb).symm.trans z
        cases z'
        subst hb
        exact ⟨ha, by rw [List.length_map]; exact hl, vs, _, rv, ha⟩
      · have z' := (if_neg hb).symm.trans z
        cases z'
    · by_cases hb : b = a
      · exact hb
      · exact absurd (if_neg hb) z
end
theorem walk_ofG {l : PySem.W.OpenLaw} {n k : Nat} {q : Program} {loose : List Str} {XP : (Str → Option Value) → Heap → Prop} {YP : World → Heap → Prop} {d : DefRec} {K : Params → PySem.W.Frag} {CX : World → CXT} {sp : World → Sp} {x : Str}
    (hi : importsNone q = true) (hn : l.most = some n) (hn2 : n ≤ sizeLine) (hdf : d.params.defaults = []) (hr : Room k callerA)
    (hY : ∀ (w : World) (h : Heap), YP w h → (K w.params).In h)
    (F : ∀ (w : World) (mg : Str → Option Value) (fa : Addr) (h : Heap), (K w.params).In h → h.Ns mainGlobals mg → mg d.name = some (.ref fa) →
      ∃ fd : FuncData, (∀ (s : Shared) (u : Value), BindsTo s fd ⟨[u], []⟩ [(x, u)]) ∧
        ∀ base : Heap, (K w.params).In base → base.Ns mainGlobals mg → SysB base → FnOkG l.prog w (K w.params) mg base (CX w) k fa fd [x] (sp w))
    (hsp : ∀ (w : World) (H : Hp) (a : Addr) (ns : List Int), ns.length ≤ n → Only H → SqL (K w.params) H a (ns.map V.int) → sp w [.ref a] H (fun v _ => v = .bl true) fun _ _ _ => False)
    (hCX : ∀ (w : World) (H : Hp) (s : Shared) (e : Value) (s' : Shared), CX w [] H s (fun _ _ _ => False) e s' → False) :
    PySem.W.WalkO q loose XP YP l.row.toRowW d [] (fun f vs => PySem.call f vs) := by
  refine Att.attach_call hn hdf fun w s₀ s₁ mg mb fa o pm cd doc a vs ns G Y ho hd hcd hmg hobj hints hlen hg => ?_
  obtain ⟨fd, hb, hF⟩ := F w mg fa _ (hY w _ Y) G.T.g hmg
  exact law_callG (hY w _ Y) G.T.g G.T.b G.T.builtins G.T.nolimit hg hobj hints (Nat.le_trans hlen hn2) hr (let ⟨mm, z, _⟩ := (G.T.seer hi).mods; ⟨mm, z⟩) hF hb (fun H hO hS => hsp w H a ns hlen hO hS) fun H e s' => hCX w H s₁ e s'
end DM
set_option maxRecDepth 100000
/-! Data mirror, part 1: data, what stands for them in the heap, owned pieces. -/
namespace DM
open PySem PySem.Spec PyProof.Rows L2
inductive D where
  | non | bl (b : Bool) | int (i : Int) | str (x : Str)
  | lst (xs : List D) | tup (xs : List D)
  | dK (ks : List Key) (vs : List D) | dT (ks : List (List Key)) (vs : List D)
  | obj (c : Str) (ns : List Str) (vs : List D)
  | exn (c : Str)
  /-- the law's script -/
  | scr (ns : List Int)
  /-- told by its mode alone; with a number: the object at that address -/
  | gh (d : D)
def ExcAt (a C : Addr) (h : Heap) : Prop := ∃ o vs, h.get? a = some o ∧ o.cls = .ref C ∧ o.dict = none ∧ o.data = .fields vs
structure Mdl where
  K : PySem.W.Frag
  mg : Str → Option Value
mutual
/-- v stands for d, by what S tells -/
inductive Rep (M : Mdl) (S : Hp) : V → D → Prop
  | non : Rep M S .non .non
  | bl (b : Bool) : Rep M S (.bl b) (.bl b)
  | int (i : Int) : Rep M S (.int i) (.int i)
  | str (x : Str) : Rep M S (.str x) (.str x)
  | lst {a : Addr} {xs : List V} {ds : List D} : S a = some (.lst xs) → RepL M S xs ds → Rep M S (.ref a) (.lst ds)
  | tup {a : Addr} {xs : List V} {ds : List D} : SqT M.K S a xs → RepL M S xs ds → Rep M S (.ref a) (.tup ds)
  | dK {a : Addr} {kvs : List (Key × V)} {ks : List Key} {ds : List D} : S a = some (.dK kvs) → kvs.map (·.1) = ks → RepL M S (kvs.map (·.2)) ds → Rep M S (.ref a) (.dK ks ds)
  | dT {a : Addr} {kvs : List (List Key × V)} {ks : List (List Key)} {ds : List D} : S a = some (.dT kvs) → kvs.map (·.1) = ks → RepL M S (kvs.map (·.2)) ds → Rep M S (.ref a) (.dT ks ds)
  | obj {a C dx : Addr} {c : Str} {fs : List (Str × V)} {ns : List Str} {ds : List D} : S a = some (.ins C dx fs) → M.mg c = some (.ref C) → fs.map (·.1) = ns → RepL M S (fs.map (·.2)) ds → Rep M S (.ref a) (.obj c ns ds)
  | exn {a C : Addr} {c : Str} : S a = some (.ext (ExcAt a C)) → M.mg c = some (.ref C) → Rep M S (.ref a) (.exn c)
  | scr {a : Addr} {ns : List Int} : SqL M.K S a (ns.map V.int) → Rep M S (.ref a) (.scr ns)
  | gh (a : Addr) (d : D) : (∀ i, d = .int i → i = (a : Int)) → Rep M S (.ref a) (.gh d)
inductive RepL (M : Mdl) (S : Hp) : List V → List D → Prop
  | nil : RepL M S [] []
  | cons {v : V} {vs : List V} {d : D} {ds : List D} : Rep M S v d → RepL M S vs ds → RepL M S (v :: vs) (d :: ds)
end
def Ex (S H : Hp) : Prop := ∀ a o, S a = some o → H a = some o
theorem Ex.refl (H : Hp) : Ex H H := fun _ _ h => h
theorem Ex.trans {H H1 H2 : Hp} (a : Ex H H1) (b : Ex H1 H2) : Ex H H2 := fun x o h => b x o (a x o h)
theorem Ex.new {H : Hp} {p : Addr} {o : HO} (h : H p = none) : Ex H (upd H p o) := fun a u e => by
  rw [upd_ne (ne_of_none e h)]
  exact e
theorem Ex.rd {S H : Hp} (e : Ex S H) {a : Addr} {u : HO} (h : Rd S a u) : Rd H a u := by
  rcases h with h | ⟨o, h⟩
  · exact .inl (e _ _ h)
  · exact .inr ⟨o, e _ _ h⟩
theorem Ex.l {S H : Hp} (e : Ex S H) {K : PySem.W.Frag} {a : Addr} {xs : List V} (h : SqL K S a xs) : SqL K H a xs := by
  rcases h with h | h
  · exact .inl (e.rd h)
  · exact .inr h
theorem Ex.t {S H : Hp} (e : Ex S H) {K : PySem.W.Frag} {a : Addr} {xs : List V} (h : SqT K S a xs) : SqT K H a xs := by
  rcases h with h | h
  · exact .inl (e.rd h)
  · exact .inr h
theorem Ex.free {S H : Hp} (e : Ex S H) {p : Addr} (h : H p = none) : S p = none := by
  cases q : S p with
  | none => rfl
  | some o => rw [e p o q] at h; cases h
mutual
theorem Rep.mono {M : Mdl} {S S' : Hp} (e : Ex S S') : ∀ {v : V} {d : D}, Rep M S v d → Rep M S' v d
  | _, _, .non => .non
  | _, _, .bl b => .bl b
  | _, _, .int i => .int i
  | _, _, .str x => .str x
  | _, _, .lst h r => .lst (e _ _ h) (RepL.mono e r)
  | _, _, .tup h r => .tup (e.t h) (RepL.mono e r)
  | _, _, .dK h k r => .dK (e _ _ h) k (RepL.mono e r)
  | _, _, .dT h k r => .dT (e _ _ h) k (RepL.mono e r)
  | _, _, .obj h g k r => .obj (e _ _ h) g k (RepL.mono e r)
  | _, _, .exn h g => .exn (e _ _ h) g
  | _, _, .scr h => .scr (e.l h)
  | _, _, .gh a d h => .gh a d h
theorem RepL.mono {M : Mdl} {S S' : Hp} (e : Ex S S') : ∀ {vs : List V} {ds : List D}, RepL M S vs ds → RepL M S' vs ds
  | _, _, .nil => .nil
  | _, _, .cons h t => .cons (Rep.mono e h) (RepL.mono e t)
end
theorem RepL.length {M : Mdl} {S : Hp} : ∀ {vs : List V} {ds : List D}, RepL M S vs ds → vs.length = ds.length
  | _, _, .nil => rfl
  | _, _, .cons _ t => by rw [List.length_cons, List.length_cons, RepL.length t]
theorem RepL.append {M : Mdl} {S : Hp} : ∀ {vs ws : List V} {ds es : List D}, RepL M S vs ds → RepL M S ws es → RepL M S (vs ++ ws) (ds ++ es)
  | _, _, _, _, .nil, h => h
  | _, _, _, _, .cons r t, h => .cons r (RepL.append t h)
theorem RepL.get {M : Mdl} {S : Hp} : ∀ {vs : List V} {ds : List D} {i : Nat} {d : D}, RepL M S vs ds → ds[i]? = some d → ∃ v, vs[i]? = some v ∧ Rep M S v d
  | _, _, _, _, .nil, e => by simp at e
  | _, _, 0, _, .cons r _, e => by simp at e; subst e; exact ⟨_, rfl, r⟩
  | _, _, i + 1, d, .cons _ t, e => by
    obtain ⟨v, h1, h2⟩ := RepL.get (i := i) (d := d) t (by simpa using e)
    exact ⟨v, by simpa using h1, h2⟩
theorem RepL.take {M : Mdl} {S : Hp} : ∀ {vs : List V} {ds : List D} (n : Nat), RepL M S vs ds → RepL M S (vs.take n) (ds.take n)
  | _, _, 0, _ => .nil
  | _, _, _ + 1, .nil => .nil
  | _, _, n + 1, .cons r t => .cons r (RepL.take n t)
theorem RepL.drop {M : Mdl} {S : Hp} : ∀ {vs : List V} {ds : List D} (n : Nat), RepL M S vs ds → RepL M S (vs.drop n) (ds.drop n)
  | _, _, 0, r => r
  | _, _, _ + 1, .nil => .nil
  | _, _, n + 1, .cons _ t => RepL.drop n t
theorem RepL.set {M : Mdl} {S : Hp} {v : V} {d : D} (r : Rep M S v d) : ∀ {vs : List V} {ds : List D} (i : Nat), RepL M S vs ds → RepL M S (vs.set i v) (ds.set i d)
  | _, _, _, .nil => .nil
  | _, _, 0, .cons _ t => .cons r t
  | _, _, i + 1, .cons q t => .cons q (RepL.set r i t)
theorem RepL.rep {M : Mdl} {S : Hp} {vs : List V} {ds : List D} (h : RepL M S vs ds) : ∀ k : Nat, RepL M S (List.replicate k vs).flatten (List.replicate k ds).flatten
  | 0 => .nil
  | k + 1 => by
    rw [List.replicate_succ, List.replicate_succ, List.flatten_cons, List.flatten_cons]
    exact RepL.append h (RepL.rep h k)
theorem RepL.ints {M : Mdl} {S : Hp} : ∀ {vs : List V} {ns : List Int}, RepL M S vs (ns.map D.int) → vs = ns.map V.int
  | _, [], .nil => rfl
  | _, _ :: _, .cons (.int _) t => by rw [List.map_cons, RepL.ints t]
theorem RepL.strs {M : Mdl} {S : Hp} : ∀ {vs : List V} {ns : List Str}, RepL M S vs (ns.map D.str) → vs = ns.map V.str
  | _, [], .nil => rfl
  | _, _ :: _, .cons (.str _) t => by rw [List.map_cons, RepL.strs t]
theorem RepL.ofInts {M : Mdl} {S : Hp} : ∀ (ns : List Int), RepL M S (ns.map V.int) (ns.map D.int)
  | [] => .nil
  | _ :: r => .cons (.int _) (RepL.ofInts r)
/-! ### pieces: what is true of the shared part S and the heap H, with the addresses that it owns -/
abbrev Foot := Addr → Prop
abbrev Pc := Hp → Hp → Foot → Prop
def Stb (P : Pc) : Prop := ∀ S S' H H' F, P S H F → Ex S S' → (∀ a, F a → H' a = H a) → P S' H' F
inductive Sep (S H : Hp) : List Pc → Foot → Prop
  | nil {F : Foot} : (∀ a, ¬ F a) → Sep S H [] F
  | cons {P : Pc} {Γ : List Pc} {F G U : Foot} : Stb P → P S H F → Sep S H Γ G → (∀ a, F a → ¬ G a) → (∀ a, U a ↔ F a ∨ G a) → Sep S H (P :: Γ) U
structure Holds (S H : Hp) (Γ : List Pc) : Prop where
  ex : Ex S H
  own : ∃ F, Sep S H Γ F ∧ (∀ a, F a → S a = none) ∧ ∀ a, F a → H a ≠ none
theorem Sep.stay {S S' H H' : Hp} : ∀ {Γ : List Pc} {F : Foot}, Sep S H Γ F → Ex S S' → (∀ a, F a → H' a = H a) → Sep S' H' Γ F
  | _, _, .nil h, _, _ => .nil h
  | _, _, .cons s p t d u, e, k => .cons s (s _ _ _ _ _ p e fun a q => k a ((u a).mpr (.inl q))) (t.stay e fun a q => k a ((u a).mpr (.inr q))) d u
theorem Sep.swap {S H : Hp} {P Q : Pc} {Γ : List Pc} {F : Foot} (h : Sep S H (P :: Q :: Γ) F) : Sep S H (Q :: P :: Γ) F := by
  cases h with
  | cons s p t d u =>
    cases t with
    | cons s' p' t' d' u' =>
      rename_i F1 U1 F2 G
      refine .cons s' p' (.cons (U := fun a => F1 a ∨ G a) s p t' (fun a x y => d a x ((u' a).mpr (.inr y))) fun a => Iff.rfl) (fun a x y => ?_) fun a => ?_
      · rcases y with y | y
        · exact d a y ((u' a).mpr (.inl x))
        · exact d' a x y
      · rw [u a, u' a]
        constructor
        · rintro (x | x | x)
          · exact .inr (.inl x)
          · exact .inl x
          · exact .inr (.inr x)
        · rintro (x | x | x)
          · exact .inr (.inl x)
          · exact .inl x
          · exact .inr (.inr x)
theorem Sep.perm {S H : Hp} {Γ Γ' : List Pc} (e : Γ.Perm Γ') : ∀ {F : Foot}, Sep S H Γ F → Sep S H Γ' F := by
  induction e with
  | nil => exact fun h => h
  | cons x _ ih => intro F h; cases h with | cons s p t d u => exact .cons s p (ih t) d u
  | swap x y l => intro F h; exact h.swap
  | trans _ _ a b => exact fun h => b (a h)
theorem Sep.stb {S H : Hp} : ∀ {Γ : List Pc} {F : Foot}, Sep S H Γ F → ∀ P ∈ Γ, Stb P
  | _, _, .nil _, _, h => absurd h (by simp)
  | _, _, .cons s _ t _ _, P, h => by
    rcases List.mem_cons.mp h with rfl | h
    · exact s
    · exact t.stb P h
theorem Sep.mem {S H : Hp} : ∀ {Γ : List Pc} {F : Foot}, Sep S H Γ F → ∀ P ∈ Γ, ∃ G, P S H G ∧ ∀ a, G a → F a
  | _, _, .nil _, _, h => absurd h (by simp)
  | _, _, .cons _ p t _ u, P, h => by
    rcases List.mem_cons.mp h with rfl | h
    · exact ⟨_, p, fun a q => (u a).mpr (.inl q)⟩
    · obtain ⟨G, x, y⟩ := t.mem P h
      exact ⟨G, x, fun a q => (u a).mpr (.inr (y a q))⟩
section
variable {S S' H H' : Hp} {Γ Δ : List Pc} {P Q : Pc}
theorem Holds.perm (h : Holds S H Γ) (e : Γ.Perm Δ) : Holds S H Δ := ⟨h.ex, let ⟨F, a, b, c⟩ := h.own; ⟨F, a.perm e, b, c⟩⟩
theorem Holds.drop (h : Holds S H (P :: Γ)) : Holds S H Γ := ⟨h.ex, by
  obtain ⟨F, a, b, c⟩ := h.own
  cases a with
  | cons s p t d u => exact ⟨_, t, fun a q => b a ((u a).mpr (.inr q)), fun a q => c a ((u a).mpr (.inr q))⟩⟩
theorem Holds.mem (h : Holds S H Γ) (m : P ∈ Γ) : ∃ F, P S H F := by
  obtain ⟨F, a, _, _⟩ := h.own
  obtain ⟨G, x, _⟩ := a.mem P m
  exact ⟨G, x⟩
theorem Holds.pure (h : Holds S H Γ) (s : Stb P) (p : ∀ F : Foot, (∀ a, ¬ F a) → P S H F) : Holds S H (P :: Γ) := by
  obtain ⟨F, a, b, c⟩ := h.own
  exact ⟨h.ex, F, .cons s (p (fun _ => False) fun _ q => q) a (fun _ q => q.elim) fun a => ⟨.inr, fun x => x.elim False.elim id⟩, b, c⟩
theorem Holds.grow (h : Holds S H Γ) (e : Ex S S') (e1 : Ex S' H') (e2 : ∀ a, H a ≠ none → H' a = H a) (n : ∀ a, S' a ≠ none → S a = none → H a = none) : Holds S' H' Γ := by
  obtain ⟨F, a, b, c⟩ := h.own
  refine ⟨e1, F, a.stay e fun x q => e2 x (c x q), fun x q => ?_, fun x q => by rw [e2 x (c x q)]; exact c x q⟩
  cases z : S' x with
  | none => rfl
  | some o => exact absurd (n x (by rw [z]; simp) (b x q)) (c x q)
theorem Holds.newS (h : Holds S H Γ) {p : Addr} {o : HO} (hp : H p = none) : Holds (upd S p o) (upd H p o) Γ := by
  refine h.grow (Ex.new (h.ex.free hp)) (fun a u e => ?_) (fun a q => ?_) fun a x y => ?_
  · by_cases z : a = p
    · subst z; rw [upd_same] at e ⊢; exact e
    · rw [upd_ne z] at e ⊢; exact h.ex a u e
  · exact upd_ne fun z => q (z ▸ hp)
  · by_cases z : a = p
    · rw [z]; exact hp
    · rw [upd_ne z] at x; exact absurd y x
theorem Holds.newO (h : Holds S H Γ) {p : Addr} {o : HO} (hp : H p = none) (s : Stb P) (q : ∀ F : Foot, (∀ a, F a ↔ a = p) → P S (upd H p o) F) : Holds S (upd H p o) (P :: Γ) := by
  have h1 : Holds S (upd H p o) Γ := h.grow (Ex.refl S) (fun a u e => by rw [upd_ne (fun z => by subst z; rw [h.ex a u e] at hp; cases hp)]; exact h.ex a u e) (fun a q => upd_ne fun z => q (z ▸ hp)) fun a x y => absurd y x
  obtain ⟨F, a, b, c⟩ := h.own
  obtain ⟨F', a', b', c'⟩ := h1.own
  have ne : ∀ x, F x → x ≠ p := fun x q z => c x q (z ▸ hp)
  have a1 : Sep S (upd H p o) Γ F := a.stay (Ex.refl S) fun x q => upd_ne (ne x q)
  refine ⟨h1.ex, fun x => x = p ∨ F x, .cons s (q (fun x => x = p) fun _ => Iff.rfl) a1 (fun x y z => ne x z y) fun _ => Iff.rfl, fun x y => ?_, fun x y => ?_⟩
  · rcases y with y | y
    · rw [y]; exact h.ex.free hp
    · exact b x y
  · rcases y with y | y
    · rw [y, upd_same]; simp
    · rw [upd_ne (ne x y)]; exact c x y
theorem Holds.change (h : Holds S H (P :: Γ)) (s : Stb Q) (k : ∀ F, P S H F → (∀ a, F a → S a = none) → (∀ a, F a → H a ≠ none) → ∃ G, Q S H' G ∧ (∀ a, G a → F a ∨ H a = none) ∧ (∀ a, G a → H' a ≠ none) ∧ ∀ a, ¬ F a → H a ≠ none → H' a = H a) : Holds S H' (Q :: Γ) := by
  obtain ⟨U, a, b, c⟩ := h.own
  cases a with
  | cons s0 p t d u =>
    rename_i F G
    obtain ⟨F', q, k1, k2, k3⟩ := k F p (fun x y => b x ((u x).mpr (.inl y))) (fun x y => c x ((u x).mpr (.inl y)))
    have keep : ∀ x, G x → H' x = H x := fun x y => k3 x (fun z => d x z y) (c x ((u x).mpr (.inr y)))
    refine ⟨fun x o e => ?_, fun x => F' x ∨ G x, .cons s q (t.stay (Ex.refl S) keep) (fun x y z => ?_) fun _ => Iff.rfl, fun x y => ?_, fun x y => ?_⟩
    · have e' := h.ex x o e
      rw [k3 x (fun y => by rw [b x ((u x).mpr (.inl y))] at e; cases e) (by rw [e']; simp)]
      exact e'
    · rcases k1 x y with y | y
      · exact d x y z
      · exact c x ((u x).mpr (.inr z)) y
    · rcases y with y | y
      · rcases k1 x y with y | y
        · exact b x ((u x).mpr (.inl y))
        · exact h.ex.free y
      · exact b x ((u x).mpr (.inr y))
    · rcases y with y | y
      · exact k2 x y
      · rw [keep x y]; exact c x ((u x).mpr (.inr y))
theorem Holds.imp (h : Holds S H (P :: Γ)) (s : Stb Q) (k : ∀ F, P S H F → Q S H F) : Holds S H (Q :: Γ) :=
  h.change s fun F p _ c => ⟨F, k F p, fun _ q => .inl q, c, fun _ _ _ => rfl⟩
theorem Holds.share (h : Holds S H (P :: Γ)) (k : ∀ F, P S H F → (∀ a, F a → S a = none) → (∀ a, F a → H a ≠ none) → ∃ S', Ex S S' ∧ Ex S' H ∧ (∀ a, S' a ≠ none → S a ≠ none ∨ F a) ∧ ∀ G : Foot, (∀ a, ¬ G a) → Q S' H G) (s : Stb Q) : ∃ S', Ex S S' ∧ Holds S' H (Q :: Γ) := by
  obtain ⟨U, a, b, c⟩ := h.own
  cases a with
  | cons s0 p t d u =>
    rename_i F G
    obtain ⟨S', e1, e2, n, q⟩ := k F p (fun x y => b x ((u x).mpr (.inl y))) (fun x y => c x ((u x).mpr (.inl y)))
    refine ⟨S', e1, e2, G, .cons s (q (fun _ => False) fun _ z => z) (t.stay e1 fun _ _ => rfl) (fun _ z => z.elim) fun x => ⟨.inr, fun z => z.elim False.elim id⟩, fun x y => ?_, fun x y => c x ((u x).mpr (.inr y))⟩
    cases z : S' x with
    | none => rfl
    | some o =>
      rcases n x (by rw [z]; simp) with w | w
      · exact absurd (b x ((u x).mpr (.inr y))) w
      · exact absurd y (d x w)
end
end DM
set_option maxRecDepth 100000
/-! Data mirror, part 2: modes (how a value is held), lists, dicts, objects of one's own. -/
namespace DM
open PySem PySem.Spec PyProof.Rows L2
def D.isSc : D → Bool
  | .non => true
  | .bl _ => true
  | .int _ => true
  | .str _ => true
  | _ => false
structure Mode (M : Mdl) where
  fam : V → D → Pc
  stb : ∀ v d, Stb (fam v d)
  rd : ∀ {v d S H F}, fam v d S H F → Ex S H → Rep M H v d
  sh : ∀ {v d S H F}, fam v d S H F → Ex S H → (∀ a, F a → S a = none) → (∀ a, F a → H a ≠ none) →
    ∃ S', Ex S S' ∧ Ex S' H ∧ (∀ a, S' a ≠ none → S a ≠ none ∨ F a) ∧ Rep M S' v d
  sc : ∀ {v d S H F}, d.isSc = true → Rep M S v d → (∀ a, ¬ F a) → fam v d S H F
section
variable {M : Mdl}
def fz : Mode M where
  fam := fun v d S _ F => Rep M S v d ∧ ∀ a, ¬ F a
  stb := fun v d S S' H H' F p e _ => ⟨p.1.mono e, p.2⟩
  rd := fun p e => p.1.mono e
  sh := fun p e _ _ => ⟨_, Ex.refl _, e, fun _ q => .inl q, p.1⟩
  sc := fun _ r n => ⟨r, n⟩
/-! ### items of one kind -/
inductive Els (P : V → D → Pc) (S H : Hp) : List V → List D → Foot → Prop
  | nil {F : Foot} : (∀ a, ¬ F a) → Els P S H [] [] F
  | cons {v : V} {d : D} {vs : List V} {ds : List D} {F G U : Foot} : P v d S H F → Els P S H vs ds G → (∀ a, F a → ¬ G a) → (∀ a, U a ↔ F a ∨ G a) → Els P S H (v :: vs) (d :: ds) U
theorem Els.iff {P : V → D → Pc} {S H : Hp} {vs : List V} {ds : List D} {F G : Foot} (h : Els P S H vs ds F) (e : ∀ a, G a ↔ F a) : Els P S H vs ds G := by
  cases h with
  | nil h => exact .nil fun a q => h a ((e a).mp q)
  | cons p t d u => exact .cons p t d fun a => (e a).trans (u a)
theorem Els.stay {P : V → D → Pc} (sb : ∀ v d, Stb (P v d)) {S S' H H' : Hp} : ∀ {vs : List V} {ds : List D} {F : Foot}, Els P S H vs ds F → Ex S S' → (∀ a, F a → H' a = H a) → Els P S' H' vs ds F
  | _, _, _, .nil h, _, _ => .nil h
  | _, _, _, .cons p t d u, e, k => .cons (sb _ _ _ _ _ _ _ p e fun a q => k a ((u a).mpr (.inl q))) (t.stay sb e fun a q => k a ((u a).mpr (.inr q))) d u
theorem Els.length {P : V → D → Pc} {S H : Hp} : ∀ {vs : List V} {ds : List D} {F : Foot}, Els P S H vs ds F → vs.length = ds.length
  | _, _, _, .nil _ => rfl
  | _, _, _, .cons _ t _ _ => by rw [List.length_cons, List.length_cons, t.length]
theorem Els.rd {P : V → D → Pc} {S H : Hp} (r : ∀ v d F, P v d S H F → Rep M H v d) : ∀ {vs : List V} {ds : List D} {F : Foot}, Els P S H vs ds F → RepL M H vs ds
  | _, _, _, .nil _ => .nil
  | _, _, _, .cons p t _ _ => .cons (r _ _ _ p) (t.rd r)
theorem Els.append {P : V → D → Pc} {S H : Hp} : ∀ {vs ws : List V} {ds es : List D} {F G U : Foot}, Els P S H vs ds F → Els P S H ws es G → (∀ a, F a → ¬ G a) → (∀ a, U a ↔ F a ∨ G a) → Els P S H (vs ++ ws) (ds ++ es) U
  | _, _, _, _, _, _, _, .nil h, t, _, u => t.iff fun a => (u a).trans ⟨fun x => x.elim (fun y => (h a y).elim) id, .inr⟩
  | _, _, _, _, _, _, _, .cons p t d v, t', d', u => by
    rename_i F1 G1
    refine .cons p (Els.append (U := fun a => G1 a ∨ _) t t' (fun a x y => d' a ((v a).mpr (.inr x)) y) fun a => Iff.rfl) (fun a x y => ?_) fun a => ?_
    · rcases y with y | y
      · exact d a x y
      · exact d' a ((v a).mpr (.inl x)) y
    · rw [u a, v a, or_assoc]
theorem Els.sh {m : Mode M} {H : Hp} : ∀ {vs : List V} {ds : List D} {F : Foot} {S : Hp}, Els m.fam S H vs ds F → Ex S H → (∀ a, F a → S a = none) → (∀ a, F a → H a ≠ none) →
    ∃ S', Ex S S' ∧ Ex S' H ∧ (∀ a, S' a ≠ none → S a ≠ none ∨ F a) ∧ RepL M S' vs ds
  | _, _, _, S, .nil _, e, _, _ => ⟨S, Ex.refl _, e, fun _ q => .inl q, .nil⟩
  | _, _, U, S, .cons (F := F) (G := G) p t d u, e, n, s => by
    obtain ⟨S1, a1, a2, a3, a4⟩ := m.sh p e (fun a q => n a ((u a).mpr (.inl q))) (fun a q => s a ((u a).mpr (.inl q)))
    have t1 := t.stay m.stb a1 (H' := H) fun _ _ => rfl
    obtain ⟨S2, b1, b2, b3, b4⟩ := Els.sh t1 a2 (fun a q => by
      cases z : S1 a with
      | none => rfl
      | some o =>
        rcases a3 a (by rw [z]; simp) with w | w
        · exact absurd (n a ((u a).mpr (.inr q))) w
        · exact absurd q (d a w)) (fun a q => s a ((u a).mpr (.inr q)))
    refine ⟨S2, a1.trans b1, b2, fun a q => ?_, .cons (a4.mono b1) b4⟩
    rcases b3 a q with w | w
    · rcases a3 a w with w | w
      · exact .inl w
      · exact .inr ((u a).mpr (.inl w))
    · exact .inr ((u a).mpr (.inr w))
theorem Els.ofRep {S H : Hp} : ∀ {vs : List V} {ds : List D} {F : Foot}, RepL M S vs ds → (∀ a, ¬ F a) → Els (fz (M := M)).fam S H vs ds F
  | _, _, _, .nil, n => .nil n
  | _, _, F, .cons r t, n => .cons (F := fun _ => False) (G := fun _ => False) ⟨r, fun _ q => q⟩ (Els.ofRep t fun _ q => q) (fun _ q => q.elim) fun a => ⟨fun q => (n a q).elim, fun q => q.elim False.elim False.elim⟩
theorem Els.toRep {S H : Hp} : ∀ {vs : List V} {ds : List D} {F : Foot}, Els (fz (M := M)).fam S H vs ds F → RepL M S vs ds ∧ ∀ a, ¬ F a
  | _, _, _, .nil n => ⟨.nil, n⟩
  | _, _, _, .cons p t _ u => let ⟨a, b⟩ := t.toRep; ⟨.cons p.1 a, fun x q => ((u x).mp q).elim (p.2 x) (b x)⟩
/-! ### items by keys -/
inductive ElsF {κ : Type} (f : κ → V → D → Pc) (S H : Hp) : List κ → List V → List D → Foot → Prop
  | nil {F : Foot} : (∀ a, ¬ F a) → ElsF f S H [] [] [] F
  | cons {k : κ} {v : V} {d : D} {ks : List κ} {vs : List V} {ds : List D} {F G U : Foot} : f k v d S H F → ElsF f S H ks vs ds G → (∀ a, F a → ¬ G a) → (∀ a, U a ↔ F a ∨ G a) → ElsF f S H (k :: ks) (v :: vs) (d :: ds) U
section
variable {κ : Type} {f : κ → V → D → Pc}
theorem ElsF.stay (sb : ∀ k v d, Stb (f k v d)) {S S' H H' : Hp} : ∀ {ks : List κ} {vs : List V} {ds : List D} {F : Foot}, ElsF f S H ks vs ds F → Ex S S' → (∀ a, F a → H' a = H a) → ElsF f S' H' ks vs ds F
  | _, _, _, _, .nil h, _, _ => .nil h
  | _, _, _, _, .cons p t d u, e, k => .cons (sb _ _ _ _ _ _ _ _ p e fun a q => k a ((u a).mpr (.inl q))) (t.stay sb e fun a q => k a ((u a).mpr (.inr q))) d u
theorem ElsF.length {S H : Hp} : ∀ {ks : List κ} {vs : List V} {ds : List D} {F : Foot}, ElsF f S H ks vs ds F → vs.length = ds.length ∧ ks.length = ds.length
  | _, _, _, _, .nil _ => ⟨rfl, rfl⟩
  | _, _, _, _, .cons _ t _ _ => by simp [t.length.1, t.length.2]
theorem ElsF.rd {S H : Hp} (r : ∀ k v d F, f k v d S H F → Rep M H v d) : ∀ {ks : List κ} {vs : List V} {ds : List D} {F : Foot}, ElsF f S H ks vs ds F → RepL M H vs ds
  | _, _, _, _, .nil _ => .nil
  | _, _, _, _, .cons p t _ _ => .cons (r _ _ _ _ p) (t.rd r)
theorem ElsF.sh {m : κ → Mode M} {H : Hp} : ∀ {ks : List κ} {vs : List V} {ds : List D} {F : Foot} {S : Hp}, ElsF (fun k => (m k).fam) S H ks vs ds F → Ex S H → (∀ a, F a → S a = none) → (∀ a, F a → H a ≠ none) →
    ∃ S', Ex S S' ∧ Ex S' H ∧ (∀ a, S' a ≠ none → S a ≠ none ∨ F a) ∧ RepL M S' vs ds
  | _, _, _, _, S, .nil _, e, _, _ => ⟨S, Ex.refl _, e, fun _ q => .inl q, .nil⟩
  | _, _, _, U, S, .cons (k := k) (F := F) (G := G) p t d u, e, n, s => by
    obtain ⟨S1, a1, a2, a3, a4⟩ := (m k).sh p e (fun a q => n a ((u a).mpr (.inl q))) (fun a q => s a ((u a).mpr (.inl q)))
    have t1 := t.stay (fun k => (m k).stb) a1 (H' := H) fun _ _ => rfl
    obtain ⟨S2, b1, b2, b3, b4⟩ := ElsF.sh t1 a2 (fun a q => by
      cases z : S1 a with
      | none => rfl
      | some o =>
        rcases a3 a (by rw [z]; simp) with w | w
        · exact absurd (n a ((u a).mpr (.inr q))) w
        · exact absurd q (d a w)) (fun a q => s a ((u a).mpr (.inr q)))
    refine ⟨S2, a1.trans b1, b2, fun a q => ?_, .cons (a4.mono b1) b4⟩
    rcases b3 a q with w | w
    · rcases a3 a w with w | w
      · exact .inl w
      · exact .inr ((u a).mpr (.inl w))
    · exact .inr ((u a).mpr (.inr w))
end
/-! ### the modes -/
def D.isLst : D → Bool
  | .lst _ => true
  | _ => false
def D.isDK : D → Bool
  | .dK _ _ => true
  | _ => false
def D.isDT : D → Bool
  | .dT _ _ => true
  | _ => false
theorem share_one {S H : Hp} {p : Addr} {o : HO} {F G : Foot} {R : Hp → Prop} (hp : H p = some o) (nG : ¬ G p) (u : ∀ a, F a ↔ a = p ∨ G a) (n : ∀ a, F a → S a = none) (k : ∃ S', Ex S S' ∧ Ex S' H ∧ (∀ a, S' a ≠ none → S a ≠ none ∨ G a) ∧ R S') :
    ∃ S', Ex S S' ∧ Ex S' H ∧ (∀ a, S' a ≠ none → S a ≠ none ∨ F a) ∧ S' p = some o ∧ ∃ S1, Ex S1 S' ∧ R S1 := by
  obtain ⟨S1, a1, a2, a3, a4⟩ := k
  have h1 : S1 p = none := by
    cases z : S1 p with
    | none => rfl
    | some o' =>
      rcases a3 p (by rw [z]; simp) with w | w
      · exact absurd (n p ((u p).mpr (.inl rfl))) w
      · exact absurd w nG
  refine ⟨upd S1 p o, a1.trans (Ex.new h1), fun a q e => ?_, fun a q => ?_, upd_same, S1, Ex.new h1, a4⟩
  · by_cases z : a = p
    · subst z; rw [upd_same] at e; cases e; exact hp
    · rw [upd_ne z] at e; exact a2 a q e
  · by_cases z : a = p
    · exact .inr ((u a).mpr (.inl z))
    · rw [upd_ne z] at q
      rcases a3 a q with w | w
      · exact .inl w
      · exact .inr ((u a).mpr (.inr w))
def Lof (m : Mode M) : Mode M where
  fam := fun v d S H F => (d.isLst = false ∧ Rep M S v d ∧ ∀ a, ¬ F a) ∨ ∃ p vs ds G, v = .ref p ∧ d = .lst ds ∧ H p = some (.lst vs) ∧ Els m.fam S H vs ds G ∧ ¬ G p ∧ ∀ a, F a ↔ a = p ∨ G a
  stb := by
    rintro v d S S' H H' F (⟨a, b, c⟩ | ⟨p, vs, ds, G, a, b, c, e, f, g⟩) x y
    · exact .inl ⟨a, b.mono x, c⟩
    · exact .inr ⟨p, vs, ds, G, a, b, (y p ((g p).mpr (.inl rfl))).trans c, e.stay m.stb x fun a q => y a ((g a).mpr (.inr q)), f, g⟩
  rd := by
    rintro v d S H F (⟨a, b, c⟩ | ⟨p, vs, ds, G, rfl, rfl, c, e, f, g⟩) x
    · exact b.mono x
    · exact .lst c (e.rd fun _ _ _ q => m.rd q x)
  sh := by
    rintro v d S H F (⟨a, b, c⟩ | ⟨p, vs, ds, G, rfl, rfl, c, e, f, g⟩) x n s
    · exact ⟨S, Ex.refl _, x, fun _ q => .inl q, b⟩
    · obtain ⟨S', a1, a2, a3, a4, S1, a5, a6⟩ := share_one c f g n (e.sh x (fun a q => n a ((g a).mpr (.inr q))) (fun a q => s a ((g a).mpr (.inr q))))
      exact ⟨S', a1, a2, a3, .lst a4 (a6.mono a5)⟩
  sc := fun {v d S H F} h r n => .inl ⟨(by cases d <;> first | rfl | cases h), r, n⟩
def Kof (m : Key → Mode M) : Mode M where
  fam := fun v d S H F => (d.isDK = false ∧ Rep M S v d ∧ ∀ a, ¬ F a) ∨ ∃ p kvs ks ds G, v = .ref p ∧ d = .dK ks ds ∧ H p = some (.dK kvs) ∧ (kvs.map (·.1) = ks ∧ ks.Nodup) ∧ ElsF (fun k => (m k).fam) S H ks (kvs.map (·.2)) ds G ∧ ¬ G p ∧ ∀ a, F a ↔ a = p ∨ G a
  stb := by
    rintro v d S S' H H' F (⟨a, b, c⟩ | ⟨p, kvs, ks, ds, G, a, b, c, k, e, f, g⟩) x y
    · exact .inl ⟨a, b.mono x, c⟩
    · exact .inr ⟨p, kvs, ks, ds, G, a, b, (y p ((g p).mpr (.inl rfl))).trans c, k, e.stay (fun k => (m k).stb) x fun a q => y a ((g a).mpr (.inr q)), f, g⟩
  rd := by
    rintro v d S H F (⟨a, b, c⟩ | ⟨p, kvs, ks, ds, G, rfl, rfl, c, k, e, f, g⟩) x
    · exact b.mono x
    · exact .dK c k.1 (e.rd fun k _ _ _ q => (m k).rd q x)
  sh := by
    rintro v d S H F (⟨a, b, c⟩ | ⟨p, kvs, ks, ds, G, rfl, rfl, c, k, e, f, g⟩) x n s
    · exact ⟨S, Ex.refl _, x, fun _ q => .inl q, b⟩
    · obtain ⟨S', a1, a2, a3, a4, S1, a5, a6⟩ := share_one c f g n (e.sh x (fun a q => n a ((g a).mpr (.inr q))) (fun a q => s a ((g a).mpr (.inr q))))
      exact ⟨S', a1, a2, a3, .dK a4 k.1 (a6.mono a5)⟩
  sc := fun {v d S H F} h r n => .inl ⟨(by cases d <;> first | rfl | cases h), r, n⟩
def Tof (m : Mode M) : Mode M where
  fam := fun v d S H F => (d.isDT = false ∧ Rep M S v d ∧ ∀ a, ¬ F a) ∨ ∃ p kvs ks ds G, v = .ref p ∧ d = .dT ks ds ∧ H p = some (.dT kvs) ∧ (kvs.map (·.1) = ks ∧ ks.Nodup) ∧ ElsF (fun _ => m.fam) S H ks (kvs.map (·.2)) ds G ∧ ¬ G p ∧ ∀ a, F a ↔ a = p ∨ G a
  stb := by
    rintro v d S S' H H' F (⟨a, b, c⟩ | ⟨p, kvs, ks, ds, G, a, b, c, k, e, f, g⟩) x y
    · exact .inl ⟨a, b.mono x, c⟩
    · exact .inr ⟨p, kvs, ks, ds, G, a, b, (y p ((g p).mpr (.inl rfl))).trans c, k, e.stay (fun _ => m.stb) x fun a q => y a ((g a).mpr (.inr q)), f, g⟩
  rd := by
    rintro v d S H F (⟨a, b, c⟩ | ⟨p, kvs, ks, ds, G, rfl, rfl, c, k, e, f, g⟩) x
    · exact b.mono x
    · exact .dT c k.1 (e.rd fun _ _ _ _ q => m.rd q x)
  sh := by
    rintro v d S H F (⟨a, b, c⟩ | ⟨p, kvs, ks, ds, G, rfl, rfl, c, k, e, f, g⟩) x n s
    · exact ⟨S, Ex.refl _, x, fun _ q => .inl q, b⟩
    · obtain ⟨S', a1, a2, a3, a4, S1, a5, a6⟩ := share_one c f g n (ElsF.sh (m := fun _ => m) e x (fun a q => n a ((g a).mpr (.inr q))) (fun a q => s a ((g a).mpr (.inr q))))
      exact ⟨S', a1, a2, a3, .dT a4 k.1 (a6.mono a5)⟩
  sc := fun {v d S H F} h r n => .inl ⟨(by cases d <;> first | rfl | cases h), r, n⟩
/-! ### pieces of modes -/
variable {S H : Hp} {Γ : List Pc} {m : Mode M} {v : V} {d : D}
theorem Holds.addFz (h : Holds S H Γ) (r : Rep M S v d) : Holds S H ((fz (M := M)).fam v d :: Γ) := h.pure (fz.stb v d) fun F n => ⟨r, n⟩
theorem Holds.shareM (h : Holds S H (m.fam v d :: Γ)) : ∃ S', Ex S S' ∧ Holds S' H ((DM.fz (M := M)).fam v d :: Γ) :=
  h.share (fun F p a b => by
    obtain ⟨S', e1, e2, n, r⟩ := m.sh p h.ex a b
    exact ⟨S', e1, e2, n, fun G nG => ⟨r, nG⟩⟩) (DM.fz.stb v d)
theorem Holds.scM (h : Holds S H Γ) (sc : d.isSc = true) (r : Rep M S v d) : Holds S H (m.fam v d :: Γ) := h.pure (m.stb v d) fun F n => m.sc sc r n
theorem Holds.rd (h : Holds S H (m.fam v d :: Γ)) : Rep M H v d := by
  obtain ⟨F, p⟩ := h.mem (List.mem_cons_self ..)
  exact m.rd p h.ex
end
end DM
set_option maxRecDepth 100000
/-! Data mirror, part 3: slots, what an expression, a test, an argument list is worth. -/
namespace DM
open PySem PySem.Spec L2
abbrev DEnv := List (Option D)
inductive R (α : Type) where
  | ok (a : α) (δ : DEnv)
  | exc (c : Str) (δ : DEnv)
  | stuck
def R.bind {α β : Type} (r : R α) (f : α → DEnv → R β) : R β := match r with
  | .ok a δ => f a δ
  | .exc c δ => .exc c δ
  | .stuck => .stuck
@[simp] theorem R.bind_ok {α β : Type} (a : α) (δ : DEnv) (f : α → DEnv → R β) : (R.ok a δ).bind f = f a δ := rfl
@[simp] theorem R.bind_exc {α β : Type} (c : Str) (δ : DEnv) (f : α → DEnv → R β) : (R.exc c δ).bind f = .exc c δ := rfl
@[simp] theorem R.bind_stuck {α β : Type} (f : α → DEnv → R β) : (R.stuck).bind f = .stuck := rfl
def R.of {α : Type} (o : Option α) (δ : DEnv) : R α := match o with
  | some a => .ok a δ
  | none => .stuck
@[simp] theorem R.of_some {α : Type} (a : α) (δ : DEnv) : R.of (some a) δ = .ok a δ := rfl
@[simp] theorem R.of_none {α : Type} (δ : DEnv) : R.of (none : Option α) δ = .stuck := rfl
abbrev mdl (X : Cx) : Mdl := ⟨X.K, X.mg⟩
inductive Sl {M : Mdl} : List (Mode M) → St → DEnv → List Pc → Prop
  | nil : Sl [] [] [] []
  | no {ms : List (Mode M)} {σ : St} {δ : DEnv} {Γ : List Pc} {m : Mode M} {v : Option V} : Sl ms σ δ Γ → Sl (m :: ms) (v :: σ) (none :: δ) Γ
  | yes {ms : List (Mode M)} {σ : St} {δ : DEnv} {Γ : List Pc} {m : Mode M} {v : V} {d : D} : Sl ms σ δ Γ → Sl (m :: ms) (some v :: σ) (some d :: δ) (m.fam v d :: Γ)
section
variable {M : Mdl} {ms : List (Mode M)} {σ : St} {δ : DEnv} {Γ : List Pc}
theorem Sl.len (h : Sl ms σ δ Γ) : σ.length = ms.length ∧ δ.length = ms.length := by
  induction h with
  | nil => exact ⟨rfl, rfl⟩
  | no _ ih => simp [ih.1, ih.2]
  | yes _ ih => simp [ih.1, ih.2]
theorem Sl.mem (h : Sl ms σ δ Γ) : ∀ {i : Nat} {d : D}, δ[i]? = some (some d) → ∃ v m, σ[i]? = some (some v) ∧ ms[i]? = some m ∧ m.fam v d ∈ Γ := by
  induction h with
  | nil => intro i d e; simp at e
  | no _ ih =>
    intro i d e
    cases i with
    | zero => simp at e
    | succ i =>
      obtain ⟨v, m, a, b, c⟩ := ih (i := i) (by simpa using e)
      exact ⟨v, m, by simpa using a, by simpa using b, c⟩
  | yes _ ih =>
    intro i d e
    cases i with
    | zero => simp at e; subst e; exact ⟨_, _, rfl, rfl, List.mem_cons_self ..⟩
    | succ i =>
      obtain ⟨v, m, a, b, c⟩ := ih (i := i) (by simpa using e)
      exact ⟨v, m, by simpa using a, by simpa using b, List.mem_cons_of_mem _ c⟩
theorem Sl.take (h : Sl ms σ δ Γ) : ∀ {i : Nat} {d : D}, δ[i]? = some (some d) → ∃ v m Γ', σ[i]? = some (some v) ∧ ms[i]? = some m ∧ Γ.Perm (m.fam v d :: Γ') ∧ Sl ms σ (δ.set i none) Γ' := by
  induction h with
  | nil => intro i d e; simp at e
  | no _ ih =>
    intro i d e
    cases i with
    | zero => simp at e
    | succ i =>
      obtain ⟨v, m, Γ', a, b, c, k⟩ := ih (i := i) (by simpa using e)
      exact ⟨v, m, Γ', by simpa using a, by simpa using b, c, .no k⟩
  | @yes ms σ δ Γ m0 v0 d0 t ih =>
    intro i d e
    cases i with
    | zero => simp at e; subst e; exact ⟨_, _, _, rfl, rfl, List.Perm.refl _, .no t⟩
    | succ i =>
      obtain ⟨v, m, Γ', a, b, c, k⟩ := ih (i := i) (by simpa using e)
      exact ⟨v, m, m0.fam v0 d0 :: Γ', by simpa using a, by simpa using b, (c.cons _).trans (.swap ..), .yes k⟩
theorem Sl.putV (h : Sl ms σ δ Γ) : ∀ {i : Nat} {m : Mode M} (v : V) (d : D), ms[i]? = some m → δ[i]? = some none → ∃ Γ', Γ'.Perm (m.fam v d :: Γ) ∧ Sl ms (σ.set i (some v)) (δ.set i (some d)) Γ' := by
  induction h with
  | nil => intro i m v d e; simp at e
  | no t ih =>
    intro i m v d e1 e2
    cases i with
    | zero => simp at e1; subst e1; exact ⟨_, List.Perm.refl _, .yes t⟩
    | succ i =>
      obtain ⟨Γ', a, b⟩ := ih (i := i) v d (by simpa using e1) (by simpa using e2)
      exact ⟨Γ', a, .no b⟩
  | @yes ms σ δ Γ m0 v0 d0 t ih =>
    intro i m v d e1 e2
    cases i with
    | zero => simp at e2
    | succ i =>
      obtain ⟨Γ', a, b⟩ := ih (i := i) v d (by simpa using e1) (by simpa using e2)
      exact ⟨_, (a.cons _).trans (.swap ..), .yes b⟩
theorem Sl.put (h : Sl ms σ δ Γ) {i : Nat} {m : Mode M} {v : V} (d : D) (e1 : ms[i]? = some m) (e2 : δ[i]? = some none) (e3 : σ[i]? = some (some v)) : ∃ Γ', Γ'.Perm (m.fam v d :: Γ) ∧ Sl ms σ (δ.set i (some d)) Γ' := by
  obtain ⟨Γ', a, b⟩ := h.putV v d e1 e2
  have e : σ.set i (some v) = σ := by
    obtain ⟨h1, h2⟩ := List.getElem?_eq_some_iff.mp e3
    rw [← h2]
    exact List.set_getElem_self h1
  rw [e] at b
  exact ⟨Γ', a, b⟩
theorem Sl.clear (h : Sl ms σ δ Γ) : ∀ (i : Nat) (w : Option V), ∃ Γ' Δ, Γ.Perm (Δ ++ Γ') ∧ Sl ms (σ.set i w) (δ.set i none) Γ' := by
  induction h with
  | nil => intro i w; exact ⟨[], [], List.Perm.refl _, by simpa using Sl.nil⟩
  | no t ih =>
    intro i w
    cases i with
    | zero => exact ⟨_, [], List.Perm.refl _, .no t⟩
    | succ i =>
      obtain ⟨Γ', Δ, a, b⟩ := ih i w
      exact ⟨Γ', Δ, a, .no b⟩
  | @yes ms σ δ Γ m0 v0 d0 t ih =>
    intro i w
    cases i with
    | zero => exact ⟨_, [m0.fam v0 d0], List.Perm.refl _, .no t⟩
    | succ i =>
      obtain ⟨Γ', Δ, a, b⟩ := ih i w
      refine ⟨m0.fam v0 d0 :: Γ', Δ, ((a.cons _).trans ?_), .yes b⟩
      exact (List.perm_middle).symm
end
section
variable {S H : Hp} {Γ Δ : List Pc}
theorem Holds.dropL (h : Holds S H (Δ ++ Γ)) : Holds S H Γ := by
  induction Δ with
  | nil => exact h
  | cons P Δ ih => exact ih h.drop
end
def StO {M : Mdl} (ms : List (Mode M)) (σ : St) (δ : DEnv) (H : Hp) (τ : List Pc) : Prop := ∃ S Γ, Sl ms σ δ Γ ∧ Holds S H (τ ++ Γ)
section
variable {M : Mdl} {ms : List (Mode M)} {σ : St} {δ : DEnv} {H : Hp} {τ τ' : List Pc} {P Q : Pc}
theorem StO.perm (h : StO ms σ δ H τ) (e : τ.Perm τ') : StO ms σ δ H τ' := let ⟨S, Γ, a, b⟩ := h; ⟨S, Γ, a, b.perm (e.append_right _)⟩
theorem StO.drop (h : StO ms σ δ H (P :: τ)) : StO ms σ δ H τ := let ⟨S, Γ, a, b⟩ := h; ⟨S, Γ, a, b.drop⟩
theorem StO.dropL {τ₀ : List Pc} (h : StO ms σ δ H (τ₀ ++ τ)) : StO ms σ δ H τ := let ⟨S, Γ, a, b⟩ := h; ⟨S, Γ, a, by rw [List.append_assoc] at b; exact b.dropL⟩
theorem StO.swap (h : StO ms σ δ H (P :: Q :: τ)) : StO ms σ δ H (Q :: P :: τ) := h.perm (.swap ..)
theorem StO.share {m : Mode M} {v : V} {d : D} (h : StO ms σ δ H (m.fam v d :: τ)) : StO ms σ δ H ((fz (M := M)).fam v d :: τ) := let ⟨S, Γ, a, b⟩ := h; let ⟨S', _, c⟩ := Holds.shareM (m := m) b; ⟨S', Γ, a, c⟩
theorem StO.rd {m : Mode M} {v : V} {d : D} (h : StO ms σ δ H (m.fam v d :: τ)) : Rep M H v d := let ⟨_, _, _, b⟩ := h; b.rd
theorem StO.fzOf {v : V} {d : D} (h : StO ms σ δ H τ) (r : ∀ S, Rep M S v d) : StO ms σ δ H ((fz (M := M)).fam v d :: τ) := let ⟨S, Γ, a, b⟩ := h; ⟨S, Γ, a, b.addFz (r S)⟩
end
/-! ### what an expression is worth -/
inductive Opd where
  | v (d : D)
  | s (i : Nat)
  | p (i : Nat) (d : D) (g : D → D)
def Opd.get (o : Opd) (δ : DEnv) : Option D := match o with
  | .v d => some d
  | .s i => (δ[i]?).join
  | .p _ d _ => some d
def Opd.fin (o : Opd) (δ : DEnv) : Option DEnv := match o with
  | .p i d g => match δ[i]? with
    | some none => some (δ.set i (some (g d)))
    | _ => none
  | _ => some δ
inductive Kd (M : Mdl) where
  | v (m : Mode M)
  | s (i : Nat)
  | p (i : Nat) (m : Mode M)
def Wnd (A B : D → Pc) : Pc := fun S H F => ∀ S' H' G U d, Ex S S' → (∀ a, F a → H' a = H a) → A d S' H' G → (∀ a, G a → ¬ F a) → (∀ a, U a ↔ G a ∨ F a) → B d S' H' U
theorem Holds.wnd {S H : Hp} {A B : D → Pc} {d : D} {Γ : List Pc} (h : Holds S H (A d :: Wnd A B :: Γ)) (s : Stb (B d)) : Holds S H (B d :: Γ) := by
  obtain ⟨U, a, b, c⟩ := h.own
  cases a with
  | cons s1 p t n u =>
    cases t with
    | cons s2 w t' n' u' =>
      rename_i F1 G1 F2 G2
      refine ⟨h.ex, U, .cons s (w S H F1 (fun a => F1 a ∨ F2 a) d (Ex.refl _) (fun _ _ => rfl) p (fun a x y => n a x ((u' a).mpr (.inl y))) fun _ => Iff.rfl) t' (fun a x y => ?_) (fun a => ?_), b, c⟩
      · rcases x with x | x
        · exact n a x ((u' a).mpr (.inr y))
        · exact n' a x y
      · rw [u a, u' a, or_assoc]
section
variable {X : Cx}
inductive OpP (M : Mdl) (ms : List (Mode M)) (σ : St) : Kd M → V → Opd → List Pc → Prop
  | v {m : Mode M} {v : V} {d : D} : OpP M ms σ (.v m) v (.v d) [m.fam v d]
  | s {i : Nat} {v : V} : σ[i]? = some (some v) → OpP M ms σ (.s i) v (.s i) []
  | p {i : Nat} {m m0 : Mode M} {v v0 : V} {d : D} {g : D → D} : σ[i]? = some (some v0) → ms[i]? = some m0 → OpP M ms σ (.p i m) v (.p i d g) [m.fam v d, Wnd (m.fam v) fun d => m0.fam v0 (g d)]
def Wx (W : WX) (ms : List (Mode (mdl X))) (τ : List Pc) (σ : St) (c : Str) (δ : DEnv) : Prop := ∀ H' C, StO ms σ δ H' τ → X.mg c = some (.ref C) → W (.ref C) none σ H'
def PostO (W : WX) (ms : List (Mode (mdl X))) (k : Kd (mdl X)) (σ : St) (τ : List Pc) (Q : VK) : R Opd → Prop
  | .ok o δ' => ∀ v H' Γa, OpP (mdl X) ms σ k v o Γa → StO ms σ δ' H' (Γa ++ τ) → Q v H'
  | .exc c δ' => Wx (X := X) W ms τ σ c δ'
  | .stuck => False
structure DO (X : Cx) (W : WX) (ms : List (Mode (mdl X))) (e : Expr) (k : Kd (mdl X)) (m : DEnv → R Opd) : Prop where
  run : ∃ t, PE X e t ∧ ∀ σ δ H τ (Q : VK), StO ms σ δ H τ → PostO W ms k σ τ Q (m δ) → t σ H Q
def PostE (W : WX) (ms : List (Mode (mdl X))) (md : Mode (mdl X)) (σ : St) (τ : List Pc) (Q : VK) : R D → Prop
  | .ok d δ' => ∀ v H', StO ms σ δ' H' (md.fam v d :: τ) → Q v H'
  | .exc c δ' => Wx (X := X) W ms τ σ c δ'
  | .stuck => False
structure DE (X : Cx) (W : WX) (ms : List (Mode (mdl X))) (e : Expr) (md : Mode (mdl X)) (m : DEnv → R D) : Prop where
  run : ∃ t, PE X e t ∧ ∀ σ δ H τ (Q : VK), StO ms σ δ H τ → PostE W ms md σ τ Q (m δ) → t σ H Q
def PostT (W : WX) (ms : List (Mode (mdl X))) (σ : St) (τ : List Pc) (Q : Bool → Hp → Prop) : R Bool → Prop
  | .ok b δ' => ∀ H', StO ms σ δ' H' τ → Q b H'
  | .exc c δ' => Wx (X := X) W ms τ σ c δ'
  | .stuck => False
structure DT (X : Cx) (W : WX) (ms : List (Mode (mdl X))) (e : Expr) (m : DEnv → R Bool) : Prop where
  run : ∃ t, PT X e t ∧ ∀ σ δ H τ (Q : Bool → Hp → Prop), StO ms σ δ H τ → PostT W ms σ τ Q (m δ) → t σ H Q
inductive OpPs (M : Mdl) (ms : List (Mode M)) (σ : St) : List (Kd M) → List V → List Opd → List Pc → Prop
  | nil : OpPs M ms σ [] [] [] []
  | cons {k : Kd M} {v : V} {o : Opd} {Γ Δ : List Pc} {ks : List (Kd M)} {vs : List V} {os : List Opd} : OpP M ms σ k v o Γ → OpPs M ms σ ks vs os Δ → OpPs M ms σ (k :: ks) (v :: vs) (o :: os) (Γ ++ Δ)
def PostA (W : WX) (ms : List (Mode (mdl X))) (ks : List (Kd (mdl X))) (σ : St) (τ : List Pc) (Q : List V → Hp → Prop) : R (List Opd) → Prop
  | .ok os δ' => ∀ vs H' Γa, OpPs (mdl X) ms σ ks vs os Γa → StO ms σ δ' H' (Γa ++ τ) → Q vs H'
  | .exc c δ' => Wx (X := X) W ms τ σ c δ'
  | .stuck => False
def RelA (W : WX) (ms : List (Mode (mdl X))) (ks : List (Kd (mdl X))) (t : TA) (m : DEnv → R (List Opd)) : Prop := ∀ σ δ H τ (Q : List V → Hp → Prop), StO ms σ δ H τ → PostA W ms ks σ τ Q (m δ) → t σ H Q
def RelO (W : WX) (ms : List (Mode (mdl X))) (k : Kd (mdl X)) (t : TE) (m : DEnv → R Opd) : Prop := ∀ σ δ H τ (Q : VK), StO ms σ δ H τ → PostO W ms k σ τ Q (m δ) → t σ H Q
structure DA (X : Cx) (W : WX) (ms : List (Mode (mdl X))) (es : List Expr) (ks : List (Kd (mdl X))) (m : DEnv → R (List Opd)) : Prop where
  run : ∃ t, PA X es t ∧ RelA W ms ks t m
end
section
variable {X : Cx} {W : WX} {ms : List (Mode (mdl X))} {e : Expr} {md : Mode (mdl X)}
theorem Wx.drop {τ Δ : List Pc} {σ : St} {c : Str} {δ : DEnv} (h : Wx (X := X) W ms τ σ c δ) : Wx (X := X) W ms (Δ ++ τ) σ c δ := fun H' C st g => h H' C st.dropL g
def oV (m : DEnv → R D) : DEnv → R Opd := fun δ => (m δ).bind fun d δ' => .ok (.v d) δ'
theorem DE.op {m : DEnv → R D} (h : DE X W ms e md m) : DO X W ms e (.v md) (oV m) := by
  obtain ⟨t, pe, k⟩ := h.run
  refine ⟨t, pe, fun σ δ H τ Q st q => k σ δ H τ Q st ?_⟩
  unfold oV at q
  cases z : m δ with
  | ok d δ' =>
    rw [z] at q
    exact fun v H' st' => q v H' _ .v st'
  | exc c δ' => rw [z] at q; exact q
  | stuck => rw [z] at q; exact q
theorem DE.share {m : DEnv → R D} (h : DE X W ms e md m) : DE X W ms e fz m := by
  obtain ⟨t, pe, k⟩ := h.run
  refine ⟨t, pe, fun σ δ H τ Q st q => k σ δ H τ Q st ?_⟩
  cases z : m δ with
  | ok d δ' =>
    rw [z] at q
    exact fun v H' st' => q v H' st'.share
  | exc c δ' => rw [z] at q; exact q
  | stuck => rw [z] at q; exact q
/-! ### names and constants -/
def mC (d : D) : DEnv → R D := fun δ => .ok d δ
theorem de_c {v : V} {d : D} (p : PE X e (tC v)) (r : ∀ S, Rep (mdl X) S v d) : DE X W ms e fz (mC d) := ⟨_, p, fun σ δ H τ Q st q => q v H (st.fzOf r)⟩
def mVar (i : Nat) : DEnv → R D := fun δ => .of (δ[i]?).join δ
theorem de_var {i : Nat} (p : PE X e (tVar i)) (hm : ms[i]? = some fz) : DE X W ms e fz (mVar i) := by
  refine ⟨_, p, fun σ δ H τ Q st q => ?_⟩
  unfold mVar at q
  cases z : δ[i]? with
  | none => rw [z] at q; exact False.elim q
  | some o =>
    cases o with
    | none => rw [z] at q; exact False.elim q
    | some d =>
      rw [z] at q
      obtain ⟨S, Γ, sl, ho⟩ := st
      obtain ⟨v, m, e1, e2, e3⟩ := sl.mem z
      rw [hm] at e2; cases e2
      obtain ⟨F, r, _⟩ := ho.mem (List.mem_append_right τ e3)
      exact ⟨v, e1, q v H ⟨S, Γ, sl, ho.addFz r⟩⟩
def mMove (i : Nat) : DEnv → R D := fun δ => match (δ[i]?).join with
  | some d => .ok d (δ.set i none)
  | none => .stuck
theorem de_move {i : Nat} (p : PE X e (tVar i)) (hm : ms[i]? = some md) : DE X W ms e md (mMove i) := by
  refine ⟨_, p, fun σ δ H τ Q st q => ?_⟩
  unfold mMove at q
  cases z : δ[i]? with
  | none => rw [z] at q; exact False.elim q
  | some o =>
    cases o with
    | none => rw [z] at q; exact False.elim q
    | some d =>
      rw [z] at q
      obtain ⟨S, Γ, sl, ho⟩ := st
      obtain ⟨v, m, Γ', e1, e2, e3, sl'⟩ := sl.take z
      rw [hm] at e2; cases e2
      exact ⟨v, e1, q v H ⟨S, Γ', sl', (ho.perm ((e3.append_left τ).trans List.perm_middle))⟩⟩
def oS (i : Nat) : DEnv → R Opd := fun δ => match (δ[i]?).join with
  | some _ => .ok (.s i) δ
  | none => .stuck
theorem do_s {i : Nat} (p : PE X e (tVar i)) : DO X W ms e (.s i) (oS i) := by
  refine ⟨_, p, fun σ δ H τ Q st q => ?_⟩
  unfold oS at q
  cases z : δ[i]? with
  | none => rw [z] at q; exact False.elim q
  | some o =>
    cases o with
    | none => rw [z] at q; exact False.elim q
    | some d =>
      rw [z] at q
      obtain ⟨S, Γ, sl, ho⟩ := id st
      obtain ⟨v, m, e1, e2, e3⟩ := sl.mem z
      exact ⟨v, e1, q v H _ (.s e1) st⟩
/-! ### argument lists -/
def mNil : DEnv → R (List Opd) := fun δ => .ok [] δ
def mCons (a : DEnv → R Opd) (r : DEnv → R (List Opd)) : DEnv → R (List Opd) := fun δ => (a δ).bind fun o δ1 => (r δ1).bind fun os δ2 => .ok (o :: os) δ2
theorem relA_nil : RelA (X := X) W ms [] tNil mNil := fun σ δ H τ Q st q => q [] H [] .nil st
theorem relA_cons {k : Kd (mdl X)} {ks : List (Kd (mdl X))} {a : DEnv → R Opd} {r : DEnv → R (List Opd)} {t : TE} {u : TA} (h : RelO W ms k t a) (hr : RelA W ms ks u r) : RelA W ms (k :: ks) (tCons t u) (mCons a r) := by
  intro σ δ H τ Q st q
  refine h σ δ H τ _ st ?_
  unfold mCons at q
  cases z : a δ with
  | exc c δ' => rw [z] at q; exact q
  | stuck => rw [z] at q; exact q
  | ok o δ1 =>
    rw [z] at q
    intro v H1 Γa op st1
    refine hr σ δ1 H1 _ _ st1 ?_
    cases z2 : r δ1 with
    | exc c δ' => rw [R.bind_ok, z2] at q; exact Wx.drop q
    | stuck => rw [R.bind_ok, z2] at q; exact q
    | ok os δ2 =>
      rw [R.bind_ok, z2] at q
      intro vs H2 Γb ops st2
      refine q (v :: vs) H2 (Γa ++ Γb) (.cons op ops) (st2.perm ?_)
      rw [← List.append_assoc]
      exact List.perm_append_comm.append_right _
theorem da_nil : DA X W ms [] [] mNil := ⟨_, pa_nil, relA_nil⟩
theorem da_cons {es : List Expr} {k : Kd (mdl X)} {ks : List (Kd (mdl X))} {a : DEnv → R Opd} {r : DEnv → R (List Opd)} (h : DO X W ms e k a) (hr : DA X W ms es ks r) (hs : starEach (e :: es) X.env = (false, eval e X.env) :: starEach es X.env := by rfl) : DA X W ms (e :: es) (k :: ks) (mCons a r) := by
  obtain ⟨t, pe, h⟩ := h.run
  obtain ⟨u, pa, hr⟩ := hr.run
  exact ⟨_, pa_cons pe pa hs, relA_cons h hr⟩
end
/-! ### reading operations: the operands stay, a value comes -/
def gets (os : List Opd) (δ : DEnv) : Option (List D) := match os with
  | [] => some []
  | o :: r => match o.get δ, gets r δ with
    | some d, some ds => some (d :: ds)
    | _, _ => none
def fins (os : List Opd) (δ : DEnv) : Option DEnv := match os with
  | [] => some δ
  | o :: r => match o.fin δ with
    | some δ' => fins r δ'
    | none => none
section
variable {M : Mdl} {ms : List (Mode M)} {σ : St}
def Kd.mode (ms : List (Mode M)) : Kd M → Mode M
  | .v m => m
  | .s i => ms.getD i fz
  | .p _ m => m
def Seen (S H : Hp) (m : Mode M) (v : V) (d : D) : Prop := ∃ F, m.fam v d S H F
theorem OpP.seen {S H : Hp} {k : Kd M} {v : V} {o : Opd} {Γa Γ τ : List Pc} {δ : DEnv} {d : D} (h : OpP M ms σ k v o Γa) (sl : Sl ms σ δ Γ) (ho : Holds S H (Γa ++ τ ++ Γ)) (e : o.get δ = some d) : Seen S H (k.mode ms) v d := by
  cases h with
  | v => cases e; exact ho.mem (List.mem_cons_self ..)
  | @s i v es =>
    have e' : (δ[i]?).join = some d := e
    obtain ⟨o, e1, e2⟩ : ∃ o, δ[i]? = some o ∧ o = some d := by
      cases z : δ[i]? with
      | none => rw [z] at e'; cases e'
      | some o => rw [z] at e'; exact ⟨o, rfl, e'⟩
    subst e2
    obtain ⟨v', m, a, b, c⟩ := sl.mem e1
    rw [es] at a; cases a
    have hm : (Kd.s i : Kd M).mode ms = m := by
      show ms.getD i fz = m
      rw [List.getD_eq_getElem?_getD, b]; rfl
    rw [hm]
    exact ho.mem (List.mem_append_right _ c)
  | p _ _ => cases e; exact ho.mem (List.mem_cons_self ..)
theorem OpP.fin {H : Hp} {k : Kd M} {v : V} {o : Opd} {Γa τ : List Pc} {δ δ' : DEnv} (h : OpP M ms σ k v o Γa) (st : StO ms σ δ H (Γa ++ τ)) (e : o.fin δ = some δ') : StO ms σ δ' H τ := by
  cases h with
  | v => cases e; exact st.drop
  | s _ => cases e; exact st
  | @p i m m0 v v0 d g e1 e2 =>
    obtain ⟨S, Γ, sl, ho⟩ := st
    unfold Opd.fin at e
    dsimp only at e
    split at e
    · rename_i z
      cases e
      have ho' : Holds S H (m0.fam v0 (g d) :: (τ ++ Γ)) := Holds.wnd (A := m.fam v) (B := fun d => m0.fam v0 (g d)) ho (m0.stb _ _)
      obtain ⟨Γ', p, sl'⟩ := sl.put (g d) e2 z e1
      refine ⟨S, Γ', sl', ho'.perm ?_⟩
      exact (List.perm_middle.symm).trans (p.symm.append_left τ)
    · cases e
theorem OpPs.fins {H : Hp} : ∀ {ks : List (Kd M)} {vs : List V} {os : List Opd} {Γa τ : List Pc} {δ δ' : DEnv}, OpPs M ms σ ks vs os Γa → StO ms σ δ H (Γa ++ τ) → DM.fins os δ = some δ' → StO ms σ δ' H τ
  | _, _, _, _, _, _, _, .nil, st, e => by cases e; exact st
  | _, _, _, _, τ, δ, δ', .cons (Γ := Γ) (Δ := Δ) (o := o) h t, st, e => by
    unfold DM.fins at e
    split at e
    · rename_i δ1 z
      rw [List.append_assoc] at st
      exact t.fins (h.fin st z) e
    · cases e
inductive Seens (S H : Hp) : List (Mode M) → List V → List D → Prop
  | nil : Seens S H [] [] []
  | cons {m : Mode M} {v : V} {d : D} {qs : List (Mode M)} {vs : List V} {ds : List D} : Seen S H m v d → Seens S H qs vs ds → Seens S H (m :: qs) (v :: vs) (d :: ds)
theorem OpPs.seen {S H : Hp} : ∀ {ks : List (Kd M)} {vs : List V} {os : List Opd} {Γa Γ τ : List Pc} {δ : DEnv} {ds : List D}, OpPs M ms σ ks vs os Γa → Sl ms σ δ Γ → Holds S H (Γa ++ τ ++ Γ) → gets os δ = some ds → Seens S H (ks.map (Kd.mode ms)) vs ds
  | _, _, _, _, _, _, _, _, .nil, _, _, e => by cases e; exact .nil
  | _, _, _, _, Γ, τ, δ, ds, .cons (Γ := Γ1) (Δ := Δ) (o := o) h t, sl, ho, e => by
    unfold gets at e
    split at e
    · rename_i d ds' z1 z2
      cases e
      rw [List.append_assoc] at ho
      refine .cons (h.seen (τ := Δ ++ τ) sl (by simpa using ho) z1) (t.seen (τ := τ) sl ?_ z2)
      have ho2 : Holds S H (Γ1 ++ (Δ ++ τ ++ Γ)) := by simpa using ho
      exact ho2.dropL
    · cases e
end
end DM
set_option maxRecDepth 100000
/-! Data mirror, part 4: reading operations, by their operands. -/
namespace DM
open PySem PySem.Spec L2
section
variable {X : Cx} {W : WX} {ms : List (Mode (mdl X))}
def OpN (M : Mdl) (r : List V → Hp → VK → Prop) (qs : List (Mode M)) (md : Mode M) (f : List D → Option D) : Prop :=
  ∀ (S H : Hp) (Γ : List Pc) (vs : List V) (ds : List D) (d : D) (Q : VK), Holds S H Γ → Seens S H qs vs ds → f ds = some d → (∀ v S' H', Holds S' H' (md.fam v d :: Γ) → Q v H') → r vs H Q
def mOpN (a : DEnv → R (List Opd)) (f : List D → Option D) : DEnv → R D := fun δ => (a δ).bind fun os δ1 => match gets os δ1, fins os δ1 with
  | some ds, some δ2 => .of (f ds) δ2
  | _, _ => .stuck
theorem relN {ks : List (Kd (mdl X))} {t : TA} {a : DEnv → R (List Opd)} {r : List V → Hp → VK → Prop} {md : Mode (mdl X)} {f : List D → Option D} (h : RelA W ms ks t a) (op : OpN (mdl X) r (ks.map (Kd.mode ms)) md f) :
    ∀ σ δ H τ (Q : VK), StO ms σ δ H τ → PostE W ms md σ τ Q (mOpN a f δ) → t σ H fun vs H1 => r vs H1 Q := by
  intro σ δ H τ Q st q
  refine h σ δ H τ _ st ?_
  unfold mOpN at q
  cases z : a δ with
  | exc c δ' => rw [z] at q; exact q
  | stuck => rw [z] at q; exact q
  | ok os δ1 =>
    rw [z, R.bind_ok] at q
    intro vs H1 Γa ops st1
    split at q
    · rename_i ds δ2 z1 z2
      obtain ⟨S, Γ, sl, ho⟩ := id st1
      have sn := ops.seen sl ho z1
      cases zf : f ds with
      | none => rw [zf] at q; exact q.elim
      | some d =>
        rw [zf] at q
        refine op S H1 _ vs ds d Q ho sn zf fun v S' H' ho' => q v H' ?_
        have st2 : StO ms σ δ1 H' (md.fam v d :: (Γa ++ τ)) := ⟨S', Γ, sl, ho'⟩
        have st3 : StO ms σ δ1 H' (Γa ++ (md.fam v d :: τ)) := st2.perm List.perm_middle.symm
        exact ops.fins st3 z2
    · exact q.elim
/-! ### one operand, two -/
def Op1 (M : Mdl) (r : V → Hp → VK → Prop) (m1 md : Mode M) (f : D → Option D) : Prop :=
  ∀ (S H : Hp) (Γ : List Pc) (x : V) (a d : D) (Q : VK), Holds S H Γ → Seen S H m1 x a → f a = some d → (∀ v S' H', Holds S' H' (md.fam v d :: Γ) → Q v H') → r x H Q
def Op2 (M : Mdl) (r : R2) (m1 m2 md : Mode M) (f : D → D → Option D) : Prop :=
  ∀ (S H : Hp) (Γ : List Pc) (x y : V) (a b d : D) (Q : VK), Holds S H Γ → Seen S H m1 x a → Seen S H m2 y b → f a b = some d → (∀ v S' H', Holds S' H' (md.fam v d :: Γ) → Q v H') → r x y H Q
def un1 (f : D → Option D) : List D → Option D
  | [a] => f a
  | _ => none
def un2 (f : D → D → Option D) : List D → Option D
  | [a, b] => f a b
  | _ => none
def of1 (r : V → Hp → VK → Prop) (vs : List V) (H : Hp) (Q : VK) : Prop := match vs with
  | [x] => r x H Q
  | _ => False
def of2 (r : R2) (vs : List V) (H : Hp) (Q : VK) : Prop := match vs with
  | [x, y] => r x y H Q
  | _ => False
theorem Op1.n {M : Mdl} {r : V → Hp → VK → Prop} {m1 md : Mode M} {f : D → Option D} (h : Op1 M r m1 md f) : OpN M (of1 r) [m1] md (un1 f) := by
  intro S H Γ vs ds d Q ho sn e k
  cases sn with
  | cons s1 t => cases t with | nil => exact h S H Γ _ _ d Q ho s1 e k
theorem Op2.n {M : Mdl} {r : R2} {m1 m2 md : Mode M} {f : D → D → Option D} (h : Op2 M r m1 m2 md f) : OpN M (of2 r) [m1, m2] md (un2 f) := by
  intro S H Γ vs ds d Q ho sn e k
  cases sn with
  | cons s1 t => cases t with | cons s2 t => cases t with | nil => exact h S H Γ _ _ _ _ d Q ho s1 s2 e k
def mOp2 (a b : DEnv → R Opd) (f : D → D → Option D) : DEnv → R D := mOpN (mCons a (mCons b mNil)) (un2 f)
def mOp1 (a : DEnv → R Opd) (f : D → Option D) : DEnv → R D := mOpN (mCons a mNil) (un1 f)
theorem relE2 {k1 k2 : Kd (mdl X)} {ta tb : TE} {a b : DEnv → R Opd} {r : R2} {md : Mode (mdl X)} {f : D → D → Option D} (ha : RelO W ms k1 ta a) (hb : RelO W ms k2 tb b) (op : Op2 (mdl X) r (k1.mode ms) (k2.mode ms) md f) :
    ∀ σ δ H τ (Q : VK), StO ms σ δ H τ → PostE W ms md σ τ Q (mOp2 a b f δ) → tOp r ta tb σ H Q := fun σ δ H τ Q st q =>
  relN (relA_cons ha (relA_cons hb relA_nil)) op.n σ δ H τ Q st q
theorem relE1 {k1 : Kd (mdl X)} {ta : TE} {a : DEnv → R Opd} {r : V → Hp → VK → Prop} {md : Mode (mdl X)} {f : D → Option D} (ha : RelO W ms k1 ta a) (op : Op1 (mdl X) r (k1.mode ms) md f) :
    ∀ σ δ H τ (Q : VK), StO ms σ δ H τ → PostE W ms md σ τ Q (mOp1 a f δ) → tUn r ta σ H Q := fun σ δ H τ Q st q =>
  relN (relA_cons ha relA_nil) op.n σ δ H τ Q st q
/-! ### values as operands: the plain forms -/
/-! ### the expressions -/
variable {a b : Expr} {pos : Pos}
theorem DO.rel {e : Expr} {k : Kd (mdl X)} {m : DEnv → R Opd} (h : DO X W ms e k m) : ∃ t, PE X e t ∧ RelO W ms k t m := h.run
theorem de_op {op : Operator} {r : R2} {k1 k2 : Kd (mdl X)} {ma mb : DEnv → R Opd} {md : Mode (mdl X)} {f : D → D → Option D} (ho : OpR X (binaryOp op) r) (ha : DO X W ms a k1 ma) (hb : DO X W ms b k2 mb) (h : Op2 (mdl X) r (k1.mode ms) (k2.mode ms) md f) :
    DE X W ms (.BinOp a op b pos) md (mOp2 ma mb f) := by
  obtain ⟨ta, pa, ra⟩ := ha.rel
  obtain ⟨tb, pb, rb⟩ := hb.rel
  exact ⟨_, pe_op ho pa pb, relE2 ra rb h⟩
theorem de_cmp {op : CmpOp} {r : R2} {k1 k2 : Kd (mdl X)} {ma mb : DEnv → R Opd} {md : Mode (mdl X)} {f : D → D → Option D} (ho : OpR X (compareOp op) r) (ha : DO X W ms a k1 ma) (hb : DO X W ms b k2 mb) (h : Op2 (mdl X) r (k1.mode ms) (k2.mode ms) md f)
    (hm : behindInMarks op b = false := by first | exact nomark _ | rfl) : DE X W ms (.Compare a [op] [b] pos) md (mOp2 ma mb f) := by
  obtain ⟨ta, pa, ra⟩ := ha.rel
  obtain ⟨tb, pb, rb⟩ := hb.rel
  exact ⟨_, pe_cmpR ho pa pb hm, relE2 ra rb h⟩
theorem de_ix {r : R2} {k1 k2 : Kd (mdl X)} {ma mb : DEnv → R Opd} {md : Mode (mdl X)} {f : D → D → Option D} (ho : IxR X r) (ha : DO X W ms a k1 ma) (hb : DO X W ms b k2 mb) (h : Op2 (mdl X) r (k1.mode ms) (k2.mode ms) md f) (hs : PlainIx b := by exact fun _ _ => rfl) :
    DE X W ms (.Subscript a b pos) md (mOp2 ma mb f) := by
  obtain ⟨ta, pa, ra⟩ := ha.rel
  obtain ⟨tb, pb, rb⟩ := hb.rel
  exact ⟨_, pe_ix ho pa pb hs, relE2 ra rb h⟩
theorem de_callB {x : Str} {p : Pos} {e : Expr} {es : List Expr} {id : String} {r : List V → Hp → VK → Prop} {ks : List (Kd (mdl X))} {m : DEnv → R (List Opd)} {md : Mode (mdl X)} {f : List D → Option D} (hc : CallR X (.builtin id) r) (hg : Gl X x) (hm : X.mg x = none) (hv : bootBuiltins x = some (.builtin id))
    (ha : DA X W ms (e :: es) ks m) (h : OpN (mdl X) r (ks.map (Kd.mode ms)) md f) (hn : x ≠ "__name__" := by decide) (hdb : (x == ("__debug__" : Str)) = false := by decide)
    (he : starEach (e :: es) X.env = (false, eval e X.env) :: starEach es X.env := by rfl) (hpl : (backTo pos (starEach es X.env)).any (·.1) = false := by rfl) : DE X W ms (.Call (.Name x p) (e :: es) [] pos) md (mOpN m f) := by
  obtain ⟨t, pa, ra⟩ := ha.run
  exact ⟨_, pe_callB hc hg hm hv pa hn hdb he hpl, relN ra h⟩
theorem de_callTy {x : Str} {p : Pos} {e : Expr} {es : List Expr} {T : String} {r : List V → Hp → VK → Prop} {ks : List (Kd (mdl X))} {m : DEnv → R (List Opd)} {md : Mode (mdl X)} {f : List D → Option D} (hc : CallR X (.type T) r) (hg : Gl X x) (hm : X.mg x = none) (hv : bootBuiltins x = some (.type T))
    (ha : DA X W ms (e :: es) ks m) (h : OpN (mdl X) r (ks.map (Kd.mode ms)) md f) (hn : x ≠ "__name__" := by decide) (hdb : (x == ("__debug__" : Str)) = false := by decide)
    (he : starEach (e :: es) X.env = (false, eval e X.env) :: starEach es X.env := by rfl) (hpl : (backTo pos (starEach es X.env)).any (·.1) = false := by rfl) : DE X W ms (.Call (.Name x p) (e :: es) [] pos) md (mOpN m f) := by
  obtain ⟨t, pa, ra⟩ := ha.run
  exact ⟨_, pe_callTy hc hg hm hv pa hn hdb he hpl, relN ra h⟩
def mTup (m : DEnv → R (List Opd)) : DEnv → R D := mOpN m fun ds => if ds.length ≤ sizeLine then some (.tup ds) else none
def mLst (m : DEnv → R (List Opd)) : DEnv → R D := mOpN m fun ds => if ds.length ≤ sizeLine then some (.lst ds) else none
theorem Seens.repFz {M : Mdl} {S H : Hp} : ∀ {qs : List (Mode M)} {vs : List V} {ds : List D}, Seens S H qs vs ds → (∀ q ∈ qs, q = fz) → RepL M S vs ds
  | _, _, _, .nil, _ => .nil
  | _, _, _, .cons (m := m) ⟨F, s⟩ t, h => by
    have e := h m (List.mem_cons_self ..)
    subst e
    exact .cons s.1 (t.repFz fun q hq => h q (List.mem_cons_of_mem _ hq))
theorem Seens.length {M : Mdl} {S H : Hp} : ∀ {qs : List (Mode M)} {vs : List V} {ds : List D}, Seens S H qs vs ds → vs.length = ds.length
  | _, _, _, .nil => rfl
  | _, _, _, .cons _ t => by rw [List.length_cons, List.length_cons, t.length]
theorem de_tup {es : List Expr} {x1 : Nat} {ks : List (Kd (mdl X))} {m : DEnv → R (List Opd)} (h : DA X W ms es ks m) (hk : ∀ q ∈ ks.map (Kd.mode ms), q = fz) : DE X W ms (.Tuple es x1 pos) fz (mTup m) := by
  obtain ⟨t, pa, ra⟩ := h.run
  refine ⟨_, pe_tup pa, relN (r := fun xs H1 Q => xs.length ≤ sizeLine ∧ ∀ p, H1 p = none → Q (.ref p) (upd H1 p (.tup xs))) ra ?_⟩
  intro S H Γ vs ds d Q ho sn e k
  have rp := sn.repFz hk
  dsimp only at e
  split at e
  · rename_i hl
    cases e
    refine ⟨by rw [sn.length]; exact hl, fun p hp => k (.ref p) _ _ ((ho.newS hp).addFz (.tup (.inl (.inl upd_same)) (rp.mono (Ex.new (ho.ex.free hp)))))⟩
  · cases e
theorem de_lst {es : List Expr} {ks : List (Kd (mdl X))} {m : DEnv → R (List Opd)} (h : DA X W ms es ks m) (hk : ∀ q ∈ ks.map (Kd.mode ms), q = fz) : DE X W ms (.List es pos) (Lof fz) (mLst m) := by
  obtain ⟨t, pa, ra⟩ := h.run
  refine ⟨_, pe_lst pa, relN (r := fun xs H1 Q => xs.length ≤ sizeLine ∧ ∀ p, H1 p = none → Q (.ref p) (upd H1 p (.lst xs))) ra ?_⟩
  intro S H Γ vs ds d Q ho sn e k
  have rp := sn.repFz hk
  dsimp only at e
  split at e
  · rename_i hl
    cases e
    refine ⟨by rw [sn.length]; exact hl, fun p hp => k (.ref p) S _ (ho.newO hp ((Lof fz).stb _ _) fun F hF => .inr ⟨p, vs, ds, fun _ => False, rfl, rfl, upd_same, Els.ofRep rp fun _ q => q, fun q => q, fun a => ?_⟩)⟩
    rw [hF a]
    exact ⟨.inl, fun x => x.elim id False.elim⟩
  · cases e
theorem Sep.els {M : Mdl} {m : Mode M} {S H : Hp} {ms : List (Mode M)} {σ : L2.St} {Γ : List Pc} {ks : List (Kd M)} {vs : List V} {os : List Opd} {Γa : List Pc} (h : OpPs M ms σ ks vs os Γa) : ∀ {U : Foot} {δ : DEnv} {ds : List D}, (∀ k ∈ ks, k = .v m) → gets os δ = some ds → Sep S H (Γa ++ Γ) U →
    ∃ F G, Els m.fam S H vs ds F ∧ Sep S H Γ G ∧ (∀ a, F a → ¬ G a) ∧ (∀ a, U a ↔ F a ∨ G a) ∧ fins os δ = some δ := by
  induction h with
  | nil =>
    intro U δ ds hk e h
    cases e
    exact ⟨fun _ => False, U, .nil fun _ q => q, h, fun _ q => q.elim, fun _ => ⟨.inr, fun x => x.elim False.elim id⟩, rfl⟩
  | @cons k v o Γ1 Δ ks vs os h1 t ih =>
    intro U δ ds hk e h
    have ek := hk k (List.mem_cons_self ..)
    subst ek
    cases h1 with
    | v =>
      cases h with
      | @cons _ _ F0 G0 _ sb p tt dj u =>
        unfold gets at e
        split at e
        · rename_i d' ds' z1 z2
          cases z1
          cases e
          obtain ⟨F, G, a1, a2, a3, a4, a5⟩ := ih (fun k hk' => hk k (List.mem_cons_of_mem _ hk')) z2 tt
          refine ⟨fun a => F0 a ∨ F a, G, .cons p a1 (fun a x y => dj a x ((a4 a).mpr (.inl y))) fun _ => Iff.rfl, a2, fun a x y => ?_, fun a => ?_, a5⟩
          · rcases x with x | x
            · exact dj a x ((a4 a).mpr (.inr y))
            · exact a3 a x y
          · rw [u a, a4 a, or_assoc]
        · cases e
theorem de_lstO {m0 : Mode (mdl X)} {es : List Expr} {ks : List (Kd (mdl X))} {m : DEnv → R (List Opd)} (h : DA X W ms es ks m) (hk : ∀ k ∈ ks, k = .v m0) : DE X W ms (.List es pos) (Lof m0) (mLst m) := by
  obtain ⟨t, pa, ra⟩ := h.run
  refine ⟨_, pe_lst pa, fun σ δ H τ Q st q => ra σ δ H τ (fun xs H1 => xs.length ≤ sizeLine ∧ ∀ p, H1 p = none → Q (.ref p) (upd H1 p (.lst xs))) st ?_⟩
  unfold mLst mOpN at q
  cases z : m δ with
  | exc c δ' => rw [z] at q; exact q
  | stuck => rw [z] at q; exact q
  | ok os δ1 =>
    rw [z, R.bind_ok] at q
    intro vs H1 Γa ops st1
    split at q
    · rename_i ds δ2 z1 z2
      obtain ⟨S, Γ, sl, ho⟩ := id st1
      obtain ⟨U, sp, b, c⟩ := ho.own
      rw [List.append_assoc] at sp
      obtain ⟨F, G, a1, a2, a3, a4, a5⟩ := Sep.els ops hk z1 sp
      rw [a5] at z2
      cases z2
      dsimp only at q
      split at q
      · rename_i hl
        refine ⟨by rw [a1.length]; exact hl, fun p hp => q (.ref p) _ ⟨S, Γ, sl, ?_⟩⟩
        have nU : ∀ x, U x → x ≠ p := fun x y z => c x y (z ▸ hp)
        have keep : ∀ x, U x → upd H1 p (.lst vs) x = H1 x := fun x y => upd_ne (nU x y)
        have hS : S p = none := ho.ex.free hp
        refine ⟨fun x o e => ?_, fun x => (x = p ∨ F x) ∨ G x, .cons ((Lof m0).stb _ _) (F := fun x => x = p ∨ F x) (.inr ⟨p, vs, ds, F, rfl, rfl, upd_same, a1.stay m0.stb (Ex.refl S) fun x y => keep x ((a4 x).mpr (.inl y)), fun y => nU p ((a4 p).mpr (.inl y)) rfl, fun _ => Iff.rfl⟩) (a2.stay (Ex.refl S) fun x y => keep x ((a4 x).mpr (.inr y))) (fun x y z => ?_) fun _ => Iff.rfl, fun x y => ?_, fun x y => ?_⟩
        · rw [upd_ne (fun y => by subst y; rw [hS] at e; cases e)]
          exact ho.ex x o e
        · rcases y with y | y
          · exact nU x ((a4 x).mpr (.inr z)) y
          · exact a3 x y z
        · rcases y with (y | y) | y
          · rw [y]; exact hS
          · exact b x ((a4 x).mpr (.inl y))
          · exact b x ((a4 x).mpr (.inr y))
        · rcases y with (y | y) | y
          · rw [y, upd_same]; simp
          · rw [keep x ((a4 x).mpr (.inl y))]; exact c x ((a4 x).mpr (.inl y))
          · rw [keep x ((a4 x).mpr (.inr y))]; exact c x ((a4 x).mpr (.inr y))
      · exact q.elim
    · exact q.elim
end
end DM
set_option maxRecDepth 100000
/-! Data mirror, part 5: operations on data. -/
namespace PySem.SeqAt
open AutoSeq1 (wpAny_loadPart')
open MeetsSeq MeetsSeq2 MeetsSeq3 SeqRoads2
theorem int_eq_declines_dict (b : Int) (u : Tok) (l : Addr) (c : Value) (es : Array DictEntry) (n : Nat) (dd : Option Addr) (sl : Array (Option Value)) :
    Meets (Builtin.«int.__eq__» ⟨[.int b u, .ref l], []⟩) (fun _ R s => s.heap.get? l = some { cls := c, dict := dd, data := .dict es n, slots := sl } ∧ R (.ok (.ret .notImplemented)) s) :=
  .of_wp fun prog w A R s h => by obtain ⟨hp, g, d, tk, os⟩ := s; obtain ⟨hl, h⟩ := h; wp_walk using wpAny_loadPart' hl, wpAny_load hl; exact ⟨_, rfl, h⟩
theorem dict_eq_declines_int {K : Type} [DecidableEq K] {prog : Program} {w : World} {knd : KeyKind prog w K} {A : Around} {E : Value → Shared → Prop} {s : Shared} {a : Addr} {ka : List (K × Value)} {Q : Value → Shared → Prop} (da : s.heap.DictOf knd a ka) (b : Int) (u : Tok) (h : Q .notImplemented s) :
    wpAny (model prog w) A (call (.builtin "dict.__eq__") [.ref a, .int b u]) Q E s := by
  refine wpAny_call_entry PySem.F.slot_dict_eq da.typeIs PySem.F.entry_dict_eq ?_ (PySem.F.args_dict_eq_2 _ _)
  show wpAny _ _ (Builtin.Dict.dictSlotArgs "__eq__" ⟨[.ref a, .int b u], []⟩ >>= _) _ _ s
  refine wpAny_bind ?_
  unfold Builtin.Dict.dictSlotArgs
  refine wpAny_bind (wpAny_notOrdered_dict da.typeIs ?_)
  show wpAny _ _ (pure (Value.ref a, Value.int b u)) _ _ s
  refine wpAny_pure ?_
  refine wpAny_bind (wpAny_isInstance (T := "int") (typeIs_int s b u) PySem.F.sub_int_dict ?_)
  simp only [Bool.not_false, if_true]
  refine wpAny_bind ?_
  refine wpAny_rule ?_
  exact wpAny_pure ⟨_, rfl, h⟩
end PySem.SeqAt
namespace DM
open PySem PySem.Spec L2
section
variable {M : Mdl} {S H : Hp} {m : Mode M} {x : V}
theorem Seen.rep {d : D} (h : Seen S H m x d) (e : Ex S H) : Rep M H x d := let ⟨_, p⟩ := h; m.rd p e
theorem Seen.int {i : Int} (h : Seen S H m x (.int i)) (e : Ex S H) : x = .int i := by cases h.rep e; rfl
theorem Seen.str {i : Str} (h : Seen S H m x (.str i)) (e : Ex S H) : x = .str i := by cases h.rep e; rfl
theorem Seen.bl {i : Bool} (h : Seen S H m x (.bl i)) (e : Ex S H) : x = .bl i := by cases h.rep e; rfl
theorem Seen.non (h : Seen S H m x .non) (e : Ex S H) : x = .non := by cases h.rep e; rfl
theorem Seen.scr {ns : List Int} (h : Seen S H m x (.scr ns)) (e : Ex S H) : ∃ a, x = .ref a ∧ SqL M.K H a (ns.map V.int) := by cases h.rep e with | scr q => exact ⟨_, rfl, q⟩
theorem Seen.tup {ds : List D} (h : Seen S H m x (.tup ds)) (e : Ex S H) : ∃ a vs, x = .ref a ∧ SqT M.K H a vs ∧ RepL M H vs ds := by cases h.rep e with | tup q r => exact ⟨_, _, rfl, q, r⟩
theorem Seen.lst {ds : List D} (h : Seen S H m x (.lst ds)) (e : Ex S H) : ∃ a vs, x = .ref a ∧ H a = some (.lst vs) ∧ RepL M H vs ds := by cases h.rep e with | lst q r => exact ⟨_, _, rfl, q, r⟩
def Own1 (M : Mdl) (S H : Hp) (v : V) : D → Prop
  | .lst ds => ∃ p vs, v = .ref p ∧ H p = some (.lst vs) ∧ RepL M S vs ds
  | .dK ks ds => ∃ p kvs, v = .ref p ∧ H p = some (.dK kvs) ∧ kvs.map (·.1) = ks ∧ RepL M S (kvs.map (·.2)) ds
  | .dT ks ds => ∃ p kvs, v = .ref p ∧ H p = some (.dT kvs) ∧ kvs.map (·.1) = ks ∧ RepL M S (kvs.map (·.2)) ds
  | _ => False
structure Flat (m : Mode M) : Prop where
  get : ∀ {v : V} {d : D} {S H : Hp} {F : Foot}, m.fam v d S H F → Rep M S v d ∨ Own1 M S H v d
theorem flat_fz : Flat (fz (M := M)) := ⟨fun p => .inl p.1⟩
theorem flat_L : Flat (Lof (fz (M := M))) := ⟨fun p => by
  rcases p with ⟨_, b, _⟩ | ⟨p, vs, ds, G, rfl, rfl, c, e, _, _⟩
  · exact .inl b
  · exact .inr ⟨p, vs, rfl, c, e.toRep.1⟩⟩
theorem Seen.lstF {ds : List D} (h : Seen S H m x (.lst ds)) (f : Flat m) (e : Ex S H) : ∃ a vs, x = .ref a ∧ H a = some (.lst vs) ∧ RepL M S vs ds := by
  obtain ⟨F, p⟩ := h
  rcases f.get p with r | ⟨p, vs, a, b, c⟩
  · cases r with | lst q r => exact ⟨_, _, rfl, e _ _ q, r⟩
  · exact ⟨p, vs, a, b, c⟩
theorem Seen.tupF {ds : List D} (h : Seen S H m x (.tup ds)) (f : Flat m) (e : Ex S H) : ∃ a vs, x = .ref a ∧ SqT M.K H a vs ∧ RepL M S vs ds := by
  obtain ⟨F, p⟩ := h
  rcases f.get p with r | r
  · cases r with | tup q r => exact ⟨_, _, rfl, e.t q, r⟩
  · exact r.elim
/-! ### results -/
variable {Γ : List Pc}
theorem Holds.sc {v : V} {d : D} (h : Holds S H Γ) (r : ∀ S, Rep M S v d) : Holds S H ((fz (M := M)).fam v d :: Γ) := h.addFz (r S)
theorem Holds.newL {p : Addr} {vs : List V} {ds : List D} (h : Holds S H Γ) (hp : H p = none) (r : RepL M S vs ds) : Holds S (upd H p (.lst vs)) ((Lof (fz (M := M))).fam (.ref p) (.lst ds) :: Γ) :=
  h.newO hp ((Lof fz).stb _ _) fun F hF => .inr ⟨p, vs, ds, fun _ => False, rfl, rfl, upd_same, Els.ofRep r fun _ q => q, fun q => q, fun a => (hF a).trans ⟨.inl, fun x => x.elim id False.elim⟩⟩
theorem Holds.notL {v : V} {d : D} (h : Holds S H Γ) (r : Rep M S v d) (n : d.isLst = false) : Holds S H ((Lof (fz (M := M))).fam v d :: Γ) :=
  (h.addFz r).imp ((Lof fz).stb _ _) fun F p => .inl ⟨n, p.1, p.2⟩
theorem Holds.newT {p : Addr} {vs : List V} {ds : List D} (h : Holds S H Γ) (hp : H p = none) (r : RepL M S vs ds) : Holds (upd S p (.tup vs)) (upd H p (.tup vs)) ((fz (M := M)).fam (.ref p) (.tup ds) :: Γ) :=
  (h.newS hp).addFz (.tup (.inl (.inl upd_same)) (r.mono (Ex.new (h.ex.free hp))))
end
section
variable {X : Cx} {m1 m2 : Mode (mdl X)}
/-! ### + - * // % ** & | << >> -/
def addD : D → D → Option D
  | .int i, .int j => some (.int (i + j))
  | .str x, .str y => if x.length + y.length ≤ sizeLine then some (.str (x ++ y)) else none
  | .lst xs, .lst ys => if xs.length + ys.length ≤ sizeLine then some (.lst (xs ++ ys)) else none
  | _, _ => none
def rAddA : R2 := fun x y H Q => rI0 (fun i j => .int (i + j)) x y H Q ∨ (∃ i j, x = .str i ∧ y = .str j ∧ i.length + j.length ≤ sizeLine ∧ Q (.str (i ++ j)) H) ∨ rCat x y H Q
theorem opr_add : OpR X (binaryOp .Add) rAddA := op_add.or (op_add_str.or op_cat)
theorem op2_add (f1 : Flat m1) (f2 : Flat m2) : Op2 (mdl X) rAddA m1 m2 (Lof fz) addD := by
  intro S H Γ x y a b d Q ho s1 s2 e k
  unfold addD at e
  split at e
  · cases e
    cases s1.int ho.ex; cases s2.int ho.ex
    exact .inl ⟨_, _, rfl, rfl, k _ S H (ho.notL (.int _) rfl)⟩
  · split at e
    · rename_i hl
      cases e
      cases s1.str ho.ex; cases s2.str ho.ex
      exact .inr (.inl ⟨_, _, rfl, rfl, hl, k _ S H (ho.notL (.str _) rfl)⟩)
    · cases e
  · split at e
    · rename_i hl
      cases e
      obtain ⟨p, vs, rfl, h1, r1⟩ := s1.lstF f1 ho.ex
      obtain ⟨q, ws, rfl, h2, r2⟩ := s2.lstF f2 ho.ex
      exact .inr (.inr ⟨p, q, vs, ws, rfl, rfl, h1, h2, by rw [r1.length, r2.length]; exact hl, fun n hn => k _ S _ (ho.newL hn (r1.append r2))⟩)
    · cases e
  · cases e
def ii (f : Int → Int → Option Int) : D → D → Option D
  | .int i, .int j => (f i j).map D.int
  | _, _ => none
theorem op2_ii {r : R2} {f : Int → Int → Option Int} (h : ∀ i j n (H : Hp) (Q : VK), f i j = some n → Q (.int n) H → r (.int i) (.int j) H Q) : Op2 (mdl X) r m1 m2 fz (ii f) := by
  intro S H Γ x y a b d Q ho s1 s2 e k
  unfold ii at e
  split at e
  · rename_i i j
    cases s1.int ho.ex; cases s2.int ho.ex
    cases z : f i j with
    | none => rw [z] at e; cases e
    | some n => rw [z] at e; cases e; exact h i j n H Q z (k _ S H (ho.sc fun _ => .int _))
  · cases e
def subD : D → D → Option D := ii fun i j => some (i - j)
theorem op2_sub : Op2 (mdl X) (rI0 fun i j => .int (i - j)) m1 m2 fz subD := op2_ii fun i j n H Q e q => by cases e; exact ⟨_, _, rfl, rfl, q⟩
def nb (i : Int) (n : Nat) : Bool := Nat.ble i.natAbs n
theorem nb_iff {i : Int} {n : Nat} : nb i n = true ↔ -(n : Int) ≤ i ∧ i ≤ n := by
  unfold nb
  rw [Nat.ble_eq]
  omega
def mulOk (i j : Int) : Bool := nb i 18446744073709551615 || nb j 18446744073709551615 || Nat.ble (Builtin.Int.intBits i + Builtin.Int.intBits j) 134217728
def mulD : D → D → Option D
  | .int i, .int j => if mulOk i j = true then some (.int (i * j)) else none
  | .lst xs, .int k => if xs.length * k.toNat ≤ sizeLine ∧ nb k 9223372036854775807 = true then some (.lst (List.replicate k.toNat xs).flatten) else none
  | _, _ => none
def rMulA : R2 := fun x y H Q => rI CMul (fun i j => .int (i * j)) x y H Q ∨ rI CMulX (fun i j => .int (i * j)) x y H Q ∨ rRep x y H Q
theorem opr_mul : OpR X (binaryOp .Mult) rMulA := op_mul.or (op_mulX.or op_rep)
theorem op2_mul (f1 : Flat m1) : Op2 (mdl X) rMulA m1 m2 (Lof fz) mulD := by
  intro S H Γ x y a b d Q ho s1 s2 e k
  unfold mulD at e
  split at e
  · rename_i i j
    split at e
    · rename_i hm
      cases e
      cases s1.int ho.ex; cases s2.int ho.ex
      have q := k _ S H (ho.notL (.int (i * j)) rfl)
      unfold mulOk at hm
      simp only [Bool.or_eq_true, nb_iff, Nat.ble_eq] at hm
      rcases hm with (hm | hm) | hm
      · exact .inl ⟨_, _, rfl, rfl, .inl ⟨by omega, by omega⟩, q⟩
      · exact .inl ⟨_, _, rfl, rfl, .inr ⟨by omega, by omega⟩, q⟩
      · refine .inr (.inl ⟨_, _, rfl, rfl, ?_, q⟩)
        show (Builtin.Int.intBits i : Int) + (Builtin.Int.intBits j : Int) ≤ 134217728
        omega
    · cases e
  · split at e
    · rename_i hl
      cases e
      obtain ⟨p, vs, rfl, h1, r1⟩ := s1.lstF f1 ho.ex
      cases s2.int ho.ex
      have hb := nb_iff.mp hl.2
      exact .inr (.inr ⟨p, _, vs, rfl, rfl, h1, by omega, by omega, by rw [r1.length]; exact hl.1, fun n hn => k _ S _ (ho.newL hn (r1.rep _))⟩)
    · cases e
  · cases e
def fdivD : D → D → Option D := ii fun i j => if 0 < j ∧ nb j 1073741823 = true then some (i / j) else none
theorem op2_fdiv : Op2 (mdl X) (rI CDiv fun i j => .int (i / j)) m1 m2 fz fdivD := op2_ii fun i j n H Q e q => by
  split at e
  · rename_i h; cases e; have hb := nb_iff.mp h.2; exact ⟨_, _, rfl, rfl, ⟨h.1, by omega⟩, q⟩
  · cases e
def modD : D → D → Option D := ii fun i j => if 0 < j then some (i % j) else none
theorem op2_mod : Op2 (mdl X) (rI (fun _ j => 0 < j) fun i j => .int (i % j)) m1 m2 fz modD := op2_ii fun i j n H Q e q => by
  split at e
  · rename_i h; cases e; exact ⟨_, _, rfl, rfl, h, q⟩
  · cases e
/-! ### < <= > >= of ints, of texts -/
def ltD : D → D → Option D
  | .int i, .int j => some (.bl (decide (i < j)))
  | .str i, .str j => some (.bl (decide (i.cps.toList < j.cps.toList)))
  | _, _ => none
def leD : D → D → Option D
  | .int i, .int j => some (.bl (decide (i ≤ j)))
  | .str i, .str j => some (.bl (!decide (j.cps.toList < i.cps.toList)))
  | _, _ => none
def gtD : D → D → Option D
  | .int i, .int j => some (.bl (decide (j < i)))
  | .str i, .str j => some (.bl (decide (j.cps.toList < i.cps.toList)))
  | _, _ => none
def rIS (f : Int → Int → Bool) (g : Str → Str → Bool) : R2 := fun x y H Q => rI0 (fun i j => .bl (f i j)) x y H Q ∨ ∃ i j, x = .str i ∧ y = .str j ∧ Q (.bl (g i j)) H
def isD (f : Int → Int → Bool) (g : Str → Str → Bool) : D → D → Option D
  | .int i, .int j => some (.bl (f i j))
  | .str i, .str j => some (.bl (g i j))
  | _, _ => none
theorem op2_is {f : Int → Int → Bool} {g : Str → Str → Bool} : Op2 (mdl X) (rIS f g) m1 m2 fz (isD f g) := by
  intro S H Γ x y a b d Q ho s1 s2 e k
  unfold isD at e
  split at e
  · cases e; cases s1.int ho.ex; cases s2.int ho.ex
    exact .inl ⟨_, _, rfl, rfl, k _ S H (ho.sc fun _ => .bl _)⟩
  · cases e; cases s1.str ho.ex; cases s2.str ho.ex
    exact .inr ⟨_, _, rfl, rfl, k _ S H (ho.sc fun _ => .bl _)⟩
  · cases e
abbrev rLtA : R2 := rIS (fun i j => decide (i < j)) fun i j => decide (i.cps.toList < j.cps.toList)
abbrev rLeA : R2 := rIS (fun i j => decide (i ≤ j)) fun i j => !decide (j.cps.toList < i.cps.toList)
abbrev rGtA : R2 := rIS (fun i j => decide (j < i)) fun i j => decide (j.cps.toList < i.cps.toList)
theorem opr_lt : OpR X (compareOp .Lt) rLtA := op_lt.or op_lt_str
theorem opr_le : OpR X (compareOp .LtE) rLeA := op_le.or op_le_str
theorem opr_gt : OpR X (compareOp .Gt) rGtA := op_gt.or op_gt_str
theorem op2_lt : Op2 (mdl X) rLtA m1 m2 fz ltD := op2_is
theorem op2_le : Op2 (mdl X) rLeA m1 m2 fz leD := op2_is
theorem op2_gt : Op2 (mdl X) rGtA m1 m2 fz gtD := op2_is
/-! ### is None, is not None -/
def D.isNon : D → Bool
  | .non => true
  | _ => false
def isND : D → D → Option D
  | a, .non => some (.bl a.isNon)
  | _, _ => none
def notND : D → D → Option D
  | a, .non => some (.bl (!a.isNon))
  | _, _ => none
theorem Rep.isNon {M : Mdl} {S : Hp} {v : V} {d : D} (r : Rep M S v d) : decide (v = V.non) = d.isNon := by
  cases r <;> rfl
theorem op2_isN : Op2 (mdl X) (fun x y H Q => y = .non ∧ Q (.bl (decide (x = .non))) H) m1 m2 fz isND := by
  intro S H Γ x y a b d Q ho s1 s2 e k
  unfold isND at e
  split at e
  · cases e; cases s2.non ho.ex
    refine ⟨rfl, ?_⟩
    rw [(s1.rep ho.ex).isNon]
    exact k _ S H (ho.sc fun _ => .bl _)
  · cases e
theorem op2_notN : Op2 (mdl X) (fun x y H Q => y = .non ∧ Q (.bl (!decide (x = .non))) H) m1 m2 fz notND := by
  intro S H Γ x y a b d Q ho s1 s2 e k
  unfold notND at e
  split at e
  · cases e; cases s2.non ho.ex
    refine ⟨rfl, ?_⟩
    rw [(s1.rep ho.ex).isNon]
    exact k _ S H (ho.sc fun _ => .bl _)
  · cases e
/-! ### == and != of data -/
mutual
/-- as the library's data -/
def D.py : D → Option PyData
  | .non => some .none
  | .bl b => some (.bool b)
  | .int i => some (.int i)
  | .str x => some (.str x)
  | .lst ds => (D.pyAll ds).map PyData.list
  | .tup ds => (D.pyAll ds).map PyData.tuple
  | _ => none
def D.pyAll : List D → Option (List PyData)
  | [] => some []
  | d :: ds => match D.py d, D.pyAll ds with
    | some p, some ps => some (p :: ps)
    | _, _ => none
end
mutual
theorem Rep.dp {M : Mdl} {S : Hp} : ∀ {v : V} {d : D} {p : PyData}, Rep M S v d → d.py = some p → Dp M.K S v p
  | _, _, _, .non, e => by cases e; exact .non
  | _, _, _, .bl b, e => by cases e; exact .bl b
  | _, _, _, .int b, e => by cases e; exact .int b
  | _, _, _, .str b, e => by cases e; exact .str b
  | _, _, _, .lst h r, e => by
    rw [D.py] at e
    obtain ⟨ps, e1, e2⟩ := Option.map_eq_some_iff.mp e
    subst e2
    exact .lst (SqL.of h) (RepL.dp r e1)
  | _, _, _, .tup h r, e => by
    rw [D.py] at e
    obtain ⟨ps, e1, e2⟩ := Option.map_eq_some_iff.mp e
    subst e2
    exact .tup h (RepL.dp r e1)
  | _, _, _, .dK .., e => by cases e
  | _, _, _, .dT .., e => by cases e
  | _, _, _, .obj .., e => by cases e
  | _, _, _, .exn .., e => by cases e
  | _, _, _, .scr .., e => by cases e
  | _, _, _, .gh .., e => by cases e
theorem RepL.dp {M : Mdl} {S : Hp} : ∀ {vs : List V} {ds : List D} {ps : List PyData}, RepL M S vs ds → D.pyAll ds = some ps → DpAll M.K S vs ps
  | _, _, _, .nil, e => by cases e; exact .nil
  | _, _, _, .cons (d := d) (ds := ds) r t, e => by
    unfold D.pyAll at e
    cases z1 : D.py d with
    | none => rw [z1] at e; cases e
    | some p =>
      cases z2 : D.pyAll ds with
      | none => rw [z1, z2] at e; cases e
      | some ps => rw [z1, z2] at e; cases e; exact .cons (Rep.dp r z1) (RepL.dp t z2)
end
def eqvD (a b : D) : Option Bool := match a.py, b.py with
  | some p, some q => if SeqAt.shaped p = true ∧ SeqAt.shaped q = true then some (PyData.eqv p q) else none
  | _, _ => none
def eqD0 (a b : D) : Option D := (eqvD a b).map D.bl
def neD0 (a b : D) : Option D := (eqvD a b).map fun k => D.bl (!k)
def eqD : D → D → Option D
  | .int i, .int j => some (.bl (decide (i = j)))
  | .str x, .str y => some (.bl (decide (x = y)))
  | .bl x, .bl y => some (.bl (decide (x = y)))
  | .lst xs, .lst ys => if xs.length = ys.length then eqD0 (.lst xs) (.lst ys) else some (.bl false)
  | .dK _ _, .int _ => some (.bl false)
  | a, b => eqD0 a b
def neD : D → D → Option D
  | .int i, .int j => some (.bl (!decide (i = j)))
  | .str x, .str y => some (.bl (!decide (x = y)))
  | .bl x, .bl y => some (.bl (!decide (x = y)))
  | .lst xs, .lst ys => if xs.length = ys.length then neD0 (.lst xs) (.lst ys) else some (.bl true)
  | a, b => neD0 a b
theorem eqvD_some {a b : D} {k : Bool} (h : eqvD a b = some k) : ∃ p q, a.py = some p ∧ b.py = some q ∧ SeqAt.shaped p = true ∧ SeqAt.shaped q = true ∧ PyData.eqv p q = k := by
  unfold eqvD at h
  split at h
  · rename_i p q z1 z2
    split at h
    · rename_i hs; cases h; exact ⟨p, q, z1, z2, hs.1, hs.2, rfl⟩
    · cases h
  · cases h
def rEqLen : R2 := fun x y H Q => ∃ a b xs ys, x = .ref a ∧ y = .ref b ∧ H a = some (.lst xs) ∧ H b = some (.lst ys) ∧ xs.length ≠ ys.length ∧ Q (.bl false) H
def rNeLen : R2 := fun x y H Q => ∃ a b xs ys, x = .ref a ∧ y = .ref b ∧ H a = some (.lst xs) ∧ H b = some (.lst ys) ∧ xs.length ≠ ys.length ∧ Q (.bl true) H
theorem lst_isList {pins : List (Addr × Obj)} {σ : L2.St} {H : Hp} {s : Shared} {a : Addr} {xs : List V} (I : Inv X pins σ H s) (h : H a = some (.lst xs)) : ∃ items : Array Value, s.heap.IsList a items ∧ items.size = xs.length := by
  obtain ⟨its, rv, ⟨o, n, ho, hc, _, hd⟩, _⟩ := I.list (.inl (.inl h))
  exact ⟨_, ⟨o, ho, hc, n, hd⟩, by rw [rv.length]; simp⟩
theorem op_eqLen (hu : X.A.units < cLine) : OpR X (compareOp .Eq) rEqLen := by
  intro pins s σ H x y v u Q I rx ry h
  obtain ⟨a, b, xs, ys, rfl, rfl, h1, h2, hn, q⟩ := h
  cases rx; cases ry
  obtain ⟨i1, l1, z1⟩ := lst_isList I h1
  obtain ⟨i2, l2, z2⟩ := lst_isList I h2
  exact SeqAt.eq_list_lengthsAt l1 l2 (by rw [z1, z2]; simpa using hn) hu ⟨.bl _, H, I, rfl, q⟩
theorem op_neLen (hu : X.A.units < cLine) : OpR X (compareOp .NotEq) rNeLen := by
  intro pins s σ H x y v u Q I rx ry h
  obtain ⟨a, b, xs, ys, rfl, rfl, h1, h2, hn, q⟩ := h
  cases rx; cases ry
  obtain ⟨i1, l1, z1⟩ := lst_isList I h1
  obtain ⟨i2, l2, z2⟩ := lst_isList I h2
  exact SeqAt.RcNeAt.lists_lengths l1 l2 (by rw [z1, z2]; simpa using hn) hu _ _ _ _ ⟨.bl _, H, I, rfl, q⟩
def rEqDI : R2 := fun x y H Q => ∃ a kvs i, x = .ref a ∧ y = .int i ∧ H a = some (.dK kvs) ∧ Q (.bl false) H
theorem op_eqDI (hu : X.A.units < cLine) : OpR X (compareOp .Eq) rEqDI := by
  intro pins s σ H x y v u Q I rx ry h
  obtain ⟨a, kvs, i, rfl, rfl, h1, q⟩ := h
  cases rx
  obtain ⟨t, rfl⟩ := ry
  obtain ⟨_, _, vs, _, dd⟩ := dk_of I.hok h1
  obtain ⟨⟨cls, dct, data, sl⟩, es, ep, ho, hx, hdat, _⟩ := id dd
  simp only at hdat
  subst hdat
  refine SeqAt.rc_eq_decline_or (k := false) dd.typeIs (typeIs_int s i t) (by decide) PySem.F.sub_int_dict PySem.F.slot_dict_eq PySem.F.slot_int_eq_refl
    (fun _ hq => SeqAt.dict_eq_declines_int dd i t hq)
    (fun _ hq => call_meets PySem.F.slot_int_eq_refl (typeIs_int s i t) PySem.F.entry_int_eq (PySem.F.args_int_eq_2 _ _) (SeqAt.int_eq_declines_dict i t a cls es ep dct sl) ⟨ho, hq⟩)
    (fun _ hq => PySem.wpAny_of_eq (rfl : isSame (.ref a) (.int i t) = pure false) hq) (.inr hu) ⟨.bl _, H, I, rfl, q⟩
def rEqE (K : PySem.W.Frag) : R2 := fun x y H Q => rEq x y H Q ∨ rEqLen x y H Q ∨ rEqDI x y H Q ∨ rEqD K x y H Q
def rNeE (K : PySem.W.Frag) : R2 := fun x y H Q => rNe x y H Q ∨ rNeLen x y H Q ∨ rNeD K x y H Q
theorem opr_eqE (hu : X.A.units + 64 < cLine) : OpR X (compareOp .Eq) (rEqE X.K) := op_eq.or ((op_eqLen (by omega)).or ((op_eqDI (by omega)).or (op_eqD hu)))
theorem opr_neE (hu : X.A.units + 64 < cLine) : OpR X (compareOp .NotEq) (rNeE X.K) := op_ne.or ((op_neLen (by omega)).or (op_neD hu))
theorem op2_eq0 : Op2 (mdl X) (rEqD X.K) m1 m2 fz eqD0 := by
  intro S H Γ x y a b d Q ho s1 s2 e k
  obtain ⟨c, e1, e2⟩ := Option.map_eq_some_iff.mp (show (eqvD a b).map D.bl = some d from e)
  obtain ⟨p, q, z1, z2, z3, z4, z5⟩ := eqvD_some e1
  subst e2 z5
  exact ⟨p, q, (s1.rep ho.ex).dp z1, (s2.rep ho.ex).dp z2, z3, z4, k _ S H (ho.sc fun _ => .bl _)⟩
theorem op2_ne0 : Op2 (mdl X) (rNeD X.K) m1 m2 fz neD0 := by
  intro S H Γ x y a b d Q ho s1 s2 e k
  obtain ⟨c, e1, e2⟩ := Option.map_eq_some_iff.mp (show (eqvD a b).map (fun k => D.bl (!k)) = some d from e)
  obtain ⟨p, q, z1, z2, z3, z4, z5⟩ := eqvD_some e1
  subst e2 z5
  exact ⟨p, q, (s1.rep ho.ex).dp z1, (s2.rep ho.ex).dp z2, z3, z4, k _ S H (ho.sc fun _ => .bl _)⟩
theorem op2_eq : Op2 (mdl X) (rEqE X.K) m1 m2 fz eqD := by
  intro S H Γ x y a b d Q ho s1 s2 e k
  unfold eqD at e
  split at e
  · cases e
    rename_i i j
    cases s1.int ho.ex; cases s2.int ho.ex
    exact .inl ⟨rfl, by simpa using k _ S H (ho.sc fun _ => .bl _)⟩
  · cases e
    cases s1.str ho.ex; cases s2.str ho.ex
    exact .inl ⟨rfl, by simpa using k _ S H (ho.sc fun _ => .bl _)⟩
  · cases e
    cases s1.bl ho.ex; cases s2.bl ho.ex
    exact .inl ⟨rfl, by simpa using k _ S H (ho.sc fun _ => .bl _)⟩
  · split at e
    · exact .inr (.inr (.inr (op2_eq0 S H Γ x y _ _ d Q ho s1 s2 e k)))
    · rename_i hl
      cases e
      obtain ⟨p, vs, rfl, h1, r1⟩ := s1.lst ho.ex
      obtain ⟨q, ws, rfl, h2, r2⟩ := s2.lst ho.ex
      exact .inr (.inl ⟨p, q, vs, ws, rfl, rfl, h1, h2, by rw [r1.length, r2.length]; exact hl, k _ S H (ho.sc fun _ => .bl _)⟩)
  · cases e
    cases s2.int ho.ex
    cases s1.rep ho.ex with
    | dK h1 _ _ => exact .inr (.inr (.inl ⟨_, _, _, rfl, rfl, h1, k _ S H (ho.sc fun _ => .bl _)⟩))
  · exact .inr (.inr (.inr (op2_eq0 S H Γ x y _ _ d Q ho s1 s2 e k)))
theorem op2_ne : Op2 (mdl X) (rNeE X.K) m1 m2 fz neD := by
  intro S H Γ x y a b d Q ho s1 s2 e k
  unfold neD at e
  split at e
  · cases e
    rename_i i j
    cases s1.int ho.ex; cases s2.int ho.ex
    exact .inl ⟨rfl, by simpa using k _ S H (ho.sc fun _ => .bl _)⟩
  · cases e
    cases s1.str ho.ex; cases s2.str ho.ex
    exact .inl ⟨rfl, by simpa using k _ S H (ho.sc fun _ => .bl _)⟩
  · cases e
    cases s1.bl ho.ex; cases s2.bl ho.ex
    exact .inl ⟨rfl, by simpa using k _ S H (ho.sc fun _ => .bl _)⟩
  · split at e
    · exact .inr (.inr (op2_ne0 S H Γ x y _ _ d Q ho s1 s2 e k))
    · rename_i hl
      cases e
      obtain ⟨p, vs, rfl, h1, r1⟩ := s1.lst ho.ex
      obtain ⟨q, ws, rfl, h2, r2⟩ := s2.lst ho.ex
      exact .inr (.inl ⟨p, q, vs, ws, rfl, rfl, h1, h2, by rw [r1.length, r2.length]; exact hl, k _ S H (ho.sc fun _ => .bl _)⟩)
  · exact .inr (.inr (op2_ne0 S H Γ x y _ _ d Q ho s1 s2 e k))
/-! ### a[b] -/
def ixD : D → D → Option D
  | .lst ds, .int i => atI ds i
  | .tup ds, .int i => atI ds i
  | .str z, .int i => if z.length ≤ sizeLine then (atI z.cps.toList i).map fun c => D.str ⟨#[c]⟩ else none
  | .scr ns, .int i => (atI ns i).map D.int
  | _, _ => none
theorem RepL.at {M : Mdl} {S : Hp} {vs : List V} {ds : List D} {i : Int} {d : D} (r : RepL M S vs ds) (e : atI ds i = some d) : ∃ v, atI vs i = some v ∧ Rep M S v d := by
  unfold atI at e ⊢
  rw [r.length]
  cases z : ixN ds.length i with
  | none => rw [z] at e; cases e
  | some j => rw [z] at e; exact r.get e
theorem op2_ix (f1 : Flat m1) : Op2 (mdl X) (rIx X.K) m1 m2 fz ixD := by
  intro S H Γ x y a b d Q ho s1 s2 e k
  unfold ixD at e
  split at e
  · cases s2.int ho.ex
    obtain ⟨p, vs, rfl, h1, r1⟩ := s1.lstF f1 ho.ex
    obtain ⟨v, e1, r2⟩ := r1.at e
    exact .inl ⟨p, vs, _, v, rfl, rfl, SqL.of h1, e1, k v S H (ho.addFz r2)⟩
  · cases s2.int ho.ex
    obtain ⟨p, vs, rfl, h1, r1⟩ := s1.tupF f1 ho.ex
    obtain ⟨v, e1, r2⟩ := r1.at e
    exact .inr (.inl ⟨p, vs, _, v, rfl, rfl, h1, e1, k v S H (ho.addFz r2)⟩)
  · split at e
    · rename_i z i hl
      cases s1.str ho.ex; cases s2.int ho.ex
      obtain ⟨c, e1, e2⟩ := Option.map_eq_some_iff.mp e
      subst e2
      exact .inr (.inr ⟨z, i, c, rfl, rfl, hl, e1, k _ S H (ho.sc fun _ => .str _)⟩)
    · cases e
  · rename_i ns i
    cases s2.int ho.ex
    obtain ⟨p, rfl, h1⟩ := s1.scr ho.ex
    obtain ⟨c, e1, e2⟩ := Option.map_eq_some_iff.mp e
    subst e2
    refine .inl ⟨p, _, _, .int c, rfl, rfl, h1, ?_, k _ S H (ho.sc fun _ => .int _)⟩
    unfold atI at e1 ⊢
    rw [List.length_map]
    cases z : ixN ns.length i with
    | none => rw [z] at e1; cases e1
    | some j =>
      rw [z] at e1
      show (ns.map V.int)[j]? = some (.int c)
      have e2 : ns[j]? = some c := e1
      rw [List.getElem?_map, e2]
      rfl
  · cases e
end
end DM
set_option maxRecDepth 100000
/-! Data mirror, part 6: tests, statements, defs and their calls. -/
namespace DM
open PySem PySem.Spec L2
section
variable {M : Mdl} {ms : List (Mode M)} {σ : St} {δ : DEnv} {H : Hp} {τ : List Pc}
theorem StO.setM {m : Mode M} {i : Nat} {v : V} {d : D} (h : StO ms σ δ H (m.fam v d :: τ)) (hm : ms[i]? = some m) : StO ms (σ.set i (some v)) (δ.set i (some d)) H τ := by
  obtain ⟨S, Γ, sl, ho⟩ := h
  obtain ⟨Γ', Δ, p, sl'⟩ := sl.clear i none
  have hlt : i < ms.length := (List.getElem?_eq_some_iff.mp hm).1
  have e2 : (δ.set i none)[i]? = some none := List.getElem?_set_self (by rw [sl.len.2]; exact hlt)
  obtain ⟨Γ2, p2, sl2⟩ := sl'.putV v d hm e2
  rw [List.set_set, List.set_set] at sl2
  refine ⟨S, Γ2, sl2, ?_⟩
  have h1 : Holds S H (Δ ++ (m.fam v d :: τ ++ Γ')) := ho.perm ((p.append_left _).trans (List.perm_append_comm_assoc _ _ _))
  exact h1.dropL.perm ((List.perm_middle (a := m.fam v d) (l₁ := τ) (l₂ := Γ')).symm.trans (p2.symm.append_left τ))
end
section
variable {X : Cx} {W : WX} {ms : List (Mode (mdl X))}
def RelE (W : WX) (ms : List (Mode (mdl X))) (md : Mode (mdl X)) (t : TE) (m : DEnv → R D) : Prop := ∀ σ δ H τ (Q : VK), StO ms σ δ H τ → PostE W ms md σ τ Q (m δ) → t σ H Q
def RelT (W : WX) (ms : List (Mode (mdl X))) (t : TT) (m : DEnv → R Bool) : Prop := ∀ σ δ H τ (Q : Bool → Hp → Prop), StO ms σ δ H τ → PostT W ms σ τ Q (m δ) → t σ H Q
/-! ### tests -/
def mTest (m : DEnv → R D) : DEnv → R Bool := fun δ => (m δ).bind fun d δ' => match d with
  | .bl b => .ok b δ'
  | _ => .stuck
theorem relTest {md : Mode (mdl X)} {t : TE} {m : DEnv → R D} (h : RelE W ms md t m) : RelT W ms (tTest t) (mTest m) := by
  intro σ δ H τ Q st q
  refine h σ δ H τ _ st ?_
  unfold mTest at q
  cases z : m δ with
  | exc c δ' => rw [z] at q; exact q
  | stuck => rw [z] at q; exact q
  | ok d δ' =>
    rw [z, R.bind_ok] at q
    intro v H' st'
    split at q
    · cases st'.rd
      exact ⟨_, rfl, q H' st'.drop⟩
    · exact q.elim
variable {a b c e : Expr} {pos : Pos}
theorem dt_cmp {op : CmpOp} {r : R2} {k1 k2 : Kd (mdl X)} {ma mb : DEnv → R Opd} {md : Mode (mdl X)} {f : D → D → Option D} (ho : OpR X (compareOp op) r) (ha : DO X W ms a k1 ma) (hb : DO X W ms b k2 mb) (h : Op2 (mdl X) r (k1.mode ms) (k2.mode ms) md f)
    (hm : behindInMarks op b = false := by first | exact nomark _ | rfl) : DT X W ms (.Compare a [op] [b] pos) (mTest (mOp2 ma mb f)) := by
  obtain ⟨ta, pa, ra⟩ := ha.rel
  obtain ⟨tb, pb, rb⟩ := hb.rel
  exact ⟨_, pt_cmpR ho pa pb hm, relTest (relE2 ra rb h)⟩
theorem dt_val {md : Mode (mdl X)} {m : DEnv → R D} (h : DE X W ms e md m) (he : ∀ whole, isTrue e X.env whole = (do let v ← whole; standAt e.pos; holding [v] (truthy v)) := by exact fun _ => rfl) : DT X W ms e (mTest m) := by
  obtain ⟨t, pe, k⟩ := h.run
  exact ⟨_, pt_val pe he, relTest k⟩
def mNot (m : DEnv → R Bool) : DEnv → R Bool := fun δ => (m δ).bind fun b δ' => .ok (!b) δ'
theorem dt_not {m : DEnv → R Bool} (h : DT X W ms e m) : DT X W ms (.UnaryOp .Not e pos) (mNot m) := by
  obtain ⟨t, pe, k⟩ := h.run
  refine ⟨_, pt_not pe, fun σ δ H τ Q st q => k σ δ H τ _ st ?_⟩
  unfold mNot at q
  cases z : m δ with
  | exc c δ' => rw [z] at q; exact q
  | stuck => rw [z] at q; exact q
  | ok d δ' => rw [z] at q; exact q
structure DW (X : Cx) (W : WX) (ms : List (Mode (mdl X))) (e : Expr) (m : DEnv → R Bool) : Prop where
  run : ∃ t, PW X e t ∧ RelT W ms t m
theorem DW.dt {m : DEnv → R Bool} (h : DW X W ms e m) : DT X W ms e m := by
  obtain ⟨t, p, k⟩ := h.run
  exact ⟨t, p.pt, k⟩
def mAnd (a b : DEnv → R Bool) : DEnv → R Bool := fun δ => (a δ).bind fun c δ' => if c = true then b δ' else .ok false δ'
def mOr (a b : DEnv → R Bool) : DEnv → R Bool := fun δ => (a δ).bind fun c δ' => if c = true then .ok true δ' else b δ'
theorem dw_and1 {m : DEnv → R Bool} (h : DT X W ms a m) : DW X W ms (.BoolOp .And [a] pos) m := by
  obtain ⟨t, p, k⟩ := h.run
  exact ⟨t, pw_and1 p, k⟩
theorem dw_or1 {m : DEnv → R Bool} (h : DT X W ms a m) : DW X W ms (.BoolOp .Or [a] pos) m := by
  obtain ⟨t, p, k⟩ := h.run
  exact ⟨t, pw_or1 p, k⟩
theorem dw_and {ma mb : DEnv → R Bool} {rest : List Expr} (h : DT X W ms a ma) (hb : DW X W ms (.BoolOp .And (b :: rest) pos) mb) : DW X W ms (.BoolOp .And (a :: b :: rest) pos) (mAnd ma mb) := by
  obtain ⟨t, p, k⟩ := h.run
  obtain ⟨u, p2, k2⟩ := hb.run
  refine ⟨_, pw_and p p2, fun σ δ H τ Q st q => k σ δ H τ _ st ?_⟩
  unfold mAnd at q
  cases z : ma δ with
  | exc c δ' => rw [z] at q; exact q
  | stuck => rw [z] at q; exact q
  | ok d δ' =>
    rw [z, R.bind_ok] at q
    intro H' st'
    cases d with
    | true => rw [if_pos rfl] at q ⊢; exact k2 σ δ' H' τ Q st' q
    | false => rw [if_neg (by decide)] at q ⊢; exact q H' st'
theorem dw_or {ma mb : DEnv → R Bool} {rest : List Expr} (h : DT X W ms a ma) (hb : DW X W ms (.BoolOp .Or (b :: rest) pos) mb) : DW X W ms (.BoolOp .Or (a :: b :: rest) pos) (mOr ma mb) := by
  obtain ⟨t, p, k⟩ := h.run
  obtain ⟨u, p2, k2⟩ := hb.run
  refine ⟨_, pw_or p p2, fun σ δ H τ Q st q => k σ δ H τ _ st ?_⟩
  unfold mOr at q
  cases z : ma δ with
  | exc c δ' => rw [z] at q; exact q
  | stuck => rw [z] at q; exact q
  | ok d δ' =>
    rw [z, R.bind_ok] at q
    intro H' st'
    cases d with
    | true => rw [if_pos rfl] at q ⊢; exact q H' st'
    | false => rw [if_neg (by decide)] at q ⊢; exact k2 σ δ' H' τ Q st' q
def mAndV (a b : DEnv → R D) : DEnv → R D := fun δ => (a δ).bind fun d δ' => match d with
  | .bl true => b δ'
  | .bl false => .ok (.bl false) δ'
  | _ => .stuck
theorem de_one {op : BoolOp} {md : Mode (mdl X)} {m : DEnv → R D} (h : DE X W ms a md m) : DE X W ms (.BoolOp op [a] pos) md m := by
  obtain ⟨t, p, k⟩ := h.run
  exact ⟨t, pe_one p, k⟩
theorem de_and {md : Mode (mdl X)} {ma mb : DEnv → R D} {rest : List Expr} (h : DE X W ms a md ma) (hb : DE X W ms (.BoolOp .And (b :: rest) pos) fz mb) : DE X W ms (.BoolOp .And (a :: b :: rest) pos) fz (mAndV ma mb) := by
  obtain ⟨t, p, k⟩ := h.run
  obtain ⟨u, p2, k2⟩ := hb.run
  refine ⟨_, pe_and p p2, fun σ δ H τ Q st q => k σ δ H τ _ st ?_⟩
  unfold mAndV at q
  cases z : ma δ with
  | exc c δ' => rw [z] at q; exact q
  | stuck => rw [z] at q; exact q
  | ok d δ' =>
    rw [z, R.bind_ok] at q
    intro v H' st'
    split at q
    · cases st'.rd
      exact ⟨_, rfl, by rw [if_pos rfl]; exact k2 σ δ' H' τ Q st'.drop q⟩
    · cases st'.rd
      exact ⟨_, rfl, by rw [if_neg (by decide)]; exact q _ H' (st'.drop.fzOf fun _ => .bl _)⟩
    · exact q.elim
def mChain (a b c : DEnv → R D) (f g : D → D → Option D) : DEnv → R D := fun δ => (a δ).bind fun x δ1 => (b δ1).bind fun y δ2 => match f x y with
  | some (.bl true) => (c δ2).bind fun z δ3 => .of (g y z) δ3
  | some (.bl false) => .ok (.bl false) δ2
  | _ => .stuck
theorem relChain {ta tb tc : TE} {r r' : R2} {ma mb mc : DEnv → R D} {f g : D → D → Option D} (ra : RelE (X := X) W ms fz ta ma) (rb : RelE (X := X) W ms fz tb mb) (rc : RelE (X := X) W ms fz tc mc) (h : Op2 (mdl X) r fz fz fz f) (h' : Op2 (mdl X) r' fz fz fz g) :
    RelE (X := X) W ms fz (tChain r r' ta tb tc) (mChain ma mb mc f g) := by
  intro σ δ H τ Q st q
  refine ra σ δ H τ _ st ?_
  unfold mChain at q
  cases z : ma δ with
  | exc c δ' => rw [z] at q; exact q
  | stuck => rw [z] at q; exact q
  | ok x δ1 =>
    rw [z, R.bind_ok] at q
    intro v1 H1 st1
    refine rb σ δ1 H1 _ _ st1 ?_
    cases z2 : mb δ1 with
    | exc c δ' => rw [z2] at q; exact Wx.drop (Δ := [_]) q
    | stuck => rw [z2] at q; exact q
    | ok y δ2 =>
      rw [z2, R.bind_ok] at q
      intro v2 H2 st2
      cases zf : f x y with
      | none => rw [zf] at q; exact q.elim
      | some d =>
        rw [zf] at q
        obtain ⟨S, Γ, sl, ho⟩ := st2
        refine h S H2 _ v1 v2 x y d _ ho (ho.mem (List.mem_cons_of_mem _ (List.mem_cons_self ..))) (ho.mem (List.mem_cons_self ..)) zf fun v3 S3 H3 ho3 => ?_
        have st3 : StO ms σ δ2 H3 (fz.fam v3 d :: fz.fam v2 y :: fz.fam v1 x :: τ) := ⟨S3, Γ, sl, ho3⟩
        split at q
        · rename_i e3
          cases e3
          cases st3.rd
          refine ⟨_, rfl, ?_⟩
          rw [if_pos rfl]
          refine rc σ δ2 H3 (fz.fam v2 y :: τ) _ (st3.drop.swap.drop) ?_
          cases z3 : mc δ2 with
          | exc c δ' => rw [z3] at q; exact Wx.drop (Δ := [_]) q
          | stuck => rw [z3] at q; exact q
          | ok w δ3 =>
            rw [z3, R.bind_ok] at q
            intro v4 H4 st4
            cases zg : g y w with
            | none => rw [zg] at q; exact q.elim
            | some d' =>
              rw [zg] at q
              obtain ⟨S4, Γ4, sl4, ho4⟩ := st4
              exact h' S4 H4 _ v2 v4 y w d' _ ho4 (ho4.mem (List.mem_cons_of_mem _ (List.mem_cons_self ..))) (ho4.mem (List.mem_cons_self ..)) zg fun v5 S5 H5 ho5 => q v5 H5 (StO.drop (StO.swap (StO.drop (StO.swap ⟨S5, Γ4, sl4, ho5⟩))))
        · rename_i e3
          cases e3
          cases st3.rd
          refine ⟨_, rfl, ?_⟩
          rw [if_neg (by decide)]
          exact q _ H3 (st3.drop.drop.drop.fzOf fun _ => .bl _)
        · exact q.elim
theorem dt_chain {op op' : CmpOp} {r r' : R2} {ma mb mc : DEnv → R D} {f g : D → D → Option D} (ho : OpR X (compareOp op) r) (ho' : OpR X (compareOp op') r') (ha : DE X W ms a fz ma) (hb : DE X W ms b fz mb) (hc : DE X W ms c fz mc) (h : Op2 (mdl X) r fz fz fz f) (h' : Op2 (mdl X) r' fz fz fz g)
    (hm : lastMarks [op, op'] [b, c] = false := by with_unfolding_all rfl) : DT X W ms (.Compare a [op, op'] [b, c] pos) (mTest (mChain ma mb mc f g)) := by
  obtain ⟨ta, pa, ra⟩ := ha.run
  obtain ⟨tb, pb, rb⟩ := hb.run
  obtain ⟨tc, pc, rc⟩ := hc.run
  exact ⟨_, pt_chain ho ho' pa pb pc hm, relTest (relChain ra rb rc h h')⟩
end
/-! ### statements -/
inductive SR where
  | nx (δ : DEnv)
  | rt (d : D) (δ : DEnv)
  | bk (δ : DEnv)
  | ct (δ : DEnv)
  | exc (c : Str) (δ : DEnv)
  | stuck
def SR.seq (r : SR) (f : DEnv → SR) : SR := match r with
  | .nx δ => f δ
  | r => r
@[simp] theorem SR.seq_nx (δ : DEnv) (f : DEnv → SR) : (SR.nx δ).seq f = f δ := rfl
@[simp] theorem SR.seq_rt (d : D) (δ : DEnv) (f : DEnv → SR) : (SR.rt d δ).seq f = .rt d δ := rfl
@[simp] theorem SR.seq_bk (δ : DEnv) (f : DEnv → SR) : (SR.bk δ).seq f = .bk δ := rfl
@[simp] theorem SR.seq_ct (δ : DEnv) (f : DEnv → SR) : (SR.ct δ).seq f = .ct δ := rfl
@[simp] theorem SR.seq_exc (c : Str) (δ : DEnv) (f : DEnv → SR) : (SR.exc c δ).seq f = .exc c δ := rfl
@[simp] theorem SR.seq_stuck (f : DEnv → SR) : (SR.stuck).seq f = .stuck := rfl
def R.thn {α : Type} (r : R α) (f : α → DEnv → SR) : SR := match r with
  | .ok a δ => f a δ
  | .exc c δ => .exc c δ
  | .stuck => .stuck
@[simp] theorem R.thn_ok {α : Type} (a : α) (δ : DEnv) (f : α → DEnv → SR) : (R.ok a δ).thn f = f a δ := rfl
@[simp] theorem R.thn_exc {α : Type} (c : Str) (δ : DEnv) (f : α → DEnv → SR) : (R.exc c δ).thn f = .exc c δ := rfl
@[simp] theorem R.thn_stuck {α : Type} (f : α → DEnv → SR) : (R.stuck).thn f = .stuck := rfl
def Keep (pn : List Nat) (σ σ' : St) : Prop := ∀ i ∈ pn, σ'[i]? = σ[i]?
theorem Keep.refl (pn : List Nat) (σ : St) : Keep pn σ σ := fun _ _ => rfl
theorem Keep.trans {pn : List Nat} {a b c : St} (h : Keep pn a b) (h' : Keep pn b c) : Keep pn a c := fun i hi => (h' i hi).trans (h i hi)
theorem Keep.set {pn : List Nat} {σ : St} {i : Nat} {v : Option V} (h : i ∉ pn) : Keep pn σ (σ.set i v) := fun j hj => List.getElem?_set_ne (fun e => h (by rw [e]; exact hj))
section
variable {X : Cx} {W : WX} {ms : List (Mode (mdl X))} {mr : Mode (mdl X)} {pn : List Nat}
def PostS (W : WX) (ms : List (Mode (mdl X))) (mr : Mode (mdl X)) (pn : List Nat) (σ : St) (τ : List Pc) (D : Ends) : SR → Prop
  | .nx δ' => ∀ σ' H', Keep pn σ σ' → StO ms σ' δ' H' τ → D.nx σ' H'
  | .rt d δ' => ∀ v σ' H', Keep pn σ σ' → StO ms σ' δ' H' (mr.fam v d :: τ) → D.rt v H'
  | .bk δ' => ∀ σ' H', Keep pn σ σ' → StO ms σ' δ' H' τ → D.bk σ' H'
  | .ct δ' => ∀ σ' H', Keep pn σ σ' → StO ms σ' δ' H' τ → D.ct σ' H'
  | .exc c δ' => ∀ σ', Keep pn σ σ' → Wx (X := X) W ms τ σ' c δ'
  | .stuck => False
def RelS (W : WX) (ms : List (Mode (mdl X))) (mr : Mode (mdl X)) (pn : List Nat) (t : TS) (m : DEnv → SR) : Prop := ∀ σ δ H τ (D : Ends), StO ms σ δ H τ → PostS W ms mr pn σ τ D (m δ) → t D σ H
structure DS (X : Cx) (W : WX) (ms : List (Mode (mdl X))) (mr : Mode (mdl X)) (pn : List Nat) (st : Stmt) (m : DEnv → SR) : Prop where
  run : ∃ t, PS X st t ∧ RelS W ms mr pn t m
structure DSs (X : Cx) (W : WX) (ms : List (Mode (mdl X))) (mr : Mode (mdl X)) (pn : List Nat) (st : List Stmt) (m : DEnv → SR) : Prop where
  run : ∃ t, PSs X st t ∧ RelS W ms mr pn t m
theorem PostS.keep {σ σ1 : St} {τ : List Pc} {D : Ends} (k : Keep pn σ σ1) : ∀ {r : SR}, PostS (X := X) W ms mr pn σ τ D r → PostS (X := X) W ms mr pn σ1 τ D r
  | .nx _, h => fun σ' H' k' => h σ' H' (k.trans k')
  | .rt _ _, h => fun v σ' H' k' => h v σ' H' (k.trans k')
  | .bk _, h => fun σ' H' k' => h σ' H' (k.trans k')
  | .ct _, h => fun σ' H' k' => h σ' H' (k.trans k')
  | .exc _ _, h => fun σ' k' => h σ' (k.trans k')
  | .stuck, h => h
def mNext : DEnv → SR := fun δ => .nx δ
def mSeq (a b : DEnv → SR) : DEnv → SR := fun δ => (a δ).seq b
variable {st : Stmt} {rest : List Stmt} {e : Expr} {pos : Pos}
theorem ds_nil : DSs X W ms mr pn [] mNext := ⟨_, pss_nil, fun σ δ H τ D st q => q σ H (Keep.refl _ _) st⟩
theorem ds_one {m : DEnv → SR} (h : DS X W ms mr pn st m) : DSs X W ms mr pn [st] m := by
  obtain ⟨t, p, k⟩ := h.run
  exact ⟨t, pss_one p, k⟩
theorem ds_cons {m m' : DEnv → SR} (h : DS X W ms mr pn st m) (h' : DSs X W ms mr pn rest m') : DSs X W ms mr pn (st :: rest) (mSeq m m') := by
  obtain ⟨t, p, k⟩ := h.run
  obtain ⟨u, p', k'⟩ := h'.run
  refine ⟨_, pss_cons p p', fun σ δ H τ D st q => k σ δ H τ _ st ?_⟩
  unfold mSeq at q
  cases z : m δ with
  | nx δ1 =>
    rw [z] at q
    exact fun σ1 H1 kp st1 => k' σ1 δ1 H1 τ D st1 (PostS.keep kp q)
  | rt d δ1 => rw [z] at q; exact q
  | bk δ1 => rw [z] at q; exact q
  | ct δ1 => rw [z] at q; exact q
  | exc c δ1 => rw [z] at q; exact q
  | stuck => rw [z] at q; exact q
def mDrop (m : DEnv → R D) : DEnv → SR := fun δ => (m δ).thn fun _ δ' => .nx δ'
theorem ds_expr {md : Mode (mdl X)} {m : DEnv → R D} (h : DE X W ms e md m) (hs : swapsWith e none pos.line X.env = pure false := by rfl) : DS X W ms mr pn (.Expr e pos) (mDrop m) := by
  obtain ⟨t, p, k⟩ := h.run
  refine ⟨_, ps_expr p hs, fun σ δ H τ D st q => k σ δ H τ _ st ?_⟩
  unfold mDrop at q
  cases z : m δ with
  | ok d δ1 => rw [z] at q; exact fun v H' st' => q σ H' (Keep.refl _ _) st'.drop
  | exc c δ1 => rw [z] at q; exact q σ (Keep.refl _ _)
  | stuck => rw [z] at q; exact q
def mRet (m : DEnv → R D) : DEnv → SR := fun δ => (m δ).thn fun d δ' => .rt d δ'
theorem ds_ret {m : DEnv → R D} (h : DE X W ms e mr m) : DS X W ms mr pn (.Return (some e) pos) (mRet m) := by
  obtain ⟨t, p, k⟩ := h.run
  refine ⟨_, ps_ret p, fun σ δ H τ D st q => k σ δ H τ _ st ?_⟩
  unfold mRet at q
  cases z : m δ with
  | ok d δ1 => rw [z] at q; exact fun v H' st' => q v σ H' (Keep.refl _ _) st'
  | exc c δ1 => rw [z] at q; exact q σ (Keep.refl _ _)
  | stuck => rw [z] at q; exact q
def mAsg (i : Nat) (m : DEnv → R D) : DEnv → SR := fun δ => (m δ).thn fun d δ' => .nx (δ'.set i (some d))
theorem relAsg {i : Nat} {md : Mode (mdl X)} {t : TE} {m : DEnv → R D} (k : RelE (X := X) W ms md t m) (hm : ms[i]? = some md) (hp : i ∉ pn) : RelS (X := X) W ms mr pn (tAsg t (gName i)) (mAsg i m) := by
  intro σ δ H τ D st q
  refine k σ δ H τ _ st ?_
  unfold mAsg at q
  cases z : m δ with
  | ok d δ1 => rw [z] at q; exact fun v H' st' => q _ H' (Keep.set hp) (st'.setM hm)
  | exc c δ1 => rw [z] at q; exact q σ (Keep.refl _ _)
  | stuck => rw [z] at q; exact q
theorem ds_set {i : Nat} {x : Str} {pos' : Pos} {md : Mode (mdl X)} {m : DEnv → R D} (hN : X.N.Nodup) (h : DE X W ms e md m) (hi : X.N[i]? = some x := by rfl) (hx : Loc X.env.scope x := by first | exact .inl rfl | exact .inr rfl) (hm : ms[i]? = some md := by rfl) (hp : i ∉ pn := by exact of_decide_eq_true (by rfl))
    (hs : swapsWith e (some (.Name x pos')) pos.line X.env = pure false := by rfl) (hf : X.fn x = true ∨ X.env.scope.names.lookup x = some .local := by first | exact .inl rfl | exact .inr rfl) : DS X W ms mr pn (.Assign [.Name x pos'] e pos) (mAsg i m) := by
  obtain ⟨t, p, k⟩ := h.run
  exact ⟨_, ps_set hN hi hx p hs hf, relAsg k hm hp⟩
def mIf (c : DEnv → R Bool) (a b : DEnv → SR) : DEnv → SR := fun δ => (c δ).thn fun t δ' => if t = true then a δ' else b δ'
theorem ds_if {c : Expr} {a b : List Stmt} {mc : DEnv → R Bool} {ma mb : DEnv → SR} (hc : DT X W ms c mc) (ha : DSs X W ms mr pn a ma) (hb : DSs X W ms mr pn b mb) : DS X W ms mr pn (.If c a b pos) (mIf mc ma mb) := by
  obtain ⟨t, p, k⟩ := hc.run
  obtain ⟨ta, pa, ra⟩ := ha.run
  obtain ⟨tb, pb, rb⟩ := hb.run
  refine ⟨_, ps_if p pa pb, fun σ δ H τ D st q => k σ δ H τ _ st ?_⟩
  unfold mIf at q
  cases z : mc δ with
  | exc c δ1 => rw [z] at q; exact q σ (Keep.refl _ _)
  | stuck => rw [z] at q; exact q
  | ok d δ1 =>
    rw [z, R.thn_ok] at q
    intro H' st'
    cases d with
    | true => rw [if_pos rfl] at q ⊢; exact ra σ δ1 H' τ D st' q
    | false => rw [if_neg (by decide)] at q ⊢; exact rb σ δ1 H' τ D st' q
def mAug (i : Nat) (m : DEnv → R D) (f : D → D → Option D) : DEnv → SR := fun δ => match (δ[i]?).join with
  | some a => (m δ).thn fun b δ' => match f a b with
    | some d => .nx (δ'.set i (some d))
    | none => .stuck
  | none => .stuck
theorem ds_aug {i : Nat} {x : Str} {op : Operator} {ti : TIp} {pos' : Pos} {m : DEnv → R D} {f : D → D → Option D} (hN : X.N.Nodup) (h : DE X W ms e fz m) (ho : PIp X op ti) (hop : Op2 (mdl X) ti fz fz fz f) (hi : X.N[i]? = some x := by rfl) (hx : Loc X.env.scope x := by first | exact .inl rfl | exact .inr rfl) (hm : ms[i]? = some fz := by rfl) (hp : i ∉ pn := by exact of_decide_eq_true (by rfl))
    (hf : X.fn x = true ∨ X.env.scope.names.lookup x = some .local := by first | exact .inl rfl | exact .inr rfl) : DS X W ms mr pn (.AugAssign (.Name x pos') op e pos) (mAug i m f) := by
  obtain ⟨t, p, k⟩ := h.run
  refine ⟨_, ps_aug hN hi hx p ho hf, fun σ δ H τ D st q => ?_⟩
  unfold mAug at q
  cases z : δ[i]? with
  | none => rw [z] at q; exact q.elim
  | some o =>
    cases o with
    | none => rw [z] at q; exact q.elim
    | some a =>
      rw [z] at q
      obtain ⟨S, Γ, sl, ho⟩ := id st
      obtain ⟨v, m', e1, e2, e3⟩ := sl.mem z
      rw [hm] at e2; cases e2
      obtain ⟨F, r, _⟩ := ho.mem (List.mem_append_right τ e3)
      have st0 : StO ms σ δ H (fz.fam v a :: τ) := ⟨S, Γ, sl, ho.addFz r⟩
      refine ⟨v, e1, k σ δ H _ _ st0 ?_⟩
      dsimp only [Option.join] at q
      cases z2 : m δ with
      | exc c δ1 => rw [z2] at q; exact Wx.drop (Δ := [_]) (q σ (Keep.refl _ _))
      | stuck => rw [z2] at q; exact q
      | ok b δ1 =>
        rw [z2] at q
        intro w H1 st1
        obtain ⟨S1, Γ1, sl1, ho1⟩ := st1
        have q : PostS W ms mr pn σ τ D (match f a b with
          | some d => .nx (δ1.set i (some d))
          | none => .stuck) := q
        cases zf : f a b with
        | none => rw [zf] at q; exact q.elim
        | some d =>
          rw [zf] at q
          refine hop S1 H1 _ v w a b d _ ho1 (ho1.mem (List.mem_cons_of_mem _ (List.mem_cons_self ..))) (ho1.mem (List.mem_cons_self ..)) zf fun v3 S3 H3 ho3 => ?_
          have st3 : StO ms σ δ1 H3 (fz.fam v3 d :: fz.fam w b :: fz.fam v a :: τ) := ⟨S3, Γ1, sl1, ho3⟩
          exact q _ H3 (Keep.set hp) ((st3.swap.drop.swap.drop).setM hm)
theorem ipr_addS : PIp X .Add (fun x y H Q => ∃ i j, x = .str i ∧ y = .str j ∧ i.length + j.length ≤ sizeLine ∧ Q (.str (i ++ j)) H) := fun pins s σ H x y v u Q I rx ry h => iop_add_str pins s σ H x y v u Q I rx ry h
end
end DM
set_option maxRecDepth 100000
/-! Data mirror, part 7: defs and their calls. -/
namespace DM
open PySem PySem.Spec L2
structure Sig (M : Mdl) where
  ps : List (Mode M)
  io : List Bool
  rm : Mode M
inductive FR where
  | ok (d : D) (es : List D)
  | exc (c : Str) (es : List D)
  | stuck
abbrev Fn := List D → FR
def fams {M : Mdl} : List (Mode M) → List V → List D → List Pc
  | p :: ps, v :: vs, d :: ds => p.fam v d :: fams ps vs ds
  | _, _, _ => []
def famsIO {M : Mdl} : List Bool → List (Mode M) → List V → List D → List Pc
  | true :: io, p :: ps, v :: vs, e :: es => p.fam v e :: famsIO io ps vs es
  | false :: io, _ :: ps, _ :: vs, es => famsIO io ps vs es
  | _, _, _, _ => []
def outs : List Bool → DEnv → Option (List D)
  | true :: io, some d :: δ => match outs io δ with
    | some ds => some (d :: ds)
    | none => none
  | false :: io, _ :: δ => outs io δ
  | [], _ => some []
  | _, _ => none
def mkF (n : Nat) (io : List Bool) (body : DEnv → SR) : Fn := fun ds => match body (ds.map some ++ List.replicate n none) with
  | .rt d δ => match outs io δ with
    | some es => .ok d es
    | none => .stuck
  | .nx δ => match outs io δ with
    | some es => .ok .non es
    | none => .stuck
  | .exc c δ => match outs io δ with
    | some es => .exc c es
    | none => .stuck
  | _ => .stuck
def PostF {M : Mdl} (sg : Sig M) (vs : List V) (τ : List Pc) (Q : VK) (E : XK) : FR → Prop
  | .ok d es => ∀ v S' H', Holds S' H' (sg.rm.fam v d :: (famsIO sg.io sg.ps vs es ++ τ)) → Q v H'
  | .exc c es => ∀ S' H' C, Holds S' H' (famsIO sg.io sg.ps vs es ++ τ) → M.mg c = some (.ref C) → E (.ref C) none H'
  | .stuck => False
def spD {M : Mdl} (sg : Sig M) (f : Fn) : Sp := fun vs H Q E => ∃ S ds τ, vs.length = sg.ps.length ∧ ds.length = sg.ps.length ∧ Holds S H (fams sg.ps vs ds ++ τ) ∧ PostF sg vs τ Q E (f ds)
/-! ### a def's entry and end -/
theorem Sl.start {M : Mdl} : ∀ {ps : List (Mode M)} {vs : List V} {ds : List D} (ext : List (Mode M)), vs.length = ps.length → ds.length = ps.length →
    Sl (ps ++ ext) (vs.map some ++ List.replicate ext.length none) (ds.map some ++ List.replicate ext.length none) (fams ps vs ds)
  | [], [], [], ext, _, _ => by
    simp only [List.nil_append, List.map_nil]
    induction ext with
    | nil => exact .nil
    | cons m r ih => exact .no ih
  | p :: ps, v :: vs, d :: ds, ext, h1, h2 => .yes (Sl.start ext (by simpa using h1) (by simpa using h2))
  | [], _ :: _, _, _, h, _ => by simp at h
  | [], [], _ :: _, _, _, h => by simp at h
  | _ :: _, [], _, _, h, _ => by simp at h
  | _ :: _, _ :: _, [], _, _, h => by simp at h
theorem Sl.outs {M : Mdl} {ext : List (Mode M)} : ∀ {io : List Bool} {ps : List (Mode M)} {vs : List V} {σ : St} {δ : DEnv} {Γ : List Pc} {es : List D}, Sl (ps ++ ext) σ δ Γ → DM.outs io δ = some es → io.length = ps.length → vs.length = ps.length →
    (∀ i : Nat, io[i]? = some true → σ[i]? = (vs.map some)[i]?) → ∃ Γ2, Γ.Perm (famsIO io ps vs es ++ Γ2)
  | [], _, _, _, _, Γ, _, _, e, _, _, _ => by cases e; exact ⟨Γ, List.Perm.refl _⟩
  | true :: io, p :: ps, v :: vs, _, _, _, es, h, e, h1, h2, k => by
    cases h with
    | no t => simp [DM.outs] at e
    | yes t =>
      unfold DM.outs at e
      split at e
      · rename_i ds z
        cases e
        obtain ⟨Γ2, q⟩ := Sl.outs (io := io) (vs := vs) t z (by simpa using h1) (by simpa using h2) fun i hi => by simpa using k (i + 1) (by simpa using hi)
        have e0 := k 0 rfl
        simp at e0
        subst e0
        exact ⟨Γ2, q.cons _⟩
      · cases e
  | false :: io, p :: ps, v :: vs, _, _, _, es, h, e, h1, h2, k => by
    cases h with
    | no t =>
      unfold DM.outs at e
      exact Sl.outs (io := io) (vs := vs) t e (by simpa using h1) (by simpa using h2) fun i hi => by simpa using k (i + 1) (by simpa using hi)
    | yes t =>
      unfold DM.outs at e
      obtain ⟨Γ2, q⟩ := Sl.outs (io := io) (vs := vs) t e (by simpa using h1) (by simpa using h2) fun i hi => by simpa using k (i + 1) (by simpa using hi)
      exact ⟨_, (q.cons _).trans List.perm_middle.symm⟩
  | _ :: _, [], _, _, _, _, _, _, _, h, _, _ => by simp at h
  | _ :: _, _ :: _, [], _, _, _, _, _, _, _, h, _ => by simp at h
def pnOf : Nat → List Bool → List Nat
  | _, [] => []
  | n, true :: r => n :: pnOf (n + 1) r
  | n, false :: r => pnOf (n + 1) r
theorem mem_pnOf : ∀ {io : List Bool} {n i : Nat}, io[i]? = some true → (n + i) ∈ pnOf n io
  | [], _, _, h => by simp at h
  | b :: r, n, 0, h => by
    simp at h; subst h
    exact List.mem_cons_self ..
  | b :: r, n, i + 1, h => by
    have := mem_pnOf (io := r) (n := n + 1) (i := i) (by simpa using h)
    have e : n + 1 + i = n + (i + 1) := by omega
    rw [e] at this
    cases b with
    | true => exact List.mem_cons_of_mem _ this
    | false => exact this
section
variable {P : Program} {w : World} {K : PySem.W.Frag} {mg : Str → Option Value} {base : Heap}
theorem fn_ok {x qual : Str} {st : Stmt} {f : Addr} {fd : FuncData} {N ps : List Str} {k : Nat} (sg : Sig ⟨K, mg⟩) (ext : List (Mode ⟨K, mg⟩)) {body : DEnv → SR} (F : Fun K x qual st f fd) (S : FnScope N ps (defScope st))
    (hl : ps.length = sg.ps.length) (hio : sg.io.length = sg.ps.length) (hN : N.length = ps.length + ext.length)
    (hb : ∀ (cdv : Value) (A : Around) (outer : List PySem.Env) (s : Shared) (H : Hp) (E : XK), RoomG k (A.deeper (PyProof.Rows.envOfC qual (defScope st) s.heap.objs.size f cdv)) → Takes (cxOf (L2.CX P w) P w K mg base N qual (defScope st) f cdv A outer s H E) (fun cls d _ H => E cls d H) →
      PassesOwn (model P w) (cxOf (L2.CX P w) P w K mg base N qual (defScope st) f cdv A outer s H E).A (cxOf (L2.CX P w) P w K mg base N qual (defScope st) f cdv A outer s H E).env (cxOf (L2.CX P w) P w K mg base N qual (defScope st) f cdv A outer s H E).xe →
      DSs (cxOf (L2.CX P w) P w K mg base N qual (defScope st) f cdv A outer s H E) (fun cls d _ H => E cls d H) (sg.ps ++ ext) sg.rm (pnOf 0 sg.io) (defBody st) body) :
    FnOkG P w K mg base (L2.CX P w) (k + 1) f fd ps (spD sg (mkF ext.length sg.io body)) := by
  refine okG F S (fun vs H Q E h => ?_) fun cdv A outer s H vs Q E hr h => ?_
  · obtain ⟨_, _, _, e, _⟩ := h
    rw [e, hl]
  · obtain ⟨S0, ds, τ, e1, e2, ho, q⟩ := h
    obtain ⟨t, p, rel⟩ := (hb cdv A outer s H E hr (takes_of rfl rfl rfl rfl) (passes_of rfl)).run
    refine ⟨t, p, rel _ (ds.map some ++ List.replicate ext.length none) H τ _ ⟨S0, _, ?_, ho.perm List.perm_append_comm⟩ ?_⟩
    · have e3 : L2.start N vs = vs.map some ++ List.replicate ext.length none := by
        unfold L2.start
        rw [show N.length - vs.length = ext.length by omega]
      rw [e3]
      exact Sl.start ext e1 e2
    · unfold mkF at q
      have key : ∀ {σ' : St} {δ' : DEnv} {Γ : List Pc} {es : List D}, Keep (pnOf 0 sg.io) (L2.start N vs) σ' → Sl (sg.ps ++ ext) σ' δ' Γ → outs sg.io δ' = some es → ∃ Γ2, Γ.Perm (famsIO sg.io sg.ps vs es ++ Γ2) := fun {σ' δ' Γ es} kp sl ho => by
        refine sl.outs ho hio e1 fun i hi => ?_
        have e := kp i (by simpa using mem_pnOf (n := 0) hi)
        rw [e]
        unfold L2.start
        have hlt : i < sg.ps.length := by
          have := (List.getElem?_eq_some_iff.mp hi).1
          omega
        rw [List.getElem?_append_left (by simp; omega)]
      cases z : body (ds.map some ++ List.replicate ext.length none) with
      | rt d δ' =>
        rw [z] at q
        intro v σ' H' kp st'
        obtain ⟨S1, Γ, sl, ho1⟩ := st'
        dsimp only at q
        split at q
        · rename_i es zo
          obtain ⟨Γ2, pp⟩ := key kp sl zo
          refine q v S1 H' ?_
          have h1 : Holds S1 H' (Γ2 ++ (sg.rm.fam v d :: (famsIO sg.io sg.ps vs es ++ τ))) := ho1.perm ((pp.append_left _).trans (by
            refine (List.perm_append_comm_assoc _ _ _).trans ?_
            refine List.Perm.trans ?_ List.perm_append_comm
            show (famsIO sg.io sg.ps vs es ++ ((sg.rm.fam v d :: τ) ++ Γ2)).Perm ((sg.rm.fam v d :: (famsIO sg.io sg.ps vs es ++ τ)) ++ Γ2)
            rw [← List.append_assoc]
            exact List.perm_middle.append_right _))
          exact h1.dropL
        · exact q.elim
      | nx δ' =>
        rw [z] at q
        intro σ' H' kp st'
        obtain ⟨S1, Γ, sl, ho1⟩ := st'
        dsimp only at q
        split at q
        · rename_i es zo
          obtain ⟨Γ2, pp⟩ := key kp sl zo
          have h1 : Holds S1 H' (Γ2 ++ (famsIO sg.io sg.ps vs es ++ τ)) := ho1.perm ((pp.append_left _).trans ((List.perm_append_comm_assoc _ _ _).trans (by
            rw [← List.append_assoc]
            exact List.perm_append_comm)))
          exact q .non S1 H' (h1.dropL.scM rfl .non)
        · exact q.elim
      | exc c δ' =>
        rw [z] at q
        intro σ' kp H' C st' gC
        obtain ⟨S1, Γ, sl, ho1⟩ := st'
        dsimp only at q
        split at q
        · rename_i es zo
          obtain ⟨Γ2, pp⟩ := key kp sl zo
          have h1 : Holds S1 H' (Γ2 ++ (famsIO sg.io sg.ps vs es ++ τ)) := ho1.perm ((pp.append_left _).trans ((List.perm_append_comm_assoc _ _ _).trans (by
            rw [← List.append_assoc]
            exact List.perm_append_comm)))
          exact q S1 H' C h1.dropL gC
        · exact q.elim
      | bk δ' => rw [z] at q; exact q.elim
      | ct δ' => rw [z] at q; exact q.elim
      | stuck => rw [z] at q; exact q.elim
theorem fn_okL {x qual : Str} {st : Stmt} {f : Addr} {fd : FuncData} {N ps : List Str} {k : Nat} (sg : Sig ⟨K, mg⟩) (ext ms : List (Mode ⟨K, mg⟩)) (mr : Mode ⟨K, mg⟩) (pn : List Nat) (n : Nat) {io : List Bool} {body : DEnv → SR} (F : Fun K x qual st f fd) (S : FnScope N ps (defScope st))
    (hl : ps.length = sg.ps.length) (hio : sg.io.length = sg.ps.length) (hN : N.length = ps.length + ext.length) (hms : sg.ps ++ ext = ms) (hmr : sg.rm = mr) (hpn : pnOf 0 sg.io = pn) (hn : ext.length = n) (hi : sg.io = io)
    (hb : ∀ (cdv : Value) (A : Around) (outer : List PySem.Env) (s : Shared) (H : Hp) (E : XK), RoomG k (A.deeper (PyProof.Rows.envOfC qual (defScope st) s.heap.objs.size f cdv)) → Takes (cxOf (L2.CX P w) P w K mg base N qual (defScope st) f cdv A outer s H E) (fun cls d _ H => E cls d H) →
      PassesOwn (model P w) (cxOf (L2.CX P w) P w K mg base N qual (defScope st) f cdv A outer s H E).A (cxOf (L2.CX P w) P w K mg base N qual (defScope st) f cdv A outer s H E).env (cxOf (L2.CX P w) P w K mg base N qual (defScope st) f cdv A outer s H E).xe →
      DSs (cxOf (L2.CX P w) P w K mg base N qual (defScope st) f cdv A outer s H E) (fun cls d _ H => E cls d H) ms mr pn (defBody st) body) :
    FnOkG P w K mg base (L2.CX P w) (k + 1) f fd ps (spD sg (mkF n io body)) := by
  subst hms hmr hpn hn hi
  exact fn_ok sg ext F S hl hio hN hb
end
/-! ### a call -/
def takeO : List Opd → DEnv → Option (List D × DEnv)
  | [], δ => some ([], δ)
  | .v d :: r, δ => match takeO r δ with
    | some (ds, δ') => some (d :: ds, δ')
    | none => none
  | .s i :: r, δ => match δ[i]? with
    | some (some d) => match takeO r (δ.set i none) with
      | some (ds, δ') => some (d :: ds, δ')
      | none => none
    | _ => none
  | .p _ _ _ :: _, _ => none
def putO : List Bool → List Opd → List D → DEnv → Option DEnv
  | true :: io, .s i :: os, e :: es, δ => match δ[i]? with
    | some none => putO io os es (δ.set i (some e))
    | _ => none
  | true :: io, _ :: os, _ :: es, δ => putO io os es δ
  | false :: io, _ :: os, es, δ => putO io os es δ
  | _, _, _, δ => some δ
def mCall (f : Fn) (io : List Bool) (m : DEnv → R (List Opd)) : DEnv → R D := fun δ => (m δ).bind fun os δ1 => match takeO os δ1 with
  | some (ds, δ2) => match f ds with
    | .ok d es => match putO io os es δ2 with
      | some δ3 => .ok d δ3
      | none => .stuck
    | .exc c es => match putO io os es δ2 with
      | some δ3 => .exc c δ3
      | none => .stuck
    | .stuck => .stuck
  | none => .stuck
section
variable {M : Mdl} {ms : List (Mode M)} {σ : L2.St}
theorem OpPs.gather {S H : Hp} {ks : List (Kd M)} {vs : List V} {os : List Opd} {Γa : List Pc} (h : OpPs M ms σ ks vs os Γa) : ∀ {δ δ' : DEnv} {ds : List D} {Γ τ : List Pc}, takeO os δ = some (ds, δ') → Sl ms σ δ Γ → Holds S H (Γa ++ (τ ++ Γ)) →
    ∃ Γ', Sl ms σ δ' Γ' ∧ Holds S H (fams (ks.map (Kd.mode ms)) vs ds ++ (τ ++ Γ')) ∧ vs.length = ds.length ∧ ks.length = ds.length := by
  induction h with
  | nil =>
    intro δ δ' ds Γ τ e sl ho
    cases e
    exact ⟨Γ, sl, ho, rfl, rfl⟩
  | @cons k v o Γ1 Δ ks vs os h1 t ih =>
    intro δ δ' ds Γ τ e sl ho
    cases h1 with
    | @v m v d =>
      unfold takeO at e
      split at e
      · rename_i ds' δ1 z
        cases e
        obtain ⟨Γ', sl', ho', e1, e2⟩ := ih (τ := m.fam v d :: τ) z sl (ho.perm (by
          show (m.fam v d :: (Δ ++ (τ ++ Γ))).Perm (Δ ++ (m.fam v d :: (τ ++ Γ)))
          exact List.perm_middle.symm))
        exact ⟨Γ', sl', ho'.perm List.perm_middle, by simp [e1], by simp [e2]⟩
      · cases e
    | @s i v ei =>
      unfold takeO at e
      split at e
      · rename_i d zi
        split at e
        · rename_i ds' δ1 z
          cases e
          obtain ⟨v', m, Γ2, f1, f2, f3, sl2⟩ := sl.take zi
          rw [ei] at f1; cases f1
          have hm : (Kd.s i : Kd M).mode ms = m := by
            show ms.getD i fz = m
            rw [List.getD_eq_getElem?_getD, f2]; rfl
          obtain ⟨Γ', sl', ho', e1, e2⟩ := ih (τ := m.fam v d :: τ) z sl2 (ho.perm (by
            show (Δ ++ (τ ++ Γ)).Perm (Δ ++ (m.fam v d :: (τ ++ Γ2)))
            exact ((f3.append_left τ).trans List.perm_middle).append_left Δ))
          refine ⟨Γ', sl', ?_, by simp [e1], by simp [e2]⟩
          rw [List.map_cons, hm]
          exact ho'.perm List.perm_middle
        · cases e
      · cases e
    | p _ _ => cases e
theorem OpPs.back {S H : Hp} {ks : List (Kd M)} {vs : List V} {os : List Opd} {Γa : List Pc} (h : OpPs M ms σ ks vs os Γa) : ∀ {io : List Bool} {es : List D} {δ δ' : DEnv} {Γ τ : List Pc}, putO io os es δ = some δ' → Sl ms σ δ Γ → Holds S H (famsIO io (ks.map (Kd.mode ms)) vs es ++ (τ ++ Γ)) → StO ms σ δ' H τ := by
  induction h with
  | nil =>
    intro io es δ δ' Γ τ e sl ho
    have e' : δ = δ' := by
      cases io with
      | nil => exact Option.some.inj e
      | cons b io => cases b <;> exact Option.some.inj e
    subst e'
    have ho' : Holds S H (τ ++ Γ) := ho.dropL
    exact ⟨S, Γ, sl, ho'⟩
  | @cons k v o Γ1 Δ ks vs os h1 t ih =>
    intro io es δ δ' Γ τ e sl ho
    cases io with
    | nil =>
      cases e
      exact ⟨S, Γ, sl, ho.dropL⟩
    | cons b io =>
      cases b with
      | false =>
        have e' : putO io os es δ = some δ' := by cases h1 <;> exact e
        exact ih e' sl ho
      | true =>
        cases es with
        | nil =>
          have e' : δ = δ' := by cases h1 <;> exact Option.some.inj e
          subst e'
          exact ⟨S, Γ, sl, ho.dropL⟩
        | cons x es =>
          cases h1 with
          | @v m v d => exact ih (show putO io os es δ = some δ' from e) sl (Holds.drop (P := m.fam v x) ho)
          | @s i v ei =>
            unfold putO at e
            split at e
            · rename_i zi
              by_cases hlt : i < ms.length
              · have f2 : ms[i]? = some (ms[i]) := List.getElem?_eq_getElem hlt
                have hm : (Kd.s i : Kd M).mode ms = ms[i] := by
                  show ms.getD i fz = _
                  rw [List.getD_eq_getElem?_getD, f2]; rfl
                obtain ⟨Γ', pp, sl'⟩ := sl.put x f2 zi ei
                refine ih e sl' (ho.perm ?_)
                rw [List.map_cons, hm]
                show (ms[i].fam v x :: (famsIO io (ks.map (Kd.mode ms)) vs es ++ (τ ++ Γ))).Perm (famsIO io (ks.map (Kd.mode ms)) vs es ++ (τ ++ Γ'))
                refine List.perm_middle.symm.trans (List.Perm.append_left _ ?_)
                exact (List.perm_middle.symm).trans (pp.symm.append_left τ)
              · have := (List.getElem?_eq_some_iff.mp zi).1
                rw [sl.len.2] at this
                exact absurd this hlt
            · cases e
          | @p i m m0 v v0 d g e1 e2 => exact ih (show putO io os es δ = some δ' from e) sl (Holds.drop (P := m.fam v x) ho)
end
section
variable {X : Cx} {W : WX} {ms : List (Mode (mdl X))}
def Cal (P : Program) (w : World) (M : Mdl) (base : Heap) (k : Nat) (x : Str) (ps : List Str) (sg : Sig M) (fn : Fn) : Prop :=
  ∃ f fd, M.mg x = some (.ref f) ∧ PySem.W.keepIn M.K (.ref f) = true ∧ Binds M.K fd ps [] ∧ FnOkG P w M.K M.mg base (L2.CX P w) k f fd ps (spD sg fn)
theorem spD_of {sg : Sig (mdl X)} {fn : Fn} {ks : List (Kd (mdl X))} {vs : List V} {os : List Opd} {Γa τ : List Pc} {σ : L2.St} {δ : DEnv} {H : Hp} {Q : VK} (ops : OpPs (mdl X) ms σ ks vs os Γa) (st : StO ms σ δ H (Γa ++ τ)) (hk : ks.map (Kd.mode ms) = sg.ps) (hn : ks.length = sg.ps.length)
    (q : PostE W ms sg.rm σ τ Q (match takeO os δ with
      | some (ds, δ2) => match fn ds with
        | .ok d es => match putO sg.io os es δ2 with
          | some δ3 => .ok d δ3
          | none => .stuck
        | .exc c es => match putO sg.io os es δ2 with
          | some δ3 => .exc c δ3
          | none => .stuck
        | .stuck => .stuck
      | none => .stuck)) : spD sg fn vs H Q (WE W σ) := by
  cases z : takeO os δ with
  | none => rw [z] at q; exact q.elim
  | some x =>
    obtain ⟨ds, δ2⟩ := x
    rw [z] at q
    dsimp only at q
    obtain ⟨S, Γ, sl, ho⟩ := st
    rw [List.append_assoc] at ho
    obtain ⟨Γ', sl', ho', e1, e2⟩ := ops.gather z sl ho
    rw [hk] at ho'
    refine ⟨S, ds, τ ++ Γ', by rw [e1, ← e2, hn], by rw [← e2, hn], ho', ?_⟩
    cases zf : fn ds with
    | ok d es =>
      rw [zf] at q
      dsimp only at q
      intro v S1 H1 h1
      cases zp : putO sg.io os es δ2 with
      | none => rw [zp] at q; exact q.elim
      | some δ3 =>
        rw [zp] at q
        refine q v H1 (ops.back zp sl' (τ := sg.rm.fam v d :: τ) (h1.perm ?_))
        rw [hk]
        exact List.perm_middle.symm
    | exc c es =>
      rw [zf] at q
      dsimp only at q
      intro S1 H1 C h1 gC
      cases zp : putO sg.io os es δ2 with
      | none => rw [zp] at q; exact q.elim
      | some δ3 =>
        rw [zp] at q
        refine q H1 C (ops.back zp sl' (τ := τ) (h1.perm ?_)) gC
        rw [hk]
    | stuck => rw [zf] at q; exact q.elim
theorem de_call {rm : Mode (mdl X)} {io : List Bool} {x : Str} {ps : List Str} {sg : Sig (mdl X)} {fn : Fn} {k : Nat} {ks : List (Kd (mdl X))} {m : DEnv → R (List Opd)} {p pos : Pos} {e : Expr} {es : List Expr} (hc : Cal X.prog X.w (mdl X) X.base k x ps sg fn) (hr : RoomG k X.A) (tk : Takes X W) (ha : DA X W ms (e :: es) ks m)
    (hg : Gl X x := by rfl) (hk : ks.map (Kd.mode ms) = sg.ps := by rfl) (hn : ks.length = sg.ps.length := by rfl) (hdb : (x == ("__debug__" : Str)) = false := by decide) (he : starEach (e :: es) X.env = (false, eval e X.env) :: starEach es X.env := by rfl) (hpl : (backTo pos (starEach es X.env)).any (·.1) = false := by rfl) (hrm : sg.rm = rm := by rfl) (hio : sg.io = io := by rfl) :
    DE X W ms (.Call (.Name x p) (e :: es) [] pos) rm (mCall fn io m) := by
  subst hrm hio
  obtain ⟨f, fd, gf, kp, bd, F⟩ := hc
  obtain ⟨t, pa, ra⟩ := ha.run
  refine ⟨_, pe_callG F hr hg gf kp bd (fun σ => passAt tk σ) pa hdb he hpl, fun σ δ H τ Q st q => ra σ δ H τ _ st ?_⟩
  unfold mCall at q
  cases z : m δ with
  | exc c δ' => rw [z] at q; exact q
  | stuck => rw [z] at q; exact q
  | ok os δ1 =>
    rw [z, R.bind_ok] at q
    exact fun vs H1 Γa ops st1 => spD_of ops st1 hk hn q
end
end DM
set_option maxRecDepth 100000
/-! Data mirror, part 8: targets, what is walked, for, while, comprehensions. -/
namespace DM
open PySem PySem.Spec L2
/-! ### targets -/
abbrev Tg := D → DEnv → Option DEnv
section
variable {X : Cx} {W : WX} {ms : List (Mode (mdl X))} {pn : List Nat} {pos : Pos}
structure DG (X : Cx) (ms : List (Mode (mdl X))) (pn : List Nat) (tg : Expr) (f : Tg) : Prop where
  run : ∃ g, PG X tg g ∧ ∀ v d σ δ δ' H τ (Q : L2.St → Hp → Prop), StO ms σ δ H ((fz (M := mdl X)).fam v d :: τ) → f d δ = some δ' → (∀ σ', Keep pn σ σ' → σ'.length = σ.length → StO ms σ' δ' H τ → Q σ' H) → g v σ H Q
structure DGs (X : Cx) (ms : List (Mode (mdl X))) (pn : List Nat) (tgs : List Expr) (f : List D → DEnv → Option DEnv) : Prop where
  run : ∃ g, PGs X tgs g ∧ ∀ vs ds σ δ δ' H τ (Q : L2.St → Hp → Prop), vs.length = ds.length → StO ms σ δ H (fams (ds.map fun _ => (fz (M := mdl X))) vs ds ++ τ) → f ds δ = some δ' → (∀ σ', Keep pn σ σ' → σ'.length = σ.length → StO ms σ' δ' H τ → Q σ' H) → g vs σ H Q
def tName (i : Nat) : Tg := fun d δ => some (δ.set i (some d))
theorem dg_name {i : Nat} {x : Str} (hN : X.N.Nodup) (hi : X.N[i]? = some x := by rfl) (hx : Loc X.env.scope x := by first | exact .inl rfl | exact .inr rfl) (hm : ms[i]? = some fz := by rfl) (hp : i ∉ pn := by exact of_decide_eq_true (by rfl))
    (hf : X.fn x = true ∨ X.env.scope.names.lookup x = some .local := by first | exact .inl rfl | exact .inr rfl) : DG X ms pn (.Name x pos) (tName i) := by
  refine ⟨_, pg_name hN hi hx hf, fun v d σ δ δ' H τ Q st e k => ?_⟩
  cases e
  exact k _ (Keep.set hp) (by simp) (st.setM hm)
def uNil : List D → DEnv → Option DEnv
  | [], δ => some δ
  | _ :: _, _ => none
def uCons (a : Tg) (r : List D → DEnv → Option DEnv) : List D → DEnv → Option DEnv
  | d :: ds, δ => match a d δ with
    | some δ' => r ds δ'
    | none => none
  | [], _ => none
theorem dgs_nil : DGs X ms pn [] uNil := by
  refine ⟨_, pgs_nil, fun vs ds σ δ δ' H τ Q hl st e k => ?_⟩
  cases ds with
  | nil =>
    cases vs with
    | nil => cases e; exact ⟨rfl, k σ (Keep.refl _ _) rfl st⟩
    | cons _ _ => simp at hl
  | cons _ _ => cases e
theorem dgs_cons {e : Expr} {es : List Expr} {a : Tg} {r : List D → DEnv → Option DEnv} (h : DG X ms pn e a) (h' : DGs X ms pn es r) (hs : (assignEach (e :: es) X.env).map (·.2) = assign e X.env :: (assignEach es X.env).map (·.2) := by rfl) : DGs X ms pn (e :: es) (uCons a r) := by
  obtain ⟨g, pg, k1⟩ := h.run
  obtain ⟨gs, pgs, k2⟩ := h'.run
  refine ⟨_, pgs_cons pg pgs hs, fun vs ds σ δ δ' H τ Q hl st e k => ?_⟩
  cases ds with
  | nil => cases e
  | cons d ds =>
    cases vs with
    | nil => simp at hl
    | cons v vs =>
      unfold uCons at e
      dsimp only at e
      split at e
      · rename_i δ1 z
        refine ⟨v, vs, rfl, k1 v d σ δ δ1 H (fams (ds.map fun _ => fz) vs ds ++ τ) _ st z fun σ' kp hl' st' => ?_⟩
        exact k2 vs ds σ' δ1 δ' H τ Q (by simpa using hl) st' e fun σ2 kp2 hl2 st2 => k σ2 (kp.trans kp2) (hl2.trans hl') st2
      · cases e
theorem PG.or {tg : Expr} {t u : TG} (h : PG X tg t) (h' : PG X tg u) : PG X tg (fun v σ H Q => t v σ H Q ∨ u v σ H Q) := by
  refine ⟨fun pins s σ H v w Q I r q => ?_⟩
  rcases q with q | q
  · exact h.run pins s σ H v w Q I r q
  · exact h'.run pins s σ H v w Q I r q
theorem fams_fz {M : Mdl} {S : Hp} : ∀ {vs : List V} {ds : List D}, RepL M S vs ds → ∀ P ∈ fams (ds.map fun _ => (fz (M := M))) vs ds, Stb P ∧ ∀ (H : Hp) (F : Foot), (∀ a, ¬ F a) → P S H F
  | _, _, .nil, P, h => absurd h (by simp [fams])
  | _, _, .cons (v := v) (d := d) r t, P, h => by
    rcases List.mem_cons.mp (show P ∈ fz.fam v d :: fams _ _ _ from h) with rfl | h
    · exact ⟨fz.stb _ _, fun H F n => ⟨r, n⟩⟩
    · exact fams_fz t P h
theorem Holds.pures {S H : Hp} {Γ : List Pc} : ∀ {Δ : List Pc}, Holds S H Γ → (∀ P ∈ Δ, Stb P ∧ ∀ (H : Hp) (F : Foot), (∀ a, ¬ F a) → P S H F) → Holds S H (Δ ++ Γ)
  | [], h, _ => h
  | P :: Δ, h, k => (Holds.pures h fun Q hq => k Q (List.mem_cons_of_mem _ hq)).pure (k P (List.mem_cons_self ..)).1 fun F n => (k P (List.mem_cons_self ..)).2 H F n
def tUnp (n : Nat) (r : List D → DEnv → Option DEnv) : Tg := fun d δ => match d with
  | .tup ds => if ds.length = n then r ds δ else none
  | .lst ds => if ds.length = n then r ds δ else none
  | _ => none
theorem dg_tup {es : List Expr} {k n : Nat} {r : List D → DEnv → Option DEnv} (hc : X.calm = true) (h : DGs X ms pn es r) (hn : (assignEach es X.env).length = n := by rfl) (hst : (assignEach es X.env).findIdx? (·.1) = none := by rfl) : DG X ms pn (.Tuple es k pos) (tUnp n r) := by
  obtain ⟨g, pg, kk⟩ := h.run
  refine ⟨_, PG.or (pg_tup hc pg hn hst) (pg_lst hc pg hn hst), fun v d σ δ δ' H τ Q st e q => ?_⟩
  obtain ⟨S, Γ, sl, ho⟩ := id st
  obtain ⟨F, rp, _⟩ := ho.mem (List.mem_cons_self ..)
  unfold tUnp at e
  split at e
  · rename_i ds
    split at e
    · rename_i hl
      cases rp with
      | tup h1 r1 =>
        refine .inl ⟨_, _, rfl, ho.ex.t h1, by rw [r1.length]; exact hl, kk _ ds σ δ δ' H τ Q r1.length ⟨S, Γ, sl, ?_⟩ e q⟩
        rw [List.append_assoc]
        exact ho.drop.pures (fams_fz r1)
    · cases e
  · rename_i ds
    split at e
    · rename_i hl
      cases rp with
      | lst h1 r1 =>
        refine .inr ⟨_, _, rfl, SqL.of (ho.ex _ _ h1), by rw [r1.length]; exact hl, kk _ ds σ δ δ' H τ Q r1.length ⟨S, Γ, sl, ?_⟩ e q⟩
        rw [List.append_assoc]
        exact ho.drop.pures (fams_fz r1)
    · cases e
  · cases e
def mAsgT (f : Tg) (m : DEnv → R D) : DEnv → SR := fun δ => (m δ).thn fun d δ' => match f d δ' with
  | some δ2 => .nx δ2
  | none => .stuck
/-! ### what is walked -/
structure Walks (M : Mdl) (J : It) (P : Pc) (items : List D) : Prop where
  go : ∀ (i : Nat) (d : D), items[i]? = some d → ∀ (S H : Hp) (Γ : List Pc), Holds S H (P :: Γ) → J.go i H ∧ ∀ x H', J.yld i H x H' → ∃ S', Holds S' H' ((fz (M := M)).fam x d :: P :: Γ)
  stop : ∀ (i : Nat), items.length ≤ i → ∀ (S H : Hp) (Γ : List Pc), Holds S H (P :: Γ) → J.stop i H
abbrev Fin := DEnv → Option DEnv
abbrev Src := DEnv → R (List D × Fin)
def PostI (W : WX) (ms : List (Mode (mdl X))) (kp : List Nat) (σ : L2.St) (τ : List Pc) (T : It → Hp → Prop) : R (List D × Fin) → Prop
  | .ok x δ1 => ∀ (J : It) (H' : Hp) (P : Pc) (Δ : List Pc), Walks (mdl X) J P x.1 → StO ms σ δ1 H' (P :: (Δ ++ τ)) → (∀ σ' δ2 δ3 H2 τ2, Keep kp σ σ' → StO ms σ' δ2 H2 (P :: (Δ ++ τ2)) → x.2 δ2 = some δ3 → StO ms σ' δ3 H2 τ2) → T J H'
  | .exc c δ' => Wx (X := X) W ms τ σ c δ'
  | .stuck => False
structure DI (X : Cx) (W : WX) (ms : List (Mode (mdl X))) (kp : List Nat) (tg iter : Expr) (m : Src) : Prop where
  run : ∃ wi, PI X tg iter wi ∧ ∀ σ δ H τ (T : It → Hp → Prop), StO ms σ δ H τ → PostI (X := X) W ms kp σ τ T (m δ) → wi σ H T
def Kd.kp {M : Mdl} : Kd M → List Nat
  | .p i _ => [i]
  | _ => []
def Opd.data : Opd → D
  | .v d => d
  | .p _ d _ => d
  | .s _ => .non
def srcOf (f : D → Option (List D)) (δ1 : DEnv) (o : Opd) : R (List D × Fin) := match o with
  | .v d => match f d with
    | some ds => .ok (ds, some) δ1
    | none => .stuck
  | .p i d g => match f d with
    | some ds => .ok (ds, fun δ2 => (Opd.p i d g).fin δ2) δ1
    | none => .stuck
  | .s _ => .stuck
def mSrc (o : DEnv → R Opd) (f : D → Option (List D)) : Src := fun δ => (o δ).bind fun o δ1 => srcOf f δ1 o
theorem post_src {kd : Kd (mdl X)} {σ : L2.St} {δ1 : DEnv} {H' : Hp} {τ : List Pc} {T : It → Hp → Prop} {f : D → Option (List D)} {v : V} {o : Opd} {Γa : List Pc} (op : OpP (mdl X) ms σ kd v o Γa) (st : StO ms σ δ1 H' (Γa ++ τ)) (hk : ∀ i, kd ≠ .s i)
    (q : PostI (X := X) W ms kd.kp σ τ T (srcOf f δ1 o)) : ∃ ds, f o.data = some ds ∧ (∃ S Γ', Holds S H' ((kd.mode ms).fam v o.data :: Γ') ) ∧ ∀ J, Walks (mdl X) J ((kd.mode ms).fam v o.data) ds → T J H' := by
  unfold srcOf at q
  cases op with
  | @v m v d =>
    dsimp only at q
    cases z : f d with
    | none => rw [z] at q; exact q.elim
    | some ds =>
      rw [z] at q
      refine ⟨ds, z, let ⟨S, Γ, _, ho⟩ := st; ⟨S, _, ho⟩, fun J w => q J H' _ [] w st fun σ' δ2 δ3 H2 τ2 _ st2 e => ?_⟩
      cases e
      exact st2.drop
  | s _ => exact absurd rfl (hk _)
  | @p i m m0 v v0 d g e1 e2 =>
    dsimp only at q
    cases z : f d with
    | none => rw [z] at q; exact q.elim
    | some ds =>
      rw [z] at q
      refine ⟨ds, z, let ⟨S, Γ, _, ho⟩ := st; ⟨S, _, ho⟩, fun J w => q J H' _ [Wnd (m.fam v) fun d => m0.fam v0 (g d)] w st fun σ' δ2 δ3 H2 τ2 kp st2 e => ?_⟩
      have e1' : σ'[i]? = some (some v0) := (kp i (List.mem_cons_self ..)).trans e1
      exact (OpP.p (M := mdl X) (ms := ms) (σ := σ') (m := m) e1' e2).fin st2 e
def seqD : D → Option (List D)
  | .lst ds => some ds
  | .tup ds => some ds
  | .str z => some (z.cps.toList.map fun c => D.str ⟨#[c]⟩)
  | .scr ns => some (ns.map D.int)
  | _ => none
theorem PI.or {tg e : Expr} {t u : TI} (h : PI X tg e t) (h' : PI X tg e u) : PI X tg e (fun σ H R => t σ H R ∨ u σ H R) := by
  refine ⟨fun pins s σ H R I q => ?_⟩
  rcases q with q | q
  · exact h.run pins s σ H R I q
  · exact h'.run pins s σ H R I q
theorem walks_list {K : PySem.W.Frag} {m : Mode (mdl X)} {a : Addr} {ds : List D} (fm : Flat m) (hK : K = X.K) : Walks (mdl X) (Itl K a) (m.fam (.ref a) (.lst ds)) ds := by
  subst hK
  constructor
  · intro i d e S H Γ ho
    have sn : Seen S H m (.ref a) (.lst ds) := ho.mem (List.mem_cons_self ..)
    obtain ⟨a', vs, ea, h1, r1⟩ := sn.lstF fm ho.ex
    cases ea
    obtain ⟨x, e1, r2⟩ := r1.get e
    refine ⟨⟨vs, x, SqL.of h1, e1⟩, fun y H' hy => ?_⟩
    obtain ⟨rfl, hy⟩ := hy
    have := hy vs (SqL.of h1)
    rw [e1] at this; cases this
    exact ⟨S, ho.addFz r2⟩
  · intro i hi S H Γ ho
    have sn : Seen S H m (.ref a) (.lst ds) := ho.mem (List.mem_cons_self ..)
    obtain ⟨a', vs, ea, h1, r1⟩ := sn.lstF fm ho.ex
    cases ea
    exact ⟨vs, SqL.of h1, by rw [r1.length]; exact hi⟩
theorem walks_tup {K : PySem.W.Frag} {m : Mode (mdl X)} {a : Addr} {ds : List D} (fm : Flat m) (hK : K = X.K) : Walks (mdl X) (Itt K a) (m.fam (.ref a) (.tup ds)) ds := by
  subst hK
  have key : ∀ (S H : Hp) (Γ : List Pc), Holds S H (m.fam (.ref a) (.tup ds) :: Γ) → ∃ vs, SqT X.K H a vs ∧ RepL (mdl X) S vs ds ∧ SqT X.K S a vs := fun S H Γ ho => by
    obtain ⟨F, p⟩ := ho.mem (List.mem_cons_self ..)
    rcases fm.get p with r | r
    · cases r with | tup h1 r1 => exact ⟨_, ho.ex.t h1, r1, h1⟩
    · exact r.elim
  constructor
  · intro i d e S H Γ ho
    obtain ⟨vs, h1, r1, _⟩ := key S H Γ ho
    obtain ⟨x, e1, r2⟩ := r1.get e
    refine ⟨⟨vs, x, h1, e1⟩, fun y H' hy => ?_⟩
    obtain ⟨rfl, hy⟩ := hy
    have := hy vs h1
    rw [e1] at this; cases this
    exact ⟨S, ho.addFz r2⟩
  · intro i hi S H Γ ho
    obtain ⟨vs, h1, r1, _⟩ := key S H Γ ho
    exact ⟨vs, h1, by rw [r1.length]; exact hi⟩
theorem walks_str {P : Pc} {z : Str} : Walks (mdl X) (Its z) P (z.cps.toList.map fun c => D.str ⟨#[c]⟩) := by
  constructor
  · intro i d e S H Γ ho
    rw [List.getElem?_map] at e
    obtain ⟨c, e1, e2⟩ := Option.map_eq_some_iff.mp e
    have e3 : z.cps[i]? = some c := by simpa using e1
    refine ⟨(Array.getElem?_eq_some_iff.mp e3).1, fun y H' hy => ?_⟩
    obtain ⟨rfl, c', e4, rfl⟩ := hy
    rw [e3] at e4; cases e4
    subst e2
    exact ⟨S, ho.addFz (.str _)⟩
  · intro i hi S H Γ ho
    exact (show z.cps.size ≤ i by simpa using hi)
theorem walks_scr {K : PySem.W.Frag} {m : Mode (mdl X)} {a : Addr} {ns : List Int} (hK : K = X.K) : Walks (mdl X) (Itl K a) (m.fam (.ref a) (.scr ns)) (ns.map D.int) := by
  subst hK
  have key : ∀ (S H : Hp) (Γ : List Pc), Holds S H (m.fam (.ref a) (.scr ns) :: Γ) → SqL X.K H a (ns.map V.int) := fun S H Γ ho => by
    have sn : Seen S H m (.ref a) (.scr ns) := ho.mem (List.mem_cons_self ..)
    obtain ⟨a', e, h⟩ := sn.scr ho.ex
    cases e
    exact h
  constructor
  · intro i d e S H Γ ho
    have h1 := key S H Γ ho
    rw [List.getElem?_map] at e
    obtain ⟨n, e1, e2⟩ := Option.map_eq_some_iff.mp e
    subst e2
    have e3 : (ns.map V.int)[i]? = some (.int n) := by rw [List.getElem?_map, e1]; rfl
    refine ⟨⟨_, _, h1, e3⟩, fun y H' hy => ?_⟩
    obtain ⟨rfl, hy⟩ := hy
    have := hy _ h1
    rw [e3] at this; cases this
    exact ⟨S, ho.addFz (.int _)⟩
  · intro i hi S H Γ ho
    exact ⟨_, key S H Γ ho, by simpa using hi⟩
theorem rel_src {kd : Kd (mdl X)} {m : DEnv → R Opd} {t : TE} {f : D → Option (List D)} (k : RelO W ms kd t m) (hk : ∀ i, kd ≠ .s i) {σ : L2.St} {δ : DEnv} {H : Hp} {τ : List Pc} {T : It → Hp → Prop} (st : StO ms σ δ H τ) (q : PostI (X := X) W ms kd.kp σ τ T (mSrc m f δ)) (Q : VK)
    (go : ∀ o δ1 v H' ds, m δ = .ok o δ1 → f o.data = some ds → (∃ S Γ', Holds S H' ((kd.mode ms).fam v o.data :: Γ')) → (∀ J, Walks (mdl X) J ((kd.mode ms).fam v o.data) ds → T J H') → Q v H') : t σ H Q := by
  refine k σ δ H τ Q st ?_
  unfold mSrc at q
  cases z : m δ with
  | exc c δ' => rw [z] at q; exact q
  | stuck => rw [z] at q; exact q
  | ok o δ1 =>
    rw [z, R.bind_ok] at q
    intro v H' Γa op st'
    obtain ⟨ds, e1, e2, e3⟩ := post_src op st' hk q
    exact go o δ1 v H' ds z e1 e2 e3
theorem di_seq {tg e : Expr} {kd : Kd (mdl X)} {m : DEnv → R Opd} (h : DO X W ms e kd m) (hf : Flat (kd.mode ms)) (hk : ∀ i, kd ≠ .s i := by intro i z; cases z) : DI X W ms kd.kp tg e (mSrc m seqD) := by
  obtain ⟨t, pe, k⟩ := h.run
  refine ⟨_, PI.or (pi_list pe) (PI.or (pi_tup pe) (pi_str pe)), fun σ δ H τ T st q => ?_⟩
  cases z : m δ with
  | exc c δ' => exact .inl (rel_src k hk st q _ fun o δ1 v H' ds e => by rw [z] at e; cases e)
  | stuck => exact .inl (rel_src k hk st q _ fun o δ1 v H' ds e => by rw [z] at e; cases e)
  | ok o δ1 =>
    cases zd : o.data with
    | lst xs =>
      refine .inl (rel_src k hk st q _ fun o' δ' v H' ds e f ho w => ?_)
      rw [z] at e; cases e
      rw [zd] at f ho w
      cases f
      obtain ⟨S, Γ', ho⟩ := ho
      obtain ⟨a, vs, rfl, h1, r1⟩ := Seen.lst (ho.mem (List.mem_cons_self ..)) ho.ex
      exact ⟨a, rfl, ⟨vs, SqL.of h1⟩, w _ (walks_list hf rfl)⟩
    | scr xs =>
      refine .inl (rel_src k hk st q _ fun o' δ' v H' ds e f ho w => ?_)
      rw [z] at e; cases e
      rw [zd] at f ho w
      cases f
      obtain ⟨S, Γ', ho⟩ := ho
      obtain ⟨a, rfl, h1⟩ := Seen.scr (ho.mem (List.mem_cons_self ..)) ho.ex
      exact ⟨a, rfl, ⟨_, h1⟩, w _ (walks_scr rfl)⟩
    | tup xs =>
      refine .inr (.inl (rel_src k hk st q _ fun o' δ' v H' ds e f ho w => ?_))
      rw [z] at e; cases e
      rw [zd] at f ho w
      cases f
      obtain ⟨S, Γ', ho⟩ := ho
      obtain ⟨a, vs, rfl, h1, r1⟩ := Seen.tup (ho.mem (List.mem_cons_self ..)) ho.ex
      exact ⟨a, rfl, ⟨vs, h1⟩, w _ (walks_tup hf rfl)⟩
    | str x =>
      refine .inr (.inr (rel_src k hk st q _ fun o' δ' v H' ds e f ho w => ?_))
      rw [z] at e; cases e
      rw [zd] at f ho w
      cases f
      obtain ⟨S, Γ', ho⟩ := ho
      cases Seen.str (ho.mem (List.mem_cons_self ..)) ho.ex
      exact ⟨x, rfl, w _ walks_str⟩
    | _ => exact .inl (rel_src k hk st q _ fun o' δ' v H' ds e f ho w => by
        rw [z] at e; cases e
        rw [zd] at f; cases f)
def oT (i : Nat) : DEnv → R Opd := fun δ => match δ[i]? with
  | some (some d) => .ok (.p i d id) (δ.set i none)
  | _ => .stuck
/-! ### range, enumerate, reversed, zip -/
def Emp : Pc := fun _ _ F => ∀ a, ¬ F a
theorem Emp.stb : Stb Emp := fun _ _ _ _ _ p _ _ => p
theorem StO.emp {σ : L2.St} {δ : DEnv} {H : Hp} {τ : List Pc} (h : StO ms σ δ H τ) : StO ms σ δ H (Emp :: τ) := let ⟨S, Γ, a, b⟩ := h; ⟨S, Γ, a, b.pure Emp.stb fun _ n => n⟩
def mSrcA (m : DEnv → R (List Opd)) (f : List D → Option (List D)) : Src := fun δ => (m δ).bind fun os δ1 => match gets os δ1, fins os δ1 with
  | some ds, some δ2 => match f ds with
    | some xs => .ok (xs, some) δ2
    | none => .stuck
  | _, _ => .stuck
theorem rel_srcA {ks : List (Kd (mdl X))} {m : DEnv → R (List Opd)} {t : TA} {f : List D → Option (List D)} (k : RelA W ms ks t m) {σ : L2.St} {δ : DEnv} {H : Hp} {τ : List Pc} {T : It → Hp → Prop} (st : StO ms σ δ H τ) (q : PostI (X := X) W ms [] σ τ T (mSrcA m f δ)) (Q : List V → Hp → Prop)
    (go : ∀ vs ds xs S H', Seens S H' (ks.map (Kd.mode ms)) vs ds → Ex S H' → f ds = some xs → (∀ J, Walks (mdl X) J Emp xs → T J H') → Q vs H') : t σ H Q := by
  refine k σ δ H τ Q st ?_
  unfold mSrcA at q
  cases z : m δ with
  | exc c δ' => rw [z] at q; exact q
  | stuck => rw [z] at q; exact q
  | ok os δ1 =>
    rw [z, R.bind_ok] at q
    intro vs H' Γa op st'
    split at q
    · rename_i ds δ2 z1 z2
      cases zf : f ds with
      | none => rw [zf] at q; exact q.elim
      | some xs =>
        rw [zf] at q
        obtain ⟨S, Γ, sl, ho⟩ := id st'
        refine go vs ds xs S H' (op.seen sl ho z1) ho.ex zf fun J w => q J H' Emp [] w (op.fins st' z2).emp fun σ' δ2 δ3 H2 τ2 _ st2 e => ?_
        cases e
        exact st2.drop
    · exact q.elim
def rgItems (lo : Int) (c : Int) (n : Nat) : List D := (List.range n).map fun i => D.int (lo + (i : Nat) * c)
theorem walks_rng {lo : Int} {n : Nat} : Walks (mdl X) (Itr lo n) Emp (rgItems lo 1 n) := by
  constructor
  · intro i d e S H Γ ho
    unfold rgItems at e
    rw [List.getElem?_map] at e
    obtain ⟨j, e1, e2⟩ := Option.map_eq_some_iff.mp e
    obtain ⟨h1, h2⟩ := List.getElem?_eq_some_iff.mp e1
    have h3 : i < n := by simpa using h1
    rw [List.getElem_range] at h2
    subst h2 e2
    refine ⟨h3, fun y H' hy => ?_⟩
    obtain ⟨rfl, rfl⟩ := hy
    rw [Int.mul_one]
    exact ⟨S, ho.addFz (.int _)⟩
  · intro i hi S H Γ ho
    exact (show n ≤ i by simpa [rgItems] using hi)
def range1D : List D → Option (List D)
  | [.int j] => if nb j 4611686018427387903 = true then some (rgItems 0 1 j.toNat) else none
  | _ => none
variable {p : Pos} {tg : Expr}
theorem seens1 {S H : Hp} {qs : List (Mode (mdl X))} {vs : List V} {a : D} (h : Seens S H qs vs [a]) : ∃ v m, vs = [v] ∧ qs = [m] ∧ Seen S H m v a := by
  cases h with
  | cons s1 t => cases t with | nil => exact ⟨_, _, rfl, rfl, s1⟩
theorem seens2 {S H : Hp} {qs : List (Mode (mdl X))} {vs : List V} {a b : D} (h : Seens S H qs vs [a, b]) : ∃ v m w n, vs = [v, w] ∧ qs = [m, n] ∧ Seen S H m v a ∧ Seen S H n w b := by
  cases h with
  | cons s1 t => obtain ⟨w, n, rfl, rfl, s2⟩ := seens1 t; exact ⟨_, _, w, n, rfl, rfl, s1, s2⟩
theorem di_range1 {a : Expr} {ks : List (Kd (mdl X))} {m : DEnv → R (List Opd)} (hm : X.mg "range" = none) (h : DA X W ms [a] ks m) (hg : Gl X "range" := by rfl) (hs : starEach [a] X.env = [(false, eval a X.env)] := by rfl) : DI X W ms [] tg (.Call (.Name "range" p) [a] [] pos) (mSrcA m range1D) := by
  obtain ⟨t, pa, k⟩ := h.run
  refine ⟨_, pi_range1 hg hm pa hs, fun σ δ H τ T st q => rel_srcA k st q _ fun vs ds xs S H' sn ex e w => ?_⟩
  unfold range1D at e
  split at e
  · split at e
    · rename_i j hb
      cases e
      obtain ⟨v, m, rfl, _, s1⟩ := seens1 sn
      cases s1.int ex
      have hb := nb_iff.mp hb
      exact ⟨j, rfl, by omega, by omega, w _ walks_rng⟩
    · cases e
  · cases e
def enumFrom : Nat → List D → List D
  | _, [] => []
  | k, d :: ds => .tup [.int (k : Nat), d] :: enumFrom (k + 1) ds
end
end DM
set_option maxRecDepth 100000
/-! Data mirror, part 9: for, while, comprehensions. -/
namespace DM
open PySem PySem.Spec L2
def dFor (tg : Tg) (body : DEnv → SR) : List D → DEnv → SR
  | [], δ => .nx δ
  | d :: ds, δ => match tg d δ with
    | some δ1 => match body δ1 with
      | .nx δ2 => dFor tg body ds δ2
      | .ct δ2 => dFor tg body ds δ2
      | .bk δ2 => .nx δ2
      | .rt x δ2 => .rt x δ2
      | .exc c δ2 => .exc c δ2
      | .stuck => .stuck
    | none => .stuck
def finR (f : Fin) : SR → SR
  | .nx δ => match f δ with
    | some δ' => .nx δ'
    | none => .stuck
  | r => r
def mFor (src : Src) (tg : Tg) (body : DEnv → SR) : DEnv → SR := fun δ => (src δ).thn fun x δ1 => finR x.2 (dFor tg body x.1 δ1)
def dWhile (c : DEnv → R Bool) (body : DEnv → SR) : Nat → DEnv → SR
  | 0, _ => .stuck
  | n + 1, δ => (c δ).thn fun b δ1 => if b = true then match body δ1 with
      | .nx δ2 => dWhile c body n δ2
      | .ct δ2 => dWhile c body n δ2
      | .bk δ2 => .nx δ2
      | .rt x δ2 => .rt x δ2
      | .exc e δ2 => .exc e δ2
      | .stuck => .stuck
    else .nx δ1
section
variable {X : Cx} {W : WX} {ms : List (Mode (mdl X))} {mr : Mode (mdl X)} {pn : List Nat} {pos : Pos}
theorem Keep.mono {a b : List Nat} {σ σ' : L2.St} (h : Keep b σ σ') (k : ∀ i ∈ a, i ∈ b) : Keep a σ σ' := fun i hi => h i (k i hi)
theorem post_body {kp : List Nat} {σ σ1 : L2.St} {τ Δ : List Pc} {P : Pc} {D : Ends} {N : L2.St → Hp → Prop} {fin : Fin} {r : SR} {k : DEnv → SR} (kk : Keep (kp ++ pn) σ σ1)
    (fn : ∀ σ' δ2 δ3 H2 τ2, Keep kp σ σ' → StO ms σ' δ2 H2 (P :: (Δ ++ τ2)) → fin δ2 = some δ3 → StO ms σ' δ3 H2 τ2)
    (q : PostS (X := X) W ms mr pn σ τ D (finR fin (match r with
      | .nx δ2 => k δ2
      | .ct δ2 => k δ2
      | .bk δ2 => .nx δ2
      | .rt x δ2 => .rt x δ2
      | .exc e δ2 => .exc e δ2
      | .stuck => .stuck)))
    (hN : ∀ δ2 σ' H', Keep (kp ++ pn) σ1 σ' → StO ms σ' δ2 H' (P :: (Δ ++ τ)) → PostS (X := X) W ms mr pn σ τ D (finR fin (k δ2)) → N σ' H') : PostS (X := X) W ms mr (kp ++ pn) σ1 (P :: (Δ ++ τ)) { D with nx := N, ct := N, bk := D.nx } r := by
  have ext : ∀ {σ'}, Keep (kp ++ pn) σ1 σ' → Keep pn σ σ' := fun {σ'} k1 => (kk.trans k1).mono fun i hi => List.mem_append_right _ hi
  cases r with
  | nx δ2 => exact fun σ' H' k1 st => hN δ2 σ' H' k1 st q
  | ct δ2 => exact fun σ' H' k1 st => hN δ2 σ' H' k1 st q
  | bk δ2 =>
    intro σ' H' k1 st
    have q' : PostS (X := X) W ms mr pn σ τ D (match fin δ2 with
      | some δ' => .nx δ'
      | none => .stuck) := q
    cases z : fin δ2 with
    | none => rw [z] at q'; exact q'.elim
    | some δ3 =>
      rw [z] at q'
      exact q' σ' H' (ext k1) (fn σ' δ2 δ3 H' τ ((kk.trans k1).mono fun i hi => List.mem_append_left _ hi) st z)
  | rt x δ2 =>
    intro v σ' H' k1 st
    refine q v σ' H' (ext k1) ?_
    have st2 : StO ms σ' δ2 H' ((P :: Δ) ++ (mr.fam v x :: τ)) := st.perm (by
      show (mr.fam v x :: (P :: (Δ ++ τ))).Perm ((P :: Δ) ++ (mr.fam v x :: τ))
      exact (List.perm_middle (a := mr.fam v x) (l₁ := P :: Δ) (l₂ := τ)).symm)
    exact st2.dropL
  | exc c δ2 => exact fun σ' k1 => Wx.drop (Δ := P :: Δ) (q σ' (ext k1))
  | stuck => exact q
theorem ds_for {kp : List Nat} {tg iter : Expr} {body : List Stmt} {src : Src} {f : Tg} {mb : DEnv → SR} (hp : PassesOwn (model X.prog X.w) X.A X.env X.xe) (hc : X.calm = true) (hi : DI X W ms kp tg iter src) (hg : DG X ms (kp ++ pn) tg f) (hb : DSs X W ms mr (kp ++ pn) body mb)
    (hs : ∀ x, foldedSetIterable iter X.env x = pure x := by intro _; rfl) : DS X W ms mr pn (.For tg iter body [] pos) (mFor src f mb) := by
  obtain ⟨wi, pi, ki⟩ := hi.run
  obtain ⟨g, pg, kg⟩ := hg.run
  obtain ⟨tb, pb, kb⟩ := hb.run
  refine ⟨_, ps_for hp hc pi pg pb hs, fun σ δ H τ D st q => ki σ δ H τ _ st ?_⟩
  unfold mFor at q
  cases z : src δ with
  | exc c δ1 => rw [z] at q; exact q σ (Keep.refl _ _)
  | stuck => rw [z] at q; exact q
  | ok x δ1 =>
    rw [z, R.thn_ok] at q
    intro J H1 P Δ wk st1 fn
    refine ⟨fun i m σ' H' => ∃ δ', i + m = x.1.length ∧ Keep (kp ++ pn) σ σ' ∧ StO ms σ' δ' H' (P :: (Δ ++ τ)) ∧ PostS W ms mr pn σ τ D (finR x.2 (dFor f mb (x.1.drop i) δ')), ⟨x.1.length, δ1, by simp, Keep.refl _ _, st1, q⟩, ?_⟩
    rintro i m σ1 H2 ⟨δ2, em, kp1, st2, q2⟩
    by_cases hi : i < x.1.length
    · obtain ⟨S2, Γ2, sl2, ho2⟩ := id st2
      have eg : x.1[i]? = some x.1[i] := List.getElem?_eq_getElem hi
      obtain ⟨g1, g2⟩ := wk.go i _ eg S2 H2 _ ho2
      rw [List.drop_eq_getElem_cons hi] at q2
      refine .inr ⟨g1, fun σ' H' => ∃ m', m' < m ∧ ∃ δ', i + 1 + m' = x.1.length ∧ Keep (kp ++ pn) σ σ' ∧ StO ms σ' δ' H' (P :: (Δ ++ τ)) ∧ PostS W ms mr pn σ τ D (finR x.2 (dFor f mb (x.1.drop (i + 1)) δ')), fun σ' H' h => h, fun y H3 hy => ?_⟩
      obtain ⟨S3, ho3⟩ := g2 y H3 hy
      unfold dFor at q2
      cases zt : f x.1[i] δ2 with
      | none => rw [zt] at q2; exact q2.elim
      | some δ3 =>
        rw [zt] at q2
        refine kg y _ σ1 δ2 δ3 H3 (P :: (Δ ++ τ)) _ ⟨S3, Γ2, sl2, ho3⟩ zt fun σ2 kp2 _ st3 => ?_
        refine kb σ2 δ3 H3 _ _ st3 (post_body (kk := kp1.trans kp2) (fin := x.2) (k := dFor f mb (x.1.drop (i + 1))) fn q2 fun δ4 σ' H' k4 st4 q4 => ?_)
        exact ⟨m - 1, by omega, δ4, by omega, (kp1.trans kp2).trans k4, st4, q4⟩
    · have e0 : x.1.drop i = [] := List.drop_of_length_le (by omega)
      rw [e0] at q2
      obtain ⟨S2, Γ2, sl2, ho2⟩ := id st2
      refine .inl ⟨wk.stop i (by omega) S2 H2 _ ho2, ?_⟩
      have q' : PostS (X := X) W ms mr pn σ τ D (match x.2 δ2 with
        | some δ' => .nx δ'
        | none => .stuck) := q2
      cases z : x.2 δ2 with
      | none => rw [z] at q'; exact q'.elim
      | some δ3 =>
        rw [z] at q'
        exact q' σ1 H2 (kp1.mono fun i hi => List.mem_append_right _ hi) (fn σ1 δ2 δ3 H2 τ (kp1.mono fun i hi => List.mem_append_left _ hi) st2 z)
theorem ds_while {c : Expr} {body : List Stmt} {mc : DEnv → R Bool} {mb : DEnv → SR} (fuel : Nat) (hp : PassesOwn (model X.prog X.w) X.A X.env X.xe) (hc : DT X W ms c mc) (hb : DSs X W ms mr pn body mb) : DS X W ms mr pn (.While c body [] pos) (dWhile mc mb fuel) := by
  obtain ⟨tc, pc, kc⟩ := hc.run
  obtain ⟨tb, pb, kb⟩ := hb.run
  refine ⟨_, ps_while hp pc pb, fun σ δ H τ D st q => ?_⟩
  refine ⟨fun m σ' H' => ∃ δ', Keep pn σ σ' ∧ StO ms σ' δ' H' τ ∧ PostS W ms mr pn σ τ D (dWhile mc mb m δ'), ⟨fuel, δ, Keep.refl _ _, st, q⟩, ?_⟩
  rintro m σ1 H1 ⟨δ1, kp1, st1, q1⟩
  cases m with
  | zero => exact q1.elim
  | succ m =>
    refine kc σ1 δ1 H1 τ _ st1 ?_
    unfold dWhile at q1
    cases z : mc δ1 with
    | exc e δ2 => rw [z] at q1; exact q1 σ1 kp1
    | stuck => rw [z] at q1; exact q1
    | ok b δ2 =>
      rw [z, R.thn_ok] at q1
      intro H2 st2
      cases b with
      | false => rw [if_neg (by decide)] at q1 ⊢; exact q1 σ1 H2 kp1 st2
      | true =>
        rw [if_pos rfl] at q1 ⊢
        refine ⟨fun σ' H' => ∃ δ', Keep pn σ σ' ∧ StO ms σ' δ' H' τ ∧ PostS W ms mr pn σ τ D (dWhile mc mb m δ'), fun σ' H' h => ⟨m, Nat.lt_succ_self _, h⟩, kb σ1 δ2 H2 τ _ st2 ?_⟩
        cases zb : mb δ2 with
        | nx δ3 => rw [zb] at q1; exact fun σ' H' k st3 => ⟨δ3, kp1.trans k, st3, q1⟩
        | ct δ3 => rw [zb] at q1; exact fun σ' H' k st3 => ⟨δ3, kp1.trans k, st3, q1⟩
        | bk δ3 => rw [zb] at q1; exact fun σ' H' k st3 => q1 σ' H' (kp1.trans k) st3
        | rt d δ3 => rw [zb] at q1; exact fun v σ' H' k st3 => q1 v σ' H' (kp1.trans k) st3
        | exc e δ3 => rw [zb] at q1; exact fun σ' k => q1 σ' (kp1.trans k)
        | stuck => rw [zb] at q1; exact q1
end
/-! ### comprehensions -/
def wipeD (δ : DEnv) : List Nat → DEnv
  | [] => δ
  | v :: vs => (wipeD δ vs).set v none
def restD (δ0 : DEnv) : List Nat → DEnv → DEnv
  | [], δ => δ
  | v :: vs, δ => (restD δ0 vs δ).set v ((δ0[v]?).join)
def R.noX {α : Type} : R α → R α
  | .exc _ _ => .stuck
  | r => r
def dLc (tg : Tg) (cond : DEnv → R Bool) (elt : DEnv → R D) (own : List Nat) : List D → DEnv → R (List D)
  | [], δ => .ok [] δ
  | d :: ds, δ => match tg d δ with
    | some δ1 => ((cond δ1).noX).bind fun b δ2 => if b = true then ((elt δ2).noX).bind fun x δ3 => (dLc tg cond elt own ds (wipeD δ3 own)).bind fun xs δ4 => .ok (x :: xs) δ4
      else dLc tg cond elt own ds (wipeD δ2 own)
    | none => .stuck
def finLc (fin : Fin) (δ1 : DEnv) (own : List Nat) (xs : List D) (δ2 : DEnv) : R D := match fin (restD δ1 own δ2) with
  | some δ3 => .ok (.lst xs) δ3
  | none => .stuck
def mLc (src : Src) (tg : Tg) (cond : DEnv → R Bool) (elt : DEnv → R D) (own : List Nat) : DEnv → R D := fun δ => (src δ).bind fun x δ1 => if x.1.length ≤ sizeLine then (dLc tg cond elt own x.1 (wipeD δ1 own)).bind (finLc x.2 δ1 own)
  else .stuck
def mYes : DEnv → R Bool := fun δ => .ok true δ
section
variable {M : Mdl} {ms : List (Mode M)}
theorem Sl.reval {σ : L2.St} {δ : DEnv} {Γ : List Pc} (h : Sl ms σ δ Γ) : ∀ {i : Nat} (w : Option V), (∀ d, δ[i]? ≠ some (some d)) → Sl ms (σ.set i w) δ Γ := by
  induction h with
  | nil => intro i w _; exact .nil
  | no t ih =>
    intro i w n
    cases i with
    | zero => exact .no t
    | succ i => exact .no (ih w fun d => by simpa using n d)
  | yes t ih =>
    intro i w n
    cases i with
    | zero => exact absurd rfl (n _)
    | succ i => exact .yes (ih w fun d => by simpa using n d)
theorem Sl.noVal {σ : L2.St} {δ : DEnv} {Γ : List Pc} (h : Sl ms σ δ Γ) {i : Nat} (e : σ[i]? = some none ∨ σ[i]? = none) : ∀ d, δ[i]? ≠ some (some d) := fun d z => by
  obtain ⟨v, m, a, _⟩ := h.mem z
  rcases e with e | e <;> (rw [e] at a; cases a)
theorem wipe_none {σ : L2.St} : ∀ {vs : List Nat} {i : Nat}, i ∈ vs → (wipe σ vs)[i]? = some none ∨ (wipe σ vs)[i]? = none
  | v :: vs, i, h => by
    unfold wipe
    by_cases e : v = i
    · subst e
      by_cases hl : v < (wipe σ vs).length
      · rw [List.getElem?_set_self hl]; exact .inl rfl
      · right; rw [List.getElem?_eq_none]; simp; omega
    · rw [List.getElem?_set_ne e]
      exact wipe_none ((List.mem_cons.mp h).resolve_left fun z => e z.symm)
theorem wipe_other {σ : L2.St} : ∀ {vs : List Nat} {i : Nat}, i ∉ vs → (wipe σ vs)[i]? = σ[i]?
  | [], _, _ => rfl
  | v :: vs, i, h => by
    unfold wipe
    rw [List.getElem?_set_ne (fun e => h (by rw [e]; exact List.mem_cons_self ..))]
    exact wipe_other fun z => h (List.mem_cons_of_mem _ z)
theorem Sl.unwipe {σ : L2.St} {δ : DEnv} {Γ : List Pc} : ∀ {vs : List Nat}, Sl ms (wipe σ vs) δ Γ → Sl ms σ δ Γ := by
  intro vs h
  have key : ∀ (us : List Nat), Sl ms (wipe σ us) δ Γ → (∀ i ∈ us, ∀ d, δ[i]? ≠ some (some d)) → Sl ms σ δ Γ := by
    intro us
    induction us with
    | nil => exact fun h _ => h
    | cons u us ih =>
      intro h n
      refine ih ?_ fun i hi => n i (List.mem_cons_of_mem _ hi)
      have e : wipe σ us = (wipe σ (u :: us)).set u ((wipe σ us)[u]?).join := by
        show wipe σ us = ((wipe σ us).set u none).set u _
        rw [List.set_set]
        apply List.ext_getElem? 
        intro i
        by_cases hu : u = i
        · subst hu
          by_cases hl : u < (wipe σ us).length
          · rw [List.getElem?_set_self hl, List.getElem?_eq_getElem hl]; rfl
          · rw [List.getElem?_eq_none (by omega), List.getElem?_eq_none (by simp; omega)]
        · rw [List.getElem?_set_ne hu]
      rw [e]
      exact h.reval _ (n u (List.mem_cons_self ..))
  exact key vs h fun i hi => h.noVal (wipe_none hi)
theorem Sl.aside {σ : L2.St} {δ : DEnv} {Γ : List Pc} (h : Sl ms σ δ Γ) : ∀ (vs : List Nat), ∃ Γ1 Γ2, Γ.Perm (Γ1 ++ Γ2) ∧ Sl ms (wipe σ vs) (wipeD δ vs) Γ2 ∧
    ∀ δ' Γ', vs.Nodup → Sl ms (wipe σ vs) δ' Γ' → ∃ Γ'', Γ''.Perm (Γ1 ++ Γ') ∧ Sl ms σ (restD δ vs δ') Γ''
  | [] => ⟨[], Γ, List.Perm.refl _, h, fun δ' Γ' _ s => ⟨Γ', List.Perm.refl _, s⟩⟩
  | v :: vs => by
    obtain ⟨Γ1, Γ2, p, s, back⟩ := h.aside vs
    have hw : wipe σ (v :: vs) = (wipe σ vs).set v none := rfl
    have hd : wipeD δ (v :: vs) = (wipeD δ vs).set v none := rfl
    cases z : (wipeD δ vs)[v]? with
    | none =>
      have e : (wipeD δ vs).set v none = wipeD δ vs := List.set_eq_of_length_le (by simpa using z)
      refine ⟨Γ1, Γ2, p, ?_, fun δ' Γ' nd s' => ?_⟩
      · rw [hw, hd, e]; exact s.reval _ fun d q => by rw [z] at q; cases q
      · have nv := List.nodup_cons.mp nd
        have s1 : Sl ms (wipe σ vs) δ' Γ' := Sl.unwipe (vs := [v]) s'
        obtain ⟨Γ'', a, b⟩ := back δ' Γ' nv.2 s1
        refine ⟨Γ'', a, ?_⟩
        have hl : δ.length ≤ v := by
          have h1 := s.len.2
          have h2 := h.len.2
          have h3 : (wipeD δ vs).length ≤ v := by simpa using z
          omega
        show Sl ms σ ((restD δ vs δ').set v ((δ[v]?).join)) Γ''
        rw [List.set_eq_of_length_le (by rw [b.len.2, ← h.len.2]; exact hl)]
        exact b
    | some o =>
      cases o with
      | none =>
        have e : (wipeD δ vs).set v none = wipeD δ vs := by
          obtain ⟨h1, h2⟩ := List.getElem?_eq_some_iff.mp z
          rw [← h2]
          exact List.set_getElem_self h1
        refine ⟨Γ1, Γ2, p, ?_, fun δ' Γ' nd s' => ?_⟩
        · rw [hw, hd, e]; exact s.reval _ fun d q => by rw [z] at q; cases q
        · have nv := List.nodup_cons.mp nd
          have hv : v ∉ vs := nv.1
          have s1 : Sl ms (wipe σ vs) δ' Γ' := Sl.unwipe (vs := [v]) s'
          obtain ⟨Γ'', a, b⟩ := back δ' Γ' nv.2 s1
          refine ⟨Γ'', a, ?_⟩
          have e1 : ∀ (us : List Nat), v ∉ us → (wipeD δ us)[v]? = δ[v]? := by
            intro us
            induction us with
            | nil => exact fun _ => rfl
            | cons u us ih =>
              intro hu
              show ((wipeD δ us).set u none)[v]? = δ[v]?
              rw [List.getElem?_set_ne (fun q => hu (by rw [q]; exact List.mem_cons_self ..))]
              exact ih fun q => hu (List.mem_cons_of_mem _ q)
          have e2 : δ[v]? = some none := (e1 vs hv).symm.trans z
          have e3 : ∀ (us : List Nat), v ∉ us → (restD δ us δ')[v]? = δ'[v]? := by
            intro us
            induction us with
            | nil => exact fun _ => rfl
            | cons u us ih =>
              intro hu
              show ((restD δ us δ').set u _)[v]? = δ'[v]?
              rw [List.getElem?_set_ne (fun q => hu (by rw [q]; exact List.mem_cons_self ..))]
              exact ih fun q => hu (List.mem_cons_of_mem _ q)
          have e4 : δ'[v]? = some none := by
            have nvv := s'.noVal (i := v) (wipe_none (List.mem_cons_self ..))
            have hl : v < δ'.length := by
              have h1 := s'.len.2
              have h2 := h.len.2
              have h3 := (List.getElem?_eq_some_iff.mp e2).1
              omega
            cases q : δ'[v]? with
            | none => rw [List.getElem?_eq_none_iff] at q; omega
            | some o =>
              cases o with
              | none => rfl
              | some d => exact absurd q (nvv d)
          show Sl ms σ ((restD δ vs δ').set v ((δ[v]?).join)) Γ''
          rw [e2]
          have e5 : (restD δ vs δ').set v none = restD δ vs δ' := by
            obtain ⟨h1, h2⟩ := List.getElem?_eq_some_iff.mp ((e3 vs hv).trans e4)
            conv => lhs; rw [← h2]
            exact List.set_getElem_self h1
          show Sl ms σ ((restD δ vs δ').set v none) Γ''
          rw [e5]
          exact b
      | some d =>
        obtain ⟨x, m, Γ3, f1, f2, f3, s3⟩ := s.take z
        refine ⟨m.fam x d :: Γ1, Γ3, ?_, ?_, fun δ' Γ' nd s' => ?_⟩
        · refine p.trans ((f3.append_left Γ1).trans ?_)
          exact List.perm_middle
        · rw [hw, hd]
          refine s3.reval _ fun d' q => ?_
          rw [List.getElem?_set_self (List.getElem?_eq_some_iff.mp z).1] at q
          cases q
        · have nv := List.nodup_cons.mp nd
          have hv : v ∉ vs := nv.1
          have s1 : Sl ms (wipe σ vs) δ' Γ' := Sl.unwipe (vs := [v]) s'
          obtain ⟨Γ'', a, b⟩ := back δ' Γ' nv.2 s1
          have e1 : ∀ (us : List Nat), v ∉ us → (wipeD δ us)[v]? = δ[v]? := by
            intro us
            induction us with
            | nil => exact fun _ => rfl
            | cons u us ih =>
              intro hu
              show ((wipeD δ us).set u none)[v]? = δ[v]?
              rw [List.getElem?_set_ne (fun q => hu (by rw [q]; exact List.mem_cons_self ..))]
              exact ih fun q => hu (List.mem_cons_of_mem _ q)
          have e2 : δ[v]? = some (some d) := (e1 vs hv).symm.trans z
          have e3 : ∀ (us : List Nat), v ∉ us → (restD δ us δ')[v]? = δ'[v]? := by
            intro us
            induction us with
            | nil => exact fun _ => rfl
            | cons u us ih =>
              intro hu
              show ((restD δ us δ').set u _)[v]? = δ'[v]?
              rw [List.getElem?_set_ne (fun q => hu (by rw [q]; exact List.mem_cons_self ..))]
              exact ih fun q => hu (List.mem_cons_of_mem _ q)
          have e4 : δ'[v]? = some none := by
            have nvv := s'.noVal (i := v) (wipe_none (List.mem_cons_self ..))
            have hl : v < δ'.length := by
              have h1 := s'.len.2
              have h2 := h.len.2
              have h3 := (List.getElem?_eq_some_iff.mp e2).1
              omega
            cases q : δ'[v]? with
            | none => rw [List.getElem?_eq_none_iff] at q; omega
            | some o =>
              cases o with
              | none => rfl
              | some d => exact absurd q (nvv d)
          have f1' : σ[v]? = some (some x) := (wipe_other hv).symm.trans f1
          obtain ⟨Γ4, p4, s4⟩ := b.put (m := m) (v := x) d f2 ((e3 vs hv).trans e4) f1'
          refine ⟨Γ4, p4.trans (a.cons _), ?_⟩
          show Sl ms σ ((restD δ vs δ').set v ((δ[v]?).join)) Γ4
          rw [e2]
          exact s4
end
end DM
set_option maxRecDepth 100000
/-! Data mirror, part 10: lists that grow, comprehensions. -/
namespace DM
open PySem PySem.Spec L2
section
variable {M : Mdl} {S H : Hp} {Γ : List Pc} {m : Mode M}
theorem Lof.at {p : V} {ds : List D} {F : Foot} (h : (Lof m).fam p (.lst ds) S H F) : ∃ a vs G, p = .ref a ∧ H a = some (.lst vs) ∧ Els m.fam S H vs ds G ∧ ¬ G a ∧ ∀ x, F x ↔ x = a ∨ G x := by
  rcases h with ⟨z, _, _⟩ | ⟨a, vs, ds', G, e1, e2, c, e, f, g⟩
  · cases z
  · cases e2; exact ⟨a, vs, G, e1, c, e, f, g⟩
theorem Holds.lstAt {p : V} {ds : List D} (h : Holds S H ((Lof m).fam p (.lst ds) :: Γ)) : ∃ a vs, p = .ref a ∧ H a = some (.lst vs) ∧ vs.length = ds.length := by
  obtain ⟨F, q⟩ := h.mem (List.mem_cons_self ..)
  obtain ⟨a, vs, G, e1, e2, e3, _⟩ := Lof.at q
  exact ⟨a, vs, e1, e2, e3.length⟩
def And2 (P Q : Pc) : Pc := fun S H U => ∃ F G, P S H F ∧ Q S H G ∧ (∀ a, F a → ¬ G a) ∧ ∀ a, U a ↔ F a ∨ G a
theorem And2.stb {P Q : Pc} (hP : Stb P) (hQ : Stb Q) : Stb (And2 P Q) := fun S S' H H' U ⟨F, G, a, b, c, d⟩ e k => ⟨F, G, hP _ _ _ _ _ a e fun x q => k x ((d x).mpr (.inl q)), hQ _ _ _ _ _ b e fun x q => k x ((d x).mpr (.inr q)), c, d⟩
theorem Holds.join {P Q : Pc} (h : Holds S H (P :: Q :: Γ)) : Holds S H (And2 P Q :: Γ) := by
  obtain ⟨U, a, b, c⟩ := h.own
  cases a with
  | cons s1 p t d u =>
    cases t with
    | cons s2 q t2 d2 u2 =>
      rename_i F G F2 G2
      refine ⟨h.ex, U, .cons (And2.stb s1 s2) ⟨F, F2, p, q, fun x y z => d x y ((u2 x).mpr (.inl z)), fun _ => Iff.rfl⟩ t2 (fun x y z => ?_) (fun x => ?_), b, c⟩
      · rcases y with y | y
        · exact d x y ((u2 x).mpr (.inr z))
        · exact d2 x y z
      · rw [u x, u2 x, or_assoc]
theorem Holds.appendL {p : Addr} {ds : List D} {v : V} {d : D} (h : Holds S H ((Lof m).fam (.ref p) (.lst ds) :: m.fam v d :: Γ)) :
    ∃ vs, H p = some (.lst vs) ∧ vs.length = ds.length ∧ Holds S (upd H p (.lst (vs ++ [v]))) ((Lof m).fam (.ref p) (.lst (ds ++ [d])) :: Γ) := by
  obtain ⟨a, vs, e1, e2, e3⟩ := h.lstAt
  cases e1
  refine ⟨vs, e2, e3, ?_⟩
  have hj := h.join
  refine hj.change ((Lof m).stb _ _) fun F q nS nH => ?_
  obtain ⟨F1, F2, q1, q2, q3, q4⟩ := q
  obtain ⟨a', vs', G, e1', e2', e4, nG, u⟩ := Lof.at q1
  cases e1'
  rw [e2] at e2'; cases e2'
  have ne : ∀ x, G x → x ≠ p := fun x y z => nG (z ▸ y)
  have ne2 : ∀ x, F2 x → x ≠ p := fun x y z => q3 p ((u p).mpr (.inl rfl)) (z ▸ y)
  refine ⟨F, .inr ⟨p, vs ++ [v], ds ++ [d], fun x => G x ∨ F2 x, rfl, rfl, upd_same, ?_, ?_, fun x => ?_⟩, fun x y => .inl y, fun x y => ?_, fun x y z => ?_⟩
  · refine (e4.stay m.stb (Ex.refl S) fun x y => upd_ne (ne x y)).append (G := F2) (.cons (G := fun _ => False) (m.stb _ _ _ _ _ _ _ q2 (Ex.refl S) fun x y => upd_ne (ne2 x y)) (.nil fun _ z => z) (fun _ _ z => z) fun x => ⟨.inl, fun z => z.elim id False.elim⟩) (fun x y z => q3 x ((u x).mpr (.inr y)) z) fun _ => Iff.rfl
  · rintro (z | z)
    · exact nG z
    · exact ne2 p z rfl
  · rw [q4 x, u x, or_assoc]
  · by_cases z : x = p
    · rw [z, upd_same]; simp
    · rw [upd_ne z]; exact nH x y
  · exact upd_ne fun w => y ((q4 x).mpr (.inl ((u x).mpr (.inl w))))
end
section
variable {X : Cx} {W : WX} {ms : List (Mode (mdl X))} {mr : Mode (mdl X)} {pn : List Nat} {pos : Pos}
abbrev W0 : WX := fun _ _ _ _ => False
theorem all_te {ι : Type} (Xs : ι → Cx) {e : Expr} {R : TE → Prop} (hR : ∀ t : ι → TE, (∀ c, R (t c)) → R (fun σ H Q => ∀ c, t c σ H Q)) (h : ∀ c, ∃ t, PE (Xs c) e t ∧ R t) : ∃ t, (∀ c, PE (Xs c) e t) ∧ R t := by
  refine ⟨fun σ H Q => ∀ c, Classical.choose (h c) σ H Q, fun c => ⟨fun pins s σ H Q I q => (Classical.choose_spec (h c)).1.run pins s σ H Q I (q c)⟩, hR _ fun c => (Classical.choose_spec (h c)).2⟩
theorem all_tg {ι : Type} (Xs : ι → Cx) {e : Expr} {R : TG → Prop} (hR : ∀ t : ι → TG, (∀ c, R (t c)) → R (fun v σ H Q => ∀ c, t c v σ H Q)) (h : ∀ c, ∃ t, PG (Xs c) e t ∧ R t) : ∃ t, (∀ c, PG (Xs c) e t) ∧ R t := by
  refine ⟨fun v σ H Q => ∀ c, Classical.choose (h c) v σ H Q, fun c => ⟨fun pins s σ H v u Q I r q => (Classical.choose_spec (h c)).1.run pins s σ H v u Q I r (q c)⟩, hR _ fun c => (Classical.choose_spec (h c)).2⟩
theorem wipe_eq {σ σ2 : L2.St} {own : List Nat} (hl : σ2.length = (wipe σ own).length) (k : ∀ i, i < σ2.length → i ∉ own → σ2[i]? = (wipe σ own)[i]?) : wipe σ2 own = wipe σ own := by
  apply List.ext_getElem?
  intro i
  by_cases hi : i ∈ own
  · by_cases hl2 : i < σ2.length
    · have a := wipe_none (σ := σ2) hi
      have b := wipe_none (σ := σ) hi
      have a' : (wipe σ2 own)[i]? = some none := a.resolve_right (by rw [List.getElem?_eq_none_iff, wipe_length]; omega)
      have b' : (wipe σ own)[i]? = some none := b.resolve_right (by rw [List.getElem?_eq_none_iff]; omega)
      rw [a', b']
    · rw [List.getElem?_eq_none (by rw [wipe_length]; omega), List.getElem?_eq_none (by omega)]
  · rw [wipe_other hi]
    by_cases hl2 : i < σ2.length
    · exact k i hl2 hi
    · rw [List.getElem?_eq_none (by omega), List.getElem?_eq_none (by omega)]
theorem rel_lc {me : Mode (mdl X)} {kp pnC own : List Nat} {wi : TI} {g : TG} {tt : TT} {te : TE} {src : Src} {f : Tg} {mc : DEnv → R Bool} {mv : DEnv → R D} (hnd : own.Nodup) (hkp : ∀ i ∈ kp, i ∉ own)
    (ki : ∀ σ δ H τ (T : It → Hp → Prop), StO ms σ δ H τ → PostI (X := X) W ms kp σ τ T (src δ) → wi σ H T)
    (kg : ∀ v d σ δ δ' H τ (Q : L2.St → Hp → Prop), StO ms σ δ H ((fz (M := mdl X)).fam v d :: τ) → f d δ = some δ' → (∀ σ', Keep pnC σ σ' → σ'.length = σ.length → StO ms σ' δ' H τ → Q σ' H) → g v σ H Q)
    (kc : RelT (X := X) W0 ms tt mc) (kv : RelE (X := X) W0 ms me te mv) (hpn : ∀ i, i < ms.length → i ∉ own → i ∈ pnC) : RelE (X := X) W ms (Lof me) (tLc wi g tt te own) (mLc src f mc mv own) := by
  intro σ δ H τ Q st q
  refine ki σ δ H τ _ st ?_
  unfold mLc at q
  cases z : src δ with
  | exc c δ1 => rw [z] at q; exact q
  | stuck => rw [z] at q; exact q
  | ok x δ1 =>
    rw [z, R.bind_ok] at q
    split at q
    · rename_i hsz
      intro J H1 P Δ wk st1 fn L hL
      -- the own slots set aside
      obtain ⟨S1, Γ, sl1, ho1⟩ := st1
      obtain ⟨Γ1, Γ2, pp, slw, back⟩ := sl1.aside own
      have ho2 : Holds S1 H1 ((Γ1 ++ (P :: (Δ ++ τ))) ++ Γ2) := ho1.perm ((pp.append_left _).trans (by
        rw [← List.append_assoc]
        exact List.perm_append_comm.append_right _))
      have hlen : (wipe σ own).length = σ.length := wipe_length _ _
      let goal := fun (ds : List D) (r : R (List D)) => PostE (X := X) W ms (Lof me) σ τ Q (r.bind fun xs δ2 => finLc x.2 δ1 own (ds ++ xs) δ2)
      refine ⟨fun i m H' => ∃ δ' ds, i + m = x.1.length ∧ ds.length ≤ i ∧ StO ms (wipe σ own) δ' H' ((Lof me).fam (.ref L) (.lst ds) :: (Γ1 ++ (P :: (Δ ++ τ)))) ∧ goal ds (dLc f mc mv own (x.1.drop i) δ'),
        ⟨x.1.length, wipeD δ1 own, [], by simp, Nat.le_refl _, ?_, ?_⟩, ?_⟩
      · refine ⟨S1, Γ2, slw, ?_⟩
        exact ho2.newO hL ((Lof me).stb _ _) fun F hF => .inr ⟨L, [], [], fun _ => False, rfl, rfl, upd_same, .nil fun _ z => z, fun z => z, fun a => (hF a).trans ⟨.inl, fun z => z.elim id False.elim⟩⟩
      · show PostE (X := X) W ms (Lof me) σ τ Q _
        exact q
      · rintro i m H2 ⟨δ2, ds, em, hds, st2, q2⟩
        obtain ⟨S2, Γ3, sl2, ho3⟩ := id st2
        have hoP : Holds S2 H2 (P :: ((Lof me).fam (.ref L) (.lst ds) :: (Γ1 ++ (Δ ++ τ))) ++ Γ3) := ho3.perm (by
          refine List.Perm.append_right _ ?_
          exact ((List.perm_middle).cons _).trans (.swap ..))
        by_cases hi : i < x.1.length
        · have eg : x.1[i]? = some x.1[i] := List.getElem?_eq_getElem hi
          obtain ⟨g1, g2⟩ := wk.go i _ eg S2 H2 _ hoP
          rw [List.drop_eq_getElem_cons hi] at q2
          refine .inr ⟨g1, fun H' => ∃ δ' ds, i + 1 + (m - 1) = x.1.length ∧ ds.length ≤ i + 1 ∧ StO ms (wipe σ own) δ' H' ((Lof me).fam (.ref L) (.lst ds) :: (Γ1 ++ (P :: (Δ ++ τ)))) ∧ goal ds (dLc f mc mv own (x.1.drop (i + 1)) δ'), fun H' h => ⟨m - 1, by omega, h⟩, fun y H3 hy => ?_⟩
          obtain ⟨S3, ho4⟩ := g2 y H3 hy
          have st3 : StO ms (wipe σ own) δ2 H3 (fz.fam y x.1[i] :: (Lof me).fam (.ref L) (.lst ds) :: (Γ1 ++ (P :: (Δ ++ τ)))) := ⟨S3, Γ3, sl2, ho4.perm (by
            show (fz.fam y x.1[i] :: (P :: ((Lof me).fam (.ref L) (.lst ds) :: ((Γ1 ++ (Δ ++ τ)) ++ Γ3)))).Perm (fz.fam y x.1[i] :: ((Lof me).fam (.ref L) (.lst ds) :: ((Γ1 ++ (P :: (Δ ++ τ))) ++ Γ3)))
            refine List.Perm.cons _ ((List.Perm.swap ..).trans (List.Perm.cons _ (List.Perm.append_right (l₁ := P :: (Γ1 ++ (Δ ++ τ))) _ ?_)))
            exact List.perm_middle.symm)⟩
          have q3 : PostE (X := X) W ms (Lof me) σ τ Q (((match f x.1[i] δ2 with
            | some δ1 => ((mc δ1).noX).bind fun b δ2 => if b = true then ((mv δ2).noX).bind fun x' δ3 => (dLc f mc mv own (x.1.drop (i + 1)) (wipeD δ3 own)).bind fun xs δ4 => .ok (x' :: xs) δ4
              else dLc f mc mv own (x.1.drop (i + 1)) (wipeD δ2 own)
            | none => .stuck) : R (List D)).bind fun xs δ2 => finLc x.2 δ1 own (ds ++ xs) δ2) := q2
          cases zt : f x.1[i] δ2 with
          | none => rw [zt] at q3; exact q3.elim
          | some δ3 =>
            rw [zt] at q3
            dsimp only at q3
            refine kg y _ (wipe σ own) δ2 δ3 H3 _ _ st3 zt fun σ2 kp2 hl2 st4 => ?_
            have ew : wipe σ2 own = wipe σ own := wipe_eq hl2 fun j hj hn => kp2 j (hpn j (by
              have := sl2.len.1
              omega) hn)
            refine ⟨ew, kc σ2 δ3 H3 _ _ st4 ?_⟩
            -- from a state with own slots filled to one with them wiped
            have wiped : ∀ {δ4 : DEnv} {H4 : Hp} {τ4 : List Pc}, StO ms σ2 δ4 H4 τ4 → StO ms (wipe σ own) (wipeD δ4 own) H4 τ4 := fun {δ4 H4 τ4} s => by
              obtain ⟨S4, Γ4, sl4, ho⟩ := s
              obtain ⟨Ga, Gb, pg, sw, _⟩ := sl4.aside own
              rw [ew] at sw
              refine ⟨S4, Gb, sw, ?_⟩
              exact (ho.perm ((pg.append_left _).trans (List.perm_append_comm_assoc _ _ _))).dropL
            cases zc : mc δ3 with
            | exc c δ4 => rw [zc] at q3; exact q3.elim
            | stuck => rw [zc] at q3; exact q3.elim
            | ok b δ4 =>
              rw [zc] at q3
              have q4 : PostE (X := X) W ms (Lof me) σ τ Q ((if b = true then ((mv δ4).noX).bind fun x' δ3 => (dLc f mc mv own (x.1.drop (i + 1)) (wipeD δ3 own)).bind fun xs δ4 => .ok (x' :: xs) δ4
                else dLc f mc mv own (x.1.drop (i + 1)) (wipeD δ4 own)).bind fun xs δ2 => finLc x.2 δ1 own (ds ++ xs) δ2) := q3
              intro H4 st5
              cases b with
              | false =>
                rw [if_neg (by decide)] at q4 ⊢
                exact ⟨wipeD δ4 own, ds, by omega, by omega, wiped st5, q4⟩
              | true =>
                rw [if_pos rfl] at q4 ⊢
                refine kv σ2 δ4 H4 _ _ st5 ?_
                cases zv : mv δ4 with
                | exc c δ5 => rw [zv] at q4; exact q4.elim
                | stuck => rw [zv] at q4; exact q4.elim
                | ok d δ5 =>
                  rw [zv] at q4
                  intro v5 H5 st6
                  obtain ⟨S6, Γ6, sl6, ho6⟩ := id st6
                  obtain ⟨vs, e1, e2, e3⟩ := Holds.appendL (m := me) (ho6.perm (.swap ..))
                  refine ⟨vs, e1, by omega, wipeD δ5 own, ds ++ [d], by omega, by simp; omega, wiped ⟨S6, Γ6, sl6, e3⟩, ?_⟩
                  show PostE (X := X) W ms (Lof me) σ τ Q _
                  have q5 : PostE (X := X) W ms (Lof me) σ τ Q (((dLc f mc mv own (x.1.drop (i + 1)) (wipeD δ5 own)).bind fun xs δ4 => R.ok (d :: xs) δ4).bind fun xs δ2 => finLc x.2 δ1 own (ds ++ xs) δ2) := q4
                  cases zr : dLc f mc mv own (x.1.drop (i + 1)) (wipeD δ5 own) with
                  | exc c δ6 => rw [zr] at q5; exact q5
                  | stuck => rw [zr] at q5; exact q5
                  | ok xs δ6 =>
                    rw [zr] at q5
                    show PostE (X := X) W ms (Lof me) σ τ Q (finLc x.2 δ1 own ((ds ++ [d]) ++ xs) δ6)
                    rw [List.append_assoc]
                    exact q5
        · have e0 : x.1.drop i = [] := List.drop_of_length_le (by omega)
          rw [e0] at q2
          refine .inl ⟨wk.stop i (by omega) S2 H2 _ hoP, ?_⟩
          have q3 : PostE (X := X) W ms (Lof me) σ τ Q (finLc x.2 δ1 own (ds ++ []) δ2) := q2
          rw [List.append_nil] at q3
          unfold finLc at q3
          obtain ⟨Γ4, p4, sl4⟩ := back δ2 Γ3 hnd sl2
          have st4 : StO ms σ (restD δ1 own δ2) H2 (P :: (Δ ++ ((Lof me).fam (.ref L) (.lst ds) :: τ))) := ⟨S2, Γ4, sl4, ho3.perm (by
            refine List.Perm.trans ?_ ((p4.symm).append_left _)
            have a1 : ((Lof me).fam (.ref L) (.lst ds) :: (Γ1 ++ (P :: (Δ ++ τ)))).Perm ((P :: (Δ ++ ((Lof me).fam (.ref L) (.lst ds) :: τ))) ++ Γ1) := by
              refine List.Perm.trans ?_ List.perm_append_comm
              refine (List.perm_middle (a := (Lof me).fam (.ref L) (.lst ds)) (l₁ := Γ1) (l₂ := P :: (Δ ++ τ))).symm.trans (List.Perm.append_left _ ?_)
              exact (List.Perm.swap ..).trans ((List.perm_middle.symm).cons _)
            refine (a1.append_right Γ3).trans ?_
            rw [List.append_assoc])⟩
          cases zf : x.2 (restD δ1 own δ2) with
          | none => rw [zf] at q3; exact q3.elim
          | some δ3 =>
            rw [zf] at q3
            exact q3 (.ref L) H2 (fn σ _ δ3 H2 _ (Keep.refl _ _) st4 zf)
    · exact q.elim
structure DTs (X : Cx) (W : WX) (ms : List (Mode (mdl X))) (ifs : List Expr) (m : DEnv → R Bool) : Prop where
  run : ∃ t, PTs X ifs t ∧ RelT W ms t m
theorem dts_nil : DTs X W ms [] mYes := ⟨_, pts_nil, fun σ δ H τ Q st q => q H st⟩
theorem dts_one {c : Expr} {m : DEnv → R Bool} (h : DT X W ms c m) : DTs X W ms [c] m := by
  obtain ⟨t, p, k⟩ := h.run
  exact ⟨t, pts_one p, k⟩
theorem all_tts {ι : Type} (Xs : ι → Cx) {e : List Expr} {R : TT → Prop} (hR : ∀ t : ι → TT, (∀ c, R (t c)) → R (fun σ H Q => ∀ c, t c σ H Q)) (h : ∀ c, ∃ t, PTs (Xs c) e t ∧ R t) : ∃ t, (∀ c, PTs (Xs c) e t) ∧ R t := by
  refine ⟨fun σ H Q => ∀ c, Classical.choose (h c) σ H Q, fun c => ⟨fun pins s σ H Q I q => (Classical.choose_spec (h c)).1.run pins s σ H Q I (q c)⟩, hR _ fun c => (Classical.choose_spec (h c)).2⟩
structure BIx where
  s : Shared
  H : Hp
  C : Addr
  cl : List (Str × Addr)
  fp : List Addr
abbrev bx (X : Cx) (scope : Scope) (c : BIx) : Cx := X.blk c.s c.H scope (compEnvC scope c.cl c.C X.env) c.fp
section
variable {me : Mode (mdl X)} {kp pnC : List Nat} {own : List (Str × Nat)} {scope : Scope} {tg iter elt : Expr} {ifs : List Expr} {src : Src} {f : Tg} {mc : DEnv → R Bool} {mv : DEnv → R D}
theorem lc_all (hg : ∀ c : BIx, DG (bx X scope c) ms pnC tg f) (ht : ∀ c : BIx, DTs (bx X scope c) W0 ms ifs mc) (he : ∀ c : BIx, DE (bx X scope c) W0 ms elt me mv) :
    ∃ g tt te, (∀ c : BIx, PG (bx X scope c) tg g) ∧ (∀ c : BIx, PTs (bx X scope c) ifs tt) ∧ (∀ c : BIx, PE (bx X scope c) elt te) ∧
      (∀ v d σ δ δ' H τ (Q : L2.St → Hp → Prop), StO ms σ δ H ((fz (M := mdl X)).fam v d :: τ) → f d δ = some δ' → (∀ σ', Keep pnC σ σ' → σ'.length = σ.length → StO ms σ' δ' H τ → Q σ' H) → g v σ H Q) ∧ RelT (X := X) W0 ms tt mc ∧ RelE (X := X) W0 ms me te mv := by
  obtain ⟨g, pg, kg⟩ := all_tg (fun c => bx X scope c) (R := fun g => ∀ v d σ δ δ' H τ (Q : L2.St → Hp → Prop), StO ms σ δ H ((fz (M := mdl X)).fam v d :: τ) → f d δ = some δ' → (∀ σ', Keep pnC σ σ' → σ'.length = σ.length → StO ms σ' δ' H τ → Q σ' H) → g v σ H Q)
    (fun t h v d σ δ δ' H τ Q st e k c => h c v d σ δ δ' H τ Q st e k) (fun c => (hg c).run)
  obtain ⟨tt, pt, kt⟩ := all_tts (fun c => bx X scope c) (R := fun t => RelT (X := X) W0 ms t mc) (fun t h σ δ H τ Q st q c => h c σ δ H τ Q st q) (fun c => (ht c).run)
  obtain ⟨te, pe, ke⟩ := all_te (fun c => bx X scope c) (R := fun t => RelE (X := X) W0 ms me t mv) (fun t h σ δ H τ Q st q c => h c σ δ H τ Q st q) (fun c => (he c).run)
  exact ⟨g, tt, te, pg, pt, pe, kg, kt, ke⟩
theorem de_lc (hc : X.calm = true) (hN : X.N.Nodup) (hi : DI X W ms kp tg iter src) (ok : BlkOk X.N X.env.scope scope own) (hg : ∀ c : BIx, DG (bx X scope c) ms pnC tg f) (ht : ∀ c : BIx, DTs (bx X scope c) W0 ms ifs mc) (he : ∀ c : BIx, DE (bx X scope c) W0 ms elt me mv)
    (hnd : (own.map (·.2)).Nodup := by decide) (hkp : ∀ i ∈ kp, i ∉ own.map (·.2) := by exact of_decide_eq_true (by rfl)) (hpn : ∀ i, i < ms.length → i ∉ own.map (·.2) → i ∈ pnC := by exact of_decide_eq_true (by rfl)) (hs : ∀ x, foldedSetIterable iter X.env x = pure x := by intro _; rfl) :
    DE X W ms (.ListComp elt [⟨tg, iter, ifs, 0⟩] scope pos) (Lof me) (mLc src f mc mv (own.map (·.2))) := by
  obtain ⟨wi, pi, ki⟩ := hi.run
  obtain ⟨g, tt, te, pg, pt, pe, kg, kt, ke⟩ := lc_all hg ht he
  exact ⟨_, pe_lc hc hN pi ok (fun s H C cl fp => pg ⟨s, H, C, cl, fp⟩) (fun s H C cl fp => pt ⟨s, H, C, cl, fp⟩) (fun s H C cl fp => pe ⟨s, H, C, cl, fp⟩) hs, rel_lc hnd hkp ki kg kt ke hpn⟩
theorem ds_setLcF {i : Nat} {y : Str} {py spos : Pos} (hc : X.calm = true) (hN : X.N.Nodup) (hi : DI X W ms kp tg iter src) (ok : BlkOk X.N X.env.scope scope own) (hg : ∀ c : BIx, DG (bx X scope c) ms pnC tg f) (ht : ∀ c : BIx, DTs (bx X scope c) W0 ms ifs mc) (he : ∀ c : BIx, DE (bx X scope c) W0 ms elt me mv)
    (hsw : swapsWith (.ListComp elt [⟨tg, iter, ifs, 0⟩] scope pos) (some (.Name y py)) spos.line X.env = pure true) (hm : ms[i]? = some fz := by rfl) (hy : X.N[i]? = some y := by rfl) (hyl : X.env.scope.names.lookup y = some .local := by rfl) (hp : i ∉ pn := by exact of_decide_eq_true (by rfl))
    (hnd : (own.map (·.2)).Nodup := by decide) (hkp : ∀ i ∈ kp, i ∉ own.map (·.2) := by exact of_decide_eq_true (by rfl)) (hpn : ∀ i, i < ms.length → i ∉ own.map (·.2) → i ∈ pnC := by exact of_decide_eq_true (by rfl)) (hs : ∀ x, foldedSetIterable iter X.env x = pure x := by intro _; rfl) :
    DS X W ms mr pn (.Assign [.Name y py] (.ListComp elt [⟨tg, iter, ifs, 0⟩] scope pos) spos) (mAsg i (mLc src f mc mv (own.map (·.2)))) := by
  obtain ⟨wi, pi, ki⟩ := hi.run
  obtain ⟨g, tt, te, pg, pt, pe, kg, kt, ke⟩ := lc_all hg ht he
  have rel := rel_lc (W := W) hnd hkp ki kg kt ke hpn
  have relF : RelE (X := X) W ms fz _ (mLc src f mc mv (own.map (·.2))) := fun σ δ H τ Q st q => rel σ δ H τ Q st (by
    cases z : mLc src f mc mv (own.map (·.2)) δ with
    | ok d δ' => rw [z] at q; exact fun v H' st' => q v H' st'.share
    | exc c δ' => rw [z] at q; exact q
    | stuck => rw [z] at q; exact q)
  exact ⟨_, ps_setLc hc hN hy hyl hsw pi ok (fun s H C cl fp => pg ⟨s, H, C, cl, fp⟩) (fun s H C cl fp => pt ⟨s, H, C, cl, fp⟩) (fun s H C cl fp => pe ⟨s, H, C, cl, fp⟩) hs, relAsg relF hm hp⟩
end
end
end DM
set_option maxRecDepth 100000
/-! Data mirror, part 11: built-in functions, slices, in, methods that change a list, stores. -/
namespace DM
open PySem PySem.Spec L2
section
variable {X : Cx}
variable {m1 m2 : Mode (mdl X)} {qs : List (Mode (mdl X))}
/-! ### len -/
def lenD : List D → Option D
  | [.lst ds] => some (.int ds.length)
  | [.tup ds] => some (.int ds.length)
  | [.str z] => if z.length ≤ sizeLine then some (.int z.length) else none
  | [.scr ns] => some (.int ns.length)
  | _ => none
def rLenA (K : PySem.W.Frag) : List V → Hp → VK → Prop := fun xs H Q => ∃ x n, xs = [x] ∧ LenV K x H n ∧ Q (.int n) H
theorem opn_len : OpN (mdl X) (rLenA X.K) qs fz lenD := by
  intro S H Γ vs ds d Q ho sn e k
  unfold lenD at e
  split at e
  · cases e
    obtain ⟨v, m, rfl, _, s1⟩ := seens1 sn
    obtain ⟨a, xs, rfl, h1, r1⟩ := s1.lst ho.ex
    exact ⟨_, xs.length, rfl, .inl ⟨xs, SqL.of h1, rfl⟩, by rw [r1.length]; exact k _ S H (ho.sc fun _ => .int _)⟩
  · cases e
    obtain ⟨v, m, rfl, _, s1⟩ := seens1 sn
    obtain ⟨a, xs, rfl, h1, r1⟩ := s1.tup ho.ex
    exact ⟨_, xs.length, rfl, .inr ⟨xs, h1, rfl⟩, by rw [r1.length]; exact k _ S H (ho.sc fun _ => .int _)⟩
  · split at e
    · rename_i z hz
      cases e
      obtain ⟨v, m, rfl, _, s1⟩ := seens1 sn
      cases s1.str ho.ex
      exact ⟨_, z.length, rfl, ⟨hz, rfl⟩, k _ S H (ho.sc fun _ => .int _)⟩
    · cases e
  · rename_i ns
    cases e
    obtain ⟨v, m, rfl, _, s1⟩ := seens1 sn
    obtain ⟨a, rfl, h1⟩ := s1.scr ho.ex
    exact ⟨_, ns.length, rfl, .inl ⟨_, h1, by simp⟩, k _ S H (ho.sc fun _ => .int _)⟩
  · cases e
/-! ### int, abs, max, min of two -/
def intD : List D → Option D
  | [.int i] => some (.int i)
  | [.bl b] => some (.int (if b then 1 else 0))
  | _ => none
theorem opn_int : OpN (mdl X) (fun xs H Q => (∃ i, xs = [.int i] ∧ Q (.int i) H) ∨ ∃ k, xs = [.bl k] ∧ Q (.int (if k then 1 else 0)) H) qs fz intD := by
  intro S H Γ vs ds d Q ho sn e k
  unfold intD at e
  split at e
  · cases e
    obtain ⟨v, m, rfl, _, s1⟩ := seens1 sn
    cases s1.int ho.ex
    exact .inl ⟨_, rfl, k _ S H (ho.sc fun _ => .int _)⟩
  · cases e
    obtain ⟨v, m, rfl, _, s1⟩ := seens1 sn
    cases s1.bl ho.ex
    exact .inr ⟨_, rfl, k _ S H (ho.sc fun _ => .int _)⟩
  · cases e
def absD : List D → Option D
  | [.int i] => some (.int (if i < 0 then -i else i))
  | _ => none
theorem opn_abs : OpN (mdl X) (fun xs H Q => ∃ i, xs = [.int i] ∧ Q (.int (if i < 0 then -i else i)) H) qs fz absD := by
  intro S H Γ vs ds d Q ho sn e k
  unfold absD at e
  split at e
  · cases e
    obtain ⟨v, m, rfl, _, s1⟩ := seens1 sn
    cases s1.int ho.ex
    exact ⟨_, rfl, k _ S H (ho.sc fun _ => .int _)⟩
  · cases e
def max2D : List D → Option D
  | [.int i, .int j] => some (.int (if j > i then j else i))
  | _ => none
def min2D : List D → Option D
  | [.int i, .int j] => some (.int (if j < i then j else i))
  | _ => none
theorem opn_max2 : OpN (mdl X) (fun xs H Q => ∃ i j, xs = [.int i, .int j] ∧ Q (.int (if j > i then j else i)) H) qs fz max2D := by
  intro S H Γ vs ds d Q ho sn e k
  unfold max2D at e
  split at e
  · cases e
    obtain ⟨v, m, w, n, rfl, _, s1, s2⟩ := seens2 sn
    cases s1.int ho.ex
    cases s2.int ho.ex
    exact ⟨_, _, rfl, k _ S H (ho.sc fun _ => .int _)⟩
  · cases e
theorem opn_min2 : OpN (mdl X) (fun xs H Q => ∃ i j, xs = [.int i, .int j] ∧ Q (.int (if j < i then j else i)) H) qs fz min2D := by
  intro S H Γ vs ds d Q ho sn e k
  unfold min2D at e
  split at e
  · cases e
    obtain ⟨v, m, w, n, rfl, _, s1, s2⟩ := seens2 sn
    cases s1.int ho.ex
    cases s2.int ho.ex
    exact ⟨_, _, rfl, k _ S H (ho.sc fun _ => .int _)⟩
  · cases e
/-! ### sum of ints -/
def intsOf : List D → Option (List Int)
  | [] => some []
  | .int i :: r => (intsOf r).map (i :: ·)
  | _ :: _ => none
theorem intsOf_eq : ∀ {ds : List D} {ns : List Int}, intsOf ds = some ns → ds = ns.map D.int
  | [], _, h => by cases h; rfl
  | .int i :: r, ns, h => by
    unfold intsOf at h
    obtain ⟨ms, e1, e2⟩ := Option.map_eq_some_iff.mp h
    subst e2
    rw [List.map_cons, intsOf_eq e1]
  | .non :: _, _, h => by cases h
  | .bl _ :: _, _, h => by cases h
  | .str _ :: _, _, h => by cases h
  | .lst _ :: _, _, h => by cases h
  | .tup _ :: _, _, h => by cases h
  | .dK _ _ :: _, _, h => by cases h
  | .dT _ _ :: _, _, h => by cases h
  | .obj _ _ _ :: _, _, h => by cases h
  | .exn _ :: _, _, h => by cases h
  | .scr _ :: _, _, h => by cases h
  | .gh _ :: _, _, h => by cases h
def sumD : List D → Option D
  | [.lst ds] => (intsOf ds).map fun ns => D.int ns.sum
  | _ => none
theorem opn_sum : OpN (mdl X) (rSum X.K) qs fz sumD := by
  intro S H Γ vs ds d Q ho sn e k
  unfold sumD at e
  split at e
  · obtain ⟨ns, e1, e2⟩ := Option.map_eq_some_iff.mp e
    subst e2
    obtain ⟨v, m, rfl, _, s1⟩ := seens1 sn
    obtain ⟨a, xs, rfl, h1, r1⟩ := s1.lst ho.ex
    rw [intsOf_eq e1] at r1
    rw [r1.ints] at h1
    exact ⟨a, ns, rfl, SqL.of h1, k _ S H (ho.sc fun _ => .int _)⟩
  · cases e
/-! ### list(x), tuple(x) -/
/-! ### isinstance with a built-in class -/
inductive Ty where
  | non | bool | int | str | list | tuple | dict
  deriving DecidableEq
def Ty.name : Ty → String
  | .non => "NoneType"
  | .bool => "bool"
  | .int => "int"
  | .str => "str"
  | .list => "list"
  | .tuple => "tuple"
  | .dict => "dict"
def Ty.isa : Ty → Ty → Bool
  | .bool, .int => true
  | a, b => decide (a = b)
def D.ty : D → Option Ty
  | .non => some .non
  | .bl _ => some .bool
  | .int _ => some .int
  | .str _ => some .str
  | .lst _ => some .list
  | .tup _ => some .tuple
  | .dK _ _ => some .dict
  | .dT _ _ => some .dict
  | .scr _ => some .list
  | _ => none
theorem kit_all : ∀ a b : Ty, b ≠ .non → kitB a.name b.name = some (a.isa b) := by
  intro a b hb
  cases b <;> first
    | exact absurd rfl hb
    | (cases a <;> decide +kernel)
def isiD (t : Ty) (d : D) : Option D := d.ty.map fun a => .bl (a.isa t)
theorem Rep.tyX {M : Mdl} {H : Hp} {v : V} {d : D} {a : Ty} (r : Rep M H v d) (e : d.ty = some a) : TyX M.K H v (.type a.name) := by
  cases r with
  | non => cases e; exact .base .non
  | bl b => cases e; exact .base (.bl _)
  | int b => cases e; exact .base (.int _)
  | str b => cases e; exact .base (.str _)
  | lst h _ => cases e; exact .base (.lst h)
  | tup h _ =>
    cases e
    rcases h with (h | ⟨o, h⟩) | ⟨o, its, n, h1, h2, _⟩
    · exact .base (.tup h)
    · exact .fTuple h
    · exact .kTuple h1 h2
  | dK h _ _ => cases e; exact .base (.dK h)
  | dT h _ _ => cases e; exact .base (.dT h)
  | obj => cases e
  | exn => cases e
  | scr h =>
    cases e
    rcases h with (h | ⟨o, h⟩) | ⟨o, its, n, h1, h2, _⟩
    · exact .base (.lst h)
    · exact .base (.frz h)
    · exact .kList h1 h2
  | gh => cases e
variable {W : WX} {ms : List (Mode (mdl X))} {a b c e : Expr} {pos p : Pos}
theorem de_isi {T : Str} {p2 : Pos} {k1 : Kd (mdl X)} {ma : DEnv → R Opd} (t : Ty) (ht : t ≠ .non) (hm : X.mg "isinstance" = none) (hT : X.mg T = none) (hTv : bootBuiltins T = some (.type t.name)) (ha : DO X W ms a k1 ma) (hg : Gl X "isinstance" := by rfl) (hgT : Gl X T := by rfl) (hTn : T ≠ "__name__" := by decide) (hTd : (T == ("__debug__" : Str)) = false := by decide)
    (he : starEach [a, .Name T p2] X.env = (false, eval a X.env) :: starEach [.Name T p2] X.env := by rfl) (hs2 : starEach [.Name T p2] X.env = (false, eval (.Name T p2) X.env) :: starEach [] X.env := by rfl) (hpl : (backTo pos (starEach [.Name T p2] X.env)).any (·.1) = false := by rfl) :
    DE X W ms (.Call (.Name "isinstance" p) [a, .Name T p2] [] pos) fz (mOp1 ma (isiD t)) := by
  obtain ⟨ta, pa, ra⟩ := ha.rel
  refine ⟨_, pe_callB call_isi hg hm (by decide +kernel) (pa_cons pa (pa_cons (pe_bltn hgT hT hTv (v := .ty t.name) rfl hTn hTd) pa_nil hs2) he) (by decide) (by decide) he hpl, ?_⟩
  have op : Op1 (mdl X) (fun x H Q => rIsi X.K [x, .ty t.name] H Q) (k1.mode ms) fz (isiD t) := by
    intro S H Γ x d d' Q ho s1 e k
    obtain ⟨a, e1, e2⟩ := Option.map_eq_some_iff.mp (show d.ty.map (fun a => D.bl (a.isa t)) = some d' from e)
    subst e2
    exact ⟨x, _, _, _, _, rfl, .ty _, (s1.rep ho.ex).tyX e1, kit_ty (kit_all a t ht), k _ S H (ho.sc fun _ => .bl _)⟩
  exact relE1 ra op
/-! ### in, not in -/
def D.flat : D → Bool
  | .non => true
  | .bl _ => true
  | .int _ => true
  | .str _ => true
  | _ => false
def D.v : D → V
  | .bl b => .bl b
  | .int i => .int i
  | .str x => .str x
  | _ => .non
def inL (x : D) (xs : List D) : Option Bool := if x.flat = true ∧ xs.all D.flat = true then some (inV x.v (xs.map D.v)) else none
theorem Rep.flatV {M : Mdl} {S : Hp} {v : V} {d : D} (r : Rep M S v d) (f : d.flat = true) : v = d.v := by
  cases r <;> first | rfl | cases f
theorem RepL.flatV {M : Mdl} {S : Hp} : ∀ {vs : List V} {ds : List D}, RepL M S vs ds → ds.all D.flat = true → vs = ds.map D.v
  | _, _, .nil, _ => rfl
  | _, _, .cons r t, f => by
    rw [List.all_cons, Bool.and_eq_true] at f
    rw [List.map_cons, r.flatV f.1, t.flatV f.2]
theorem flatV_v {d : D} (f : d.flat = true) : L2.flatV d.v = true := by
  cases d <;> first | rfl | cases f
theorem flatV_all : ∀ {ds : List D}, ds.all D.flat = true → (ds.map D.v).all L2.flatV = true
  | [], _ => rfl
  | d :: ds, f => by
    rw [List.all_cons, Bool.and_eq_true] at f
    rw [List.map_cons, List.all_cons, flatV_v f.1, flatV_all f.2]
    rfl
def inD (neg : Bool) : D → D → Option D
  | x, .lst ds => (inL x ds).map fun k => .bl (if neg then !k else k)
  | x, .tup ds => (inL x ds).map fun k => .bl (if neg then !k else k)
  | .str x, .str z => if x.length = 1 then some (.bl (if neg then !decide (x.cps.getD 0 0 ∈ z.cps.toList) else decide (x.cps.getD 0 0 ∈ z.cps.toList))) else none
  | _, _ => none
def rSign (neg : Bool) : R2 := fun x y H Q => ∃ (c : Nat) (z : Str), x = .str ⟨#[c]⟩ ∧ y = .str z ∧ Q (.bl (if neg then !decide (c ∈ z.cps.toList) else decide (c ∈ z.cps.toList))) H
theorem opr_in : OpR X (compareOp .In) (fun x y H Q => rIn X.K false x y H Q ∨ rSign false x y H Q) := op_in_seq.or op_in_sign
theorem opr_notIn : OpR X (compareOp .NotIn) (fun x y H Q => rIn X.K true x y H Q ∨ rSign true x y H Q) := op_notIn_seq.or op_notIn_sign
theorem str_one {x : Str} (h : x.length = 1) : x = ⟨#[x.cps.getD 0 0]⟩ := by
  obtain ⟨⟨l⟩⟩ := x
  have h' : l.length = 1 := h
  match l, h' with
  | [c], _ => rfl
theorem op2_in (neg : Bool) : Op2 (mdl X) (fun x y H Q => rIn X.K neg x y H Q ∨ rSign neg x y H Q) m1 m2 fz (inD neg) := by
  intro S H Γ x y a b d Q ho s1 s2 e k
  unfold inD at e
  split at e
  · rename_i ds
    obtain ⟨t, e1, e2⟩ := Option.map_eq_some_iff.mp e
    subst e2
    unfold inL at e1
    split at e1
    · rename_i hf
      cases e1
      obtain ⟨p, vs, rfl, h1, r1⟩ := s2.lst ho.ex
      have ev := r1.flatV hf.2
      subst ev
      have ex := (s1.rep ho.ex).flatV hf.1
      subst ex
      exact .inl ⟨p, _, rfl, .inl (SqL.of h1), flatV_v hf.1, flatV_all hf.2, k _ S H (ho.sc fun _ => .bl _)⟩
    · cases e1
  · rename_i ds
    obtain ⟨t, e1, e2⟩ := Option.map_eq_some_iff.mp e
    subst e2
    unfold inL at e1
    split at e1
    · rename_i hf
      cases e1
      obtain ⟨p, vs, rfl, h1, r1⟩ := s2.tup ho.ex
      have ev := r1.flatV hf.2
      subst ev
      have ex := (s1.rep ho.ex).flatV hf.1
      subst ex
      exact .inl ⟨p, _, rfl, .inr h1, flatV_v hf.1, flatV_all hf.2, k _ S H (ho.sc fun _ => .bl _)⟩
    · cases e1
  · rename_i x' z
    split at e
    · rename_i hl
      cases e
      cases s1.str ho.ex
      cases s2.str ho.ex
      exact .inr ⟨_, z, by rw [← str_one hl], rfl, k _ S H (ho.sc fun _ => .bl _)⟩
    · cases e
  · cases e
/-! ### is, is not of truths -/
/-! ### slices -/
def PostB (W : WX) (ms : List (Mode (mdl X))) (σ : L2.St) (τ : List Pc) (Q : Option Int → Hp → Prop) : R (Option Int) → Prop
  | .ok o δ' => ∀ H', StO ms σ δ' H' τ → Q o H'
  | .exc c δ' => Wx (X := X) W ms τ σ c δ'
  | .stuck => False
structure DB (X : Cx) (W : WX) (ms : List (Mode (mdl X))) (e : Option Expr) (m : DEnv → R (Option Int)) : Prop where
  run : ∃ t, PO X e t ∧ ∀ σ δ H τ (Q : Option Int → Hp → Prop), StO ms σ δ H τ → PostB (X := X) W ms σ τ Q (m δ) → t σ H Q
def bNo : DEnv → R (Option Int) := fun δ => .ok none δ
def bAt (m : DEnv → R D) : DEnv → R (Option Int) := fun δ => (m δ).bind fun d δ' => match d with
  | .int i => .ok (some i) δ'
  | _ => .stuck
theorem db_no : DB X W ms none bNo := ⟨_, po_none, fun σ δ H τ Q st q => q H st⟩
theorem db_at {m : DEnv → R D} (h : DE X W ms e fz m) : DB X W ms (some e) (bAt m) := by
  obtain ⟨t, p, k⟩ := h.run
  refine ⟨_, po_some p, fun σ δ H τ Q st q => k σ δ H τ _ st ?_⟩
  unfold bAt at q
  cases z : m δ with
  | exc c δ' => rw [z] at q; exact q
  | stuck => rw [z] at q; exact q
  | ok d δ' =>
    rw [z, R.bind_ok] at q
    intro v H' st'
    split at q
    · cases st'.rd
      exact ⟨_, rfl, q H' st'.drop⟩
    · exact q.elim
def cut {α : Type} (xs : List α) (lo hi : Option Int) : List α := (xs.drop (HT.sIx xs.length 0 lo)).take (HT.sIx xs.length xs.length hi - HT.sIx xs.length 0 lo)
def sliceD (d : D) (lo hi : Option Int) : Option D := match d with
  | .lst ds => some (.lst (cut ds lo hi))
  | .str z => if z.length ≤ sizeLine then some (.str (cutS z lo hi)) else none
  | .scr ns => some (.lst ((cut ns lo hi).map D.int))
  | _ => none
def mSl (o : DEnv → R Opd) (lo hi : DEnv → R (Option Int)) : DEnv → R D := fun δ => (o δ).bind fun x δ1 => (lo δ1).bind fun l δ2 => (hi δ2).bind fun h δ3 => match x.get δ3, x.fin δ3 with
  | some d, some δ4 => .of (sliceD d l h) δ4
  | _, _ => .stuck
def rSlA (K : PySem.W.Frag) : V → Option Int → Option Int → Hp → VK → Prop := fun x lo hi H Q => rSlL K x lo hi H Q ∨ rSlS x lo hi H Q
theorem RepL.cut {M : Mdl} {S : Hp} {vs : List V} {ds : List D} (r : RepL M S vs ds) (lo hi : Option Int) : RepL M S (cutV vs lo hi) (DM.cut ds lo hi) := by
  unfold cutV DM.cut
  rw [r.length]
  exact (r.drop _).take _
theorem cut_map {α β : Type} (f : α → β) (xs : List α) (lo hi : Option Int) : DM.cut (xs.map f) lo hi = (DM.cut xs lo hi).map f := by
  unfold DM.cut
  rw [List.length_map, List.map_take, List.map_drop]
theorem de_slice {k1 : Kd (mdl X)} {ma : DEnv → R Opd} {lo hi : Option Expr} {ml mh : DEnv → R (Option Int)} {p2 : Pos} (ha : DO X W ms a k1 ma) (f1 : Flat (k1.mode ms)) (hl : DB X W ms lo ml) (hh : DB X W ms hi mh) : DE X W ms (.Subscript a (.Slice lo hi none p2) pos) (Lof fz) (mSl ma ml mh) := by
  obtain ⟨ta, pa, ka⟩ := ha.rel
  obtain ⟨tl, pl, kl⟩ := hl.run
  obtain ⟨th, ph, kh⟩ := hh.run
  refine ⟨_, pe_slice (r := rSlA X.K) (sl_list.or sl_str) pa pl ph, fun σ δ H τ Q st q => ka σ δ H τ _ st ?_⟩
  unfold mSl at q
  cases z : ma δ with
  | exc c δ' => rw [z] at q; exact q
  | stuck => rw [z] at q; exact q
  | ok x δ1 =>
    rw [z, R.bind_ok] at q
    intro v H1 Γa op st1
    refine kl σ δ1 H1 _ _ st1 ?_
    cases z2 : ml δ1 with
    | exc c δ' => rw [z2] at q; exact Wx.drop q
    | stuck => rw [z2] at q; exact q
    | ok l δ2 =>
      rw [z2, R.bind_ok] at q
      intro H2 st2
      refine kh σ δ2 H2 _ _ st2 ?_
      cases z3 : mh δ2 with
      | exc c δ' => rw [z3] at q; exact Wx.drop q
      | stuck => rw [z3] at q; exact q
      | ok h δ3 =>
        rw [z3, R.bind_ok] at q
        intro H3 st3
        split at q
        · rename_i d δ4 z4 z5
          cases zf : sliceD d l h with
          | none => rw [zf] at q; exact q.elim
          | some d' =>
            rw [zf] at q
            obtain ⟨S, Γ, sl, ho⟩ := id st3
            have sn := op.seen sl ho z4
            have fin : ∀ w S' H', Holds S' H' ((Lof fz).fam w d' :: ((Γa ++ τ) ++ Γ)) → Q w H' := fun w S' H' ho' => by
              have st5 : StO ms σ δ3 H' ((Lof fz).fam w d' :: (Γa ++ τ)) := ⟨S', Γ, sl, ho'⟩
              exact q w H' (op.fin (st5.perm List.perm_middle.symm) z5)
            unfold sliceD at zf
            split at zf
            · rename_i ds
              cases zf
              obtain ⟨p, vs, rfl, h1, r1⟩ := sn.lstF f1 ho.ex
              exact .inl ⟨p, vs, rfl, SqL.of h1, fun n hn => fin _ S _ (ho.newL hn (r1.cut l h))⟩
            · split at zf
              · rename_i s hs
                cases zf
                cases sn.str ho.ex
                exact .inr ⟨s, rfl, hs, fin _ S H3 (ho.notL (.str _) rfl)⟩
              · cases zf
            · rename_i ns
              cases zf
              obtain ⟨p, rfl, h1⟩ := sn.scr ho.ex
              refine .inl ⟨p, _, rfl, h1, fun n hn => fin _ S _ (ho.newL hn ?_)⟩
              show RepL _ S (DM.cut (ns.map V.int) l h) _
              rw [cut_map]
              exact RepL.ofInts _
            · cases zf
        · exact q.elim
end
end DM
set_option maxRecDepth 100000
/-! Data mirror, part 12: places within, methods that change a list, stores, raise. -/
namespace DM
open PySem PySem.Spec L2
section
variable {M : Mdl} {S H : Hp} {Γ : List Pc} {m : Mode M}
end
section
variable {X : Cx} {W : WX} {ms : List (Mode (mdl X))} {mr : Mode (mdl X)} {pn : List Nat} {pos : Pos}
variable {a b e : Expr}
def Opd.upd (o : Opd) (a' : D) (δ : DEnv) : Option DEnv := match o with
  | .v _ => some δ
  | .s i => match δ[i]? with
    | some (some _) => some (δ.set i (some a'))
    | _ => none
  | .p i _ g => match δ[i]? with
    | some none => some (δ.set i (some (g a')))
    | _ => none
theorem OpP.open {k : Kd (mdl X)} {σ : L2.St} {δ : DEnv} {H : Hp} {v : V} {o : Opd} {Γa τ : List Pc} {d : D} (op : OpP (mdl X) ms σ k v o Γa) (st : StO ms σ δ H (Γa ++ τ)) (e : o.get δ = some d) :
    ∃ S Γ', Holds S H ((k.mode ms).fam v d :: (τ ++ Γ')) ∧ ∀ S' H' d' δ' τ', Opd.upd o d' δ = some δ' → Holds S' H' ((k.mode ms).fam v d' :: (τ' ++ Γ')) → StO ms σ δ' H' τ' := by
  cases op with
  | @v m v d0 =>
    cases e
    obtain ⟨S, Γ, sl, ho⟩ := st
    refine ⟨S, Γ, ho, fun S' H' d' δ' τ' u h => ?_⟩
    cases u
    exact ⟨S', Γ, sl, h.drop⟩
  | @s i v ei =>
    have e' : (δ[i]?).join = some d := e
    have z : δ[i]? = some (some d) := by
      cases q : δ[i]? with
      | none => rw [q] at e'; cases e'
      | some o => rw [q] at e'; cases o <;> first | (cases e'; done) | (cases e'; rfl)
    obtain ⟨S, Γ, sl, ho⟩ := st
    obtain ⟨v', m, Γ2, f1, f2, f3, sl2⟩ := sl.take z
    rw [ei] at f1; cases f1
    have hm : (Kd.s i : Kd (mdl X)).mode ms = m := by
      show ms.getD i fz = m
      rw [List.getD_eq_getElem?_getD, f2]; rfl
    rw [hm]
    refine ⟨S, Γ2, ho.perm ((f3.append_left τ).trans List.perm_middle), fun S' H' d' δ' τ' u h => ?_⟩
    unfold Opd.upd at u
    dsimp only at u
    rw [z] at u
    cases u
    have hlt : i < δ.length := (List.getElem?_eq_some_iff.mp z).1
    obtain ⟨Γ3, pp, sl3⟩ := sl2.put d' f2 (List.getElem?_set_self hlt) ei
    rw [List.set_set] at sl3
    exact ⟨S', Γ3, sl3, h.perm ((List.perm_middle.symm).trans (pp.symm.append_left τ'))⟩
  | @p i m m0 v v0 d0 g e1 e2 =>
    have e0 : d0 = d := Option.some.inj e
    subst e0
    obtain ⟨S, Γ, sl, ho⟩ := st
    have ho1 : Holds S H (m.fam v d0 :: (Wnd (m.fam v) (fun d => m0.fam v0 (g d)) :: (τ ++ Γ))) := ho
    refine ⟨S, Wnd (m.fam v) (fun d => m0.fam v0 (g d)) :: Γ, ho1.perm ((List.perm_middle.symm).cons _), fun S' H' d' δ' τ' u h => ?_⟩
    unfold Opd.upd at u
    dsimp only at u
    split at u
    · rename_i zi
      cases u
      have h1 : Holds S' H' (m.fam v d' :: Wnd (m.fam v) (fun d => m0.fam v0 (g d)) :: (τ' ++ Γ)) := h.perm (List.perm_middle.cons _)
      have h2 : Holds S' H' (m0.fam v0 (g d') :: (τ' ++ Γ)) := Holds.wnd (A := m.fam v) (B := fun d => m0.fam v0 (g d)) h1 (m0.stb _ _)
      obtain ⟨Γ3, pp, sl3⟩ := sl.put (g d') e2 zi e1
      exact ⟨S', Γ3, sl3, h2.perm ((List.perm_middle.symm).trans (pp.symm.append_left τ'))⟩
    · cases u
def oIx (o : DEnv → R Opd) (m : DEnv → R D) : DEnv → R Opd := fun δ => (o δ).bind fun x δ1 => (m δ1).bind fun k δ2 => match x.get δ2, k with
  | some (.lst ds), .int z => match ixN ds.length z with
    | some j => match ds[j]? with
      | some d => match x with
        | .s i => .ok (.p i d fun d' => .lst (ds.set j d')) (δ2.set i none)
        | .p i _ g => .ok (.p i d fun d' => g (.lst (ds.set j d'))) δ2
        | .v _ => .stuck
      | none => .stuck
    | none => .stuck
  | _, _ => .stuck
/-! ### methods that change their object -/
def MutOp (M : Mdl) (r : V → List V → Hp → VK → Prop) (m : Mode M) (qs : List (Mode M)) (md : Mode M) (f : D → List D → Option (D × D)) : Prop :=
  ∀ (S H : Hp) (Γ : List Pc) (x : V) (vs : List V) (a d a' : D) (ds : List D) (Q : VK), vs.length = ds.length → qs.length = ds.length → Holds S H (m.fam x a :: (fams qs vs ds ++ Γ)) → f a ds = some (d, a') →
    (∀ v S' H', Holds S' H' (md.fam v d :: m.fam x a' :: Γ) → Q v H') → r x vs H Q
def mMut (o : DEnv → R Opd) (args : DEnv → R (List Opd)) (f : D → List D → Option (D × D)) : DEnv → R D := fun δ => (o δ).bind fun x δ1 => match x.get δ1 with
  | some (.lst _) => (args δ1).bind fun os δ2 => match x.get δ2, gets os δ2 with
    | some a, some ds => match f a ds with
      | some r => match x.upd r.2 δ2 with
        | some δ3 => .ok r.1 δ3
        | none => .stuck
      | none => .stuck
    | _, _ => .stuck
  | _ => .stuck
theorem OpPs.vals {M : Mdl} {ms : List (Mode M)} {σ : L2.St} {ks : List (Kd M)} {vs : List V} {os : List Opd} {Γa : List Pc} (h : OpPs M ms σ ks vs os Γa) : ∀ {δ : DEnv} {ds : List D}, (∀ k ∈ ks, ∃ m, k = .v m) → gets os δ = some ds → Γa = fams (ks.map (Kd.mode ms)) vs ds ∧ vs.length = ds.length ∧ (ks.map (Kd.mode ms)).length = ds.length := by
  induction h with
  | nil => intro δ ds _ e; cases e; exact ⟨rfl, rfl, rfl⟩
  | @cons k v o Γ1 Δ ks vs os h1 t ih =>
    intro δ ds hk e
    obtain ⟨m, rfl⟩ := hk k (List.mem_cons_self ..)
    cases h1 with
    | v =>
      unfold gets at e
      split at e
      · rename_i d ds' z1 z2
        cases z1
        cases e
        obtain ⟨a, b, c⟩ := ih (fun k hk' => hk k (List.mem_cons_of_mem _ hk')) z2
        subst a
        exact ⟨rfl, by simp [b], by simpa using c⟩
      · cases e
def Kd.isV {M : Mdl} : Kd M → Bool
  | .v _ => true
  | _ => false
theorem rel_mut {k1 : Kd (mdl X)} {ks : List (Kd (mdl X))} {md : Mode (mdl X)} {to : TE} {t : TA} {ma : DEnv → R Opd} {mb : DEnv → R (List Opd)} {r : V → List V → Hp → VK → Prop} {f : D → List D → Option (D × D)} (ka : RelO W ms k1 to ma) (kb : RelA W ms ks t mb) (hk : ∀ k ∈ ks, ∃ m, k = .v m) (op : MutOp (mdl X) r (k1.mode ms) (ks.map (Kd.mode ms)) md f) :
    ∀ σ δ H τ (Q : VK), StO ms σ δ H τ → PostE W ms md σ τ Q (mMut ma mb f δ) → to σ H fun x H1 => tyV X.K "list" x H1 ∧ t σ H1 fun xs H2 => r x xs H2 Q := by
  intro σ δ H τ Q st q
  refine ka σ δ H τ _ st ?_
  unfold mMut at q
  cases z : ma δ with
  | exc c δ' => rw [z] at q; exact q
  | stuck => rw [z] at q; exact q
  | ok x δ1 =>
    rw [z, R.bind_ok] at q
    intro v H1 Γa op1 st1
    split at q
    · rename_i ds0 zg
      have ty : tyV X.K "list" v H1 := by
        obtain ⟨S, Γ, sl, ho⟩ := id st1
        obtain ⟨a, vs, rfl, h1, _⟩ := (op1.seen sl ho zg).lst ho.ex
        exact .inl ⟨rfl, vs, SqL.of h1⟩
      refine ⟨ty, kb σ δ1 H1 _ _ st1 ?_⟩
      cases z2 : mb δ1 with
      | exc c δ' => rw [z2] at q; exact Wx.drop q
      | stuck => rw [z2] at q; exact q
      | ok os δ2 =>
        rw [z2, R.bind_ok] at q
        intro vs H2 Γb ops st2
        split at q
        · rename_i a ds y1 y2
          cases zf : f a ds with
          | none => rw [zf] at q; exact q.elim
          | some rr =>
            obtain ⟨d, a'⟩ := rr
            rw [zf] at q
            dsimp only at q
            cases zu : x.upd a' δ2 with
            | none => rw [zu] at q; exact q.elim
            | some δ3 =>
              rw [zu] at q
              obtain ⟨eΓ, l1, l2⟩ := ops.vals hk y2
              subst eΓ
              have st3 : StO ms σ δ2 H2 (Γa ++ (fams (ks.map (Kd.mode ms)) vs ds ++ τ)) := st2.perm (List.perm_append_comm_assoc _ _ _)
              obtain ⟨S, Γ', ho, close⟩ := op1.open st3 y1
              rw [List.append_assoc] at ho
              refine op S H2 (τ ++ Γ') v vs a d a' ds Q l1 l2 ho zf fun w S' H' ho' => q w H' ?_
              exact close S' H' a' δ3 (md.fam w d :: τ) zu (ho'.perm (.swap ..))
        · exact q.elim
    · exact q.elim
theorem Kd.allV {M : Mdl} {ks : List (Kd M)} (h : ks.all Kd.isV = true) : ∀ k ∈ ks, ∃ m, k = .v m := fun k hk => by
  have := List.all_eq_true.mp h k hk
  cases k with
  | v m => exact ⟨m, rfl⟩
  | s _ => cases this
  | p _ _ => cases this
variable {o : Expr} {es : List Expr} {name : Str} {apos cpos : Pos} {id : String}
theorem de_mut {k1 : Kd (mdl X)} {ks : List (Kd (mdl X))} {md : Mode (mdl X)} {ma : DEnv → R Opd} {mb : DEnv → R (List Opd)} {r : V → List V → Hp → VK → Prop} {f : D → List D → Option (D × D)} (slot : Slot "list" name id) (hty : typeOf (.builtin id) = pure (.type "method_descriptor")) (hm : MtR X id r) (ha : DO X W ms o k1 ma) (hb : DA X W ms (e :: es) ks mb) (op : MutOp (mdl X) r (k1.mode ms) (ks.map (Kd.mode ms)) md f) (hk : ks.all Kd.isV = true := by rfl)
    (hbase : attributeBase o name X.env (eval o X.env) = eval o X.env := by rfl)
    (hfew : ((backTo cpos (starEach (e :: es) X.env)).all (fun x => !x.1) && (backToKw cpos (keywordEach [] X.env)).all (fun x => x.1.isSome)
      && decide ((e :: es).length + ([] : List Keyword).length + (if ([] : List Keyword).isEmpty then 0 else 1) < 30)) = true := by rfl)
    (hline : (apos.endLine == cpos.line) = true := by rfl) (hs : starEach (e :: es) X.env = (false, eval e X.env) :: starEach es X.env := by rfl) (hplain : (backTo cpos (starEach es X.env)).any (·.1) = false := by rfl) :
    DE X W ms (.Call (.Attribute o name apos) (e :: es) [] cpos) md (mMut ma mb f) := by
  obtain ⟨to, po, ka⟩ := ha.rel
  obtain ⟨t, pa, kb⟩ := hb.run
  exact ⟨_, pe_bm PySem.F.plainAttrs_list slot hty hm po pa hbase hfew hline hs hplain, rel_mut ka kb (Kd.allV hk) op⟩
/-! ### append, extend, pop, insert, clear -/
def appendF (a : D) (ds : List D) : Option (D × D) := match a, ds with
  | .lst xs, [d] => if xs.length < sizeLine then some (.non, .lst (xs ++ [d])) else none
  | _, _ => none
theorem mut_append {me : Mode (mdl X)} : MutOp (mdl X) rAppend (Lof me) [me] fz appendF := by
  intro S H Γ x vs a d a' ds Q l1 l2 ho e k
  unfold appendF at e
  split at e
  · rename_i xs d0
    split at e
    · rename_i hlt
      cases e
      cases vs with
      | nil => simp at l1
      | cons v vs =>
        cases vs with
        | cons _ _ => simp at l1
        | nil =>
          obtain ⟨p, ws, rfl, _, _⟩ := ho.lstAt
          obtain ⟨us, e1, e2, e3⟩ := Holds.appendL (m := me) (d := d0) (v := v) ho
          exact ⟨p, us, v, rfl, rfl, e1, by rw [e2]; exact hlt, k _ S _ (e3.scM rfl .non)⟩
    · cases e
  · cases e
theorem Holds.chL {M : Mdl} {S H : Hp} {Γ : List Pc} {p : Addr} {ds es : List D} (h : Holds S H ((Lof (fz (M := M))).fam (.ref p) (.lst ds) :: Γ)) : ∃ vs, H p = some (.lst vs) ∧ RepL M S vs ds ∧ ∀ ws, RepL M S ws es → Holds S (upd H p (.lst ws)) ((Lof (fz (M := M))).fam (.ref p) (.lst es) :: Γ) := by
  obtain ⟨F, q⟩ := h.mem (List.mem_cons_self ..)
  obtain ⟨a, vs, G, e1, e2, e3, _⟩ := Lof.at q
  cases e1
  refine ⟨vs, e2, e3.toRep.1, fun ws r => h.change ((Lof fz).stb _ _) fun F' q' nS nH => ?_⟩
  obtain ⟨a', vs', G', f1, f2, f3, f4, f5⟩ := Lof.at q'
  cases f1
  refine ⟨F', .inr ⟨p, ws, es, fun _ => False, rfl, rfl, upd_same, Els.ofRep r fun _ z => z, fun z => z, fun x => ?_⟩, fun x y => .inl y, fun x y => ?_, fun x y z => ?_⟩
  · rw [f5 x]
    exact ⟨fun y => y.elim .inl fun z => (f3.toRep.2 x z).elim, fun y => y.elim .inl False.elim⟩
  · by_cases z : x = p
    · rw [z, upd_same]; simp
    · rw [upd_ne z]; exact nH x y
  · exact upd_ne fun w => y ((f5 x).mpr (.inl w))
/-! ### o[i] = v -/
def StoreOp (M : Mdl) (r : V → V → V → Hp → (Hp → Prop) → Prop) (m mi mv : Mode M) (f : D → D → D → Option D) : Prop :=
  ∀ (S H : Hp) (Γ : List Pc) (x i v : V) (a ai av a' : D) (Q : Hp → Prop), Holds S H (m.fam x a :: mi.fam i ai :: mv.fam v av :: Γ) → f a ai av = some a' → (∀ S' H', Holds S' H' (m.fam x a' :: Γ) → Q H') → r x i v H Q
def mStore (v : DEnv → R D) (o : DEnv → R Opd) (i : DEnv → R D) (f : D → D → D → Option D) : DEnv → SR := fun δ => (v δ).thn fun dv δ1 => (o δ1).thn fun x δ2 => (i δ2).thn fun di δ3 => match x.get δ3 with
  | some a => match f a di dv with
    | some a' => match x.upd a' δ3 with
      | some δ4 => .nx δ4
      | none => .stuck
    | none => .stuck
  | none => .stuck
theorem rel_store {k1 : Kd (mdl X)} {mi mv : Mode (mdl X)} {tv to ti : TE} {mV : DEnv → R D} {mO : DEnv → R Opd} {mI : DEnv → R D} {r : V → V → V → Hp → (Hp → Prop) → Prop} {f : D → D → D → Option D} (kv : RelE (X := X) W ms mv tv mV) (ko : RelO W ms k1 to mO) (ki : RelE (X := X) W ms mi ti mI) (op : StoreOp (mdl X) r (k1.mode ms) mi mv f) :
    RelS (X := X) W ms mr pn (tAsg tv (gSub to ti r)) (mStore mV mO mI f) := by
  intro σ δ H τ D st q
  refine kv σ δ H τ _ st ?_
  unfold mStore at q
  cases z : mV δ with
  | exc c δ' => rw [z] at q; exact q σ (Keep.refl _ _)
  | stuck => rw [z] at q; exact q
  | ok dv δ1 =>
    rw [z, R.thn_ok] at q
    intro v H1 st1
    refine ko σ δ1 H1 _ _ st1 ?_
    cases z2 : mO δ1 with
    | exc c δ' => rw [z2] at q; exact Wx.drop (Δ := [_]) (q σ (Keep.refl _ _))
    | stuck => rw [z2] at q; exact q
    | ok x δ2 =>
      rw [z2, R.thn_ok] at q
      intro xo H2 Γa op1 st2
      refine ki σ δ2 H2 _ _ st2 ?_
      cases z3 : mI δ2 with
      | exc c δ' => rw [z3] at q; exact Wx.drop (Δ := Γa) (Wx.drop (Δ := [_]) (q σ (Keep.refl _ _)))
      | stuck => rw [z3] at q; exact q
      | ok di δ3 =>
        rw [z3, R.thn_ok] at q
        intro i H3 st3
        split at q
        · rename_i a za
          cases zf : f a di dv with
          | none => rw [zf] at q; exact q.elim
          | some a' =>
            rw [zf] at q
            dsimp only at q
            cases zu : x.upd a' δ3 with
            | none => rw [zu] at q; exact q.elim
            | some δ4 =>
              rw [zu] at q
              have st4 : StO ms σ δ3 H3 (Γa ++ (mi.fam i di :: mv.fam v dv :: τ)) := st3.perm List.perm_middle.symm
              obtain ⟨S, Γ', ho, close⟩ := op1.open st4 za
              refine op S H3 (τ ++ Γ') xo i v a di dv a' _ ho zf fun S' H' ho' => q σ H' (Keep.refl _ _) (close S' H' a' δ4 τ zu ho')
        · exact q.elim
def setF (a i v : D) : Option D := match a, i with
  | .lst xs, .int k => match ixN xs.length k with
    | some j => some (.lst (xs.set j v))
    | none => none
  | _, _ => none
theorem store_list : StoreOp (mdl X) rSetL (Lof fz) fz fz setF := by
  intro S H Γ x i v a ai av a' Q ho e k
  unfold setF at e
  split at e
  · rename_i xs kk
    split at e
    · rename_i j zj
      cases e
      obtain ⟨p, us0, rfl, _, _⟩ := ho.lstAt
      have sn : Seen S H fz i (.int kk) := ho.mem (List.mem_cons_of_mem _ (List.mem_cons_self ..))
      cases sn.int ho.ex
      obtain ⟨F, r2, _⟩ := (ho.mem (List.mem_cons_of_mem _ (List.mem_cons_of_mem _ (List.mem_cons_self ..))) : Seen S H fz v av)
      obtain ⟨us, e1, r1, ch⟩ := Holds.chL (es := xs.set j av) ho
      have h2 : Holds S (upd H p (.lst (us.set j v))) ((Lof fz).fam (.ref p) (.lst (xs.set j av)) :: fz.fam (.int kk) (.int kk) :: fz.fam v av :: Γ) := ch _ (r1.set r2 j)
      exact ⟨p, us, kk, j, rfl, rfl, e1, by rw [r1.length]; exact zj, k S _ (((h2.perm ((List.Perm.swap ..).trans ((List.Perm.swap ..).cons _))).drop).drop)⟩
    · cases e
  · cases e
theorem ds_store {o i value : Expr} {pos' : Pos} {k1 : Kd (mdl X)} {mV : DEnv → R D} {mO : DEnv → R Opd} {mI : DEnv → R D} (hv : DE X W ms value fz mV) (ho : DO X W ms o k1 mO) (hi : DE X W ms i fz mI) (hk : k1.mode ms = Lof fz := by rfl)
    (ha : ∀ v, assign (.Subscript o i pos') X.env v = (do
      let ov ← holding [v] (eval o X.env)
      let iv ← holding [v, ov] (eval i X.env)
      standAt pos'
      holding [v, ov, iv] (setItem ov iv v)
      release [v, ov, iv] []) := by intro _; rfl)
    (hs : swapsWithSole [.Subscript o i pos'] value pos.line X.env = pure false := by rfl) (hw : swappedStores [.Subscript o i pos'] value X.env = pure none := by rfl)
    (h1 : (assignEach [.Subscript o i pos'] X.env).map (·.2) = [assign (.Subscript o i pos') X.env] := by rfl) : DS X W ms mr pn (.Assign [.Subscript o i pos'] value pos) (mStore mV mO mI setF) := by
  obtain ⟨tv, pv, kv⟩ := hv.run
  obtain ⟨to, po, ko⟩ := ho.rel
  obtain ⟨ti, pi, ki⟩ := hi.run
  refine ⟨_, ps_asg pv (pg_sub po pi set_list ha) hs hw h1, rel_store kv ko ki ?_⟩
  rw [hk]
  exact store_list
/-! ### raise C('..') -/
def mRaise (c : Str) : DEnv → SR := fun δ => .exc c δ
theorem ds_raise {x m : Str} {j : Nat} {C : Addr} {bmB : List Value} {B newId initId : String} {p p2 p3 : Pos} (hc : X.calm = true) (tk : Takes X W) (F : ExcBaseFacts B newId initId bmB) (q : PySem.W.excIn X.K C bmB newId = true) (gC : X.mg x = some (.ref C)) (kC : PySem.W.keepIn X.K (.ref C) = true) (r : Raises X (.ref C)) (hg : Gl X x := by rfl)
    (hdb : (x == ("__debug__" : Str)) = false := by decide) : DS X W ms mr pn (.Raise (some (.Call (.Name x p) [.Constant (.str m) j p2] [] p3)) none pos) (mRaise x) :=
  ⟨_, ps_raise hc tk (pmk_own F q gC kC r hg hdb), fun σ δ H τ D st qq => qq σ (Keep.refl _ _) H C st gC⟩
end
end DM
set_option maxRecDepth 100000
/-! Data mirror, part 13: an alias of a place within a list of one's own (the law's deck and pool). -/
namespace DM
open PySem PySem.Spec L2
section
variable {M : Mdl} {S H : Hp} {Γ : List Pc} {m : Mode M}
end
section
variable {X : Cx} {W : WX} {ms : List (Mode (mdl X))} {mr : Mode (mdl X)}
def rLen1 (K : PySem.W.Frag) : List V → Hp → VK → Prop := fun xs H Q => ∃ x n, xs = [x] ∧ LenV K x H n ∧ Q (.int n) H
end
end DM
set_option maxRecDepth 100000
/-! Data mirror, part 14: a method of an item of a list of one's own whose arguments read that list. -/
namespace DM
open PySem PySem.Spec L2
section
variable {M : Mdl}
end
section
variable {X : Cx} {W : WX} {ms : List (Mode (mdl X))} {mr : Mode (mdl X)} {pn : List Nat}
variable {a b : Expr} {e : Expr} {es : List Expr} {name : Str} {apos cpos spos : Pos} {idn : String}
end
end DM
set_option maxRecDepth 100000
/-! Data mirror, part 15: the law's own promise. -/
namespace DM
open PySem PySem.Spec L2
def spLaw (K : PySem.W.Frag) : Sp := fun vs H Q _ => ∃ (a : Addr) (ns : List Int), vs = [V.ref a] ∧ SqL K H a (List.map V.int ns) ∧ ns.length ≤ 63 ∧ ∀ H', Q (.bl true) H'
theorem spLaw_spD {M : Mdl} {fn : Fn} (h : ∀ ns : List Int, ns.length ≤ 63 → fn [.scr ns] = .ok (.bl true) []) {vs : List V} {H : Hp} {Q : VK} {E : XK} (q : spLaw M.K vs H Q E) : spD (M := M) ⟨[fz], [false], fz⟩ fn vs H Q E := by
  obtain ⟨a, ns, rfl, hs, hl, k⟩ := q
  refine ⟨H, [.scr ns], [], rfl, rfl, ?_, ?_⟩
  · have h0 : Holds H H [] := ⟨Ex.refl H, fun _ => False, .nil fun _ z => z, fun _ z => z.elim, fun _ z => z.elim⟩
    exact h0.addFz (.scr hs)
  · rw [h ns hl]
    intro v S' H' ho
    have r := ho.rd
    cases r
    exact k H'
theorem FnOkG.law {P : Program} {w : World} {K : PySem.W.Frag} {mg : Str → Option Value} {base : Heap} {k : Nat} {f : Addr} {fd : FuncData} {ps : List Str} {fn : Fn} (F : FnOkG P w K mg base (L2.CX P w) k f fd ps (spD (M := ⟨K, mg⟩) ⟨[fz], [false], fz⟩ fn)) (h : ∀ ns : List Int, ns.length ≤ 63 → fn [.scr ns] = .ok (.bl true) []) :
    FnOkG P w K mg base (L2.CX P w) k f fd ps (spLaw K) := ⟨fun vs H Q E q => F.len vs H Q E (spLaw_spD (M := ⟨K, mg⟩) h q), fun A outer s H args us vs Q E hr e0 hb r q => F.run A outer s H args us vs Q E hr e0 hb r (spLaw_spD (M := ⟨K, mg⟩) h q)⟩
theorem noX {P : Program} {w : World} (H : Hp) (s : Shared) (e : Value) (s' : Shared) (h : L2.CX P w [] H s (fun _ _ _ => False) e s') : False := by
  obtain ⟨_, _, _, _, _, _, _, _, _, _, _, _, z⟩ := h
  exact z
end DM
set_option maxRecDepth 100000
/-! Data mirror, part 22: operations that use their operands up: an item moved out, lists of one's own put together, tuples of one's own. -/
namespace DM
open PySem PySem.Spec L2
section
variable {M : Mdl} {S H : Hp} {Γ : List Pc} {P Q : Pc}
/-! ### tuples of one's own -/
def D.isTup : D → Bool
  | .tup _ => true
  | _ => false
def Pof (ms : List (Mode M)) : Mode M where
  fam := fun v d S H F => (d.isTup = false ∧ Rep M S v d ∧ ∀ a, ¬ F a) ∨ ∃ p vs ds G, v = .ref p ∧ d = .tup ds ∧ H p = some (.tup vs) ∧ ElsF (fun m => Mode.fam m) S H ms vs ds G ∧ ¬ G p ∧ ∀ a, F a ↔ a = p ∨ G a
  stb := by
    rintro v d S S' H H' F (⟨a, b, c⟩ | ⟨p, vs, ds, G, a, b, c, e, f, g⟩) x y
    · exact .inl ⟨a, b.mono x, c⟩
    · exact .inr ⟨p, vs, ds, G, a, b, (y p ((g p).mpr (.inl rfl))).trans c, e.stay (fun m => m.stb) x fun a q => y a ((g a).mpr (.inr q)), f, g⟩
  rd := by
    rintro v d S H F (⟨a, b, c⟩ | ⟨p, vs, ds, G, rfl, rfl, c, e, f, g⟩) x
    · exact b.mono x
    · exact .tup (.inl (.inl c)) (e.rd fun m _ _ _ q => m.rd q x)
  sh := by
    rintro v d S H F (⟨a, b, c⟩ | ⟨p, vs, ds, G, rfl, rfl, c, e, f, g⟩) x n s
    · exact ⟨S, Ex.refl _, x, fun _ q => .inl q, b⟩
    · obtain ⟨S', a1, a2, a3, a4, S1, a5, a6⟩ := share_one c f g n (ElsF.sh (m := fun m => m) e x (fun a q => n a ((g a).mpr (.inr q))) (fun a q => s a ((g a).mpr (.inr q))))
      exact ⟨S', a1, a2, a3, .tup (.inl (.inl a4)) (a6.mono a5)⟩
  sc := fun {v d S H F} h r n => .inl ⟨(by cases d <;> first | rfl | cases h), r, n⟩
theorem Pof.at {ms : List (Mode M)} {p : V} {ds : List D} {F : Foot} (h : (Pof ms).fam p (.tup ds) S H F) : ∃ a vs G, p = .ref a ∧ H a = some (.tup vs) ∧ ElsF (fun m => Mode.fam m) S H ms vs ds G ∧ ¬ G a ∧ ∀ x, F x ↔ x = a ∨ G x := by
  rcases h with ⟨z, _, _⟩ | ⟨a, vs, ds', G, e1, e2, c, e, f, g⟩
  · cases z
  · cases e2; exact ⟨a, vs, G, e1, c, e, f, g⟩
theorem Sep.elsF {ms0 : List (Mode M)} {σ : L2.St} : ∀ {qs : List (Mode M)} {vs : List V} {os : List Opd} {Γa : List Pc} {U : Foot} {δ : DEnv} {ds : List D}, OpPs M ms0 σ (qs.map Kd.v) vs os Γa → gets os δ = some ds → Sep S H (Γa ++ Γ) U →
    ∃ F G, ElsF (fun m => Mode.fam m) S H qs vs ds F ∧ Sep S H Γ G ∧ (∀ a, F a → ¬ G a) ∧ (∀ a, U a ↔ F a ∨ G a) ∧ fins os δ = some δ
  | [], _, _, _, U, δ, ds, .nil, e, h => by
    cases e
    exact ⟨fun _ => False, U, .nil fun _ q => q, h, fun _ q => q.elim, fun _ => ⟨.inr, fun x => x.elim False.elim id⟩, rfl⟩
  | q :: qs, _, _, _, U, δ, ds, .cons (Δ := Δ) h1 t, e, h => by
    cases h1 with
    | v =>
      cases h with
      | @cons _ _ F0 G0 _ sb p tt dj u =>
        unfold gets at e
        split at e
        · rename_i d' ds' z1 z2
          cases z1
          cases e
          obtain ⟨F, G, a1, a2, a3, a4, a5⟩ := Sep.elsF t z2 tt
          refine ⟨fun a => F0 a ∨ F a, G, .cons p a1 (fun a x y => dj a x ((a4 a).mpr (.inl y))) fun _ => Iff.rfl, a2, fun a x y => ?_, fun a => ?_, a5⟩
          · rcases x with x | x
            · exact dj a x ((a4 a).mpr (.inr y))
            · exact a3 a x y
          · rw [u a, a4 a, or_assoc]
        · cases e
end
section
variable {X : Cx} {W : WX} {ms : List (Mode (mdl X))}
variable {a b : Expr} {pos : Pos}
theorem de_tupO {es : List Expr} {x1 : Nat} {qs : List (Mode (mdl X))} {m : DEnv → R (List Opd)} (h : DA X W ms es (qs.map Kd.v) m) : DE X W ms (.Tuple es x1 pos) (Pof qs) (mTup m) := by
  obtain ⟨t, pa, ra⟩ := h.run
  refine ⟨_, pe_tup pa, fun σ δ H τ Q st q => ra σ δ H τ (fun xs H1 => xs.length ≤ sizeLine ∧ ∀ p, H1 p = none → Q (.ref p) (upd H1 p (.tup xs))) st ?_⟩
  unfold mTup mOpN at q
  cases z : m δ with
  | exc c δ' => rw [z] at q; exact q
  | stuck => rw [z] at q; exact q
  | ok os δ1 =>
    rw [z, R.bind_ok] at q
    intro vs H1 Γa ops st1
    split at q
    · rename_i ds δ2 z1 z2
      obtain ⟨S, Γ, sl, ho⟩ := id st1
      obtain ⟨U, sp, b, c⟩ := ho.own
      rw [List.append_assoc] at sp
      obtain ⟨F, G, a1, a2, a3, a4, a5⟩ := Sep.elsF ops z1 sp
      rw [a5] at z2
      cases z2
      dsimp only at q
      split at q
      · rename_i hl
        refine ⟨by rw [a1.length.1]; exact hl, fun p hp => q (.ref p) _ ⟨S, Γ, sl, ?_⟩⟩
        have nU : ∀ x, U x → x ≠ p := fun x y z => c x y (z ▸ hp)
        have keep : ∀ x, U x → upd H1 p (.tup vs) x = H1 x := fun x y => upd_ne (nU x y)
        have hS : S p = none := ho.ex.free hp
        refine ⟨fun x o e => ?_, fun x => (x = p ∨ F x) ∨ G x, .cons ((Pof qs).stb _ _) (F := fun x => x = p ∨ F x) (.inr ⟨p, vs, ds, F, rfl, rfl, upd_same, a1.stay (fun m => m.stb) (Ex.refl S) fun x y => keep x ((a4 x).mpr (.inl y)), fun y => nU p ((a4 p).mpr (.inl y)) rfl, fun _ => Iff.rfl⟩) (a2.stay (Ex.refl S) fun x y => keep x ((a4 x).mpr (.inr y))) (fun x y z => ?_) fun _ => Iff.rfl, fun x y => ?_, fun x y => ?_⟩
        · rw [upd_ne (fun y => by subst y; rw [hS] at e; cases e)]
          exact ho.ex x o e
        · rcases y with y | y
          · exact nU x ((a4 x).mpr (.inr z)) y
          · exact a3 x y z
        · rcases y with (y | y) | y
          · rw [y]; exact hS
          · exact b x ((a4 x).mpr (.inl y))
          · exact b x ((a4 x).mpr (.inr y))
        · rcases y with (y | y) | y
          · rw [y, upd_same]; simp
          · rw [keep x ((a4 x).mpr (.inl y))]; exact c x ((a4 x).mpr (.inl y))
          · rw [keep x ((a4 x).mpr (.inr y))]; exact c x ((a4 x).mpr (.inr y))
      · exact q.elim
    · exact q.elim
end
end DM
set_option maxRecDepth 100000
/-! Data mirror, part 24: objects of the program's own classes: attributes read, attributes as places, attributes stored, methods, making. -/
namespace DM
open PySem PySem.Spec L2
def pos (f : Str) : List Str → Option Nat
  | [] => none
  | n :: ns => if n = f then some 0 else (pos f ns).map (· + 1)
section
variable {M : Mdl} {S H : Hp} {Γ : List Pc} {mo : Str → Mode M}
end
structure ClsC (K : PySem.W.Frag) (mg : Str → Option Value) (x : Str) (C : Addr) : Prop where
  g : mg x = some (.ref C)
  cl : Cls K C
section
variable {X : Cx} {W : WX} {ms : List (Mode (mdl X))} {mr : Mode (mdl X)} {pn : List Nat} {e : Expr} {apos cpos : Pos} {cn f : Str} {C : Addr} {mo : Str → Mode (mdl X)}
/-! ### reading -/
/-! ### storing -/
/-! ### methods -/
end
end DM
set_option maxRecDepth 100000
/-! Data mirror, part 25: objects made; dicts read, stored into, made. -/
namespace DM
open PySem PySem.Spec L2
section
variable {X : Cx} {W : WX} {ms : List (Mode (mdl X))} {C : Addr} {cn : Str} {mo : Str → Mode (mdl X)} {pos : Pos}
/-! ### C(..) -/
end
/-! ### keys -/
section
variable {κ : Type} [DecidableEq κ]
end
section
variable {X : Cx} {W : WX} {ms : List (Mode (mdl X))} {mr : Mode (mdl X)} {pn : List Nat} {i o value : Expr} {pos pos' : Pos} {m1 m2 : Mode (mdl X)}
end
end DM
set_option maxRecDepth 100000
/-! Data mirror, part 26: dicts: an item read, an item stored, made, walked by keys. -/
namespace DM
open PySem PySem.Spec L2
section
variable {M : Mdl} {S H : Hp} {Γ : List Pc}
theorem ElsF.ofRep {κ : Type} : ∀ {ks : List κ} {vs : List V} {ds : List D} {F : Foot}, ks.length = vs.length → RepL M S vs ds → (∀ a, ¬ F a) → ElsF (fun _ => (fz (M := M)).fam) S H ks vs ds F
  | [], _, _, F, _, .nil, n => .nil n
  | k :: ks, _, _, F, h, .cons r t, n => .cons (F := fun _ => False) (G := fun _ => False) ⟨r, fun _ q => q⟩ (ElsF.ofRep (by simpa using h) t fun _ q => q) (fun _ q => q.elim) fun a => ⟨fun q => (n a q).elim, fun q => q.elim False.elim False.elim⟩
inductive FlatK : Mode M → Prop
  | fz : FlatK fz
  | k : FlatK (Kof fun _ => DM.fz)
  | t : FlatK (Tof DM.fz)
theorem Holds.newK {p : Addr} {kvs : List (Key × V)} {ds : List D} (h : Holds S H Γ) (hp : H p = none) (nd : (kvs.map (·.1)).Nodup) (r : RepL M S (kvs.map (·.2)) ds) : Holds S (upd H p (.dK kvs)) ((Kof fun _ => (fz (M := M))).fam (.ref p) (.dK (kvs.map (·.1)) ds) :: Γ) :=
  h.newO hp ((Kof fun _ => fz).stb _ _) fun F hF => .inr ⟨p, kvs, _, ds, fun _ => False, rfl, rfl, upd_same, ⟨rfl, nd⟩, ElsF.ofRep (by simp) r fun _ z => z, fun z => z, fun x => by
    rw [hF x]
    exact ⟨.inl, fun w => w.elim id False.elim⟩⟩
end
section
variable {X : Cx} {W : WX} {ms : List (Mode (mdl X))} {mr : Mode (mdl X)} {pn : List Nat} {i o value : Expr} {pos pos' : Pos} {m1 m2 : Mode (mdl X)}
/-! ### d[k] -/
/-! ### d[k] = v -/
/-! ### {}, {k: v} -/
def mDK0 : DEnv → R D := fun δ => .ok (.dK [] []) δ
theorem de_dK0 : DE X W ms (.Dict [] [] pos) (Kof fun _ => fz) mDK0 := ⟨_, pe_dnewK, fun σ δ H τ Q st q p hp => by
  obtain ⟨S, Γ, sl, ho⟩ := st
  exact q (.ref p) _ ⟨S, Γ, sl, Holds.newK (kvs := []) (ds := []) ho hp List.nodup_nil .nil⟩⟩
/-! ### for x in d, d a dict of one's own in a slot -/
end
end DM
set_option maxRecDepth 100000
/-! Data mirror, part 27: attributes as targets; list(range), list of a dict, min and max of a list. -/
namespace DM
open PySem PySem.Spec L2
section
variable {X : Cx} {W : WX} {ms : List (Mode (mdl X))} {pn : List Nat} {cn f : Str} {C : Addr} {mo : Str → Mode (mdl X)} {pos p : Pos} {qs : List (Mode (mdl X))}
structure DH (X : Cx) (ms : List (Mode (mdl X))) (pn : List Nat) (tg : Expr) (f : Tg) : Prop where
  run : ∃ g, PG X tg g ∧ ∀ v d σ δ δ' H τ (Q : L2.St → Hp → Prop), StO ms σ δ H ((fz (M := mdl X)).fam v d :: τ) → f d δ = some δ' → (∀ σ' H', Keep pn σ σ' → StO ms σ' δ' H' τ → Q σ' H') → g v σ H Q
structure DHs (X : Cx) (ms : List (Mode (mdl X))) (pn : List Nat) (tgs : List Expr) (f : List D → DEnv → Option DEnv) : Prop where
  run : ∃ g, PGs X tgs g ∧ ∀ vs ds σ δ δ' H τ (Q : L2.St → Hp → Prop), vs.length = ds.length → StO ms σ δ H (fams (ds.map fun _ => (fz (M := mdl X))) vs ds ++ τ) → f ds δ = some δ' → (∀ σ' H', Keep pn σ σ' → StO ms σ' δ' H' τ → Q σ' H') → g vs σ H Q
/-! ### list(range(..)), list(d), min(xs), max(xs) -/
end
end DM
namespace DM
open PySem PySem.Spec L2
structure TupC (K : PySem.W.Frag) (mg : Str → Option Value) (x : Str) (ss : List Str) (a : Addr) : Prop where
  g : mg x = some (.ref a)
  s : ∀ S : Hp, SqT K S a (ss.map V.str)
end DM
set_option maxRecDepth 100000
/-! Data mirror, part 28: level 0; modes that are equal. -/
namespace DM
open PySem PySem.Spec L2
theorem fn0 {P : Program} {w : World} {K : PySem.W.Frag} {mg : Str → Option Value} {base : Heap} {f : Addr} {fd : FuncData} {ps : List Str} (sg : Sig ⟨K, mg⟩) : FnOkG P w K mg base (L2.CX P w) 0 f fd ps (spD sg fun _ => .stuck) := by
  have no : ∀ vs H Q E, ¬ spD sg (fun _ => .stuck) vs H Q E := fun vs H Q E h => by
    obtain ⟨S, ds, τ, _, _, _, q⟩ := h
    exact q
  exact ⟨fun vs H Q E h => absurd h (no vs H Q E), fun A outer s H args us vs Q E _ _ _ _ h => absurd h (no vs H Q E)⟩
end DM
set_option maxRecDepth 100000
/-! Data mirror, part 34: try .. except X as e: caught = e. -/
namespace DM
open PySem PySem.Spec PyProof.Rows L2
theorem excAt_ok {P : Program} {w : World} {H : Hp} {h : Heap} {a C : Addr} {o : Obj} {vs : Array Value} (e : h.get? a = some o) (z : o.cls = .ref C) (z2 : o.dict = none) (d : o.data = .fields vs) : ObjOk P w H h a (.ext (ExcAt a C)) :=
  ⟨⟨o, vs, e, z, z2, d⟩, ⟨o, e⟩, fun _ _ ⟨o, v, q, r⟩ k => ⟨o, v, k o q, r⟩⟩
section
variable {X : Cx} {pins : List (Addr × Obj)} {σ : L2.St} {H : Hp} {s : Shared}
theorem track {a : Addr} {oe : Obj} {vs : Array Value} {φ : Heap → Prop} (J : Inv X pins σ H s) (ha : s.heap.get? a = some oe) (hd : oe.data = .fields vs) (na : H a = none) (nL : a ≠ X.env.locals) (n0 : X.s_0.heap.get? a = none) (hpin : ∀ p ∈ X.pn ++ pins, p.1 ≠ a)
    (hφ : ObjOk X.prog X.w (upd H a (.ext φ)) s.heap a (.ext φ)) : Inv X pins σ (upd H a (.ext φ)) s := by
  refine ⟨J.ok, J.os, J.bare, ⟨J.base.keep, J.base.slot, fun b o e n hb => ?_, J.base.there, fun b xs e => ?_, fun b o u e => ?_, fun b ps e => ?_⟩, J.loc, J.cell, ?_, fun x c e => ?_, fun p hp => ?_, fun b u e => ?_, J.len⟩
  · rw [upd_ne (fun z => by rw [z, n0] at e; cases e)]
    exact J.base.free b o e n hb
  · have q := J.base.tups b xs e
    rw [upd_ne (fun z => by rw [z, na] at q; cases q)]
    exact q
  · have q := J.base.frzs b o u e
    rw [upd_ne (fun z => by rw [z, na] at q; cases q)]
    exact q
  · obtain ⟨m, q⟩ := J.base.tbls b ps e
    exact ⟨m, by rw [upd_ne (fun z => by rw [z, na] at q; cases q)]; exact q⟩
  · rw [upd_ne (Ne.symm nL)]
    exact J.free
  · obtain ⟨v, o', h1, h2⟩ := J.cell x c e
    rw [upd_ne (fun z => by rw [z, ha] at h1; cases h1; rw [hd] at h2; cases h2)]
    exact J.freeC x c e
  · obtain ⟨e, n, r⟩ := J.pin p hp
    exact ⟨e, by rw [upd_ne (hpin p hp)]; exact n, r⟩
  · by_cases hb : b = a
    · subst hb
      rw [upd_same] at e
      cases e
      exact hφ
    · rw [upd_ne hb] at e
      exact (J.hok b u e).stay (fun c v _ q => q) (fun c q => by rw [upd_ne (ne_of_none q na)]; exact q) fun c xs q => by rw [upd_ne (ne_of_none q na)]; exact q
end
section
variable {X : Cx} {x n m : Str} {c : Value} {i j : Nat} {body : List Stmt} {np pos pos' p1 p2 p3 : Pos} {tb : WX → TS} {Wout : WX}
end
/-! ### by mirrors -/
section
variable {X : Cx} {W : WX} {ms : List (Mode (mdl X))} {mr : Mode (mdl X)} {pn : List Nat} {x n m : Str} {c : Value} {i j : Nat} {body : List Stmt} {np pos pos' p1 p2 p3 : Pos} {mb : DEnv → SR}
theorem exn_slot {a C : Addr} {cn : Str} {S H : Hp} {Γ : List Pc} (ho : Holds S H Γ) (na : H a = none) (g : X.mg cn = some (.ref C)) : Holds (upd S a (.ext (ExcAt a C))) (upd H a (.ext (ExcAt a C))) ((fz (M := mdl X)).fam (.ref a) (.exn cn) :: Γ) :=
  (ho.newS na).addFz (.exn upd_same g)
end
end DM
set_option maxRecDepth 100000
/-! Data mirror, part 35: isinstance of a kept exception (or None). -/
namespace DM
open PySem PySem.Spec PyProof.Rows L2
def rIsX (K : PySem.W.Frag) : List V → Hp → VK → Prop := fun xs H Q => ∃ (x c : V) (cv : Value) (b : Bool), xs = [x, c] ∧ (∀ u, RelV c u → u = cv) ∧
  ((x = .non ∧ PySem.W.kitOne K (.type "NoneType") cv = some b) ∨ ∃ a C, x = .ref a ∧ H a = some (.ext (ExcAt a C)) ∧ ExcC K C ∧ PySem.W.kitOne K (.ref C) cv = some b) ∧ Q (.bl b) H
theorem call_isX {X : Cx} : CallR X (.builtin "isinstance") (rIsX X.K) := by
  intro pins s σ H xs us Q I r h
  obtain ⟨x, c, cv, b, rfl, hcv, hc, q⟩ := h
  cases r with
  | cons rx rr =>
    cases rr with
    | cons rt rr =>
      cases rr
      have ec := hcv _ rt
      subst ec
      rcases hc with ⟨rfl, e⟩ | ⟨a, C, rfl, ha, ec, e⟩
      · cases rx
        exact PySem.W.kia_one PySem.W.kitx_none I.kIn True.intro e (fun z => nomatch z) fun tk => ⟨.bl b, H, I.kept (t' := tk) fun _ _ z => z, rfl, q⟩
      · cases rx
        obtain ⟨⟨oe, vs, h1, h2, h3, h4⟩, _⟩ := I.hok a _ ha
        have J : PySem.W.InstAt s.heap a oe C none := by
          obtain ⟨oc, od, oda, osl⟩ := oe
          dsimp only at h2 h3 h4
          subst h2 h3 h4
          exact ⟨h1, rfl, rfl, trivial⟩
        exact PySem.W.kia_one (PySem.W.handS_kitx_exc ec.hg ec.hk ec.hs ec.hd ec.ha ec.hn ec.ht ec.hm) I.kIn J e (fun z => nomatch z) fun tk => ⟨.bl b, H, I.kept (t' := tk) fun _ _ z => z, rfl, q⟩
def isxD (tab : Str → Option Bool) : D → Option D
  | .non => some (.bl false)
  | .exn c => (tab c).map D.bl
  | _ => none
section
variable {X : Cx} {W : WX} {ms : List (Mode (mdl X))} {a : Expr} {p p2 pos : Pos} {T : Str}
theorem de_isx {v : V} {cv : Value} {k1 : Kd (mdl X)} {ma : DEnv → R Opd} (tab : Str → Option Bool) (hm : X.mg "isinstance" = none) (pT : PE X (.Name T p2) (tC v)) (hv : ∀ u, RelV v u → u = cv) (hn : PySem.W.kitOne X.K (.type "NoneType") cv = some false) (hx : ∀ c C b, tab c = some b → X.mg c = some (.ref C) → ExcC X.K C ∧ PySem.W.kitOne X.K (.ref C) cv = some b)
    (ha : DO X W ms a k1 ma) (hg : Gl X "isinstance" := by rfl) (he : starEach [a, .Name T p2] X.env = (false, eval a X.env) :: starEach [.Name T p2] X.env := by rfl) (hs2 : starEach [.Name T p2] X.env = (false, eval (.Name T p2) X.env) :: starEach [] X.env := by rfl) (hpl : (backTo pos (starEach [.Name T p2] X.env)).any (·.1) = false := by rfl) :
    DE X W ms (.Call (.Name "isinstance" p) [a, .Name T p2] [] pos) fz (mOp1 ma (isxD tab)) := by
  obtain ⟨ta, pa, ra⟩ := ha.rel
  refine ⟨_, pe_callB call_isX hg hm (by decide +kernel) (pa_cons pa (pa_cons pT pa_nil hs2) he) (by decide) (by decide) he hpl, ?_⟩
  have op : Op1 (mdl X) (fun x H Q => rIsX X.K [x, v] H Q) (k1.mode ms) fz (isxD tab) := by
    intro S H Γ x d d' Q ho s1 e k
    have r := s1.rep ho.ex
    unfold isxD at e
    split at e
    · cases e
      cases r
      exact ⟨_, _, _, _, rfl, hv, .inl ⟨rfl, hn⟩, k _ S H (ho.sc fun _ => .bl _)⟩
    · rename_i c
      obtain ⟨b, e1, e2⟩ := Option.map_eq_some_iff.mp e
      subst e2
      cases r with
      | @exn a C _ h1 h2 =>
        obtain ⟨ec, ek⟩ := hx c C b e1 h2
        exact ⟨_, _, _, _, rfl, hv, .inr ⟨a, C, rfl, h1, ec, ek⟩, k _ S H (ho.sc fun _ => .bl _)⟩
    · cases e
  exact relE1 ra op
end
/-! ### the facts, from those that the top tells -/
theorem kit_of {K : PySem.W.Frag} {t : Value} {C : Addr} {b : Bool} (h0 : (t == Value.ref C) = false) (hdct : PySem.W.hasDictIn K C = true) (ht : PySem.W.typeIn K (.ref C) = some (.type "type")) (h4 : PySem.W.subIn K t (.ref C) = some b) : PySem.W.kitOne K t (.ref C) = some b := by
  obtain ⟨cd, hc, _⟩ := PySem.W.any_some hdct
  have e2 : ((PySem.W.clsIn K C).isSome && PySem.W.typeIn K (.ref C) == some (.type "type")) = true := by rw [hc, ht] <;> rfl
  show (if (t == Value.ref C) = true then some true else (if ((PySem.W.clsIn K C).isSome && PySem.W.typeIn K (.ref C) == some (.type "type")) = true then PySem.W.subIn K t (.ref C) else none)) = some b
  rw [h0, if_neg (by decide), if_pos e2]
  exact h4
theorem kit_self {K : PySem.W.Frag} {t : Value} : PySem.W.kitOne K t t = some true := by
  show (if (t == t) = true then some true else _) = _
  rw [if_pos (by simp)]
theorem kit_bi {K : PySem.W.Frag} {C : Addr} {T : String} {b : Bool} (hm : PySem.W.kitMeta T = true) (h4 : PySem.W.subIn K (.ref C) (.type T) = some b) : PySem.W.kitOne K (.ref C) (.type T) = some b := by
  show (if ((Value.ref C) == Value.type T) = true then some true else (if PySem.W.kitMeta T = true then PySem.W.subIn K (.ref C) (.type T) else none)) = some b
  rw [if_neg (by intro z; cases (beq_iff_eq.mp z)), if_pos hm]
  exact h4
end DM
set_option maxRecDepth 100000
/-! Data mirror, part 36: repr. -/
namespace DM
open PySem PySem.Spec PyProof.Rows L2
section
variable {prog : Program} {w : World} {A : Around} {E : Value → Shared → Prop} {s : Shared} {Q : Value → Shared → Prop}
end
section
variable {X : Cx} {pins : List (Addr × Obj)} {σ : L2.St} {H : Hp} {s : Shared}
end
section
variable {X : Cx} {W : WX} {ms : List (Mode (mdl X))} {k : Nat} {ks : List (Kd (mdl X))} {m : DEnv → R (List Opd)} {p pos : Pos} {a : Expr}
end
end DM
set_option maxRecDepth 100000
/-! Data mirror, part 38: dict(enumerate(xs)); texts in order. -/
namespace DM
open PySem PySem.Spec PyProof.Rows L2
end DM
set_option maxRecDepth 100000
/-! Data mirror, part 41: dicts with constant texts for keys, an item of which is one's own. -/
namespace DM
open PySem PySem.Spec L2
section
variable {M : Mdl} {S H : Hp} {Γ : List Pc} {mk : Key → Mode M}
end
section
variable {X : Cx} {W : WX} {ms : List (Mode (mdl X))} {mr : Mode (mdl X)} {pn : List Nat} {e kc : Expr} {pos pos' : Pos} {q : Key} {mk : Key → Mode (mdl X)}
/-! ### an item read -/
/-! ### an item as a place -/
/-! ### an item stored -/
/-! ### {"k": e, ..} -/
def mSeqL : List (DEnv → R D) → DEnv → R (List D)
  | [], δ => .ok [] δ
  | m :: r, δ => (m δ).bind fun d δ1 => (mSeqL r δ1).bind fun ds δ2 => .ok (d :: ds) δ2
structure DPs (X : Cx) (W : WX) (ms : List (Mode (mdl X))) (pos : Pos) (keys : List (Option Expr)) (values : List Expr) (qs : List Key) (l : List (DEnv → R D)) : Prop where
  len : keys.length = qs.length ∧ l.length = qs.length
  run : ∃ trs, PPs X pos keys values trs ∧ ∀ σ δ H τ (Q : List (V × V) → Hp → Prop), StO ms σ δ H τ → (match mSeqL l δ with
      | .ok ds δ' => ∀ vs H', vs.length = qs.length → StO ms σ δ' H' (fams (ds.map fun _ => (fz (M := mdl X))) vs ds ++ τ) → Q ((qs.map kV).zip vs) H'
      | .exc c δ' => Wx (X := X) W ms τ σ c δ'
      | .stuck => False) → tPairs trs σ H Q
end
end DM
set_option maxRecDepth 100000
/-! Data mirror, part 60: sorted, sets of ints made of lists, their sizes and orders. -/
namespace DM
open PySem PySem.Spec PyProof.Rows L2
section
variable {P : Program} {w : World} {A : Around} {E : Value → Shared → Prop} {s : Shared}
end
section
variable {P : Program} {w : World} {A : Around} {E : Value → Shared → Prop} {s : Shared}
set_option maxHeartbeats 3200000 in
end
section
variable {X : Cx}
variable {qs : List (Mode (mdl X))}
variable {W : WX} {ms : List (Mode (mdl X))} {a : Expr} {p p2 q pos : Pos} {ks : List (Kd (mdl X))} {m : DEnv → R (List Opd)}
/-! ### upper -/
/-! ### {x: v}, x a text in a slot -/
end
end DM
set_option maxRecDepth 100000
/-! Data mirror, part 61: lists of lists of ints sorted; a list among lists. -/
namespace DM
open PySem PySem.Spec PyProof.Rows L2
open PySem.W (EachIs dataLe)
section
variable {X : Cx}
/-! as data -/
variable {m1 : Mode (mdl X)}
/-! ### x in xs, of data -/
variable {m2 : Mode (mdl X)}
end
end DM
set_option maxRecDepth 100000
/-! Data mirror, part 73: text.index(sign) of a text in a slot, where it is found. -/
namespace DM
open PySem PySem.Spec L2
section
variable {X : Cx} {W : WX} {ms : List (Mode (mdl X))} {o e : Expr} {es : List Expr} {apos cpos : Pos}
end
end DM
set_option maxRecDepth 100000
/-! Data mirror, part 16: plain Lean over mirrors: loops, comprehensions, equality. -/
namespace DM
open PySem PySem.Spec L2
/-! ### one step at a time -/
@[simp] theorem mC_e (d : D) (δ : DEnv) : mC d δ = (.ok d δ) := rfl
@[simp] theorem mVar_e (i : Nat) (δ : DEnv) : mVar i δ = (.of (δ[i]?).join δ) := rfl
@[simp] theorem mMove_e (i : Nat) (δ : DEnv) : mMove i δ = (match (δ[i]?).join with
  | some d => .ok d (δ.set i none)
  | none => .stuck) := rfl
@[simp] theorem oS_e (i : Nat) (δ : DEnv) : oS i δ = (match (δ[i]?).join with
  | some _ => .ok (.s i) δ
  | none => .stuck) := rfl
@[simp] theorem oV_e (m : DEnv → R D) (δ : DEnv) : oV m δ = ((m δ).bind fun d δ' => .ok (.v d) δ') := rfl
@[simp] theorem mNil_e (δ : DEnv) : mNil  δ = (.ok [] δ) := rfl
@[simp] theorem mCons_e (a : DEnv → R Opd) (r : DEnv → R (List Opd)) (δ : DEnv) : mCons a r δ = ((a δ).bind fun o δ1 => (r δ1).bind fun os δ2 => .ok (o :: os) δ2) := rfl
@[simp] theorem mOpN_e (a : DEnv → R (List Opd)) (f : List D → Option D) (δ : DEnv) : mOpN a f δ = ((a δ).bind fun os δ1 => match gets os δ1, fins os δ1 with
  | some ds, some δ2 => .of (f ds) δ2
  | _, _ => .stuck) := rfl
@[simp] theorem mTup_e (m : DEnv → R (List Opd)) (δ : DEnv) : mTup m δ = ((mOpN m fun ds => if ds.length ≤ sizeLine then some (.tup ds) else none) δ) := rfl
@[simp] theorem mLst_e (m : DEnv → R (List Opd)) (δ : DEnv) : mLst m δ = ((mOpN m fun ds => if ds.length ≤ sizeLine then some (.lst ds) else none) δ) := rfl
@[simp] theorem mTest_e (m : DEnv → R D) (δ : DEnv) : mTest m δ = ((m δ).bind fun d δ' => match d with
  | .bl b => .ok b δ'
  | _ => .stuck) := rfl
@[simp] theorem mNot_e (m : DEnv → R Bool) (δ : DEnv) : mNot m δ = ((m δ).bind fun b δ' => .ok (!b) δ') := rfl
@[simp] theorem mAnd_e (a b : DEnv → R Bool) (δ : DEnv) : mAnd a b δ = ((a δ).bind fun c δ' => if c = true then b δ' else .ok false δ') := rfl
@[simp] theorem mOr_e (a b : DEnv → R Bool) (δ : DEnv) : mOr a b δ = ((a δ).bind fun c δ' => if c = true then .ok true δ' else b δ') := rfl
@[simp] theorem mAndV_e (a b : DEnv → R D) (δ : DEnv) : mAndV a b δ = ((a δ).bind fun d δ' => match d with
  | .bl true => b δ'
  | .bl false => .ok (.bl false) δ'
  | _ => .stuck) := rfl
@[simp] theorem mChain_e (a b c : DEnv → R D) (f g : D → D → Option D) (δ : DEnv) : mChain a b c f g δ = ((a δ).bind fun x δ1 => (b δ1).bind fun y δ2 => match f x y with
  | some (.bl true) => (c δ2).bind fun z δ3 => .of (g y z) δ3
  | some (.bl false) => .ok (.bl false) δ2
  | _ => .stuck) := rfl
@[simp] theorem mNext_e (δ : DEnv) : mNext  δ = (.nx δ) := rfl
@[simp] theorem mSeq_e (a b : DEnv → SR) (δ : DEnv) : mSeq a b δ = ((a δ).seq b) := rfl
@[simp] theorem mDrop_e (m : DEnv → R D) (δ : DEnv) : mDrop m δ = ((m δ).thn fun _ δ' => .nx δ') := rfl
@[simp] theorem mRet_e (m : DEnv → R D) (δ : DEnv) : mRet m δ = ((m δ).thn fun d δ' => .rt d δ') := rfl
@[simp] theorem mAsg_e (i : Nat) (m : DEnv → R D) (δ : DEnv) : mAsg i m δ = ((m δ).thn fun d δ' => .nx (δ'.set i (some d))) := rfl
@[simp] theorem mIf_e (c : DEnv → R Bool) (a b : DEnv → SR) (δ : DEnv) : mIf c a b δ = ((c δ).thn fun t δ' => if t = true then a δ' else b δ') := rfl
@[simp] theorem mAug_e (i : Nat) (m : DEnv → R D) (f : D → D → Option D) (δ : DEnv) : mAug i m f δ = (match (δ[i]?).join with
  | some a => (m δ).thn fun b δ' => match f a b with
    | some d => .nx (δ'.set i (some d))
    | none => .stuck
  | none => .stuck) := rfl
@[simp] theorem tName_e (i : Nat) (d : D) (δ : DEnv) : tName i d δ = (some (δ.set i (some d))) := rfl
@[simp] theorem mAsgT_e (f : Tg) (m : DEnv → R D) (δ : DEnv) : mAsgT f m δ = ((m δ).thn fun d δ' => match f d δ' with
  | some δ2 => .nx δ2
  | none => .stuck) := rfl
@[simp] theorem mSrc_e (o : DEnv → R Opd) (f : D → Option (List D)) (δ : DEnv) : mSrc o f δ = ((o δ).bind fun o δ1 => srcOf f δ1 o) := rfl
@[simp] theorem oT_e (i : Nat) (δ : DEnv) : oT i δ = (match δ[i]? with
  | some (some d) => .ok (.p i d id) (δ.set i none)
  | _ => .stuck) := rfl
theorem mSrcA_e (m : DEnv → R (List Opd)) (f : List D → Option (List D)) (δ : DEnv) : mSrcA m f δ = ((m δ).bind fun os δ1 => match gets os δ1, fins os δ1 with
  | some ds, some δ2 => match f ds with
    | some xs => .ok (xs, some) δ2
    | none => .stuck
  | _, _ => .stuck) := rfl
@[simp] theorem mYes_e (δ : DEnv) : mYes  δ = (.ok true δ) := rfl
@[simp] theorem mStore_e (v : DEnv → R D) (o : DEnv → R Opd) (i : DEnv → R D) (f : D → D → D → Option D) (δ : DEnv) : mStore v o i f δ = ((v δ).thn fun dv δ1 => (o δ1).thn fun x δ2 => (i δ2).thn fun di δ3 => match x.get δ3 with
  | some a => match f a di dv with
    | some a' => match x.upd a' δ3 with
      | some δ4 => .nx δ4
      | none => .stuck
    | none => .stuck
  | none => .stuck) := rfl
@[simp] theorem mMut_e (o : DEnv → R Opd) (args : DEnv → R (List Opd)) (f : D → List D → Option (D × D)) (δ : DEnv) : mMut o args f δ = ((o δ).bind fun x δ1 => match x.get δ1 with
  | some (.lst _) => (args δ1).bind fun os δ2 => match x.get δ2, gets os δ2 with
    | some a, some ds => match f a ds with
      | some r => match x.upd r.2 δ2 with
        | some δ3 => .ok r.1 δ3
        | none => .stuck
      | none => .stuck
    | _, _ => .stuck
  | _ => .stuck) := rfl
@[simp] theorem mOp1_e (a : DEnv → R Opd) (f : D → Option D) (δ : DEnv) : mOp1 a f δ = ((mOpN (mCons a mNil) (un1 f)) δ) := rfl
@[simp] theorem mOp2_e (a b : DEnv → R Opd) (f : D → D → Option D) (δ : DEnv) : mOp2 a b f δ = ((mOpN (mCons a (mCons b mNil)) (un2 f)) δ) := rfl
theorem mFor_e (src : Src) (tg : Tg) (body : DEnv → SR) (δ : DEnv) : mFor src tg body δ = ((src δ).thn fun x δ1 => finR x.2 (dFor tg body x.1 δ1)) := rfl
theorem mLc_e (src : Src) (tg : Tg) (cond : DEnv → R Bool) (elt : DEnv → R D) (own : List Nat) (δ : DEnv) : mLc src tg cond elt own δ = ((src δ).bind fun x δ1 => if x.1.length ≤ sizeLine then (dLc tg cond elt own x.1 (wipeD δ1 own)).bind (finLc x.2 δ1 own)
  else .stuck) := rfl
@[simp] theorem oIx_e (o : DEnv → R Opd) (m : DEnv → R D) (δ : DEnv) : oIx o m δ = ((o δ).bind fun x δ1 => (m δ1).bind fun k δ2 => match x.get δ2, k with
  | some (.lst ds), .int z => match ixN ds.length z with
    | some j => match ds[j]? with
      | some d => match x with
        | .s i => .ok (.p i d fun d' => .lst (ds.set j d')) (δ2.set i none)
        | .p i _ g => .ok (.p i d fun d' => g (.lst (ds.set j d'))) δ2
        | .v _ => .stuck
      | none => .stuck
    | none => .stuck
  | _, _ => .stuck) := rfl
@[simp] theorem mCall_e (f : Fn) (io : List Bool) (m : DEnv → R (List Opd)) (δ : DEnv) : mCall f io m δ = ((m δ).bind fun os δ1 => match takeO os δ1 with
  | some (ds, δ2) => match f ds with
    | .ok d es => match putO io os es δ2 with
      | some δ3 => .ok d δ3
      | none => .stuck
    | .exc c es => match putO io os es δ2 with
      | some δ3 => .exc c δ3
      | none => .stuck
    | .stuck => .stuck
  | none => .stuck) := rfl
@[simp] theorem mkF_e (n : Nat) (io : List Bool) (body : DEnv → SR) (ds : List D) : mkF n io body ds = (match body (ds.map some ++ List.replicate n none) with
  | .rt d δ => match outs io δ with
    | some es => .ok d es
    | none => .stuck
  | .nx δ => match outs io δ with
    | some es => .ok .non es
    | none => .stuck
  | .exc c δ => match outs io δ with
    | some es => .exc c es
    | none => .stuck
  | _ => .stuck) := rfl
@[simp] theorem bNo_e (δ : DEnv) : bNo  δ = (.ok none δ) := rfl
@[simp] theorem bAt_e (m : DEnv → R D) (δ : DEnv) : bAt m δ = ((m δ).bind fun d δ' => match d with
  | .int i => .ok (some i) δ'
  | _ => .stuck) := rfl
@[simp] theorem mSl_e (o : DEnv → R Opd) (lo hi : DEnv → R (Option Int)) (δ : DEnv) : mSl o lo hi δ = ((o δ).bind fun x δ1 => (lo δ1).bind fun l δ2 => (hi δ2).bind fun h δ3 => match x.get δ3, x.fin δ3 with
  | some d, some δ4 => .of (sliceD d l h) δ4
  | _, _ => .stuck) := rfl
@[simp] theorem mRaise_e (c : Str) (δ : DEnv) : mRaise c δ = (.exc c δ) := rfl
theorem mSrcA_ok {m : DEnv → R (List Opd)} {f : List D → Option (List D)} {δ δ1 δ2 : DEnv} {os : List Opd} {ds xs : List D} (h : m δ = .ok os δ1) (hg : gets os δ1 = some ds) (hf : fins os δ1 = some δ2) (hx : f ds = some xs) : mSrcA m f δ = .ok (xs, some) δ2 := by
  rw [mSrcA_e, h, R.bind_ok]
  simp only [hg, hf, hx]
theorem range1_ok (a : Int) (h1 : -1000000 < a) (h2 : a < 1000000) : range1D [.int a] = some (rgItems 0 1 a.toNat) := by
  unfold range1D
  have h : nb a 4611686018427387903 = true := nb_iff.mpr ⟨by omega, by omega⟩
  exact if_pos h
@[simp] theorem gets_nil (δ : DEnv) : gets [] δ = some [] := rfl
@[simp] theorem gets_cons (o : Opd) (r : List Opd) (δ : DEnv) : gets (o :: r) δ = (match o.get δ, gets r δ with
  | some d, some ds => some (d :: ds)
  | _, _ => none) := rfl
@[simp] theorem fins_nil (δ : DEnv) : fins [] δ = some δ := rfl
@[simp] theorem fins_cons (o : Opd) (r : List Opd) (δ : DEnv) : fins (o :: r) δ = (match o.fin δ with
  | some δ' => fins r δ'
  | none => none) := rfl
@[simp] theorem get_v (d : D) (δ : DEnv) : (Opd.v d).get δ = some d := rfl
@[simp] theorem get_s (i : Nat) (δ : DEnv) : (Opd.s i).get δ = (δ[i]?).join := rfl
@[simp] theorem get_p (i : Nat) (d : D) (g : D → D) (δ : DEnv) : (Opd.p i d g).get δ = some d := rfl
@[simp] theorem fin_v (d : D) (δ : DEnv) : (Opd.v d).fin δ = some δ := rfl
@[simp] theorem fin_s (i : Nat) (δ : DEnv) : (Opd.s i).fin δ = some δ := rfl
@[simp] theorem fin_p (i : Nat) (d : D) (g : D → D) (δ : DEnv) : (Opd.p i d g).fin δ = (match δ[i]? with
  | some none => some (δ.set i (some (g d)))
  | _ => none) := rfl
@[simp] theorem upd_v (d a : D) (δ : DEnv) : (Opd.v d).upd a δ = some δ := rfl
@[simp] theorem upd_s (i : Nat) (a : D) (δ : DEnv) : (Opd.s i).upd a δ = (match δ[i]? with
  | some (some _) => some (δ.set i (some a))
  | _ => none) := rfl
@[simp] theorem upd_p (i : Nat) (d a : D) (g : D → D) (δ : DEnv) : (Opd.p i d g).upd a δ = (match δ[i]? with
  | some none => some (δ.set i (some (g a)))
  | _ => none) := rfl
@[simp] theorem un1_e (f : D → Option D) (a : D) : un1 f [a] = f a := rfl
@[simp] theorem un2_e (f : D → D → Option D) (a b : D) : un2 f [a, b] = f a b := rfl
@[simp] theorem uNil_e (δ : DEnv) : uNil [] δ = some δ := rfl
@[simp] theorem uCons_e (a : Tg) (r : List D → DEnv → Option DEnv) (d : D) (ds : List D) (δ : DEnv) : uCons a r (d :: ds) δ = (match a d δ with
  | some δ' => r ds δ'
  | none => none) := rfl
@[simp] theorem tUnp_t (n : Nat) (r : List D → DEnv → Option DEnv) (ds : List D) (δ : DEnv) : tUnp n r (.tup ds) δ = (if ds.length = n then r ds δ else none) := rfl
@[simp] theorem tUnp_l (n : Nat) (r : List D → DEnv → Option DEnv) (ds : List D) (δ : DEnv) : tUnp n r (.lst ds) δ = (if ds.length = n then r ds δ else none) := rfl
@[simp] theorem srcOf_v (f : D → Option (List D)) (δ : DEnv) (d : D) : srcOf f δ (.v d) = (match f d with
  | some ds => .ok (ds, some) δ
  | none => .stuck) := rfl
@[simp] theorem srcOf_p (f : D → Option (List D)) (δ : DEnv) (i : Nat) (d : D) (g : D → D) : srcOf f δ (.p i d g) = (match f d with
  | some ds => .ok (ds, fun δ2 => (Opd.p i d g).fin δ2) δ
  | none => .stuck) := rfl
@[simp] theorem finR_nx (f : Fin) (δ : DEnv) : finR f (.nx δ) = (match f δ with
  | some δ' => .nx δ'
  | none => .stuck) := rfl
@[simp] theorem finR_rt (f : Fin) (d : D) (δ : DEnv) : finR f (.rt d δ) = .rt d δ := rfl
@[simp] theorem finR_exc (f : Fin) (c : Str) (δ : DEnv) : finR f (.exc c δ) = .exc c δ := rfl
@[simp] theorem takeO_nil (δ : DEnv) : takeO [] δ = some ([], δ) := rfl
@[simp] theorem takeO_v (d : D) (r : List Opd) (δ : DEnv) : takeO (.v d :: r) δ = (match takeO r δ with
  | some (ds, δ') => some (d :: ds, δ')
  | none => none) := rfl
@[simp] theorem takeO_s (i : Nat) (r : List Opd) (δ : DEnv) : takeO (.s i :: r) δ = (match δ[i]? with
  | some (some d) => match takeO r (δ.set i none) with
    | some (ds, δ') => some (d :: ds, δ')
    | none => none
  | _ => none) := rfl
@[simp] theorem putO_nil (os : List Opd) (es : List D) (δ : DEnv) : putO [] os es δ = some δ := rfl
@[simp] theorem putO_f (io : List Bool) (o : Opd) (os : List Opd) (es : List D) (δ : DEnv) : putO (false :: io) (o :: os) es δ = putO io os es δ := by cases o <;> rfl
@[simp] theorem putO_s (io : List Bool) (i : Nat) (os : List Opd) (e : D) (es : List D) (δ : DEnv) : putO (true :: io) (.s i :: os) (e :: es) δ = (match δ[i]? with
  | some none => putO io os es (δ.set i (some e))
  | _ => none) := rfl
@[simp] theorem putO_v (io : List Bool) (d : D) (os : List Opd) (e : D) (es : List D) (δ : DEnv) : putO (true :: io) (.v d :: os) (e :: es) δ = putO io os es δ := rfl
@[simp] theorem outs_nil (δ : DEnv) : outs [] δ = some [] := rfl
@[simp] theorem outs_t (io : List Bool) (d : D) (δ : DEnv) : outs (true :: io) (some d :: δ) = (match outs io δ with
  | some ds => some (d :: ds)
  | none => none) := rfl
@[simp] theorem outs_f (io : List Bool) (o : Option D) (δ : DEnv) : outs (false :: io) (o :: δ) = outs io δ := rfl
@[simp] theorem seqD_l (ds : List D) : seqD (.lst ds) = some ds := rfl
@[simp] theorem seqD_t (ds : List D) : seqD (.tup ds) = some ds := rfl
@[simp] theorem seqD_s (ns : List Int) : seqD (.scr ns) = some (ns.map D.int) := rfl
@[simp] theorem setF_e (xs : List D) (k : Int) (v : D) : setF (.lst xs) (.int k) v = (match ixN xs.length k with
  | some j => some (.lst (xs.set j v))
  | none => none) := rfl
@[simp] theorem appendF_e (xs : List D) (d : D) : appendF (.lst xs) [d] = (if xs.length < sizeLine then some (.non, .lst (xs ++ [d])) else none) := rfl
@[simp] theorem ii_e (f : Int → Int → Option Int) (i j : Int) : ii f (.int i) (.int j) = (f i j).map D.int := rfl
@[simp] theorem subD_e (i j : Int) : subD (.int i) (.int j) = some (.int (i - j)) := rfl
@[simp] theorem addD_i (i j : Int) : addD (.int i) (.int j) = some (.int (i + j)) := rfl
@[simp] theorem addD_l (xs ys : List D) : addD (.lst xs) (.lst ys) = (if xs.length + ys.length ≤ sizeLine then some (.lst (xs ++ ys)) else none) := rfl
@[simp] theorem mulD_e (i j : Int) : mulD (.int i) (.int j) = (if mulOk i j = true then some (.int (i * j)) else none) := rfl
@[simp] theorem fdivD_e (i j : Int) : fdivD (.int i) (.int j) = if 0 < j ∧ j < 1073741824 then some (.int (i / j)) else none := by
  show (if 0 < j ∧ nb j 1073741823 = true then some (i / j) else none : Option Int).map D.int = _
  by_cases h : 0 < j ∧ j < 1073741824
  · rw [if_pos h, if_pos ⟨h.1, nb_iff.mpr ⟨by omega, by omega⟩⟩]
    rfl
  · rw [if_neg h, if_neg (fun z => h ⟨z.1, by have := nb_iff.mp z.2; omega⟩)]
    rfl
@[simp] theorem modD_e (i j : Int) : modD (.int i) (.int j) = if 0 < j then some (.int (i % j)) else none := by
  show (if 0 < j then some (i % j) else none : Option Int).map D.int = _
  split <;> rfl
@[simp] theorem ltD_e (i j : Int) : ltD (.int i) (.int j) = some (.bl (decide (i < j))) := rfl
@[simp] theorem leD_e (i j : Int) : leD (.int i) (.int j) = some (.bl (decide (i ≤ j))) := rfl
@[simp] theorem gtD_e (i j : Int) : gtD (.int i) (.int j) = some (.bl (decide (j < i))) := rfl
@[simp] theorem isND_e (a : D) : isND a .non = some (.bl a.isNon) := rfl
@[simp] theorem notND_e (a : D) : notND a .non = some (.bl (!a.isNon)) := rfl
@[simp] theorem isNon_n : D.isNon .non = true := rfl
@[simp] theorem isNon_i (i : Int) : D.isNon (.int i) = false := rfl
@[simp] theorem isNon_l (i : List D) : D.isNon (.lst i) = false := rfl
@[simp] theorem lenD_l (ds : List D) : lenD [.lst ds] = some (.int ds.length) := rfl
@[simp] theorem lenD_t (ds : List D) : lenD [.tup ds] = some (.int ds.length) := rfl
@[simp] theorem lenD_s (z : Str) : lenD [.str z] = (if z.length ≤ sizeLine then some (.int z.length) else none) := rfl
@[simp] theorem lenD_c (ns : List Int) : lenD [.scr ns] = some (.int ns.length) := rfl
@[simp] theorem intD_i (i : Int) : intD [.int i] = some (.int i) := rfl
@[simp] theorem intD_b (b : Bool) : intD [.bl b] = some (.int (if b then 1 else 0)) := rfl
@[simp] theorem max2D_e (i j : Int) : max2D [.int i, .int j] = some (.int (if j > i then j else i)) := rfl
@[simp] theorem min2D_e (i j : Int) : min2D [.int i, .int j] = some (.int (if j < i then j else i)) := rfl
@[simp] theorem ixD_l (ds : List D) (i : Int) : ixD (.lst ds) (.int i) = atI ds i := rfl
@[simp] theorem ixD_t (ds : List D) (i : Int) : ixD (.tup ds) (.int i) = atI ds i := rfl
@[simp] theorem ixD_s (ns : List Int) (i : Int) : ixD (.scr ns) (.int i) = (atI ns i).map D.int := rfl
@[simp] theorem R.noX_ok {α : Type} (a : α) (δ : DEnv) : (R.ok a δ).noX = .ok a δ := rfl
@[simp] theorem wipe_nil (δ : DEnv) : wipeD δ [] = δ := rfl
@[simp] theorem wipe_cons (δ : DEnv) (v : Nat) (vs : List Nat) : wipeD δ (v :: vs) = (wipeD δ vs).set v none := rfl
@[simp] theorem rest_nil (δ0 δ : DEnv) : restD δ0 [] δ = δ := rfl
@[simp] theorem rest_cons (δ0 δ : DEnv) (v : Nat) (vs : List Nat) : restD δ0 (v :: vs) δ = (restD δ0 vs δ).set v ((δ0[v]?).join) := rfl
@[simp] theorem finLc_e (fin : Fin) (δ1 : DEnv) (own : List Nat) (xs : List D) (δ2 : DEnv) : finLc fin δ1 own xs δ2 = (match fin (restD δ1 own δ2) with
  | some δ3 => .ok (.lst xs) δ3
  | none => .stuck) := rfl
@[simp] theorem isiD_str (t : Ty) (x : Str) : isiD t (.str x) = some (.bl (Ty.isa .str t)) := rfl
@[simp] theorem isiD_int (t : Ty) (x : Int) : isiD t (.int x) = some (.bl (Ty.isa .int t)) := rfl
@[simp] theorem isiD_bl (t : Ty) (x : Bool) : isiD t (.bl x) = some (.bl (Ty.isa .bool t)) := rfl
@[simp] theorem isiD_lst (t : Ty) (x : List D) : isiD t (.lst x) = some (.bl (Ty.isa .list t)) := rfl
@[simp] theorem isiD_tup (t : Ty) (x : List D) : isiD t (.tup x) = some (.bl (Ty.isa .tuple t)) := rfl
@[simp] theorem isiD_non (t : Ty) : isiD t .non = some (.bl (Ty.isa .non t)) := rfl
/-! ### places -/
theorem ixN_nat {n : Nat} {k : Nat} (h : k < n) : ixN n (k : Int) = some k := by
  unfold ixN
  rw [if_pos (by omega), if_pos (by omega)]
  simp
theorem atI_nat {α : Type} {xs : List α} {k : Nat} (h : k < xs.length) : atI xs (k : Int) = xs[k]? := by
  unfold atI
  rw [ixN_nat h]
  rfl
theorem ixN_int {n : Nat} {k : Int} (h0 : 0 ≤ k) (h : k < n) : ixN n k = some k.toNat := by
  unfold ixN
  rw [if_pos h0, if_pos (by omega)]
theorem atI_k {α : Type} {xs : List α} {k : Nat} (i : Int) (e : i = (k : Int)) (h : k < xs.length) : atI xs i = xs[k]? := by
  subst e
  exact atI_nat h
@[simp] theorem atI_0 {α : Type} (a : α) (xs : List α) : atI (a :: xs) 0 = some a := atI_k (k := 0) 0 rfl (by simp)
@[simp] theorem atI_1 {α : Type} (a b : α) (xs : List α) : atI (a :: b :: xs) 1 = some b := atI_k (k := 1) 1 rfl (by simp)
@[simp] theorem atI_2 {α : Type} (a b c : α) (xs : List α) : atI (a :: b :: c :: xs) 2 = some c := atI_k (k := 2) 2 rfl (by simp)
@[simp] theorem atI_3 {α : Type} (a b c d : α) (xs : List α) : atI (a :: b :: c :: d :: xs) 3 = some d := atI_k (k := 3) 3 rfl (by simp)
/-! ### for -/
theorem dFor_run {tg : Tg} {body : DEnv → SR} (I : Nat → DEnv → Prop) : ∀ (xs : List D) (k : Nat) (δ : DEnv), I k δ →
    (∀ i d δ, xs[i]? = some d → I (k + i) δ → ∃ δ1 δ2, tg d δ = some δ1 ∧ (body δ1 = .nx δ2 ∨ body δ1 = .ct δ2) ∧ I (k + i + 1) δ2) → ∃ δ', dFor tg body xs δ = .nx δ' ∧ I (k + xs.length) δ'
  | [], k, δ, h0, _ => ⟨δ, rfl, h0⟩
  | d :: ds, k, δ, h0, hs => by
    obtain ⟨δ1, δ2, e1, e2, h1⟩ := hs 0 d δ rfl h0
    obtain ⟨δ', e3, h3⟩ := dFor_run I ds (k + 1) δ2 h1 fun i d' δ hd hi => by
      have := hs (i + 1) d' δ (by simpa using hd) (by rw [show k + (i + 1) = k + 1 + i by omega]; exact hi)
      rw [show k + (i + 1) + 1 = k + 1 + i + 1 by omega] at this
      exact this
    refine ⟨δ', ?_, by rw [List.length_cons, show k + (ds.length + 1) = k + 1 + ds.length by omega]; exact h3⟩
    rw [dFor, e1]
    rcases e2 with e2 | e2 <;> (dsimp only; rw [e2]; exact e3)
/-! ### while -/
theorem dWhile_run {c : DEnv → R Bool} {body : DEnv → SR} (I : Nat → DEnv → Prop) (Z : DEnv → Prop) (hs : ∀ m δ, I m δ → (∃ δ1, c δ = .ok false δ1 ∧ Z δ1) ∨ ∃ δ1 δ2 m', m' < m ∧ c δ = .ok true δ1 ∧ (body δ1 = .nx δ2 ∨ body δ1 = .ct δ2) ∧ I m' δ2) :
    ∀ (m fuel : Nat) (δ : DEnv), m < fuel → I m δ → ∃ δ', dWhile c body fuel δ = .nx δ' ∧ Z δ' := by
  intro m
  induction m using Nat.strongRecOn with
  | ind m ih =>
    intro fuel δ hf h
    cases fuel with
    | zero => omega
    | succ f =>
      rcases hs m δ h with ⟨δ1, e, z⟩ | ⟨δ1, δ2, m', lt, e, eb, h2⟩
      · exact ⟨δ1, by rw [dWhile, e]; rfl, z⟩
      · obtain ⟨δ', e3, z⟩ := ih m' lt f δ2 (by omega) h2
        refine ⟨δ', ?_, z⟩
        rw [dWhile, e]
        rcases eb with eb | eb <;> (simp only [R.thn_ok, if_true]; rw [eb]; exact e3)
/-! ### comprehensions -/
theorem set_none {δ : DEnv} {i : Nat} (h : δ[i]? = some none) (o : Option D) : (δ.set i o).set i none = δ := by
  rw [List.set_set]
  obtain ⟨h1, h2⟩ := List.getElem?_eq_some_iff.mp h
  rw [← h2]
  exact List.set_getElem_self h1
theorem dLc_pure {cond : DEnv → R Bool} {elt : DEnv → R D} {i : Nat} {p : D → Bool} {g : D → D} {δ : DEnv} (h : δ[i]? = some none) : ∀ (xs : List D),
    (∀ d ∈ xs, cond (δ.set i (some d)) = .ok (p d) (δ.set i (some d))) → (∀ d ∈ xs, p d = true → elt (δ.set i (some d)) = .ok (g d) (δ.set i (some d))) → dLc (tName i) cond elt [i] xs δ = .ok ((xs.filter p).map g) δ
  | [], _, _ => rfl
  | d :: ds, hc, he => by
    have ih := dLc_pure h ds (fun d hd => hc d (List.mem_cons_of_mem _ hd)) (fun d hd => he d (List.mem_cons_of_mem _ hd))
    rw [dLc]
    have e0 : tName i d δ = some (δ.set i (some d)) := rfl
    rw [e0]
    dsimp only
    rw [hc d (List.mem_cons_self ..)]
    have w : wipeD (δ.set i (some d)) [i] = δ := set_none h _
    cases z : p d with
    | true =>
      show ((elt (δ.set i (some d))).noX).bind _ = _
      rw [he d (List.mem_cons_self ..) z]
      show (dLc (tName i) cond elt [i] ds (wipeD (δ.set i (some d)) [i])).bind _ = _
      rw [w, ih, R.bind_ok, List.filter_cons_of_pos z]
      rfl
    | false =>
      show dLc (tName i) cond elt [i] ds (wipeD (δ.set i (some d)) [i]) = _
      rw [w, ih, List.filter_cons_of_neg (by rw [z]; simp)]
inductive All2 {α β : Type} (Y : α → β → Prop) : List α → List β → Prop
  | nil : All2 Y [] []
  | cons {a : α} {b : β} {as : List α} {bs : List β} : Y a b → All2 Y as bs → All2 Y (a :: as) (b :: bs)
/-! ### equality -/
end DM
set_option maxRecDepth 100000
/-! Plain Lean, part 17: trees, and the law's drawn rows. -/
namespace DM
open PySem PySem.Spec L2
inductive T where
  | node (x : Nat) (cs : List T)
mutual
def T.dat : T → D
  | .node x cs => .tup [.str ⟨#[x]⟩, .lst (T.dats cs)]
def T.dats : List T → List D
  | [] => []
  | t :: ts => T.dat t :: T.dats ts
def T.size : T → Nat
  | .node _ cs => T.sizes cs + 1
def T.sizes : List T → Nat
  | [] => 0
  | t :: ts => T.size t + T.sizes ts
/-- how many parts stand one beneath the other -/
def T.dep : T → Nat
  | .node _ cs => T.deps cs + 1
def T.deps : List T → Nat
  | [] => 0
  | t :: ts => max (T.dep t) (T.deps ts)
def T.good : T → Prop
  | .node x cs => (97 ≤ x ∧ x ≤ 122) ∧ T.goods cs
def T.goods : List T → Prop
  | [] => True
  | t :: ts => T.good t ∧ T.goods ts
end
theorem T.dats_map : ∀ ts : List T, T.dats ts = ts.map T.dat
  | [] => rfl
  | t :: ts => by rw [T.dats, T.dats_map ts, List.map_cons]
theorem T.goods_iff : ∀ {ts : List T}, T.goods ts ↔ ∀ t ∈ ts, t.good
  | [] => by simp [T.goods]
  | t :: ts => by simp [T.goods, T.goods_iff (ts := ts)]
theorem T.dep_le_deps : ∀ {ts : List T} {t : T}, t ∈ ts → t.dep ≤ T.deps ts
  | a :: ts, t, h => by
    rw [T.deps]
    rcases List.mem_cons.mp h with rfl | h
    · exact Nat.le_max_left _ _
    · exact Nat.le_trans (T.dep_le_deps h) (Nat.le_max_right _ _)
theorem T.size_le_sizes : ∀ {ts : List T} {t : T}, t ∈ ts → t.size ≤ T.sizes ts
  | a :: ts, t, h => by
    rw [T.sizes]
    rcases List.mem_cons.mp h with rfl | h
    · omega
    · have := T.size_le_sizes h
      omega
theorem T.size_pos (t : T) : 0 < t.size := by
  cases t
  rw [T.size]
  omega
theorem T.len_le_sizes : ∀ (ts : List T), ts.length ≤ T.sizes ts
  | [] => Nat.le_refl _
  | t :: ts => by
    have := T.len_le_sizes ts
    have := t.size_pos
    rw [List.length_cons, T.sizes]
    omega
def insAt {α : Type} (xs : List α) (p : Nat) (a : α) : List α := xs.take p ++ a :: xs.drop p
/-! ### labels: the rows as they are drawn -/
inductive LT where
  | node (i : Nat) (cs : List LT)
def LT.lab : LT → Nat
  | .node i _ => i
mutual
def LT.cnt (x : Nat) : LT → Nat
  | .node i cs => (if i = x then 1 else 0) + LT.cnts x cs
def LT.cnts (x : Nat) : List LT → Nat
  | [] => 0
  | t :: ts => LT.cnt x t + LT.cnts x ts
def LT.size : LT → Nat
  | .node _ cs => LT.sizes cs + 1
def LT.sizes : List LT → Nat
  | [] => 0
  | t :: ts => LT.size t + LT.sizes ts
/-- a leaf k put at place p among the children of those labelled h -/
def LT.ins (h p k : Nat) : LT → LT
  | .node i cs => .node i (if i = h then insAt (LT.inss h p k cs) p (.node k []) else LT.inss h p k cs)
def LT.inss (h p k : Nat) : List LT → List LT
  | [] => []
  | t :: ts => LT.ins h p k t :: LT.inss h p k ts
/-- the rows tell of it -/
def LT.row (rs : List (List Nat)) : LT → Prop
  | .node i cs => rs[i]? = some (LT.labs cs) ∧ LT.rows rs cs
def LT.rows (rs : List (List Nat)) : List LT → Prop
  | [] => True
  | t :: ts => LT.row rs t ∧ LT.rows rs ts
def LT.labs : List LT → List Nat
  | [] => []
  | t :: ts => LT.lab t :: LT.labs ts
/-- the depths tell of it -/
def LT.dp (ds : List Nat) (d : Nat) : LT → Prop
  | .node i cs => ds[i]? = some d ∧ LT.dps ds (d + 1) cs
def LT.dps (ds : List Nat) (d : Nat) : List LT → Prop
  | [] => True
  | t :: ts => LT.dp ds d t ∧ LT.dps ds d ts
end
section
variable {h p k : Nat} {rs : List (List Nat)} {ds : List Nat} {row : List Nat}
end
structure Drawn (k : Nat) (rs : List (List Nat)) (ds : List Nat) : Prop where
  lr : rs.length = k
  ld : ds.length = k
  le : ∀ d ∈ ds, 1 ≤ d ∧ d ≤ 20
  h0 : ds[0]? = some 1
  tr : ∃ t : LT, t.lab = 0 ∧ LT.row rs t ∧ LT.dp ds 1 t ∧ t.size = k ∧ ∀ x, LT.cnt x t = if x < k then 1 else 0
end DM
set_option maxRecDepth 100000
/-! Plain Lean, part 18: a tree's parts by number. -/
namespace DM
open PySem PySem.Spec L2
structure Rw where
  x : Nat
  up : Option Nat
  kids : List Nat
  sz : Nat
mutual
def T.parts : T → List T
  | .node x cs => .node x cs :: T.partss cs
def T.partss : List T → List T
  | [] => []
  | t :: ts => T.parts t ++ T.partss ts
def T.pre (b : Nat) (a : Option Nat) : T → List Rw
  | .node x cs => ⟨x, a, T.starts (b + 1) cs, T.sizes cs + 1⟩ :: T.pres (b + 1) (some b) cs
def T.pres (b : Nat) (a : Option Nat) : List T → List Rw
  | [] => []
  | t :: ts => T.pre b a t ++ T.pres (b + t.size) a ts
def T.starts (b : Nat) : List T → List Nat
  | [] => []
  | t :: ts => b :: T.starts (b + t.size) ts
end
/-! ### the law's and the program's way through a tree -/
end DM
set_option maxRecDepth 100000
/-! Plain Lean, part 19: when data are compared. -/
namespace DM
open PySem PySem.Spec L2
mutual
theorem eqv_refl : ∀ p : PyData, p.canLay0 = true → PyData.eqv p p = true
  | .none, _ => by rw [PyData.eqv]
  | .bool b, _ => by rw [PyData.eqv]; simp
  | .int i, _ => by rw [PyData.eqv]; simp
  | .str x, _ => by rw [PyData.eqv]; simp
  | .list xs, h => by rw [PyData.eqv]; exact eqvAll_refl xs (by rw [PyData.canLay0] at h; exact h)
  | .tuple xs, h => by rw [PyData.eqv]; exact eqvAll_refl xs (by rw [PyData.canLay0] at h; exact h)
  | .dict _, h => by rw [PyData.canLay0] at h; cases h
theorem eqvAll_refl : ∀ ps : List PyData, PyData.canLayAll0 ps = true → PyData.eqvAll ps ps = true
  | [], _ => by rw [PyData.eqvAll]
  | p :: ps, h => by
    rw [PyData.canLayAll0, Bool.and_eq_true] at h
    rw [PyData.eqvAll, eqv_refl p h.1, eqvAll_refl ps h.2]
    rfl
end
def Cmp (d : D) (k : Nat) : Prop := ∃ p, d.py = some p ∧ p.canLay0 = true ∧ p.depth ≤ k
def CmpL (ds : List D) (k : Nat) : Prop := ∃ ps, D.pyAll ds = some ps ∧ PyData.canLayAll0 ps = true ∧ PyData.depthAll ps ≤ k
theorem CmpL.nil (k : Nat) : CmpL [] k := ⟨[], by rw [D.pyAll], by rw [PyData.canLayAll0], by rw [PyData.depthAll]; omega⟩
theorem CmpL.cons {d : D} {ds : List D} {k : Nat} (h : Cmp d k) (t : CmpL ds k) : CmpL (d :: ds) k := by
  obtain ⟨p, a, b, c⟩ := h
  obtain ⟨ps, a', b', c'⟩ := t
  exact ⟨p :: ps, by rw [D.pyAll, a, a'], by rw [PyData.canLayAll0, b, b']; rfl, by rw [PyData.depthAll]; omega⟩
theorem CmpL.lst {ds : List D} {k : Nat} (h : CmpL ds k) : Cmp (.lst ds) (k + 1) := by
  obtain ⟨ps, a, b, c⟩ := h
  exact ⟨.list ps, by rw [D.py, a]; rfl, by rw [PyData.canLay0]; exact b, by rw [PyData.depth]; omega⟩
theorem Cmp.non (k : Nat) : Cmp .non k := ⟨.none, by rw [D.py], by rw [PyData.canLay0], by rw [PyData.depth]; omega⟩
theorem Cmp.bl (b : Bool) (k : Nat) : Cmp (.bl b) k := ⟨.bool b, by rw [D.py], by rw [PyData.canLay0], by rw [PyData.depth]; omega⟩
theorem shaped_of {p : PyData} {k : Nat} (a : p.canLay0 = true) (b : p.depth ≤ k) (h : k ≤ 64) : SeqAt.shaped p = true := by
  unfold SeqAt.shaped
  rw [a, decide_eq_true (Nat.le_trans b h)]
  rfl
theorem eqD0_refl {d : D} {k : Nat} (h : Cmp d k) (hk : k ≤ 64) : eqD0 d d = some (.bl true) := by
  obtain ⟨p, a, b, c⟩ := h
  unfold eqD0 eqvD
  rw [a]
  have s := shaped_of b c hk
  simp only [s, and_self, if_true, eqv_refl p b]
  rfl
theorem neD0_refl {d : D} {k : Nat} (h : Cmp d k) (hk : k ≤ 64) : neD0 d d = some (.bl false) := by
  obtain ⟨p, a, b, c⟩ := h
  unfold neD0 eqvD
  rw [a]
  have s := shaped_of b c hk
  simp only [s, and_self, if_true, eqv_refl p b]
  rfl
theorem eqD_refl {d : D} {k : Nat} (h : Cmp d k) (hk : k ≤ 64) : eqD d d = some (.bl true) := by
  have e := eqD0_refl h hk
  unfold eqD
  cases d <;> simp_all
theorem neD_refl {d : D} {k : Nat} (h : Cmp d k) (hk : k ≤ 64) : neD d d = some (.bl false) := by
  have e := neD0_refl h hk
  unfold neD
  cases d <;> simp_all
theorem cmp_l0 : Cmp (.lst []) 1 := CmpL.lst (k := 0) (.nil 0)
@[simp] theorem eqD_n (ds : List D) : eqD (.lst ds) (.lst []) = some (.bl ds.isEmpty) := by
  cases ds with
  | nil => exact eqD_refl cmp_l0 (by omega)
  | cons d ds => rfl
@[simp] theorem neD_n (ds : List D) : neD (.lst ds) (.lst []) = some (.bl (!ds.isEmpty)) := by
  cases ds with
  | nil => exact neD_refl cmp_l0 (by omega)
  | cons d ds => rfl
@[simp] theorem eqD_i (i j : Int) : eqD (.int i) (.int j) = some (.bl (decide (i = j))) := rfl
@[simp] theorem eqD_s (i j : Str) : eqD (.str i) (.str j) = some (.bl (decide (i = j))) := rfl
@[simp] theorem neD_s (i j : Str) : neD (.str i) (.str j) = some (.bl (!decide (i = j))) := rfl
@[simp] theorem eqD_b (i j : Bool) : eqD (.bl i) (.bl j) = some (.bl (decide (i = j))) := rfl
end DM
set_option maxRecDepth 100000
/-! Plain Lean, part 20: facts of the rows of a tree. -/
namespace DM
open PySem PySem.Spec L2
end DM
set_option maxRecDepth 100000
/-! Plain Lean, part 21: the rows of a part among a tree's rows. -/
namespace DM
open PySem PySem.Spec L2
/-! ### the parts that have a part above them -/
end DM
set_option maxRecDepth 100000
/-! Plain Lean, part 23: slices, rows put together child by child. -/
namespace DM
open PySem PySem.Spec L2
theorem cut_from {α : Type} (xs : List α) (k : Nat) : DM.cut xs (some (k : Int)) none = xs.drop k := by
  unfold DM.cut
  rw [HT.sIx_nat, HT.sIx_none]
  by_cases h : k ≤ xs.length
  · rw [Nat.min_eq_left h]
    exact List.take_of_length_le (by rw [List.length_drop]; omega)
  · rw [Nat.min_eq_right (by omega), List.drop_length, List.drop_of_length_le (by omega), List.take_nil]
theorem cut_to {α : Type} (xs : List α) (k : Nat) : DM.cut xs none (some (k : Int)) = xs.take k := by
  unfold DM.cut
  rw [HT.sIx_nat, HT.sIx_none, List.drop_zero]
  by_cases h : k ≤ xs.length
  · rw [Nat.min_eq_left h, Nat.sub_zero]
  · rw [Nat.min_eq_right (by omega), Nat.sub_zero, List.take_length, List.take_of_length_le (by omega)]
@[simp] theorem sliceD_lst (ds : List D) (lo hi : Option Int) : sliceD (.lst ds) lo hi = some (.lst (DM.cut ds lo hi)) := rfl
end DM
namespace DM
open PySem PySem.Spec L2
end DM
namespace DM
open PySem PySem.Spec L2
theorem set_self {α : Type} {xs : List α} {i : Nat} {v : α} (h : xs[i]? = some v) : xs.set i v = xs := by
  obtain ⟨h1, h2⟩ := List.getElem?_eq_some_iff.mp h
  subst h2
  exact List.set_getElem_self h1
theorem eqD_nil : eqD (.lst []) (.lst []) = some (.bl true) := eqD_n []
@[simp] theorem neD_i (i j : Int) : neD (.int i) (.int j) = some (.bl (!decide (i = j))) := rfl
@[simp] theorem neD_b (a b : Bool) : neD (.bl a) (.bl b) = some (.bl (!decide (a = b))) := rfl
theorem sz100 {n : Nat} (h : n ≤ 1000) : n ≤ sizeLine := Nat.le_trans h (by decide)
theorem lc1 {src : Src} {cond : DEnv → R Bool} {elt : DEnv → R D} {i : Nat} {δ : DEnv} {xs : List D} {p : D → Bool} {g : D → D} (hs : src δ = .ok (xs, some) δ) (hl : xs.length ≤ sizeLine) (h : δ[i]? = some none)
    (hc : ∀ d ∈ xs, cond (δ.set i (some d)) = .ok (p d) (δ.set i (some d))) (he : ∀ d ∈ xs, p d = true → elt (δ.set i (some d)) = .ok (g d) (δ.set i (some d))) : mLc src (tName i) cond elt [i] δ = .ok (.lst ((xs.filter p).map g)) δ := by
  rw [mLc_e, hs, R.bind_ok, if_pos hl]
  have w : wipeD δ [i] = δ := by
    have := set_none h none
    show δ.set i none = δ
    obtain ⟨h1, h2⟩ := List.getElem?_eq_some_iff.mp h
    conv => lhs; rw [← h2]
    exact List.set_getElem_self h1
  have r : restD δ [i] δ = δ := by
    show δ.set i ((δ[i]?).join) = δ
    rw [h]
    exact w
  rw [w, dLc_pure h xs hc he, R.bind_ok, finLc_e, r]
def intsD (ks : List Nat) : List D := ks.map fun j : Nat => D.int (j : Int)
end DM
set_option maxRecDepth 100000
/-! Data mirror, part 29: a tree all of whose tuples and lists are one's own; what can be read alone. -/
namespace DM
open PySem PySem.Spec L2
section
variable {M : Mdl}
def Scm : Mode M where
  fam := fun v d S H F => d.isSc = true ∧ Rep M S v d ∧ ∀ a, ¬ F a
  stb := fun v d S S' H H' F p e _ => ⟨p.1, p.2.1.mono e, p.2.2⟩
  rd := fun p e => p.2.1.mono e
  sh := fun p e _ _ => ⟨_, Ex.refl _, e, fun _ q => .inl q, p.2.1⟩
  sc := fun h r n => ⟨h, r, n⟩
def Sub (m m' : Mode M) : Prop := ∀ v d S H F, m.fam v d S H F → m'.fam v d S H F
theorem Sub.refl (m : Mode M) : Sub m m := fun _ _ _ _ _ h => h
theorem Sub.trans {a b c : Mode M} (h : Sub a b) (k : Sub b c) : Sub a c := fun v d S H F q => k v d S H F (h v d S H F q)
theorem Els.sub {P Q : V → D → Pc} {S H : Hp} (k : ∀ v d F, P v d S H F → Q v d S H F) : ∀ {vs : List V} {ds : List D} {F : Foot}, Els P S H vs ds F → Els Q S H vs ds F
  | _, _, _, .nil h => .nil h
  | _, _, _, .cons p t d u => .cons (k _ _ _ p) (t.sub k) d u
theorem Sub.lof {m m' : Mode M} (h : Sub m m') : Sub (Lof m) (Lof m') := by
  rintro v d S H F (q | ⟨p, vs, ds, G, e1, e2, e3, e4, e5, e6⟩)
  · exact .inl q
  · exact .inr ⟨p, vs, ds, G, e1, e2, e3, e4.sub (fun v d F q => h v d S H F q), e5, e6⟩
theorem Els2.sub {m m' : Mode M} (h : Sub m m') {S H : Hp} {vs : List V} {ds : List D} {G : Foot} (e : ElsF (fun m => Mode.fam m) S H [fz, m] vs ds G) : ElsF (fun m => Mode.fam m) S H [fz, m'] vs ds G := by
  cases e with
  | cons p t d u =>
    cases t with
    | cons p' t' d' u' =>
      cases t' with
      | nil n => exact .cons p (.cons (h _ _ _ _ _ p') (.nil n) d' u') d u
theorem Sub.pof {m m' : Mode M} (h : Sub m m') : Sub (Pof [fz, m]) (Pof [fz, m']) := by
  rintro v d S H F (q | ⟨p, vs, ds, G, e1, e2, e3, e4, e5, e6⟩)
  · exact .inl q
  · exact .inr ⟨p, vs, ds, G, e1, e2, e3, Els2.sub h e4, e5, e6⟩
def Tn : Nat → Mode M
  | 0 => Scm
  | n + 1 => Pof [fz, Lof (Tn n)]
theorem Tn.up : ∀ n, Sub (Tn (M := M) n) (Tn (n + 1))
  | 0 => fun v d S H F q => .inl ⟨(by cases d <;> first | rfl | cases q.1), q.2.1, q.2.2⟩
  | n + 1 => (Tn.up n).lof.pof
theorem Tn.le {n m : Nat} (h : n ≤ m) : Sub (Tn (M := M) n) (Tn m) := by
  induction h with
  | refl => exact Sub.refl _
  | step _ ih => exact ih.trans (Tn.up _)
def Tro : Mode M where
  fam := fun v d S H F => ∃ n, (Tn n).fam v d S H F
  stb := fun v d S S' H H' F ⟨n, p⟩ e k => ⟨n, (Tn n).stb v d S S' H H' F p e k⟩
  rd := fun ⟨n, p⟩ e => (Tn n).rd p e
  sh := fun ⟨n, p⟩ e a b => (Tn n).sh p e a b
  sc := fun h r n => ⟨0, h, r, n⟩
theorem Tro.of (n : Nat) : Sub (Tn (M := M) n) Tro := fun v d S H F h => ⟨n, h⟩
theorem Tro.unf : Sub (Tro (M := M)) (Pof [fz, Lof Tro]) := fun v d S H F ⟨n, h⟩ => (Tro.of n).lof.pof v d S H F (Tn.up n v d S H F h)
theorem Els.bound {S H : Hp} : ∀ {vs : List V} {ds : List D} {F : Foot}, Els (Tro (M := M)).fam S H vs ds F → ∃ n, Els (Tn (M := M) n).fam S H vs ds F
  | _, _, _, .nil h => ⟨0, .nil h⟩
  | _, _, _, .cons ⟨n, p⟩ t d u => by
    obtain ⟨m, t'⟩ := Els.bound t
    exact ⟨max n m, .cons (Tn.le (Nat.le_max_left n m) _ _ _ _ _ p) (t'.sub fun v d F q => Tn.le (Nat.le_max_right n m) _ _ _ _ _ q) d u⟩
theorem Tro.fold : Sub (Pof [fz, Lof Tro]) (Tro (M := M)) := by
  rintro v d S H F (q | ⟨p, vs, ds, G, e1, e2, e3, e4, e5, e6⟩)
  · exact ⟨1, .inl q⟩
  · cases e4 with
    | cons p1 t d1 u1 =>
      cases t with
      | cons p2 t' d2 u2 =>
        cases t' with
        | nil nn =>
          rcases p2 with q | ⟨p', vs', ds', G', f1, f2, f3, f4, f5, f6⟩
          · exact ⟨1, .inr ⟨p, _, _, G, e1, e2, e3, .cons p1 (.cons (.inl q) (.nil nn) d2 u2) d1 u1, e5, e6⟩⟩
          · obtain ⟨n, f4'⟩ := Els.bound f4
            exact ⟨n + 1, .inr ⟨p, _, _, G, e1, e2, e3, .cons p1 (.cons (.inr ⟨p', vs', ds', G', f1, f2, f3, f4', f5, f6⟩) (.nil nn) d2 u2) d1 u1, e5, e6⟩⟩
end
section
variable {X : Cx} {W : WX} {ms : List (Mode (mdl X))} {e : Expr}
theorem DE.sub {m m' : Mode (mdl X)} (k : Sub m m') {f : DEnv → R D} (h : DE X W ms e m f) : DE X W ms e m' f := by
  obtain ⟨t, pe, h⟩ := h.run
  refine ⟨t, pe, fun σ δ H τ Q st q => h σ δ H τ Q st ?_⟩
  cases z : f δ with
  | ok d δ' =>
    rw [z] at q
    exact fun v H' st' => q v H' (let ⟨S, Γ, a, b⟩ := st'; ⟨S, Γ, a, Holds.imp b (m'.stb v d) fun F p => k v d S H' F p⟩)
  | exc c δ' => rw [z] at q; exact q
  | stuck => rw [z] at q; exact q
end
end DM
set_option maxRecDepth 100000
/-! Data mirror, part 30: a call that only reads; statements that change how a slot is held. -/
namespace DM
open PySem PySem.Spec L2
section
variable {X : Cx} {W : WX} {ms : List (Mode (mdl X))} {mr : Mode (mdl X)} {pn : List Nat} {e : Expr} {pos : Pos}
/-! ### a call that only reads: the whole heap stands still for it -/
/-! ### statements that change how a slot is held -/
structure HS (X : Cx) (W : WX) (ms ms' : List (Mode (mdl X))) (mr : Mode (mdl X)) (pn : List Nat) (st : Stmt) (m : DEnv → SR) : Prop where
  run : ∃ t, PS X st t ∧ ∀ σ δ H τ (D : Ends), StO ms σ δ H τ → PostS W ms' mr pn σ τ D (m δ) → t D σ H
structure HSs (X : Cx) (W : WX) (ms ms' : List (Mode (mdl X))) (mr : Mode (mdl X)) (pn : List Nat) (st : List Stmt) (m : DEnv → SR) : Prop where
  run : ∃ t, PSs X st t ∧ ∀ σ δ H τ (D : Ends), StO ms σ δ H τ → PostS W ms' mr pn σ τ D (m δ) → t D σ H
variable {ms1 ms2 ms3 : List (Mode (mdl X))} {st : Stmt} {rest : List Stmt}
end
end DM
set_option maxRecDepth 100000
/-! Data mirror, part 31: a def that marks each list of a tree of one's own. -/
namespace DM
open PySem PySem.Spec L2
section
variable {X : Cx} {W : WX} {ms : List (Mode (mdl X))} {mr : Mode (mdl X)} {pn : List Nat}
theorem join_some' {δ : DEnv} {i : Nat} {d : D} (h : (δ[i]?).join = some d) : δ[i]? = some (some d) := by
  cases q : δ[i]? with
  | none => rw [q] at h; cases h
  | some o => rw [q] at h; cases o <;> first | (cases h; done) | (cases h; rfl)
/-! ### the call -/
/-! ### a list's items as a piece -/
def EPc (P : V → D → Pc) (vs : List V) (ds : List D) : Pc := fun S H F => Els P S H vs ds F
theorem EPc.stb {P : V → D → Pc} (sb : ∀ v d, Stb (P v d)) (vs : List V) (ds : List D) : Stb (EPc P vs ds) := fun S S' H H' F p e k => p.stay sb e k
def Hd (M : Mdl) (a b : Addr) (vx : V) (vs : List V) (x : D) : Pc := fun S H F => H a = some (.tup [vx, .ref b]) ∧ H b = some (.lst vs) ∧ Rep M S vx x ∧ a ≠ b ∧ ∀ z, F z ↔ z = a ∨ z = b
theorem Hd.stb (M : Mdl) (a b : Addr) (vx : V) (vs : List V) (x : D) : Stb (Hd M a b vx vs x) := fun S S' H H' F p e k =>
  ⟨(k a ((p.2.2.2.2 a).mpr (.inl rfl))).trans p.1, (k b ((p.2.2.2.2 b).mpr (.inr rfl))).trans p.2.1, p.2.2.1.mono e, p.2.2.2.1, p.2.2.2.2⟩
section
variable {M : Mdl} {S H : Hp} {Γ : List Pc} {m : Mode M}
theorem Holds.openT {v : V} {x : D} {xs : List D} (h : Holds S H ((Pof [fz, Lof m]).fam v (.tup [x, .lst xs]) :: Γ)) :
    ∃ a b vx vs, v = .ref a ∧ H a = some (.tup [vx, .ref b]) ∧ H b = some (.lst vs) ∧ vs.length = xs.length ∧ Holds S H (Hd M a b vx vs x :: EPc m.fam vs xs :: Γ) := by
  obtain ⟨U, a, b, c⟩ := h.own
  cases a with
  | cons s q t dj u =>
    rename_i F G0
    obtain ⟨p, vs, G, rfl, e2, e3, nG, u1⟩ := Pof.at q
    cases e3 with
    | cons p1 t1 d1 u11 =>
      cases t1 with
      | cons p2 t2 d2 u2 =>
        cases t2 with
        | nil nn =>
          rename_i vx F1 G1 vy F2 G2
          obtain ⟨b', ws, G', rfl, f2, f3, nG', u3⟩ := Lof.at p2
          have hF1 : ∀ z, ¬ F1 z := p1.2
          have eG : ∀ z, G z ↔ F2 z := fun z => by
            rw [u11 z, u2 z]
            exact ⟨fun y => y.elim (fun w => (hF1 z w).elim) fun w => w.elim id fun w2 => (nn z w2).elim, fun y => .inr (.inl y)⟩
          have nab : p ≠ b' := fun z => nG ((eG p).mpr ((u3 p).mpr (.inl z)))
          refine ⟨p, b', vx, ws, rfl, e2, f2, f3.length, h.ex, U, ?_, b, c⟩
          refine .cons (F := fun z => z = p ∨ z = b') (G := fun z => G' z ∨ G0 z) (Hd.stb _ _ _ _ _ _) ⟨e2, f2, p1.1, nab, fun _ => Iff.rfl⟩ (.cons (EPc.stb m.stb _ _) f3 t (fun z y w => dj z ((u1 z).mpr (.inr ((eG z).mpr ((u3 z).mpr (.inr y))))) w) fun _ => Iff.rfl) (fun z y w => ?_) fun z => ?_
          · rcases w with w | w
            · rcases y with y | y
              · exact nG (y ▸ (eG z).mpr ((u3 z).mpr (.inr w)))
              · exact nG' (y ▸ w)
            · refine dj z ((u1 z).mpr ?_) w
              rcases y with y | y
              · exact .inl y
              · exact .inr ((eG z).mpr ((u3 z).mpr (.inl y)))
          · rw [u z, u1 z, eG z, u3 z]
            constructor
            · rintro ((y | y | y) | y)
              · exact .inl (.inl y)
              · exact .inl (.inr y)
              · exact .inr (.inl y)
              · exact .inr (.inr y)
            · rintro ((y | y) | y | y)
              · exact .inl (.inl y)
              · exact .inl (.inr (.inl y))
              · exact .inl (.inr (.inr y))
              · exact .inr y
theorem Holds.closeT {a b : Addr} {vx : V} {vs : List V} {x : D} {xs : List D} (h : Holds S H (Hd M a b vx vs x :: EPc m.fam vs xs :: Γ)) : Holds S H ((Pof [fz, Lof m]).fam (.ref a) (.tup [x, .lst xs]) :: Γ) := by
  refine (Holds.join h).imp (Mode.stb _ _ _) fun U q => ?_
  obtain ⟨F, G, p, t, n, u⟩ := q
  have na : ¬ G a := n a ((p.2.2.2.2 a).mpr (.inl rfl))
  have nb : ¬ G b := n b ((p.2.2.2.2 b).mpr (.inr rfl))
  refine .inr ⟨a, _, _, fun z => z = b ∨ G z, rfl, rfl, p.1, ?_, ?_, fun z => ?_⟩
  · refine .cons (F := fun _ => False) (G := fun z => z = b ∨ G z) ⟨p.2.2.1, fun _ q => q⟩ (.cons (F := fun z => z = b ∨ G z) (G := fun _ => False) (.inr ⟨b, vs, xs, G, rfl, rfl, p.2.1, t, nb, fun _ => Iff.rfl⟩) (.nil fun _ q => q) (fun _ _ q => q) fun z => ⟨.inl, fun y => y.elim id False.elim⟩) (fun _ q => q.elim) fun z => ⟨.inr, fun y => y.elim False.elim id⟩
  · rintro (y | y)
    · exact p.2.2.2.1 y
    · exact na y
  · rw [u z, p.2.2.2.2 z, or_assoc]
theorem Holds.uncons {P : V → D → Pc} {v : V} {d : D} {vs : List V} {ds : List D} (sb : ∀ v d, Stb (P v d)) (h : Holds S H (EPc P (v :: vs) (d :: ds) :: Γ)) : Holds S H (P v d :: EPc P vs ds :: Γ) := by
  obtain ⟨U, a, b, c⟩ := h.own
  cases a with
  | cons s q t dj u =>
    rename_i F G0
    cases q with
    | cons p1 t1 d1 u1 =>
      rename_i F1 G1
      refine ⟨h.ex, U, .cons (F := F1) (G := fun z => G1 z ∨ G0 z) (sb _ _) p1 (.cons (EPc.stb sb _ _) t1 t (fun z y w => dj z ((u1 z).mpr (.inr y)) w) fun _ => Iff.rfl) (fun z y w => ?_) fun z => ?_, b, c⟩
      · rcases w with w | w
        · exact d1 z y w
        · exact dj z ((u1 z).mpr (.inl y)) w
      · rw [u z, u1 z, or_assoc]
end
end
end DM
set_option maxRecDepth 100000
/-! Data mirror, part 75: trees put together in a list of tuples whose lists hold other tuples of it. -/
namespace DM
open PySem PySem.Spec L2
abbrev Rws := List (Str × List Nat)
section
variable {a : Addr} {R : Rws} {ps qs ps' qs' : List Addr} {S S' H H' : Hp} {F F' : Foot}
variable {Γ : List Pc} {M : Mdl}
end
section
variable {M : Mdl} {S H : Hp} {Γ : List Pc} {a : Addr} {R : Rws} {ps qs : List Addr}
end
end DM
set_option maxRecDepth 100000
/-! Data mirror, part 76: the five rows that put a part more into such a tree. -/
namespace DM
open PySem PySem.Spec L2
section
variable {X : Cx} {W : WX} {ms : List (Mode (mdl X))} {mr : Mode (mdl X)} {pn : List Nat}
end
end DM
set_option maxRecDepth 100000
/-! Data mirror, part 77: such a tree begun, and told at last. -/
namespace DM
open PySem PySem.Spec L2
section
variable {X : Cx} {W : WX} {ms : List (Mode (mdl X))} {mr : Mode (mdl X)} {pn : List Nat}
end
end DM
set_option maxRecDepth 100000
/-! Data mirror, part 78: sep.join(texts). -/
namespace DM
open PySem PySem.Spec L2
def strsOf : List D → Option (List Str)
  | [] => some []
  | .str x :: ds => (strsOf ds).map (x :: ·)
  | _ => none
theorem strsOf_eq : ∀ {ds : List D} {ys : List Str}, strsOf ds = some ys → ds = ys.map D.str
  | [], _, h => by cases h; rfl
  | .str x :: ds, ys, h => by
    unfold strsOf at h
    obtain ⟨zs, e, rfl⟩ := Option.map_eq_some_iff.mp h
    rw [List.map_cons, strsOf_eq e]
  | .non :: _, _, h => by cases h
  | .bl _ :: _, _, h => by cases h
  | .int _ :: _, _, h => by cases h
  | .lst _ :: _, _, h => by cases h
  | .tup _ :: _, _, h => by cases h
  | .dK _ _ :: _, _, h => by cases h
  | .dT _ _ :: _, _, h => by cases h
  | .obj _ _ _ :: _, _, h => by cases h
  | .exn _ :: _, _, h => by cases h
  | .scr _ :: _, _, h => by cases h
  | .gh _ :: _, _, h => by cases h
def joinD (sep : Str) : List D → Option D
  | [.lst ds] => match strsOf ds with
    | some ys => if (ys.map (·.length)).sum + ys.length * sep.length ≤ 16777216 then some (.str (Txt.join sep ys)) else none
    | none => none
  | _ => none
section
variable {X : Cx} {W : WX} {ms : List (Mode (mdl X))} {e : Expr} {es : List Expr} {apos cpos : Pos}
theorem opn_join {m : Mode (mdl X)} (sep : Str) : OpN (mdl X) (fun xs H Q => ∃ a p, ∃ ys : List Str, V.str sep = .str a ∧ xs = [.ref p] ∧ (SqL X.K H p (ys.map V.str) ∨ SqT X.K H p (ys.map V.str)) ∧
    (ys.map (·.length)).sum + ys.length * a.length ≤ 16777216 ∧ Q (.str (Txt.join a ys)) H) [m] fz (joinD sep) := by
  intro S H Γ vs ds d Q ho sn ef k
  unfold joinD at ef
  split at ef
  · rename_i dl
    split at ef
    · rename_i ys hy
      split at ef
      · rename_i hl
        cases ef
        cases sn with
        | cons h t =>
          cases t
          obtain ⟨p, xs, rfl, h1, r1⟩ := h.lst ho.ex
          rw [strsOf_eq hy] at r1
          have := r1.strs
          subst this
          exact ⟨sep, p, ys, rfl, rfl, .inl (SqL.of h1), hl, k _ _ _ (ho.sc fun _ => .str _)⟩
      · cases ef
    · cases ef
  · cases ef
theorem de_join {sep : Str} {k : Nat} {cp : Pos} {m : Mode (mdl X)} {ma : DEnv → R (List Opd)} (ha : DA X W ms (e :: es) [.v m] ma)
    (hbase : attributeBase (.Constant (.str sep) k cp) "join" X.env (eval (.Constant (.str sep) k cp) X.env) = eval (.Constant (.str sep) k cp) X.env := by rfl)
    (hfew : ((backTo cpos (starEach (e :: es) X.env)).all (fun x => !x.1) && (backToKw cpos (keywordEach [] X.env)).all (fun x => x.1.isSome)
      && decide ((e :: es).length + ([] : List Keyword).length + (if ([] : List Keyword).isEmpty then 0 else 1) < 30)) = true := by rfl)
    (hline : (apos.endLine == cpos.line) = true := by rfl) (hs : starEach (e :: es) X.env = (false, eval e X.env) :: starEach es X.env := by rfl) (hplain : (backTo cpos (starEach es X.env)).any (·.1) = false := by rfl) :
    DE X W ms (.Call (.Attribute (.Constant (.str sep) k cp) "join" apos) (e :: es) [] cpos) fz (mOpN ma (joinD sep)) := by
  obtain ⟨t, pa, ka⟩ := ha.run
  refine ⟨_, pe_bm PySem.F.plainAttrs_str PySem.F.slot_str_join PySem.F.type_str_join mt_join pe_str pa hbase hfew hline hs hplain, fun σ δ H τ Q st q => ?_⟩
  exact ⟨rfl, relN ka (opn_join sep) σ δ H τ Q st q⟩
end
end DM
set_option maxRecDepth 100000
/-! Data mirror, part 88: tuples: enumerate(t), t[a:b], t + u. -/
namespace L2
open PySem PySem.Spec PyProof.Rows HT
set_option maxHeartbeats 1000000 in
theorem meets_enumerate_new1 {v : Value} {o : Obj} {H : Heap → Prop} (B : Begins v o H) :
    Meets (Builtin.«enumerate.__new__» ⟨[.type "enumerate", v], []⟩) (fun _ R s => H s.heap ∧
      R (.ok (.ret (.ref (s.heap.push o).objs.size))) { s with heap := (s.heap.push o).push { cls := .type "enumerate", data := .fields #[.none, .bool false, .ref s.heap.objs.size, rawInt 0, .none, .none] } }) :=
  .of_wp fun prog w A R s h => by
    obtain ⟨hp, g, d, tk, os⟩ := s; obtain ⟨h1, h⟩ := h
    have hsub := sub_enumerate
    have q1 : ∀ {A' : Around} {E : Value → Shared → Prop} {Q : Value → Shared → Prop}, Q (.ref hp.objs.size) ⟨hp.push o, g, d, tk, os⟩ → wpAny (model prog w) A' (pyIter v) Q E ⟨hp, g, d, tk, os⟩ :=
      fun q => B.iter prog w _ _ ⟨hp, g, d, tk, os⟩ _ h1 q
    wp_walk using q1
    refine wpAny_stack_any fun st => wpAny_pure ?_
    split
    · rename_i c _ _ _ _ _
      cases (c == Value.type "enumerate")
      · wp_walk using q1
        exact ⟨_, rfl, h⟩
      · wp_walk using q1
        exact ⟨_, rfl, h⟩
    · wp_walk using q1
      exact ⟨_, rfl, h⟩
section
variable {prog : Program} {w : World} {A : Around} {E : Value → Shared → Prop} {s : Shared}
theorem call_enum1 {v : Value} {o : Obj} {H : Heap → Prop} {Q : Value → Shared → Prop} (B : Begins v o H) (h1 : H s.heap)
    (h : ∀ h', IsEnum h' (s.heap.objs.size + 1) s.heap.objs.size 0 .none → h'.get? s.heap.objs.size = some o → h'.objs.size = s.heap.objs.size + 2 →
      (∀ b o, s.heap.get? b = some o → h'.get? b = some o) → Q (.ref (s.heap.objs.size + 1)) { s with heap := h' }) :
    wpAny (model prog w) A (call (.type "enumerate") [v]) Q E s := by
  refine callType_new F.called_enumerate (by decide) (F.typeCall_enumerate_1 _) (F.newCall_enumerate_1 _) (fun obj => F.args_object_init_2 obj _) F.entry_enumerate_new
    (meets_enumerate_new1 B) ⟨h1, ?_⟩
  have hz : (s.heap.push o).objs.size = s.heap.objs.size + 1 := Heap.size_push ..
  show _ ∧ _
  rw [hz]
  have he : IsEnum ((s.heap.push o).push { cls := .type "enumerate", data := .fields #[.none, .bool false, .ref s.heap.objs.size, rawInt 0, .none, .none] }) (s.heap.objs.size + 1) s.heap.objs.size 0 .none := by
    have := Heap.get?_push_size (s.heap.push o) (o := { cls := .type "enumerate", data := .fields #[.none, .bool false, .ref s.heap.objs.size, rawInt 0, .none, .none] }) rfl
    rw [hz] at this; exact this
  refine ⟨⟨_, he, rfl⟩, h _ he (Heap.get?_push_of_some _ (Heap.get?_push_size _ B.free)) (by rw [Heap.size_push, hz]) fun b o x => Heap.get?_push_of_some _ (Heap.get?_push_of_some _ x)⟩
end
section
variable {prog : Program} {w : World} {A : Around} {E : Value → Shared → Prop} {s : Shared}
end
end L2
namespace DM
open PySem PySem.Spec L2
section
variable {X : Cx} {W : WX} {ms : List (Mode (mdl X))} {a : Expr} {tg : Expr} {p pos : Pos}
def enumTD : D → Option (List D)
  | .tup ds => some (enumFrom 0 ds)
  | _ => none
@[simp] theorem enumTD_t (ds : List D) : enumTD (.tup ds) = some (enumFrom 0 ds) := rfl
/-! ### t[a:b] -/
/-! ### t + u -/
def addTD : D → D → Option D
  | .tup xs, .tup ys => if xs.length + ys.length ≤ sizeLine then some (.tup (xs ++ ys)) else none
  | _, _ => none
@[simp] theorem addTD_t (xs ys : List D) : addTD (.tup xs) (.tup ys) = if xs.length + ys.length ≤ sizeLine then some (.tup (xs ++ ys)) else none := rfl
theorem op2_catT {m1 m2 : Mode (mdl X)} (f1 : Flat m1) (f2 : Flat m2) : Op2 (mdl X) (L2.rCatA X.K) m1 m2 fz addTD := by
  intro S H Γ x y a b d Q ho s1 s2 e k
  unfold addTD at e
  split at e
  · rename_i xs ys
    split at e
    · rename_i hl
      cases e
      have r1 : Rep (mdl X) S x (.tup xs) := by
        obtain ⟨F, pp⟩ := id s1
        rcases f1.get pp with r | r
        · exact r
        · exact r.elim
      have r2 : Rep (mdl X) S y (.tup ys) := by
        obtain ⟨F, pp⟩ := id s2
        rcases f2.get pp with r | r
        · exact r
        · exact r.elim
      obtain ⟨p, vs, rfl, h1, q1⟩ := s1.tupF f1 ho.ex
      obtain ⟨q, ws, rfl, h2, q2⟩ := s2.tupF f2 ho.ex
      refine ⟨p, q, vs, ws, rfl, rfl, h1, h2, by rw [q1.length, q2.length]; exact hl, fun hz => ?_, fun _ hz => ?_, fun _ _ n hn => k _ _ _ (ho.newT hn (q1.append q2))⟩
      · subst hz
        cases q1
        exact k _ S H (ho.addFz r2)
      · subst hz
        cases q2
        rw [List.append_nil] at k
        exact k _ S H (ho.addFz r1)
    · cases e
  · cases e
end
end DM
set_option maxRecDepth 100000
/-! Data mirror, part 32: the loop that marks the children; a place within a tuple of one's own. -/
namespace DM
open PySem PySem.Spec L2
section
variable {X : Cx} {W : WX} {ms : List (Mode (mdl X))} {mr : Mode (mdl X)} {pn : List Nat}
/-! ### a place within a tuple of one's own -/
end
end DM
set_option maxRecDepth 100000
/-! Data mirror, part 33: the marking def as a whole. -/
namespace DM
open PySem PySem.Spec L2
section
variable {P : Program} {w : World} {K : PySem.W.Frag} {mg : Str → Option Value} {base : Heap}
end
end DM
set_option maxRecDepth 100000
/-! Plain Lean, part 37: what repr shows. -/
namespace DM
open PySem PySem.Spec PyProof.Rows L2
end DM
set_option maxRecDepth 100000
/-! Plain Lean, part 40: data of any kind that may be shown, how heavy and how deep. -/
namespace DM
open PySem PySem.Spec PyProof.Rows L2
/-! ### what a tree is -/
/-! ### how many tuples -/
end DM
set_option maxRecDepth 100000
/-! Plain Lean, part 42: more on lists of trees. -/
namespace DM
open PySem PySem.Spec L2
theorem sumD_ints (ns : List Int) : sumD [.lst (ns.map D.int)] = some (.int ns.sum) := by
  have : ∀ ns : List Int, intsOf (ns.map D.int) = some ns := fun ns => by
    induction ns with
    | nil => rfl
    | cons n ns ih =>
      rw [List.map_cons, intsOf, ih]
      rfl
  show (intsOf (ns.map D.int)).map _ = _
  rw [this]
  rfl
end DM
set_option maxRecDepth 100000
/-! Plain Lean, part 43: things put at spots, none within another: sets of things, spot by spot. -/
namespace DM
inductive Rch (n K : Nat) (beh : Nat → Nat) (A : Nat → Nat → Prop) (ord : Prop) : Nat → Nat → Prop
  | z : Rch n K beh A ord 0 0
  | skip {a m : Nat} : a < n → Rch n K beh A ord a m → Rch n K beh A ord (a + 1) m
  | put {a m k : Nat} : a < n → k < K → A a k → Rch n K beh A ord a m → m.testBit k = false → (ord → m = 2 ^ k - 1) → Rch n K beh A ord (beh a) (m ||| 2 ^ k)
section
variable {n K : Nat} {beh : Nat → Nat} {A : Nat → Nat → Prop} {ord : Prop}
end
end DM
set_option maxRecDepth 100000
/-! Plain Lean, part 44: parts by number, spots, and where a tree lies. -/
namespace DM
def T.letter : T → Nat
  | .node x _ => x
def T.subs : T → List T
  | .node _ cs => cs
def T.siz (g : T) (v : Nat) : Nat := ((g.parts[v]?).map T.size).getD 0
def T.en (g : T) (v : Nat) : Nat := v + g.siz v
def T.kds (g : T) (v : Nat) : List Nat := match g.parts[v]? with
  | some p => T.starts (v + 1) p.subs
  | none => []
def T.lett (g : T) (v : Nat) : Option Nat := (g.parts[v]?).map T.letter
section
variable {g p : T} {v u : Nat}
end
/-! ### spots -/
def T.spots (g : T) (far : Bool) (v : Nat) : List Nat := if far = true then List.range' (v + 1) (g.en v - (v + 1)) else g.kds v
section
variable {g : T} {v u : Nat} {far hp : Bool}
end
/-! ### where a tree lies -/
def Apt (g : T) (hp : Bool) (o u : Nat) : Prop := g.en o ≤ u ∨ (hp = true ∧ g.en u ≤ o)
def Okim (g : T) (far hp : Bool) (v : Nat) (us : List Nat) : Prop := (∀ u ∈ us, u ∈ g.spots far v) ∧ us.Pairwise (Apt g hp)
mutual
def Lies (g : T) (far hp : Bool) : T → Nat → Prop
  | .node x cs, v => g.lett v = some x ∧ ∃ us, Okim g far hp v us ∧ Liess g far hp cs us
def Liess (g : T) (far hp : Bool) : List T → List Nat → Prop
  | [], us => us = []
  | c :: cs, us => ∃ u vs, us = u :: vs ∧ Lies g far hp c u ∧ Liess g far hp cs vs
end
section
variable {g : T} {far hp : Bool} {v : Nat}
end
end DM
set_option maxRecDepth 100000
/-! Plain Lean, part 45: the sets as lists, what is known as a table. -/
namespace DM
open PySem PySem.Spec L2
noncomputable def pb (p : Prop) : Bool := @decide p (Classical.propDecidable p)
/-! ### sets in a row -/
def Mem (KS : List (List Nat)) (j m : Nat) : Prop := ∃ ms, KS[j]? = some ms ∧ m ∈ ms
structure FI (n K : Nat) (beh : Nat → Nat) (A : Nat → Nat → Prop) (ord : Prop) (a : Nat) (KS : List (List Nat)) : Prop where
  len : KS.length = n + 1
  nd : ∀ ms ∈ KS, ms.Nodup
  snd : ∀ j m, Mem KS j m → Rch n K beh A ord j m
  zero : Mem KS 0 0
  cl : ∀ a', a' < a → ∀ m, Mem KS a' m → Mem KS (a' + 1) m ∧ ∀ k, k < K → A a' k → m.testBit k = false → (ord → m = 2 ^ k - 1) → Mem KS (beh a') (m ||| 2 ^ k)
section
variable {n K : Nat} {beh : Nat → Nat} {A : Nat → Nat → Prop} {ord : Prop} {a : Nat} {KS : List (List Nat)}
end
/-! ### as data -/
structure Known (l g : T) (far hp : Bool) (d : D) : Prop where
  ex : ∃ ps : List (Nat × Nat), d = .dT (ps.map fun p => [.inl (p.1 : Int), .inl (p.2 : Int)]) (ps.map fun p => .bl (pb (∃ t, l.parts[p.1]? = some t ∧ Lies g far hp t p.2))) ∧ ps.Nodup ∧ ∀ p ∈ ps, p.1 < l.size ∧ p.2 < g.size
section
variable {l g : T} {far hp : Bool} {d : D} {i v : Nat}
end
end DM
set_option maxRecDepth 100000
/-! Data mirror, part 91: a def that lists the very parts of a tree. -/
namespace DM
open PySem PySem.Spec L2
inductive PV (H : Hp) : V → T → List V → Prop
  | mk {p b : Addr} {vx : V} {ws : List V} {vss : List (List V)} {x : Nat} {cs : List T} (h1 : H p = some (.tup [vx, .ref b])) (h2 : H b = some (.lst ws)) (h3 : ws.length = cs.length) (h4 : vss.length = cs.length) (h5 : ∀ (j : Nat) (w : V) (c : T) (us : List V), ws[j]? = some w → cs[j]? = some c → vss[j]? = some us → PV H w c us) : PV H (.ref p) (.node x cs) (.ref p :: vss.flatten)
section
variable {M : Mdl} {S H H' : Hp} {Γ : List Pc} {v : V} {t : T} {us : List V}
end
/-! ### the def -/
section
variable {P : Program} {w : World} {K : PySem.W.Frag} {mg : Str → Option Value} {base : Heap}
end
end DM
set_option maxRecDepth 100000
/-! Data mirror, part 92: a list of children of a tree of one's own, come to by a def that lists the very parts. -/
namespace DM
open PySem PySem.Spec L2
section
variable {M : Mdl} {S H : Hp}
end
section
variable {X : Cx} {W : WX} {ms : List (Mode (mdl X))} {mr : Mode (mdl X)} {pn : List Nat}
end
end DM
set_option maxRecDepth 100000
/-! Data mirror, part 93: an item taken out of a list of items of one's own. -/
namespace DM
open PySem PySem.Spec L2
section
variable {M : Mdl} {S H : Hp} {Γ : List Pc} {m : Mode M}
end
section
variable {X : Cx}
end
end DM
set_option maxRecDepth 100000
/-! Data mirror, part 94: a call that only reads, and answers with data of its own or an exception. -/
namespace DM
open PySem PySem.Spec L2
section
variable {M : Mdl}
end
section
variable {X : Cx} {W : WX} {ms : List (Mode (mdl X))} {mr : Mode (mdl X)} {pn : List Nat} {e : Expr} {pos : Pos}
end
end DM
set_option maxRecDepth 100000
/-! Data mirror, part 95: for a, b in zip(xs, ys); a dict written with three entries. -/
namespace DM
open PySem PySem.Spec L2
section
variable {X : Cx} {W : WX} {ms : List (Mode (mdl X))} {mr : Mode (mdl X)} {pn : List Nat}
end
end DM
set_option maxRecDepth 100000
/-! Data mirror, part 96: a list of a dict of one's own and a text, unpacked; xs.index(k). -/
namespace DM
open PySem PySem.Spec L2
section
variable {X : Cx} {W : WX} {ms : List (Mode (mdl X))} {mr : Mode (mdl X)} {pn : List Nat}
end
end DM
set_option maxRecDepth 100000
/-! Plain Lean, part 46: bits of numbers, comprehensions whose condition changes the state. -/
namespace DM
open PySem PySem.Spec L2
/-! ### comprehensions -/
theorem rest_self {δ δ' : DEnv} {i : Nat} {o : Option D} (h : δ[i]? = some o) : restD δ [i] δ' = δ'.set i o := by
  show δ'.set i ((δ[i]?).join) = _
  rw [h]
  rfl
theorem lc1g {src : Src} {cond : DEnv → R Bool} {elt : DEnv → R D} {i : Nat} {o : Option D} {δ : DEnv} {xs : List D} {p : D → Bool} {g : D → D} (hs : src δ = .ok (xs, some) δ) (hl : xs.length ≤ sizeLine) (h : δ[i]? = some o)
    (hc : ∀ d ∈ xs, cond (δ.set i (some d)) = .ok (p d) (δ.set i (some d))) (he : ∀ d ∈ xs, p d = true → elt (δ.set i (some d)) = .ok (g d) (δ.set i (some d))) : mLc src (tName i) cond elt [i] δ = .ok (.lst ((xs.filter p).map g)) δ := by
  have hi := (List.getElem?_eq_some_iff.mp h).1
  have e0 : (δ.set i none)[i]? = some none := List.getElem?_set_self hi
  rw [mLc_e, hs, R.bind_ok, if_pos hl]
  show (dLc (tName i) cond elt [i] xs (δ.set i none)).bind _ = _
  rw [dLc_pure e0 xs (fun d hd => by rw [List.set_set]; exact hc d hd) (fun d hd hp => by rw [List.set_set]; exact he d hd hp), R.bind_ok, finLc_e, rest_self h, List.set_set, set_self h]
theorem filter_intsD {S : List Nat} {p : D → Bool} {q : Nat → Bool} (h : ∀ k ∈ S, p (.int (k : Int)) = q k) : (intsD S).filter p = intsD (S.filter q) := by
  unfold intsD
  induction S with
  | nil => rfl
  | cons s S ih =>
    have hs := h s (List.mem_cons_self ..)
    have ih := ih fun k hk => h k (List.mem_cons_of_mem _ hk)
    rw [List.map_cons]
    cases hp : q s with
    | true => rw [List.filter_cons_of_pos (by rw [hs]; exact hp), List.filter_cons_of_pos hp, List.map_cons, ih]
    | false => rw [List.filter_cons_of_neg (by rw [hs, hp]; simp), List.filter_cons_of_neg (by rw [hp]; simp), ih]
theorem intsD_len (ks : List Nat) : (intsD ks).length = ks.length := by unfold intsD; rw [List.length_map]
theorem intsD_at {ks : List Nat} {k : Nat} (h : k < ks.length) : ixD (.lst (intsD ks)) (.int (k : Int)) = some (.int ((ks[k] : Nat) : Int)) := by
  rw [ixD_l, atI_nat (by rw [intsD_len]; exact h)]
  unfold intsD
  rw [List.getElem?_map, List.getElem?_eq_getElem h]
  rfl
theorem intsD_mem {ks : List Nat} {d : D} (h : d ∈ intsD ks) : ∃ k, k ∈ ks ∧ d = .int (k : Int) := by
  unfold intsD at h
  rw [List.mem_map] at h
  obtain ⟨k, a, b⟩ := h
  exact ⟨k, a, b.symm⟩
section
variable {KS : List (List Nat)} {j r x : Nat} {z : Int} {δ : DEnv} {m i : DEnv → R D}
end
/-! ### what is known, put again -/
section
variable {l g : T} {far hp : Bool} {d : D} {i v : Nat}
end
end DM
set_option maxRecDepth 100000
/-! Data mirror, part 100: what is no object, held as an object would be. -/
namespace DM
open PySem PySem.Spec L2
section
variable {X : Cx} {W : WX} {ms : List (Mode (mdl X))} {mr : Mode (mdl X)} {pn : List Nat}
end
/-! ### a, b = x, y -/
section
variable {X : Cx} {W : WX} {ms : List (Mode (mdl X))} {mr : Mode (mdl X)} {pn : List Nat}
end
end DM
set_option maxRecDepth 100000
/-! Data mirror, part 103: short forms of much used steps. -/
namespace DM
open PySem PySem.Spec L2
section
variable {X : Cx} {W : WX} {ms : List (Mode (mdl X))}
theorem de_v (i : Nat) {x : Str} {pos : Pos} (hN : X.N[i]? = some x := by rfl) (hv : Vis X.env.scope x := by first | exact Or.inl rfl | exact Or.inr (Or.inl rfl) | exact Or.inr (Or.inr rfl)) (hd : (x == ("__debug__" : Str)) = false := by decide)
    (hcd : (x == ("__classdict__" : Str)) = false := by decide) (hm : ms[i]? = some fz := by rfl) : DE X W ms (.Name x pos) fz (mVar i) := de_var (pe_var hN hv hd hcd) hm
theorem dv (i : Nat) {x : Str} {pos : Pos} (hN : X.N[i]? = some x := by rfl) (hv : Vis X.env.scope x := by first | exact Or.inl rfl | exact Or.inr (Or.inl rfl) | exact Or.inr (Or.inr rfl)) (hd : (x == ("__debug__" : Str)) = false := by decide)
    (hcd : (x == ("__classdict__" : Str)) = false := by decide) (hm : ms[i]? = some fz := by rfl) : DO X W ms (.Name x pos) (.v fz) (oV (mVar i)) := DE.op (de_var (pe_var hN hv hd hcd) hm)
theorem dsl (i : Nat) {x : Str} {pos : Pos} (hN : X.N[i]? = some x := by rfl) (hv : Vis X.env.scope x := by first | exact Or.inl rfl | exact Or.inr (Or.inl rfl) | exact Or.inr (Or.inr rfl)) (hd : (x == ("__debug__" : Str)) = false := by decide)
    (hcd : (x == ("__classdict__" : Str)) = false := by decide) : DO X W ms (.Name x pos) (.s i) (oS i) := do_s (pe_var hN hv hd hcd)
theorem dki {i : Int} {j pos} : DE X W ms (.Constant (.int i) j pos) fz (mC (.int i)) := de_c pe_int fun _ => .int _
theorem dks {x : Str} {j pos} : DE X W ms (.Constant (.str x) j pos) fz (mC (.str x)) := de_c pe_str fun _ => .str _
theorem dkb {b : Bool} {j pos} : DE X W ms (.Constant (.bool b) j pos) fz (mC (.bl b)) := de_c pe_bl fun _ => .bl _
theorem dkn {j pos} : DE X W ms (.Constant .none j pos) fz (mC .non) := de_c pe_non fun _ => .non
theorem doi {i : Int} {j pos} : DO X W ms (.Constant (.int i) j pos) (.v fz) (oV (mC (.int i))) := DE.op dki
theorem dos {x : Str} {j pos} : DO X W ms (.Constant (.str x) j pos) (.v fz) (oV (mC (.str x))) := DE.op dks
def AllFz {M : Mdl} : List (Mode M) → Prop
  | [] => True
  | q :: qs => q = fz ∧ AllFz qs
theorem AllFz.all {M : Mdl} : ∀ {qs : List (Mode M)}, AllFz qs → ∀ q ∈ qs, q = fz
  | [], _, q, h => by cases h
  | p :: qs, ⟨a, b⟩, q, h => by
    rcases List.mem_cons.mp h with rfl | h
    · exact a
    · exact AllFz.all b q h
theorem de_tp {es : List Expr} {x1 : Nat} {pos : Pos} {ks : List (Kd (mdl X))} {m : DEnv → R (List Opd)} (h : DA X W ms es ks m) (hk : AllFz (ks.map (Kd.mode ms)) := by repeat' constructor) : DE X W ms (.Tuple es x1 pos) fz (mTup m) := de_tup h hk.all
theorem de_ls {es : List Expr} {pos : Pos} {ks : List (Kd (mdl X))} {m : DEnv → R (List Opd)} (h : DA X W ms es ks m) (hk : AllFz (ks.map (Kd.mode ms)) := by repeat' constructor) : DE X W ms (.List es pos) (Lof fz) (mLst m) := de_lst h hk.all
theorem dix {a b : Expr} {pos : Pos} {k1 k2 : Kd (mdl X)} {ma mb : DEnv → R Opd} (ha : DO X W ms a k1 ma) (hb : DO X W ms b k2 mb) (h1 : k1.mode ms = fz := by rfl) (hs : PlainIx b := by exact fun _ _ => rfl) : DE X W ms (.Subscript a b pos) fz (mOp2 ma mb ixD) := by
  refine de_ix ix_seq ha hb (op2_ix ?_) hs
  rw [h1]
  exact flat_fz
end
section
variable {P : Program} {w : World} {K : PySem.W.Frag} {mg : Str → Option Value} {base : Heap}
theorem mkSc {N P : List Str} {sc : Scope} (h1 : sc.kind = .function := by rfl) (h2 : sc.isCoroutine = false := by rfl) (h3 : sc.isGenerator = false := by rfl) (h4 : N.Nodup := by decide +kernel) (h5 : N.take P.length = P := by rfl) (h6 : ∀ x ∈ P, sc.names.lookup x = some .local ∨ sc.names.lookup x = some .cell := by decide +kernel) (h7 : ∀ y ∈ sc.names, y.2 ≠ .free := by decide +kernel) : FnScope N P sc := ⟨h1, h2, h3, h4, h5, h6, h7⟩
theorem fnL {x qual : Str} {st : Stmt} {f : Addr} {fd : FuncData} {N ps : List Str} {k : Nat} (sg : Sig ⟨K, mg⟩) (ext ms : List (Mode ⟨K, mg⟩)) (mr : Mode ⟨K, mg⟩) (pn : List Nat) (n : Nat) {io : List Bool} {body : DEnv → SR} (F : Fun K x qual st f fd) (S : FnScope N ps (defScope st))
    (hb : ∀ (cdv : Value) (A : Around) (outer : List PySem.Env) (s : Shared) (H : Hp) (E : XK), RoomG (k + 1) (A.deeper (PyProof.Rows.envOfC qual (defScope st) s.heap.objs.size f cdv)) → RoomG k (A.deeper (PyProof.Rows.envOfC qual (defScope st) s.heap.objs.size f cdv)) → N.Nodup → Takes (cxOf (L2.CX P w) P w K mg base N qual (defScope st) f cdv A outer s H E) (fun cls d _ H => E cls d H) →
      PassesOwn (model P w) (cxOf (L2.CX P w) P w K mg base N qual (defScope st) f cdv A outer s H E).A (cxOf (L2.CX P w) P w K mg base N qual (defScope st) f cdv A outer s H E).env (cxOf (L2.CX P w) P w K mg base N qual (defScope st) f cdv A outer s H E).xe →
      DSs (cxOf (L2.CX P w) P w K mg base N qual (defScope st) f cdv A outer s H E) (fun cls d _ H => E cls d H) ms mr pn (defBody st) body)
    (hl : ps.length = sg.ps.length := by rfl) (hio : sg.io.length = sg.ps.length := by rfl) (hN : N.length = ps.length + ext.length := by rfl) (hms : sg.ps ++ ext = ms := by rfl) (hmr : sg.rm = mr := by rfl) (hpn : pnOf 0 sg.io = pn := by rfl) (hn : ext.length = n := by rfl) (hi : sg.io = io := by rfl) :
    FnOkG P w K mg base (L2.CX P w) (k + 2) f fd ps (spD sg (mkF n io body)) :=
  fn_okL (k := k + 1) sg ext ms mr pn n F S hl hio hN hms hmr hpn hn hi fun cdv A outer s H E hr tk hp => hb cdv A outer s H E hr (hr.mono (Nat.le_succ _)) S.nd tk hp
end
def FR0 (K : PySem.W.Frag) (nm : Str) (st : Stmt) (f : Addr) : Prop := PySem.W.nsIn K mainGlobals nm = some (some (.ref f)) ∧ ∃ fd, Fun K nm nm st f fd
def FR1 (K : PySem.W.Frag) (C : Addr) (m q : Str) (st : Stmt) (f : Addr) : Prop := (PySem.W.findIn K (.ref C) m = some (some (.ref f)) ∧ PySem.W.isFn K (.ref f) = true ∧ PySem.W.keepIn K (.ref f) = true) ∧ ∃ fd, Fun K m q st f fd
section
variable {K : PySem.W.Frag} {f : Addr} {oc : Value} {od an : Option Addr} {osl : Array (Option Value)} {kV doc pm cdv ct : Value} {x q : Str} {st : Stmt} {C : Addr}
theorem fr0 (a : PySem.W.nsIn K mainGlobals x = some (some (.ref f))) (l : K.lookup f = some ⟨oc, od, .func (PySem.W.fnOf x x (defArgs st) (defBody st) (defScope st) .none kV doc pm an cdv ct), osl⟩) (c : PySem.W.codeIn K cdv x = true) (k : PySem.W.keepIn K (.ref f) = true) : FR0 K x st f := ⟨a, _, fun_mk l c k⟩
theorem FR0.hf {h : Heap} {mg : Str → Option Value} {ps : List Str} (r : FR0 K x st f) (X : K.In h) (G : h.Ns mainGlobals mg) (hb : ∀ fd, Fun K x x st f fd → Binds K fd ps []) : ∃ f fd, mg x = some (.ref f) ∧ PySem.W.keepIn K (.ref f) = true ∧ Binds K fd ps [] ∧ Fun K x x st f fd := by
  obtain ⟨a, fd, F⟩ := r
  exact ⟨f, fd, PySem.W.mg_of X G a, F.2, hb fd F, F⟩
theorem FR1.hf {ps : List Str} (r : FR1 K C x q st f) (hb : ∀ fd, Fun K x q st f fd → Binds K fd ps []) : ∃ f fd, Meth K C x f ∧ Binds K fd ps [] ∧ Fun K x q st f fd := by
  obtain ⟨⟨a, i, k⟩, fd, F⟩ := r
  exact ⟨f, fd, ⟨a, i, k⟩, hb fd F, F⟩
theorem FR1.hi {ps : List Str} (r : FR1 K C "__init__" q st f) (mk : PySem.W.makesIn K C = true) (kc : PySem.W.keepIn K (.ref C) = true) (hb : ∀ fd, Fun K "__init__" q st f fd → Binds K fd ps []) : ∃ f fd, Mk K C f ∧ Binds K fd ps [] ∧ Fun K "__init__" q st f fd := by
  obtain ⟨⟨a, i, k⟩, fd, F⟩ := r
  exact ⟨f, fd, ⟨mk, a, i, kc⟩, hb fd F, F⟩
end
end DM
set_option maxRecDepth 100000
/-! Data mirror, part 101: a tree of one's own taken apart: its lists of children, changed one by one. -/
namespace DM
open PySem PySem.Spec L2
def Ol (p : Addr) (vs : List V) : Pc := fun S H F => H p = some (.lst vs) ∧ ∀ a, F a ↔ a = p
theorem Ol.stb (p : Addr) (vs : List V) : Stb (Ol p vs) := fun S S' H H' F ⟨a, b⟩ ex k => ⟨(k _ ((b _).mpr rfl)).trans a, b⟩
section
variable {M : Mdl} {S H : Hp}
theorem Holds.exGrow {H' : Hp} {Γ : List Pc} (h : Holds S H Γ) (ex : Ex H H') : Holds S H' Γ :=
  h.grow (Ex.refl S) (h.ex.trans ex) (fun a q => by
    cases zz : H a with
    | none => exact absurd zz q
    | some o => exact ex a o zz) fun a q1 q2 => absurd q2 q1
end
theorem Sl.none1 {M : Mdl} {ms : List (Mode M)} {σ : L2.St} {δ : DEnv} {Γ : List Pc} (h : Sl ms σ δ Γ) (i : Nat) : ∃ Γ' Δ, Γ.Perm (Δ ++ Γ') ∧ Sl ms σ (δ.set i none) Γ' := by
  obtain ⟨Γ', Δ, p, s⟩ := h.clear i ((σ[i]?).join)
  have e : σ.set i ((σ[i]?).join) = σ := by
    by_cases hi : i < σ.length
    · rw [List.getElem?_eq_getElem hi]
      exact List.set_getElem_self hi
    · exact List.set_eq_of_length_le (by omega)
  rw [e] at s
  exact ⟨Γ', Δ, p, s⟩
/-! ### for tree in trees: for part in F(tree): part[1].append((c, [])) -/
section
variable {X : Cx} {W : WX} {ms : List (Mode (mdl X))} {mr : Mode (mdl X)} {pn : List Nat}
end
end DM
set_option maxRecDepth 100000
/-! Data mirror, part 102: the lists of children of a tree of one's own, all told, their sizes, each one item longer, their sizes again. -/
namespace DM
open PySem PySem.Spec L2
theorem ifF {H : Hp} {A B : Hp → Prop} (h : B H) : (fun (b : Bool) H1 => if b = true then A H1 else B H1) false H := by
  show (if false = true then A H else B H)
  rw [if_neg (by decide)]
  exact h
section
variable {S H : Hp}
theorem Holds.olSet {p : Addr} {vs ws : List V} {Γ : List Pc} (h : Holds S H (Ol p vs :: Γ)) : Holds S (upd H p (.lst ws)) (Ol p ws :: Γ) := by
  refine Holds.change (P := Ol p vs) h (Ol.stb _ _) fun F q n s => ⟨F, ⟨upd_same, q.2⟩, fun a q => .inl q, fun a q1 => ?_, fun a q1 _ => upd_ne fun z => q1 ((q.2 a).mpr z)⟩
  by_cases ha : a = p
  · rw [ha, upd_same]; simp
  · rw [upd_ne ha]; exact s a q1
theorem Holds.ol {p : Addr} {vs : List V} {Γ : List Pc} (h : Holds S H Γ) (m : Ol p vs ∈ Γ) : H p = some (.lst vs) := by
  obtain ⟨F, g, _⟩ := h.mem m
  exact g
end
section
variable {X : Cx} {W : WX} {ms : List (Mode (mdl X))} {mr : Mode (mdl X)} {pn : List Nat}
end
end DM
set_option maxRecDepth 100000
/-! Data mirror, part 107: enumerate(text). -/
namespace L2
open PySem PySem.Spec PyProof.Rows HT
def IteS (x : Str) : It :=
  ⟨fun i H => ∃ c, x.cps[i]? = some c, fun i H v H' => ∃ T c, v = .ref T ∧ H T = none ∧ H' = upd H T (.tup [.int (i : Nat), .str ⟨#[c]⟩]) ∧ x.cps[i]? = some c, fun i H => x.cps.size ≤ i⟩
theorem turn_enumS {P : Program} {w : World} {K : PySem.W.Frag} {elts : List Expr} {kk : Nat} {tpos : Pos} (x : Str) (tk0 : Tok) (e it : Addr) :
    Turn P w K (.Tuple elts kk tpos) (IteS x) [e, it] e (fun i h => (∃ old, IsEnum h e it ((i : Nat) : Int) old) ∧ h.IsStrIter it (strIterType x) x tk0 i ∧ e ≠ it ∧ i ≤ x.cps.size) where
  mem := by simp
  obj := fun i h st b hb => by
    obtain ⟨⟨old, he⟩, ⟨o, ho, hc, hd⟩, _⟩ := st
    have e' : b = e ∨ b = it := by simpa using hb
    rcases e' with z | z
    · rw [z]; exact ⟨_, he, fun v q => nomatch q⟩
    · rw [z]; exact ⟨o, ho, fun v q => by rw [hd] at q; cases q⟩
  keep := fun i h h' st k => by
    obtain ⟨⟨old, he⟩, ⟨o, ho, hc, hd⟩, hne, hle⟩ := st
    exact ⟨⟨old, k e (by simp) _ he⟩, ⟨o, k it (by simp) _ ho, hc, hd⟩, hne, hle⟩
  item := by
    intro X hP hw hK hc i pins s σ H E I hf st hg
    subst hP hw hK
    obtain ⟨⟨old, he⟩, hit, hne, hle⟩ := st
    obtain ⟨c, hx⟩ := hg
    have hel : e < s.heap.objs.size := Heap.lt_size he
    have hil : it < s.heap.objs.size := by obtain ⟨_, q, _⟩ := hit; exact Heap.lt_size q
    have hlen : i < x.cps.size := (Array.getElem?_eq_some_iff.mp hx).1
    refine wpAny_pyNext_enum_itemD (Draws.text (show X.A.in1.handled = none from I.ok.hd hc) it x tk0) he hit hlen hne (fun hm => hne (List.mem_singleton.mp hm)) fun x' h' tk hPx ho hit' hT hsz hk => ?_
    obtain ⟨c', u, hc', rfl⟩ := hPx
    rw [hx] at hc'
    cases hc'
    refine ⟨_, rfl, wpAny_letOwnedTupleGo_enum (s := { s with heap := h', toks := tk + 1 }) ho fun h'' he' sb => ?_⟩
    have hT2 : h''.get? s.heap.objs.size = some { cls := .type "tuple", data := .seq #[.int i tk, .str ⟨#[c]⟩ u] } := (sb.2 _ (Nat.ne_of_gt hel)).trans hT
    have new : ObjOk X.prog X.w (upd H s.heap.objs.size (.tup [.int (i : Nat), .str ⟨#[c]⟩])) h'' s.heap.objs.size (.tup [.int (i : Nat), .str ⟨#[c]⟩]) :=
      ⟨by show 2 ≤ sizeLine; decide, [.int i tk, .str ⟨#[c]⟩ u], .cons ⟨_, rfl⟩ (.cons ⟨_, rfl⟩ .nil), ⟨_, hT2, rfl, _, rfl⟩⟩
    have I1 : Inv X pins σ (upd H s.heap.objs.size (.tup [.int (i : Nat), .str ⟨#[c]⟩])) { s with heap := h'', toks := tk + 1 } :=
      I.turnedNew (ch := [e, it]) (fun b ob hb q => (sb.2 b (fun z => hb (by simp [z]))).trans (hk b ob (fun z => hb (by simp [z])) (fun z => hb (by simp [z])) q)) hf (Nat.le_refl _) new
    obtain ⟨o2, ho2, hc2, hd2⟩ := hit'
    refine ⟨.ref s.heap.objs.size, _, I1, rfl, ⟨_, c, rfl, I.hok.fresh (Nat.le_refl _), rfl, hx⟩, ⟨⟨.str ⟨#[c]⟩ u, ?_⟩, ⟨o2, (sb.2 it (Ne.symm hne)).trans ho2, hc2, hd2⟩, hne, hlen⟩, fun b hb => ?_⟩
    · have e1 : ((i + 1 : Nat) : Int) = (i : Int) + 1 := by omega
      rw [e1]; exact he'
    · have hb' : b < s.heap.objs.size := by
        have e' : b = e ∨ b = it := by simpa using hb
        rcases e' with z | z
        · rw [z]; exact hel
        · rw [z]; exact hil
      rw [upd_ne (Nat.ne_of_lt hb')]
      exact (hf b hb).1
  done := by
    intro X hP hw hK hc i pins s σ H E I hf st hg
    subst hP hw hK
    obtain ⟨⟨old, he⟩, hit, hne, hle⟩ := st
    have hg : x.cps.size ≤ i := hg
    have hi : i = x.cps.size := Nat.le_antisymm hle hg
    subst hi
    obtain ⟨f0, f1, f2, f3, f4, f5⟩ := hf it (by simp)
    exact wpAny_pyNext_enum_endD (Draws.text (show X.A.in1.handled = none from I.ok.hd hc) it x tk0) he hit fun h' eb => ⟨rfl, I.turned (t' := s.toks) (fun b o hb q => eb b o hb q) f0 f1 f3 f4 f5⟩
  self := fun A i s Q E st h => let ⟨⟨_, he⟩, _⟩ := st; wpAny_pyIter_enum he h
def iEnumS (ta : TA) : TI := fun σ H R => ta σ H fun vs H1 => ∃ x, vs = [.str x] ∧ R (IteS x) H1
theorem pi_enumS {X : Cx} {e : Expr} {ta : TA} {p pos tpos : Pos} {elts : List Expr} {kk : Nat} (hg : Gl X "enumerate") (hm : X.mg "enumerate" = none) (ha : PA X [e] ta) (hs : starEach [e] X.env = [(false, eval e X.env)] := by rfl) :
    PI X (.Tuple elts kk tpos) (.Call (.Name "enumerate" p) [e] [] pos) (iEnumS ta) := by
  refine ⟨fun pins s σ H R I h => ?_⟩
  refine Call_ (ld_blt I hg hm boot_enumerate (PyProof.Rows.callWith_type1 (thn (ha.run pos pins s σ H _ I h) fun us s1 ⟨vs, H1, I1, r1, q1⟩ => ?_) hs rfl))
  obtain ⟨x, ex, q⟩ := q1
  subst ex
  cases r1 with
  | cons r rr =>
    cases rr
    obtain ⟨tk0, rfl⟩ := r
    refine call_enum1 (begins_text x tk0) trivial fun h' he hit hsz hk => wpAny_pyIter_enum he ?_
    have I2 : Inv X pins σ H1 { s1 with heap := h' } := I1.kept (t' := s1.toks) hk
    refine ⟨s1.heap.objs.size + 1, [s1.heap.objs.size + 1, s1.heap.objs.size], _, _, H1, rfl, I2, turn_enumS x tk0 (s1.heap.objs.size + 1) s1.heap.objs.size, ⟨⟨.none, he⟩, ⟨_, hit, rfl, rfl⟩, Nat.succ_ne_self _, Nat.zero_le _⟩, fun b hb => ?_, q⟩
    have e' : b = s1.heap.objs.size + 1 ∨ b = s1.heap.objs.size := by simpa using hb
    have hle : s1.heap.objs.size ≤ b := by
      rcases e' with z | z
      · rw [z]; exact Nat.le_add_right _ _
      · rw [z]; exact Nat.le_refl _
    exact I1.fpOk hle (I1.hok.fresh hle)
end L2
set_option maxRecDepth 100000
/-! Data mirror, part 108: lists within lists that grow at the end: pieces of a pile of open lists. -/
namespace DM
open PySem PySem.Spec L2
section
variable {M : Mdl} {S H : Hp} {Γ : List Pc}
theorem datsSnoc (cs : List T) (c : T) : T.dats (cs ++ [c]) = T.dats cs ++ [c.dat] := by
  rw [T.dats_map, T.dats_map, List.map_append]
  rfl
theorem Els.last {P : V → D → Pc} : ∀ {ds : List D} {vs : List V} {d : D} {U : Foot}, Els P S H vs (ds ++ [d]) U → ∃ ws w F G, vs = ws ++ [w] ∧ Els P S H ws ds F ∧ P w d S H G ∧ (∀ a, F a → ¬ G a) ∧ ∀ a, U a ↔ F a ∨ G a
  | [], _, d, U, .cons (v := v) (F := F) p (.nil n) dj u => ⟨[], v, fun _ => False, F, rfl, .nil fun _ h => h, p, fun _ h => h.elim, fun a => (u a).trans ⟨fun q => q.elim .inr fun z => (n a z).elim, fun q => q.elim False.elim .inl⟩⟩
  | e :: ds, _, d, U, .cons (v := v) (F := F) p t dj u => by
    obtain ⟨ws, w, F', G', rfl, e2, e3, e4, e5⟩ := Els.last t
    refine ⟨v :: ws, w, fun a => F a ∨ F' a, G', rfl, .cons p e2 (fun a q z => dj a q ((e5 a).mpr (.inl z))) fun _ => Iff.rfl, e3, fun a q z => ?_, fun a => ?_⟩
    · rcases q with q | q
      · exact dj a q ((e5 a).mpr (.inr z))
      · exact e4 a q z
    · rw [u a, e5 a, or_assoc]
theorem Holds.split2 {P Q : Pc} (sP : Stb P) (sQ : Stb Q) (h : Holds S H (And2 P Q :: Γ)) : Holds S H (P :: Q :: Γ) := by
  obtain ⟨U, a, b, c⟩ := h.own
  cases a with
  | cons s q t dj u =>
    rename_i F0 G0
    obtain ⟨F, G, p1, p2, n, u1⟩ := q
    refine ⟨h.ex, U, .cons (F := F) (G := fun z => G z ∨ G0 z) sP p1 (.cons sQ p2 t (fun z y w => dj z ((u1 z).mpr (.inr y)) w) fun _ => Iff.rfl) (fun z y w => ?_) fun z => ?_, b, c⟩
    · rcases w with w | w
      · exact n z y w
      · exact dj z ((u1 z).mpr (.inl y)) w
    · rw [u z, u1 z, or_assoc]
theorem Holds.lastE {P : V → D → Pc} {vs : List V} {ds : List D} {d : D} (sb : ∀ v d, Stb (P v d)) (h : Holds S H (EPc P vs (ds ++ [d]) :: Γ)) : ∃ ws w, vs = ws ++ [w] ∧ Holds S H (EPc P ws ds :: P w d :: Γ) := by
  obtain ⟨F, q⟩ := h.mem (List.mem_cons_self ..)
  obtain ⟨ws, w, _, _, rfl, e2, _⟩ := Els.last q
  refine ⟨ws, w, rfl, Holds.split2 (EPc.stb sb _ _) (sb _ _) (h.imp (And2.stb (EPc.stb sb _ _) (sb _ _)) fun U p => ?_)⟩
  obtain ⟨ws', w', F, G, e1, e2, e3, e4, e5⟩ := Els.last p
  obtain ⟨rfl, e⟩ := List.append_inj' e1 rfl
  cases e
  exact ⟨F, G, e2, e3, e4, e5⟩
theorem Holds.snocE {P : V → D → Pc} {ws : List V} {ds : List D} {w : V} {d : D} (sb : ∀ v d, Stb (P v d)) (h : Holds S H (EPc P ws ds :: P w d :: Γ)) : Holds S H (EPc P (ws ++ [w]) (ds ++ [d]) :: Γ) := by
  refine h.join.imp (EPc.stb sb _ _) fun U ⟨F, G, p, q, n, u⟩ => ?_
  exact Els.append p (.cons q (.nil (F := fun _ => False) fun _ z => z) (fun _ _ z => z) fun a => ⟨.inl, fun z => z.elim id False.elim⟩) n u
def Cell (M : Mdl) (o : Option (Addr × V × Nat)) (a : Addr) (vs : List V) : Pc := match o with
  | none => Ol a vs
  | some (t, vx, x) => Hd M t a vx vs (.str ⟨#[x]⟩)
theorem Cell.stb (M : Mdl) (o : Option (Addr × V × Nat)) (a : Addr) (vs : List V) : Stb (Cell M o a vs) := by
  cases o with
  | none => exact Ol.stb _ _
  | some q => exact Hd.stb _ _ _ _ _ _
theorem Cell.at {o : Option (Addr × V × Nat)} {a : Addr} {vs : List V} {F : Foot} (h : Cell M o a vs S H F) : H a = some (.lst vs) ∧ F a := by
  cases o with
  | none => exact ⟨h.1, (h.2 a).mpr rfl⟩
  | some q => exact ⟨h.2.1, (h.2.2.2.2 a).mpr (.inr rfl)⟩
theorem Holds.cellAt {o : Option (Addr × V × Nat)} {a : Addr} {vs : List V} (h : Holds S H Γ) (m : Cell M o a vs ∈ Γ) : H a = some (.lst vs) := by
  obtain ⟨F, q⟩ := h.mem m
  exact q.at.1
theorem Holds.cellSet {o : Option (Addr × V × Nat)} {a : Addr} {vs ws : List V} (h : Holds S H (Cell M o a vs :: Γ)) : Holds S (upd H a (.lst ws)) (Cell M o a ws :: Γ) := by
  cases o with
  | none => exact Holds.olSet h
  | some q =>
    refine Holds.change (P := Cell M (some q) a vs) h (Cell.stb _ _ _ _) fun F p n s => ?_
    obtain ⟨p1, p2, p3, p4, p5⟩ := p
    refine ⟨F, ⟨(upd_ne p4).trans p1, upd_same, p3, p4, p5⟩, fun z y => .inl y, fun z y => ?_, fun z y _ => upd_ne fun w => y ((p5 z).mpr (.inr w))⟩
    by_cases hz : z = a
    · rw [hz, upd_same]; simp
    · rw [upd_ne hz]; exact s z y
theorem Holds.cellSeen {o : Option (Addr × V × Nat)} {a : Addr} {ws : List V} {cs : List T} (h : Holds S H (Cell M o a ws :: EPc (Tro (M := M)).fam ws (T.dats cs) :: Γ)) : Seen S H (Lof (Tro (M := M))) (.ref a) (.lst (T.dats cs)) := by
  obtain ⟨U, F, G, p, q, n, u⟩ := h.join.mem (List.mem_cons_self ..)
  obtain ⟨p1, p2⟩ := p.at
  exact ⟨fun z => z = a ∨ G z, .inr ⟨a, ws, T.dats cs, G, rfl, rfl, p1, q, n a p2, fun _ => Iff.rfl⟩⟩
abbrev Lv := Option (Addr × V × Nat) × Addr × List V × List T
def Lv.cont (q : Option Addr) (ws : List V) : List V := match q with
  | none => ws
  | some t => ws ++ [.ref t]
def lvP (M : Mdl) : Option Addr → List Lv → List Pc
  | _, [] => []
  | q, (o, a, ws, as) :: ls => Cell M o a (Lv.cont q ws) :: EPc (Tro (M := M)).fam ws (T.dats as) :: lvP M (o.map (·.1)) ls
inductive LvR : List Lv → List (List T × Nat) → List T → Prop
  | top {a : Addr} {ws : List V} {cs : List T} : LvR [(none, a, ws, cs)] [] cs
  | nest {t : Addr} {vx : V} {x : Nat} {b : Addr} {ws : List V} {cs : List T} {o : Option (Addr × V × Nat)} {a : Addr} {ws' : List V} {as : List T} {fs : List (List T × Nat)} {ls : List Lv} : LvR ((o, a, ws', as) :: ls) fs as → LvR ((some (t, vx, x), b, ws, cs) :: (o, a, ws', as) :: ls) ((as, x) :: fs) cs
def Lv.refs (ls : List Lv) : List V := (ls.map fun l => V.ref l.2.1).reverse
theorem LvR.re {o : Option (Addr × V × Nat)} {a : Addr} {ws ws2 : List V} {as cs cs2 : List T} {ls : List Lv} {fs : List (List T × Nat)} (h : LvR ((o, a, ws, as) :: ls) fs cs) : LvR ((o, a, ws2, cs2) :: ls) fs cs2 := by
  cases h with
  | top => exact .top
  | nest h => exact .nest h
theorem LvR.ne {ls : List Lv} {fs : List (List T × Nat)} {cs : List T} (h : LvR ls fs cs) : ∃ o a ws rest, ls = (o, a, ws, cs) :: rest := by
  cases h with
  | top => exact ⟨_, _, _, _, rfl⟩
  | nest h => exact ⟨_, _, _, _, rfl⟩
theorem LvR.len {ls : List Lv} {fs : List (List T × Nat)} {cs : List T} (h : LvR ls fs cs) : ls.length = fs.length + 1 := by
  induction h with
  | top => rfl
  | nest h ih => rw [List.length_cons, ih]; rfl
theorem Holds.opened {a : Addr} {o : Option (Addr × V × Nat)} {vs : List V} {as : List T} {x : Nat} {ls : List Lv} (h : Holds S H (lvP M none ((o, a, vs, as ++ [.node x []]) :: ls) ++ Γ)) :
    ∃ ws t vx b, vs = ws ++ [.ref t] ∧ H a = some (.lst (ws ++ [.ref t])) ∧ H t = some (.tup [vx, .ref b]) ∧ Holds S H (lvP M none ((some (t, vx, x), b, [], []) :: (o, a, ws, as) :: ls) ++ Γ) := by
  have h1 : Holds S H (Cell M o a vs :: EPc (Tro (M := M)).fam vs (T.dats (as ++ [.node x []])) :: (lvP M (o.map (·.1)) ls ++ Γ)) := h
  rw [datsSnoc] at h1
  have ha := h1.cellAt (List.mem_cons_self ..)
  obtain ⟨ws, w, rfl, h2⟩ := (h1.perm (.swap ..)).lastE Tro.stb
  have h3 : Holds S H ((Tro (M := M)).fam w (T.node x []).dat :: EPc (Tro (M := M)).fam ws (T.dats as) :: Cell M o a (ws ++ [w]) :: (lvP M (o.map (·.1)) ls ++ Γ)) := h2.perm (.swap ..)
  rw [T.dat] at h3
  have h4 := h3.imp (Mode.stb (Pof [fz, Lof Tro]) w _) fun F p => Tro.unf w _ S H F p
  obtain ⟨t, b, vx, vs2, rfl, e1, e2, e3, h5⟩ := h4.openT
  have e3 : vs2 = [] := List.length_eq_zero_iff.mp (by rw [e3, T.dats]; rfl)
  subst e3
  refine ⟨ws, t, vx, b, rfl, ha, e1, ?_⟩
  have h6 : Holds S H (Hd M t b vx [] (.str ⟨#[x]⟩) :: EPc (Tro (M := M)).fam [] (T.dats []) :: EPc (Tro (M := M)).fam ws (T.dats as) :: Cell M o a (ws ++ [.ref t]) :: (lvP M (o.map (·.1)) ls ++ Γ)) := h5
  exact h6.perm ((List.Perm.swap ..).cons _ |>.cons _)
theorem Holds.closed {a b t : Addr} {o : Option (Addr × V × Nat)} {vx : V} {ws ws' : List V} {as cs : List T} {x : Nat} {ls : List Lv} (h : Holds S H (lvP M none ((some (t, vx, x), b, ws, cs) :: (o, a, ws', as) :: ls) ++ Γ)) :
    Holds S H (lvP M none ((o, a, ws' ++ [.ref t], as ++ [.node x cs]) :: ls) ++ Γ) := by
  have h1 : Holds S H (Hd M t b vx ws (.str ⟨#[x]⟩) :: EPc (Tro (M := M)).fam ws (T.dats cs) :: Cell M o a (ws' ++ [.ref t]) :: EPc (Tro (M := M)).fam ws' (T.dats as) :: (lvP M (o.map (·.1)) ls ++ Γ)) := h
  have h2 := h1.closeT
  have h3 : Holds S H ((Tro (M := M)).fam (.ref t) (T.node x cs).dat :: Cell M o a (ws' ++ [.ref t]) :: EPc (Tro (M := M)).fam ws' (T.dats as) :: (lvP M (o.map (·.1)) ls ++ Γ)) := by
    rw [T.dat]
    exact h2.imp (Tro.stb _ _) fun F p => Tro.fold _ _ S H F p
  have h4 : Holds S H (EPc (Tro (M := M)).fam ws' (T.dats as) :: (Tro (M := M)).fam (.ref t) (T.node x cs).dat :: Cell M o a (ws' ++ [.ref t]) :: (lvP M (o.map (·.1)) ls ++ Γ)) := h3.perm (((List.Perm.swap ..).cons _).trans (.swap ..))
  have h5 := (h4.snocE Tro.stb).perm (.swap ..)
  rw [← datsSnoc] at h5
  exact h5
theorem Holds.grown {a : Addr} {o : Option (Addr × V × Nat)} {v : V} {ws : List V} {cs : List T} {c : T} {ls : List Lv} (h : Holds S H ((Tro (M := M)).fam v c.dat :: (lvP M none ((o, a, ws, cs) :: ls) ++ Γ))) :
    H a = some (.lst ws) ∧ Holds S (upd H a (.lst (ws ++ [v]))) (lvP M none ((o, a, ws ++ [v], cs ++ [c]) :: ls) ++ Γ) := by
  have h1 : Holds S H ((Tro (M := M)).fam v c.dat :: Cell M o a ws :: EPc (Tro (M := M)).fam ws (T.dats cs) :: (lvP M (o.map (·.1)) ls ++ Γ)) := h
  refine ⟨h1.cellAt (List.mem_cons_of_mem _ (List.mem_cons_self ..)), ?_⟩
  have h2 : Holds S H (EPc (Tro (M := M)).fam ws (T.dats cs) :: (Tro (M := M)).fam v c.dat :: Cell M o a ws :: (lvP M (o.map (·.1)) ls ++ Γ)) := h1.perm (((List.Perm.swap ..).cons _).trans (.swap ..))
  have h3 := (h2.snocE Tro.stb).perm (.swap ..)
  rw [← datsSnoc] at h3
  exact h3.cellSet
end
/-! ### a text read -/
def isLN (c : Nat) : Bool := decide (97 ≤ c) && decide (c ≤ 122)
def rdN : Bool → List Nat → List (List T × Nat) → List T → Option (List (List T × Nat) × List T)
  | _, [], fs, cs => some (fs, cs)
  | p, c :: s, fs, cs =>
    if isLN c = true then rdN true s fs (cs ++ [.node c []])
    else if c = 40 ∧ p = true then match cs.getLast? with
      | some (.node x []) => rdN false s ((cs.dropLast, x) :: fs) []
      | _ => none
    else if c = 41 ∧ cs ≠ [] then match fs with
      | (as, x) :: fs' => rdN false s fs' (as ++ [.node x cs])
      | [] => none
    else none
def readN (s : List Nat) : Option T := match rdN false s [] [] with
  | some ([], [t]) => some t
  | _ => none
end DM
set_option maxRecDepth 100000
/-! Data mirror, part 109: a text read sign by sign, a pile of open lists (a rule for a whole suite). -/
namespace DM
open PySem PySem.Spec L2
theorem for_txt {s : Str} {g : TG} {tb : TS} {D : Ends} {σ : L2.St} {H : Hp} (Pv : Nat → L2.St → Hp → Prop) (h0 : Pv 0 σ H)
    (hs : ∀ i c σ H, s.cps[i]? = some c → Pv i σ H → ∀ T, H T = none → g (.ref T) σ (upd H T (.tup [.int (i : Nat), .str ⟨#[c]⟩])) fun σ2 H2 => tb { D with nx := Pv (i + 1), ct := Pv (i + 1), bk := D.nx } σ2 H2) (hd : ∀ σ H, Pv s.cps.size σ H → D.nx σ H) :
    ∃ W : Nat → Nat → L2.St → Hp → Prop, (∃ m, W 0 m σ H) ∧ ∀ i m σ H, W i m σ H →
      ((IteS s).stop i H ∧ D.nx σ H) ∨ ((IteS s).go i H ∧ ∃ N : L2.St → Hp → Prop, (∀ σ' H', N σ' H' → ∃ m', m' < m ∧ W (i + 1) m' σ' H') ∧ ∀ x H', (IteS s).yld i H x H' → g x σ H' fun σ2 H2 => tb { D with nx := N, ct := N, bk := D.nx } σ2 H2) := by
  refine ⟨fun i m σ H => m = s.cps.size - i ∧ i ≤ s.cps.size ∧ Pv i σ H, ⟨s.cps.size, by simp, Nat.zero_le _, h0⟩, ?_⟩
  rintro i m σ H ⟨rfl, hi, p⟩
  by_cases hlt : i < s.cps.size
  · refine .inr ⟨⟨s.cps[i], Array.getElem?_eq_getElem hlt⟩, Pv (i + 1), fun σ' H' p' => ⟨s.cps.size - (i + 1), by omega, rfl, hlt, p'⟩, fun x H' y => ?_⟩
    obtain ⟨T, c, rfl, hT, rfl, hc⟩ := y
    exact hs i c σ H hc p T hT
  · have e : i = s.cps.size := by omega
    subst e
    exact .inl ⟨Nat.le_refl _, hd σ H p⟩
def tNeg1 : TE := tUn (rU fun i => V.int (-i)) (tC (.int 1))
theorem atI_lst {α : Type} {xs : List α} {x : α} (h : xs.getLast? = some x) : atI xs (-1) = some x := by
  have hn : xs ≠ [] := by intro e; rw [e] at h; cases h
  have hl : 0 < xs.length := List.length_pos_iff.mpr hn
  unfold atI ixN
  rw [if_neg (by omega)]
  rw [List.getLast?_eq_getElem?] at h
  split
  · rename_i z
    show xs[_]? = _
    rw [← h]
    congr 1
    omega
  · omega
def pvN (s : List Nat) (i : Nat) : Bool := decide (0 < i) && isLN (s.getD (i - 1) 0)
def mRead (ix it ip isp isg : Nat) : DEnv → SR := fun δ => match (δ[ix]?).join with
  | some (.str s) => if s.cps.toList.length ≤ 1000 then (match readN s.cps.toList with
    | some t => .rt t.dat ((((δ.set it none).set ip none).set isp none).set isg none)
    | none => .exc "NoText" ((((δ.set it none).set ip none).set isp none).set isg none)) else .stuck
  | _ => .stuck
section
variable {X : Cx} {W : WX} {ms : List (Mode (mdl X))} {pn : List Nat}
theorem StO.down {σ : L2.St} {δ1 : DEnv} {H : Hp} {τ Δ : List Pc} {o1 o2 : Option D} {isp isg : Nat} (hne : isp ≠ isg) (st : StO ms σ ((δ1.set isp o1).set isg o2) H (Δ ++ τ)) : StO ms σ ((δ1.set isp none).set isg none) H τ := by
  obtain ⟨S, Γ, sl, ho⟩ := st
  obtain ⟨Γ3, Δ3, p3, sl3⟩ := sl.none1 isp
  obtain ⟨Γ4, Δ4, p4, sl4⟩ := sl3.none1 isg
  have e : ((((δ1.set isp o1).set isg o2).set isp none).set isg none) = (δ1.set isp none).set isg none := by
    rw [List.set_comm _ _ (Ne.symm hne), List.set_set, List.set_set]
  rw [e] at sl4
  refine ⟨S, Γ4, sl4, ?_⟩
  have h1 : Holds S H (τ ++ Γ) := by rw [List.append_assoc] at ho; exact ho.dropL
  have e1 : (τ ++ Γ).Perm (Δ3 ++ (Δ4 ++ (τ ++ Γ4))) := by
    refine (List.Perm.append_left τ (p3.trans (p4.append_left Δ3))).trans ?_
    refine (List.perm_append_comm_assoc _ _ _).trans (List.Perm.append_left Δ3 (List.perm_append_comm_assoc _ _ _))
  exact (h1.perm e1).dropL.dropL
theorem refs_last {l : Lv} {ls : List Lv} : atI (Lv.refs (l :: ls)) (-1) = some (.ref l.2.1) := by
  unfold Lv.refs
  rw [List.map_cons, List.reverse_cons]
  exact atI_lst (by simp)
theorem refs_len {ls : List Lv} : (Lv.refs ls).length = ls.length := by unfold Lv.refs; rw [List.length_reverse, List.length_map]
structure RdI (ms : List (Mode (mdl X))) (pn : List Nat) (σ0 : L2.St) (δ1 : DEnv) (τ : List Pc) (it ip isp isg : Nat) (s : List Nat) (i : Nat) (σ : L2.St) (H : Hp) : Prop where
  inv : ∃ (ls : List Lv) (fs : List (List T × Nat)) (cs : List T) (o1 o2 : Option D) (P a0 : Addr), LvR ls fs cs ∧ rdN (pvN s i) (s.drop i) fs cs = rdN false s [] [] ∧ cs.length ≤ i ∧ ls.length ≤ i + 1 ∧ (∀ f ∈ fs, f.1.length ≤ i) ∧ (pvN s i = true → ∃ c as, cs = as ++ [.node c []]) ∧
    StO ms σ ((δ1.set isp o1).set isg o2) H (Ol P (Lv.refs ls) :: (lvP (mdl X) none ls ++ τ)) ∧ σ[it]? = some (some (.ref a0)) ∧ (ls.getLast?.map fun l => l.2.1) = some a0 ∧ σ[ip]? = some (some (.ref P)) ∧ Keep pn σ0 σ
end
end DM
set_option maxRecDepth 100000
/-! Data mirror, part 110: the steps of a text's reading. -/
namespace DM
open PySem PySem.Spec L2
section
variable {X : Cx} {W : WX} {ms : List (Mode (mdl X))} {pn : List Nat} {σ0 σ : L2.St} {δ1 : DEnv} {τ : List Pc} {it ip isp isg i : Nat} {s : List Nat} {H : Hp} {E : Ends}
theorem rdN_cons (p : Bool) (c : Nat) (s : List Nat) (fs : List (List T × Nat)) (cs : List T) : rdN p (c :: s) fs cs = if isLN c = true then rdN true s fs (cs ++ [.node c []])
    else if c = 40 ∧ p = true then match cs.getLast? with
      | some (.node x []) => rdN false s ((cs.dropLast, x) :: fs) []
      | _ => none
    else if c = 41 ∧ cs ≠ [] then match fs with
      | (as, x) :: fs' => rdN false s fs' (as ++ [.node x cs])
      | [] => none
    else none := rfl
theorem pvN_succ {s : List Nat} {i c : Nat} (h : s[i]? = some c) : pvN s (i + 1) = isLN c := by
  unfold pvN
  rw [Nat.add_sub_cancel, List.getD_eq_getElem?_getD, h, decide_eq_true (Nat.succ_pos i), Bool.true_and]
  rfl
theorem drop_cons {s : List Nat} {i c : Nat} (h : s[i]? = some c) : s.drop i = c :: s.drop (i + 1) := by
  obtain ⟨h1, h2⟩ := List.getElem?_eq_some_iff.mp h
  rw [List.drop_eq_getElem_cons h1, h2]
theorem ws_len {o : Option (Addr × V × Nat)} {a : Addr} {ws : List V} {cs : List T} {ls : List Lv} {S H : Hp} {Γ : List Pc} (h : Holds S H (lvP (mdl X) none ((o, a, ws, cs) :: ls) ++ Γ)) : ws.length = cs.length := by
  obtain ⟨F, q⟩ := h.mem (P := EPc (Tro (M := mdl X)).fam ws (T.dats cs)) (by simp [lvP])
  have := Els.length q
  rw [T.dats_map, List.length_map] at this
  exact this
theorem rd_leaf {c : Nat} {P a a0 : Addr} {o : Option (Addr × V × Nat)} {ws : List V} {cs : List T} {ls : List Lv} {fs : List (List T × Nat)} {o1 o2 : Option D} {tI : TE} {mI : DEnv → R D}
    (kI : ∀ σ δ H τ (Q : VK), StO ms σ δ H τ → PostE W ms Tro σ τ Q (mI δ) → tI σ H Q) (hI : mI ((δ1.set isp o1).set isg o2) = .ok (T.node c []).dat ((δ1.set isp o1).set isg o2))
    (hc : s[i]? = some c) (hl : isLN c = true) (hi : i < 1000) (hR : LvR ((o, a, ws, cs) :: ls) fs cs) (hrd : rdN (pvN s i) (s.drop i) fs cs = rdN false s [] []) (h1 : cs.length ≤ i) (h2 : ((o, a, ws, cs) :: ls).length ≤ i + 1) (hfs : ∀ f ∈ fs, f.1.length ≤ i)
    (st : StO ms σ ((δ1.set isp o1).set isg o2) H (Ol P (Lv.refs ((o, a, ws, cs) :: ls)) :: (lvP (mdl X) none ((o, a, ws, cs) :: ls) ++ τ))) (z0 : σ[it]? = some (some (.ref a0))) (zl : (((o, a, ws, cs) :: ls).getLast?.map fun l => l.2.1) = some a0) (zp : σ[ip]? = some (some (.ref P))) (kp : Keep pn σ0 σ)
    (hD : ∀ σ H, RdI ms pn σ0 δ1 τ it ip isp isg s (i + 1) σ H → E.nx σ H) :
    tDrop (tBM X.K "list" rAppend (tOp (rIxL X.K) (tVar ip) tNeg1) (tCons tI tNil)) E σ H := by
  have hP : H P = some (.lst (Lv.refs ((o, a, ws, cs) :: ls))) := by
    obtain ⟨S, Γ, sl, ho⟩ := st
    exact Holds.ol ho (List.mem_cons_self ..)
  have ha : H a = some (.lst ws) := by
    obtain ⟨S, Γ, sl, ho⟩ := st
    exact ho.cellAt (M := mdl X) (o := o) (by simp [lvP, Lv.cont])
  refine ⟨.ref P, zp, 1, rfl, P, _, -1, .ref a, rfl, rfl, SqL.of hP, refs_last, .inl ⟨rfl, ws, SqL.of ha⟩, ?_⟩
  refine kI σ _ H _ _ st ?_
  rw [hI]
  intro v H2 st2
  obtain ⟨S, Γ, sl, ho⟩ := st2
  have ho2 : Holds S H2 ((Tro (M := mdl X)).fam v (T.node c []).dat :: (lvP (mdl X) none ((o, a, ws, cs) :: ls) ++ (Ol P (Lv.refs ((o, a, ws, cs) :: ls)) :: (τ ++ Γ)))) := by
    refine ho.perm ?_
    refine List.Perm.cons _ ?_
    show (Ol P _ :: (lvP (mdl X) none _ ++ τ) ++ Γ).Perm _
    rw [List.cons_append, List.append_assoc]
    exact List.perm_middle.symm
  have hw := ws_len (X := X) (Γ := Ol P (Lv.refs ((o, a, ws, cs) :: ls)) :: (τ ++ Γ)) ho2.drop
  obtain ⟨g1, g2⟩ := ho2.grown
  refine ⟨a, ws, v, rfl, rfl, g1, Nat.lt_of_le_of_lt (show ws.length ≤ 1000 by omega) (by decide), ?_⟩
  refine hD _ _ ⟨(o, a, ws ++ [v], cs ++ [.node c []]) :: ls, fs, cs ++ [.node c []], o1, o2, P, a0, hR.re, ?_, by rw [List.length_append]; simp; omega, by simpa using Nat.le_succ_of_le h2, fun f hf => Nat.le_succ_of_le (hfs f hf), fun _ => ⟨c, cs, rfl⟩, ⟨S, Γ, sl, ?_⟩, z0, ?_, zp, kp⟩
  · rw [← hrd, drop_cons hc, pvN_succ hc, hl, rdN_cons, if_pos hl]
  · have e : Lv.refs ((o, a, ws ++ [v], cs ++ [.node c []]) :: ls) = Lv.refs ((o, a, ws, cs) :: ls) := rfl
    rw [e]
    have := g2.perm List.perm_middle
    show Holds S _ (Ol P _ :: (lvP (mdl X) none _ ++ τ) ++ Γ)
    rw [List.cons_append, List.append_assoc]
    exact this
  · cases ls with
    | nil => exact zl
    | cons l ls => rw [List.getLast?_cons_cons] at zl ⊢; exact zl
theorem rd_open {P a a0 : Addr} {o : Option (Addr × V × Nat)} {vs : List V} {as : List T} {x : Nat} {ls : List Lv} {fs : List (List T × Nat)} {o1 o2 : Option D}
    (hc : s[i]? = some 40) (hv : pvN s i = true) (hi : i < 1000) (hR : LvR ((o, a, vs, as ++ [.node x []]) :: ls) fs (as ++ [.node x []])) (hrd : rdN (pvN s i) (s.drop i) fs (as ++ [.node x []]) = rdN false s [] []) (h1 : (as ++ [T.node x []]).length ≤ i) (h2 : ((o, a, vs, as ++ [T.node x []]) :: ls).length ≤ i + 1) (hfs : ∀ f ∈ fs, f.1.length ≤ i)
    (st : StO ms σ ((δ1.set isp o1).set isg o2) H (Ol P (Lv.refs ((o, a, vs, as ++ [.node x []]) :: ls)) :: (lvP (mdl X) none ((o, a, vs, as ++ [.node x []]) :: ls) ++ τ))) (z0 : σ[it]? = some (some (.ref a0))) (zl : (((o, a, vs, as ++ [T.node x []]) :: ls).getLast?.map fun l => l.2.1) = some a0) (zp : σ[ip]? = some (some (.ref P))) (kp : Keep pn σ0 σ)
    (hD : ∀ σ H, RdI ms pn σ0 δ1 τ it ip isp isg s (i + 1) σ H → E.nx σ H) :
    tDrop (tBM X.K "list" rAppend (tVar ip) (tCons (tOp (rIxT X.K) (tOp (rIxL X.K) (tOp (rIxL X.K) (tVar ip) tNeg1) tNeg1) (tC (.int 1))) tNil)) E σ H := by
  obtain ⟨S, Γ, sl, ho⟩ := st
  have ho2 : Holds S H (lvP (mdl X) none ((o, a, vs, as ++ [.node x []]) :: ls) ++ (Ol P (Lv.refs ((o, a, vs, as ++ [.node x []]) :: ls)) :: (τ ++ Γ))) := by
    refine ho.perm ?_
    rw [List.cons_append, List.append_assoc]
    exact List.perm_middle.symm
  have hP : H P = some (.lst (Lv.refs ((o, a, vs, as ++ [.node x []]) :: ls))) := Holds.ol ho (List.mem_cons_self ..)
  obtain ⟨ws, t, vx, b, rfl, e1, e2, ho3⟩ := ho2.opened
  refine ⟨.ref P, zp, .inl ⟨rfl, _, SqL.of hP⟩, .ref P, zp, 1, rfl, P, _, -1, .ref a, rfl, rfl, SqL.of hP, refs_last, 1, rfl, a, _, -1, .ref t, rfl, rfl, SqL.of e1, atI_lst (by simp), t, _, 1, .ref b, rfl, rfl, .inl (.inl e2), rfl, ?_⟩
  refine ⟨P, _, .ref b, rfl, rfl, hP, Nat.lt_of_le_of_lt (show _ ≤ 1001 by rw [refs_len]; omega) (by decide), ?_⟩
  have ho4 := (ho3.perm List.perm_middle).olSet (ws := Lv.refs ((o, a, ws ++ [.ref t], as ++ [.node x []]) :: ls) ++ [.ref b])
  refine hD _ _ ⟨(some (t, vx, x), b, [], []) :: (o, a, ws, as) :: ls, (as, x) :: fs, [], o1, o2, P, a0, .nest hR.re, ?_, Nat.zero_le _, by simp only [List.length_cons] at h2 ⊢; omega, fun f hf => ?_, fun h => ?_, ⟨S, Γ, sl, ?_⟩, z0, ?_, zp, kp⟩
  · rw [← hrd, drop_cons hc, pvN_succ hc, hv, rdN_cons, if_neg (by decide), if_pos ⟨rfl, rfl⟩]
    simp [isLN]
  · rcases List.mem_cons.mp hf with rfl | hf
    · simp at h1
      show as.length ≤ i + 1
      omega
    · exact Nat.le_succ_of_le (hfs f hf)
  · rw [pvN_succ hc] at h
    exact absurd h (by decide)
  · have e : Lv.refs ((some (t, vx, x), b, [], []) :: (o, a, ws, as) :: ls) = Lv.refs ((o, a, ws ++ [.ref t], as ++ [.node x []]) :: ls) ++ [.ref b] := by
      unfold Lv.refs
      simp
    rw [e]
    show Holds S _ (Ol P _ :: (lvP (mdl X) none _ ++ τ) ++ Γ)
    rw [List.cons_append, List.append_assoc]
    exact ho4
  · rw [List.getLast?_cons_cons]
    cases ls with
    | nil => exact zl
    | cons l ls => rw [List.getLast?_cons_cons] at zl ⊢; exact zl
theorem rd_close {P a b t a0 : Addr} {o : Option (Addr × V × Nat)} {vx : V} {ws ws' : List V} {as cs : List T} {x : Nat} {ls : List Lv} {fs : List (List T × Nat)} {o1 o2 : Option D}
    (hc : s[i]? = some 41) (hne : cs ≠ []) (hi : i < 1000) (hR : LvR ((some (t, vx, x), b, ws, cs) :: (o, a, ws', as) :: ls) ((as, x) :: fs) cs) (hrd : rdN (pvN s i) (s.drop i) ((as, x) :: fs) cs = rdN false s [] []) (h2 : ((some (t, vx, x), b, ws, cs) :: (o, a, ws', as) :: ls).length ≤ i + 1) (hfs : ∀ f ∈ ((as, x) :: fs), f.1.length ≤ i)
    (st : StO ms σ ((δ1.set isp o1).set isg o2) H (Ol P (Lv.refs ((some (t, vx, x), b, ws, cs) :: (o, a, ws', as) :: ls)) :: (lvP (mdl X) none ((some (t, vx, x), b, ws, cs) :: (o, a, ws', as) :: ls) ++ τ))) (z0 : σ[it]? = some (some (.ref a0))) (zl : (((some (t, vx, x), b, ws, cs) :: (o, a, ws', as) :: ls).getLast?.map fun l => l.2.1) = some a0) (zp : σ[ip]? = some (some (.ref P))) (kp : Keep pn σ0 σ)
    (hD : ∀ σ H, RdI ms pn σ0 δ1 τ it ip isp isg s (i + 1) σ H → E.nx σ H) :
    tDrop (tBM0 X.K "list" rPop (tVar ip)) E σ H := by
  obtain ⟨S, Γ, sl, ho⟩ := st
  have ho2 : Holds S H (lvP (mdl X) none ((some (t, vx, x), b, ws, cs) :: (o, a, ws', as) :: ls) ++ (Ol P (Lv.refs ((some (t, vx, x), b, ws, cs) :: (o, a, ws', as) :: ls)) :: (τ ++ Γ))) := by
    refine ho.perm ?_
    rw [List.cons_append, List.append_assoc]
    exact List.perm_middle.symm
  have hP : H P = some (.lst (Lv.refs ((some (t, vx, x), b, ws, cs) :: (o, a, ws', as) :: ls))) := Holds.ol ho (List.mem_cons_self ..)
  have ho3 := ho2.closed
  have e : Lv.refs ((some (t, vx, x), b, ws, cs) :: (o, a, ws', as) :: ls) = Lv.refs ((o, a, ws' ++ [.ref t], as ++ [.node x cs]) :: ls) ++ [.ref b] := by
    unfold Lv.refs
    simp
  rw [e] at hP ho3
  refine ⟨.ref P, zp, .inl ⟨rfl, _, SqL.of hP⟩, P, _, .ref b, rfl, rfl, hP, by simp, ?_⟩
  rw [List.dropLast_concat]
  have ho4 := (ho3.perm List.perm_middle).olSet (ws := Lv.refs ((o, a, ws' ++ [.ref t], as ++ [.node x cs]) :: ls))
  have hR2 : LvR ((o, a, ws' ++ [.ref t], as ++ [.node x cs]) :: ls) fs (as ++ [.node x cs]) := by
    cases hR with
    | nest h => exact h.re
  refine hD _ _ ⟨(o, a, ws' ++ [.ref t], as ++ [.node x cs]) :: ls, fs, as ++ [.node x cs], o1, o2, P, a0, hR2, ?_, by rw [List.length_append]; simp; exact hfs (as, x) (List.mem_cons_self ..), by simp only [List.length_cons] at h2 ⊢; omega, fun f hf => Nat.le_succ_of_le (hfs f (List.mem_cons_of_mem _ hf)), fun h => ?_, ⟨S, Γ, sl, ?_⟩, z0, ?_, zp, kp⟩
  · rw [← hrd, drop_cons hc, pvN_succ hc, rdN_cons, if_neg (by decide), if_neg (fun h => absurd h.1 (by decide)), if_pos ⟨rfl, hne⟩]
    rfl
  · rw [pvN_succ hc] at h
    exact absurd h (by decide)
  · show Holds S _ (Ol P _ :: (lvP (mdl X) none _ ++ τ) ++ Γ)
    rw [List.cons_append, List.append_assoc]
    exact ho4
  · rw [List.getLast?_cons_cons] at zl
    cases ls with
    | nil => exact zl
    | cons l ls => rw [List.getLast?_cons_cons] at zl ⊢; exact zl
end
end DM
set_option maxRecDepth 100000
/-! Data mirror, part 111: a text read, the rule. -/
namespace DM
open PySem PySem.Spec L2
section
variable {X : Cx} {W : WX} {ms : List (Mode (mdl X))} {pn : List Nat}
theorem neg_false {b : Bool} {H : Hp} {A B : Hp → Prop} (hb : b = false) (h : B H) : (fun (b : Bool) H1 => if b = true then A H1 else B H1) b H := by
  subst hb
  exact ifF h
theorem pos_true {b : Bool} {H : Hp} {A B : Hp → Prop} (hb : b = true) (h : A H) : (fun (b : Bool) H1 => if b = true then A H1 else B H1) b H := by
  subst hb
  exact h
theorem gt_ints (X : Cx) {S H : Hp} {Γ : List Pc} {i j : Int} {Q : VK} (ho : Holds S H Γ) (k : ∀ S' H', Holds S' H' Γ → Q (.bl (decide (j < i))) H') : rGtA (.int i) (.int j) H Q := by
  refine op2_gt (X := X) (m1 := fz) (m2 := fz) S H Γ (.int i) (.int j) (.int i) (.int j) (.bl (decide (j < i))) Q ho ⟨fun _ => False, .int _, fun _ h => h⟩ ⟨fun _ => False, .int _, fun _ h => h⟩ rfl fun v S' H' ho' => ?_
  obtain ⟨F, rv, _⟩ := ho'.mem (P := (fz (M := mdl X)).fam v (.bl (decide (j < i)))) (List.mem_cons_self ..)
  have ev : v = .bl (decide (j < i)) := by cases rv; rfl
  subst ev
  exact k S' H' ho'.drop
theorem ne_any (X : Cx) {S H : Hp} {Γ : List Pc} {m1 m2 : Mode (mdl X)} {x y : V} {a c : D} {b : Bool} {Q : VK} (ho : Holds S H Γ) (s1 : Seen S H m1 x a) (s2 : Seen S H m2 y c) (e : neD a c = some (.bl b)) (k : ∀ S' H', Holds S' H' Γ → Q (.bl b) H') : rNeE X.K x y H Q := by
  refine op2_ne (X := X) (m1 := m1) (m2 := m2) S H Γ x y a c (.bl b) Q ho s1 s2 e fun v S' H' ho' => ?_
  obtain ⟨F, rv, _⟩ := ho'.mem (P := (fz (M := mdl X)).fam v (.bl b)) (List.mem_cons_self ..)
  have ev : v = .bl b := by cases rv; rfl
  subst ev
  exact k S' H' ho'.drop
theorem ds_read {s2 s3 s4 s5 s6 sR sR2 : Stmt} {tg c1 eI c2 c3 : Expr} {ix it ip isp isg : Nat} {m1 m2 m3 : DEnv → R Bool} {mI : DEnv → R D}
    (p2 : PS X s2 (tAsg (tLst tNil) (gName it))) (p3 : PS X s3 (tAsg (tLst (tCons (tVar it) tNil)) (gName ip)))
    (p4 : ∀ {g : TG} {t1 t2 t3 : TT} {tI : TE} {tR : TS}, PG X tg g → PT X c1 t1 → PE X eI tI → PT X c2 t2 → PT X c3 t3 → PS X sR tR →
      PS X s4 (tFor (iEnumS (tCons (tVar ix) tNil)) g (tIfS t1 (tDrop (tBM X.K "list" rAppend (tOp (rIxL X.K) (tVar ip) tNeg1) (tCons tI tNil)))
        (tIfS t2 (tDrop (tBM X.K "list" rAppend (tVar ip) (tCons (tOp (rIxT X.K) (tOp (rIxL X.K) (tOp (rIxL X.K) (tVar ip) tNeg1) tNeg1) (tC (.int 1))) tNil)))
          (tIfS (tAnd t3 (tAnd (tTest (tOp rGtA (tCB (rLen1 X.K) (tCons (tVar ip) tNil)) (tC (.int 1)))) (tTest (tOp (rNeE X.K) (tOp (rIxL X.K) (tVar ip) tNeg1) (tLst tNil))))) (tDrop (tBM0 X.K "list" rPop (tVar ip))) tR)))))
    (p5 : ∀ {tR : TS}, PS X sR2 tR → PS X s5 (tIfS (tOr (tTest (tOp rGtA (tCB (rLen1 X.K) (tCons (tVar ip) tNil)) (tC (.int 1)))) (tTest (tOp (rNeE X.K) (tCB (rLen1 X.K) (tCons (tVar it) tNil)) (tC (.int 1))))) tR tNext))
    (p6 : PS X s6 (tRet (tOp (rIxL X.K) (tVar it) (tC (.int 0)))))
    (hg : DG X ms (ip :: it :: pn) tg (tUnp 2 (uCons (tName isp) (uCons (tName isg) uNil)))) (d1 : DT X W ms c1 m1) (dI : DE X W ms eI Tro mI) (d2 : DT X W ms c2 m2) (d3 : DT X W ms c3 m3) (dR : DS X W ms Tro pn sR (mRaise "NoText")) (dR2 : DS X W ms Tro pn sR2 (mRaise "NoText"))
    (h1 : ∀ (δ : DEnv) (c : Nat), δ[isg]? = some (some (.str ⟨#[c]⟩)) → m1 δ = .ok (isLN c) δ)
    (hI : ∀ (δ : DEnv) (c : Nat), δ[isg]? = some (some (.str ⟨#[c]⟩)) → mI δ = .ok (.tup [.str ⟨#[c]⟩, .lst []]) δ)
    (h2 : ∀ (δ : DEnv) (s : Str) (i c : Nat), δ[ix]? = some (some (.str s)) → δ[isp]? = some (some (.int (i : Int))) → δ[isg]? = some (some (.str ⟨#[c]⟩)) → i < s.cps.toList.length → s.cps.toList.length ≤ 1000 → m2 δ = .ok (decide (c = 40) && pvN s.cps.toList i) δ)
    (h3 : ∀ (δ : DEnv) (c : Nat), δ[isg]? = some (some (.str ⟨#[c]⟩)) → m3 δ = .ok (decide (c = 41)) δ)
    (hx : ms[ix]? = some fz := by rfl) (lt : it < ms.length := by exact of_decide_eq_true (by rfl)) (lp : ip < ms.length := by exact of_decide_eq_true (by rfl)) (lsp : isp < ms.length := by exact of_decide_eq_true (by rfl)) (lsg : isg < ms.length := by exact of_decide_eq_true (by rfl))
    (n1 : it ∉ pn := by exact of_decide_eq_true (by rfl)) (n2 : ip ∉ pn := by exact of_decide_eq_true (by rfl)) (e1 : it ≠ ip := by decide) (e2 : isp ≠ isg := by decide) (e3 : ix ≠ it ∧ ix ≠ ip ∧ ix ≠ isp ∧ ix ≠ isg := by decide) (e4 : it ≠ isp ∧ it ≠ isg ∧ ip ≠ isp ∧ ip ≠ isg := by decide) :
    DSs X W ms Tro pn [s2, s3, s4, s5, s6] (mRead ix it ip isp isg) := by
  obtain ⟨g, pg, kg⟩ := hg.run
  obtain ⟨t1, q1, k1⟩ := d1.run
  obtain ⟨tI, qI, kI⟩ := dI.run
  obtain ⟨t2, q2, k2⟩ := d2.run
  obtain ⟨t3, q3, k3⟩ := d3.run
  obtain ⟨tR, qR, kR⟩ := dR.run
  obtain ⟨tR2, qR2, kR2⟩ := dR2.run
  refine ⟨_, pss_cons p2 (pss_cons p3 (pss_cons (p4 pg q1 qI q2 q3 qR) (pss_cons (p5 qR2) (pss_one p6)))), fun σ δ H τ E st q => ?_⟩
  unfold mRead at q
  split at q
  · rename_i s hd
    split at q
    · rename_i hsz
      have hz : δ[ix]? = some (some (.str s)) := join_some' hd
      obtain ⟨S, Γ, sl, ho⟩ := st
      have lσ : σ.length = ms.length := sl.len.1
      have lδ : δ.length = ms.length := sl.len.2
      obtain ⟨Γ3, Δ3, r3, sl3⟩ := sl.none1 it
      obtain ⟨Γ4, Δ4, r4, sl4⟩ := sl3.none1 ip
      have ho2 : Holds S H (τ ++ Γ4) := by
        have e1 : (τ ++ Γ).Perm (Δ3 ++ (Δ4 ++ (τ ++ Γ4))) := by
          refine (List.Perm.append_left τ (r3.trans (r4.append_left Δ3))).trans ?_
          exact (List.perm_append_comm_assoc _ _ _).trans (List.Perm.append_left Δ3 (List.perm_append_comm_assoc _ _ _))
        exact (ho.perm e1).dropL.dropL
      generalize hδ : (δ.set it none).set ip none = δ1 at q sl4
      have lδ1 : δ1.length = ms.length := by rw [← hδ, List.length_set, List.length_set, lδ]
      have nw : ∀ d, δ1[ip]? ≠ some (some d) := fun d e => by
        rw [← hδ, List.getElem?_set_self (by rw [List.length_set, lδ]; exact lp)] at e
        cases e
      have nt : ∀ d, δ1[it]? ≠ some (some d) := fun d e => by
        rw [← hδ, List.getElem?_set_ne e1.symm, List.getElem?_set_self (by rw [lδ]; exact lt)] at e
        cases e
      have nx1 : δ1[ix]? = some (some (.str s)) := by
        rw [← hδ, List.getElem?_set_ne e3.2.1.symm, List.getElem?_set_ne e3.1.symm]
        exact hz
      -- exceptions
      have hexc : readN s.cps.toList = none → ∀ (σ' : L2.St) (H' : Hp) (o1 o2 : Option D) (Δ : List Pc) (E' : Ends), Keep pn σ σ' → StO ms σ' ((δ1.set isp o1).set isg o2) H' (Δ ++ τ) → tR E' σ' H' ∧ tR2 E' σ' H' := fun hno σ' H' o1 o2 Δ E' kp st' => by
        rw [hno] at q
        have qq : PostS (X := X) W ms Tro pn σ' (Δ ++ τ) E' (mRaise "NoText" ((δ1.set isp o1).set isg o2)) := fun σ'' kp' H'' C st'' gC => q σ'' (kp.trans kp') H'' C (st''.down e2) gC
        exact ⟨kR σ' _ H' _ E' st' qq, kR2 σ' _ H' _ E' st' qq⟩
      -- tops, pile
      refine ⟨Nat.zero_le _, fun a0 ha0 => ?_⟩
      have ho3 : Holds S (upd H a0 (.lst [])) (Ol a0 [] :: (τ ++ Γ4)) := ho2.newO ha0 (Ol.stb _ _) fun F hF => ⟨upd_same, hF⟩
      have sl5 := sl4.reval (i := it) (some (.ref a0)) nt
      have zt : (σ.set it (some (V.ref a0)))[it]? = some (some (.ref a0)) := List.getElem?_set_self (by rw [lσ]; exact lt)
      have kt : Keep pn σ (σ.set it (some (V.ref a0))) := Keep.set n1
      have lσ2 : (σ.set it (some (V.ref a0))).length = ms.length := by rw [List.length_set, lσ]
      refine ⟨.ref a0, zt, (show (1 : Nat) ≤ sizeLine by decide), fun P hP => ?_⟩
      have ho4 : Holds S (upd (upd H a0 (.lst [])) P (.lst [.ref a0])) (Ol P [.ref a0] :: Ol a0 [] :: (τ ++ Γ4)) := ho3.newO hP (Ol.stb _ _) fun F hF => ⟨upd_same, hF⟩
      have sl6 := sl5.reval (i := ip) (some (.ref P)) nw
      have zp : ((σ.set it (some (V.ref a0))).set ip (some (V.ref P)))[ip]? = some (some (.ref P)) := List.getElem?_set_self (by rw [lσ2]; exact lp)
      have zt2 : ((σ.set it (some (V.ref a0))).set ip (some (V.ref P)))[it]? = some (some (.ref a0)) := by rw [List.getElem?_set_ne e1.symm]; exact zt
      have kp : Keep pn σ ((σ.set it (some (V.ref a0))).set ip (some (V.ref P))) := kt.trans (Keep.set n2)
      have hsp : δ1[isp]? ≠ none := by rw [List.getElem?_eq_getElem (by omega)]; simp
      obtain ⟨o1, ho1⟩ : ∃ o, δ1[isp]? = some o := ⟨_, List.getElem?_eq_getElem (by omega)⟩
      obtain ⟨o2, ho2'⟩ : ∃ o, δ1[isg]? = some o := ⟨_, List.getElem?_eq_getElem (by omega)⟩
      have hself : (δ1.set isp o1).set isg o2 = δ1 := by rw [set_self ho1, set_self ho2']
      have I0 : RdI ms pn σ δ1 τ it ip isp isg s.cps.toList 0 ((σ.set it (some (V.ref a0))).set ip (some (V.ref P))) (upd (upd H a0 (.lst [])) P (.lst [.ref a0])) := by
        refine ⟨[(none, a0, [], [])], [], [], o1, o2, P, a0, .top, rfl, Nat.le_refl _, Nat.le_refl _, fun f hf => (by cases hf), fun h => absurd h (by unfold pvN; simp), ⟨S, Γ4, by rw [hself]; exact sl6, ?_⟩, zt2, rfl, zp, kp⟩
        have e : (Ol P (Lv.refs [(none, a0, [], [])]) :: (lvP (mdl X) none [(none, a0, [], [])] ++ τ)) ++ Γ4 = Ol P [.ref a0] :: Ol a0 [] :: EPc (Tro (M := mdl X)).fam [] (T.dats []) :: (τ ++ Γ4) := rfl
        rw [e]
        have hp : Holds S (upd (upd H a0 (.lst [])) P (.lst [.ref a0])) (EPc (Tro (M := mdl X)).fam [] (T.dats []) :: Ol P [.ref a0] :: Ol a0 [] :: (τ ++ Γ4)) := ho4.pure (EPc.stb Tro.stb _ _) fun F n => by
          rw [T.dats]
          exact .nil n
        exact hp.perm ((List.Perm.swap ..).trans ((List.Perm.swap ..).cons _))
      -- the loop
      refine ⟨.str s, ?_, s, rfl, for_txt (fun i σ' H' => RdI ms pn σ δ1 τ it ip isp isg s.cps.toList i σ' H') I0 ?_ ?_⟩
      · obtain ⟨v, m, Γx, f1, f2, f3, slx⟩ := sl6.take nx1
        rw [hx] at f2
        cases f2
        obtain ⟨F, rv, _⟩ := ho2.mem (P := (fz (M := mdl X)).fam v (.str s)) (List.mem_append.mpr (.inr ((f3.mem_iff).mpr (List.mem_cons_self ..))))
        cases rv
        exact f1
      · rintro i c σ' H' hc ⟨ls, fs, cs, o1, o2, P, a0, hR, hrd, hcl, hll, hfs, hpv, st', z0, zl, zp, kp'⟩ Tt hT
        have hcN : s.cps.toList[i]? = some c := by rw [Array.getElem?_toList]; exact hc
        have hiN := (List.getElem?_eq_some_iff.mp hcN).1
        obtain ⟨S, Γ, sl', ho'⟩ := st'
        have hoT := ho'.newT (M := mdl X) (vs := [.int (i : Nat), .str ⟨#[c]⟩]) (ds := [.int (i : Int), .str ⟨#[c]⟩]) hT (.cons (.int _) (.cons (.str _) .nil))
        have lδ2 : (((δ1.set isp o1).set isg o2)).length = ms.length := by rw [List.length_set, List.length_set, lδ1]
        refine kg _ (.tup [.int (i : Int), .str ⟨#[c]⟩]) σ' ((δ1.set isp o1).set isg o2) ((δ1.set isp (some (.int (i : Int)))).set isg (some (.str ⟨#[c]⟩))) _ (Ol P (Lv.refs ls) :: (lvP (mdl X) none ls ++ τ)) _ ⟨_, Γ, sl', hoT⟩ ?_ fun σ2 kp2 l2 st2 => ?_
        · show some ((((δ1.set isp o1).set isg o2).set isp (some (.int (i : Int)))).set isg (some (.str ⟨#[c]⟩))) = _
          rw [List.set_comm _ _ (Ne.symm e2), List.set_set, List.set_set]
        have z0' : σ2[it]? = some (some (.ref a0)) := (kp2 it (by simp)).trans z0
        have zp' : σ2[ip]? = some (some (.ref P)) := (kp2 ip (by simp)).trans zp
        have kp3 : Keep pn σ σ2 := kp'.trans fun j hj => kp2 j (by simp [hj])
        have hδg : ((δ1.set isp (some (.int (i : Int)))).set isg (some (.str ⟨#[c]⟩)) : DEnv)[isg]? = some (some (.str ⟨#[c]⟩)) := List.getElem?_set_self (by rw [List.length_set, lδ1]; exact lsg)
        have hδp : ((δ1.set isp (some (.int (i : Int)))).set isg (some (.str ⟨#[c]⟩)) : DEnv)[isp]? = some (some (.int (i : Int))) := by rw [List.getElem?_set_ne e2.symm]; exact List.getElem?_set_self (by rw [lδ1]; exact lsp)
        have hδx : ((δ1.set isp (some (.int (i : Int)))).set isg (some (.str ⟨#[c]⟩)) : DEnv)[ix]? = some (some (.str s)) := by rw [List.getElem?_set_ne e3.2.2.2.symm, List.getElem?_set_ne e3.2.2.1.symm]; exact nx1
        have hno : rdN (pvN s.cps.toList i) (c :: s.cps.toList.drop (i + 1)) fs cs = none → readN s.cps.toList = none := fun h => by
          rw [drop_cons hcN] at hrd
          unfold readN
          rw [← hrd, h]
        have hP : ∀ {S H' : Hp} {Γ : List Pc}, Holds S H' ((Ol P (Lv.refs ls) :: (lvP (mdl X) none ls ++ τ)) ++ Γ) → H' P = some (.lst (Lv.refs ls)) := fun h => Holds.ol h (List.mem_cons_self ..)
        refine k1 σ2 _ _ _ _ st2 ?_
        rw [h1 _ c hδg]
        intro H3 st3
        cases hl : isLN c with
        | true =>
          refine pos_true rfl ?_
          obtain ⟨o, a, ws, rest, rfl⟩ := hR.ne
          exact rd_leaf kI (by rw [hI _ c hδg, T.dat, T.dats]) hcN hl (by omega) hR hrd hcl hll hfs st3 z0' zl zp' kp3 fun _ _ h => h
        | false =>
          refine neg_false rfl ?_
          refine k2 σ2 _ _ _ _ st3 ?_
          rw [h2 _ s i c hδx hδp hδg hiN hsz]
          intro H4 st4
          cases hb : (decide (c = 40) && pvN s.cps.toList i) with
          | true =>
            refine pos_true rfl ?_
            rw [Bool.and_eq_true, decide_eq_true_eq] at hb
            obtain ⟨hc40, hpt⟩ := hb
            subst hc40
            obtain ⟨x, as, rfl⟩ := hpv hpt
            obtain ⟨o, a, ws, rest, rfl⟩ := hR.ne
            exact rd_open hcN hpt (by omega) hR hrd hcl hll hfs st4 z0' zl zp' kp3 fun _ _ h => h
          | false =>
            refine neg_false rfl ?_
            have hb2 : ¬ (c = 40 ∧ pvN s.cps.toList i = true) := fun h => by
              rw [decide_eq_true h.1, h.2] at hb
              cases hb
            refine k3 σ2 _ _ _ _ st4 ?_
            rw [h3 _ c hδg]
            intro H5 st5
            have rno : ∀ {H6 : Hp} {Δ : List Pc} {o1 o2 : Option D} {E' : Ends}, rdN (pvN s.cps.toList i) (c :: s.cps.toList.drop (i + 1)) fs cs = none → StO ms σ2 ((δ1.set isp o1).set isg o2) H6 (Δ ++ τ) → tR E' σ2 H6 := fun h st => (hexc (hno h) σ2 _ _ _ _ _ kp3 st).1
            cases h41 : decide (c = 41) with
            | false =>
              simp only [Bool.false_eq_true, if_false]
              refine rno (Δ := Ol P (Lv.refs ls) :: lvP (mdl X) none ls) ?_ st5
              rw [rdN_cons, if_neg (by rw [hl]; decide), if_neg hb2, if_neg fun h => of_decide_eq_false h41 h.1]
            | true =>
              rw [if_pos (rfl : true = true)]
              have hc41 : c = 41 := of_decide_eq_true h41
              obtain ⟨S5, Γ5, sl5', ho5⟩ := st5
              refine ⟨.ref P, zp', .ref P, (Lv.refs ls).length, rfl, .inl ⟨_, SqL.of (hP ho5), rfl⟩, ?_⟩
              refine gt_ints X ho5 fun S6 H6 ho6 => ⟨_, rfl, ?_⟩
              rw [refs_len]
              by_cases hgt : (1 : Int) < ((ls.length : Nat) : Int)
              · simp only [decide_eq_true hgt, if_true]
                obtain ⟨o, a, ws, rest, rfl⟩ := hR.ne
                refine ⟨.ref P, zp', 1, rfl, P, _, -1, .ref a, rfl, rfl, SqL.of (hP ho6), refs_last, Nat.zero_le _, fun p hp => ?_⟩
                have ho7 : Holds S6 (upd H6 p (.lst [])) (Ol p [] :: ((Ol P (Lv.refs ((o, a, ws, cs) :: rest)) :: (lvP (mdl X) none ((o, a, ws, cs) :: rest) ++ τ)) ++ Γ5)) := ho6.newO hp (Ol.stb _ _) fun F hF => ⟨upd_same, hF⟩
                have sn1 : Seen S6 (upd H6 p (.lst [])) (Lof (Tro (M := mdl X))) (.ref a) (.lst (T.dats cs)) := by
                  have h8 : Holds S6 (upd H6 p (.lst [])) (Cell (mdl X) o a ws :: EPc (Tro (M := mdl X)).fam ws (T.dats cs) :: (lvP (mdl X) (o.map (·.1)) rest ++ (Ol P (Lv.refs ((o, a, ws, cs) :: rest)) :: Ol p [] :: (τ ++ Γ5)))) := by
                    refine ho7.perm ?_
                    show (Ol p [] :: Ol P _ :: (lvP (mdl X) none ((o, a, ws, cs) :: rest) ++ τ ++ Γ5)).Perm (lvP (mdl X) none ((o, a, ws, cs) :: rest) ++ _)
                    rw [List.append_assoc]
                    exact (((List.perm_middle.symm).cons _).trans List.perm_middle.symm).trans (List.Perm.append_left _ (.swap ..))
                  exact h8.cellSeen
                have sn2 : Seen S6 (upd H6 p (.lst [])) (Lof (fz (M := mdl X))) (.ref p) (.lst []) := ⟨fun z => z = p, .inr ⟨p, [], [], fun _ => False, rfl, rfl, upd_same, .nil fun _ h => h, fun h => h, fun z => ⟨.inl, fun h => h.elim id False.elim⟩⟩⟩
                refine ne_any X ho7 sn1 sn2 (neD_n _) fun S8 H8 ho8 => ⟨_, rfl, ?_⟩
                cases cs with
                | nil =>
                  refine neg_false (by rw [T.dats_map]; rfl) ?_
                  refine rno (Δ := Ol p [] :: Ol P (Lv.refs ((o, a, ws, []) :: rest)) :: lvP (mdl X) none ((o, a, ws, []) :: rest)) ?_ ⟨S8, Γ5, sl5', ho8⟩
                  rw [rdN_cons, if_neg (by rw [hl]; decide), if_neg hb2, if_neg fun h => h.2 rfl]
                | cons c0 cs0 =>
                  refine pos_true (by rw [T.dats_map]; rfl) ?_
                  have st8 : StO ms σ2 ((δ1.set isp (some (.int (i : Int)))).set isg (some (.str ⟨#[c]⟩))) H8 (Ol P (Lv.refs ((o, a, ws, c0 :: cs0) :: rest)) :: (lvP (mdl X) none ((o, a, ws, c0 :: cs0) :: rest) ++ τ)) := ⟨S8, Γ5, sl5', ho8.drop⟩
                  subst hc41
                  have hlen := hR.len
                  cases hR with
                  | top => simp at hgt
                  | nest h => exact rd_close hcN (by simp) (by omega) (.nest h) hrd hll hfs st8 z0' zl zp' kp3 fun _ _ h => h
              · simp only [decide_eq_false hgt, Bool.false_eq_true, if_false]
                refine rno (Δ := Ol P (Lv.refs ls) :: lvP (mdl X) none ls) ?_ ⟨S6, Γ5, sl5', ho6⟩
                have hlen := hR.len
                have : fs = [] := List.length_eq_zero_iff.mp (by omega)
                subst this
                rw [rdN_cons, if_neg (by rw [hl]; decide), if_neg hb2]
                split <;> rfl
      · rintro σ' H' ⟨ls, fs, cs, o1, o2, P, a0, hR, hrd, hcl, hll, hfs, hpv, st', z0, zl, zp, kp'⟩
        rw [show s.cps.toList.drop s.cps.size = [] from List.drop_of_length_le (by simp), rdN] at hrd
        have hrn : readN s.cps.toList = match (fs, cs) with
          | ([], [t]) => some t
          | _ => none := by
          unfold readN
          rw [← hrd]
          rcases fs with _ | ⟨f, fs⟩ <;> rcases cs with _ | ⟨t, _ | ⟨t2, cs⟩⟩ <;> rfl
        obtain ⟨S5, Γ5, sl5', ho5⟩ := st'
        have hP : H' P = some (.lst (Lv.refs ls)) := Holds.ol ho5 (List.mem_cons_self ..)
        have rno : ∀ {H6 : Hp} {Δ : List Pc} {E' : Ends}, readN s.cps.toList = none → StO ms σ' ((δ1.set isp o1).set isg o2) H6 (Δ ++ τ) → tR2 E' σ' H6 := fun h st => (hexc h σ' _ _ _ _ _ kp' st).2
        refine ⟨.ref P, zp, .ref P, (Lv.refs ls).length, rfl, .inl ⟨_, SqL.of hP, rfl⟩, ?_⟩
        refine gt_ints X ho5 fun S6 H6 ho6 => ⟨_, rfl, ?_⟩
        rw [refs_len]
        have hlen := hR.len
        by_cases hgt : (1 : Int) < ((ls.length : Nat) : Int)
        · simp only [decide_eq_true hgt, if_true]
          refine rno (Δ := Ol P (Lv.refs ls) :: lvP (mdl X) none ls) ?_ ⟨S6, Γ5, sl5', ho6⟩
          rw [hrn]
          cases fs with
          | nil => simp only [List.length_nil] at hlen; omega
          | cons f fs => rfl
        · simp only [decide_eq_false hgt, Bool.false_eq_true, if_false]
          have : fs = [] := List.length_eq_zero_iff.mp (by omega)
          subst this
          cases hR with
          | @top a ws cs =>
            have za : a = a0 := by simpa using zl
            subst za
            have hw := ws_len (X := X) (Γ := Ol P (Lv.refs [(none, a, ws, cs)]) :: (τ ++ Γ5)) (S := S6) (H := H6) (o := none) (a := a) (ws := ws) (cs := cs) (ls := []) (by
              refine ho6.perm ?_
              show (Ol P _ :: (lvP (mdl X) none [(none, a, ws, cs)] ++ τ) ++ Γ5).Perm _
              rw [List.cons_append, List.append_assoc]
              exact List.perm_middle.symm)
            have ha : H6 a = some (.lst ws) := ho6.cellAt (M := mdl X) (o := none) (by simp [lvP, Lv.cont])
            refine ⟨.ref a, z0, .ref a, ws.length, rfl, .inl ⟨ws, SqL.of ha, rfl⟩, ?_⟩
            refine ne_any X (m1 := fz) (m2 := fz) (a := .int (ws.length : Nat)) (c := .int 1) ho6 ⟨fun _ => False, .int _, fun _ h => h⟩ ⟨fun _ => False, .int _, fun _ h => h⟩ (neD_i _ _) fun S8 H8 ho8 => ⟨_, rfl, ?_⟩
            by_cases h1c : ((ws.length : Nat) : Int) = 1
            · refine neg_false (by rw [decide_eq_true h1c]; rfl) ?_
              have hl1 : ws.length = 1 := by omega
              cases cs with
              | nil => rw [List.length_nil] at hw; omega
              | cons t cs =>
                cases cs with
                | cons _ _ => rw [List.length_cons, List.length_cons] at hw; omega
                | nil =>
                  cases ws with
                  | nil => simp at hl1
                  | cons w ws =>
                    cases ws with
                    | cons _ _ => simp at hl1
                    | nil =>
                      rw [hrn] at q
                      have ha8 : H8 a = some (.lst [w]) := ho8.cellAt (M := mdl X) (o := none) (by simp [lvP, Lv.cont])
                      refine ⟨.ref a, z0, a, [w], 0, w, rfl, rfl, SqL.of ha8, atI_0 _ _, ?_⟩
                      have h9 : Holds S8 H8 (EPc (Tro (M := mdl X)).fam [w] [t.dat] :: Ol P (Lv.refs [(none, a, [w], [t])]) :: Ol a [w] :: (τ ++ Γ5)) := by
                        have e9 : (Ol P (Lv.refs [(none, a, [w], [t])]) :: (lvP (mdl X) none [(none, a, [w], [t])] ++ τ)) ++ Γ5 = Ol P (Lv.refs [(none, a, [w], [t])]) :: Ol a [w] :: EPc (Tro (M := mdl X)).fam [w] (T.dats [t]) :: (τ ++ Γ5) := rfl
                        have e10 : T.dats [t] = [t.dat] := by rw [T.dats, T.dats]
                        rw [e9, e10] at ho8
                        exact ho8.perm (((List.Perm.swap ..).cons _).trans (.swap ..))
                      have h10 := h9.uncons Tro.stb
                      have st9 : StO ms σ' ((δ1.set isp o1).set isg o2) H8 ([EPc (Tro (M := mdl X)).fam [] [], Ol P (Lv.refs [(none, a, [w], [t])]), Ol a [w]] ++ ((Tro (M := mdl X)).fam w t.dat :: τ)) := ⟨S8, Γ5, sl5', h10.perm (by
                        show ((Tro (M := mdl X)).fam w t.dat :: ([EPc (Tro (M := mdl X)).fam [] [], Ol P (Lv.refs [(none, a, [w], [t])]), Ol a [w]] ++ (τ ++ Γ5))).Perm ([EPc (Tro (M := mdl X)).fam [] [], Ol P (Lv.refs [(none, a, [w], [t])]), Ol a [w]] ++ ((Tro (M := mdl X)).fam w t.dat :: (τ ++ Γ5)))
                        exact List.perm_middle.symm)⟩
                      exact q w σ' H8 kp' (st9.down e2)
            · refine pos_true (by rw [decide_eq_false h1c]; rfl) ?_
              refine rno (Δ := Ol P (Lv.refs [(none, a, ws, cs)]) :: lvP (mdl X) none [(none, a, ws, cs)]) ?_ ⟨S8, Γ5, sl5', ho8⟩
              rw [hrn]
              cases cs with
              | nil => rfl
              | cons t cs =>
                cases cs with
                | nil =>
                  have hw : ws.length = 1 := hw
                  omega
                | cons _ _ => rfl
    · exact q.elim
  · exact q.elim
end
end DM
set_option maxRecDepth 100000
/-! Data mirror, part 112: the tests of a text's reading. -/
namespace DM
open PySem PySem.Spec L2
theorem lowN (c : Nat) : decide (c ∈ ("abcdefghijklmnopqrstuvwxyz" : Str).cps.toList) = isLN c := by
  by_cases h : 97 ≤ c ∧ c ≤ 122
  · have h1 : c ∈ ("abcdefghijklmnopqrstuvwxyz" : Str).cps.toList := by
      have : ∀ k : Nat, k < 26 → 97 + k ∈ ("abcdefghijklmnopqrstuvwxyz" : Str).cps.toList := by decide
      have := this (c - 97) (by omega)
      rwa [show 97 + (c - 97) = c by omega] at this
    rw [decide_eq_true h1]
    unfold isLN
    rw [decide_eq_true h.1, decide_eq_true h.2]
    rfl
  · have h1 : ¬ c ∈ ("abcdefghijklmnopqrstuvwxyz" : Str).cps.toList := by
      have : ∀ d ∈ ("abcdefghijklmnopqrstuvwxyz" : Str).cps.toList, 97 ≤ d ∧ d ≤ 122 := by decide
      exact fun q => h (this c q)
    rw [decide_eq_false h1]
    unfold isLN
    by_cases h2 : 97 ≤ c
    · rw [decide_eq_true h2, decide_eq_false (fun z => h ⟨h2, z⟩)]
      rfl
    · rw [decide_eq_false h2]
      rfl
theorem in_lowN (c : Nat) : inD false (.str ⟨#[c]⟩) (.str "abcdefghijklmnopqrstuvwxyz") = some (.bl (isLN c)) := by
  rw [← lowN]
  show (if (⟨#[c]⟩ : Str).length = 1 then some (D.bl (if false = true then _ else decide ((⟨#[c]⟩ : Str).cps.getD 0 0 ∈ ("abcdefghijklmnopqrstuvwxyz" : Str).cps.toList))) else none) = _
  rw [if_pos (show (⟨#[c]⟩ : Str).length = 1 from rfl)]
  rfl
theorem one_eq (c k : Nat) (w : Str) (hw : w = ⟨#[k]⟩) : eqD (.str ⟨#[c]⟩) (.str w) = some (.bl (decide (c = k))) := by
  subst hw
  rw [eqD_s]
  congr 2
  refine decide_eq_decide.mpr ⟨fun h => ?_, fun h => by rw [h]⟩
  injection h with h
  injection h with h
  injection h
theorem rd_h1 (i : Nat) : ∀ (δ : DEnv) (c : Nat), δ[i]? = some (some (.str ⟨#[c]⟩)) → mTest (mOp2 (oV (mVar i)) (oV (mC (.str "abcdefghijklmnopqrstuvwxyz"))) (inD false)) δ = .ok (isLN c) δ := by
  intro δ c h
  have e := in_lowN c
  generalize isLN c = b at e ⊢
  generalize D.str "abcdefghijklmnopqrstuvwxyz" = L at e ⊢
  simp [h, e]
theorem rd_hI (i : Nat) : ∀ (δ : DEnv) (c : Nat), δ[i]? = some (some (.str ⟨#[c]⟩)) → mTup (mCons (oV (mVar i)) (mCons (oV (mLst mNil)) mNil)) δ = .ok (.tup [.str ⟨#[c]⟩, .lst []]) δ := by
  intro δ c h
  have s0 : (0 : Nat) ≤ sizeLine := by decide
  have s2 : (2 : Nat) ≤ sizeLine := by decide
  simp [h, s0, s2]
theorem rd_h3 (i : Nat) : ∀ (δ : DEnv) (c : Nat), δ[i]? = some (some (.str ⟨#[c]⟩)) → mTest (mOp2 (oV (mVar i)) (oV (mC (.str ")"))) eqD) δ = .ok (decide (c = 41)) δ := by
  intro δ c h
  have e := one_eq c 41 ")" rfl
  generalize decide (c = 41) = b at e ⊢
  generalize D.str ")" = L at e ⊢
  simp [h, e]
theorem rd_h2 (ix isp isg : Nat) : ∀ (δ : DEnv) (s : Str) (i c : Nat), δ[ix]? = some (some (.str s)) → δ[isp]? = some (some (.int (i : Int))) → δ[isg]? = some (some (.str ⟨#[c]⟩)) → i < s.cps.toList.length → s.cps.toList.length ≤ 1000 →
    mAnd (mTest (mOp2 (oV (mVar isg)) (oV (mC (.str "("))) eqD)) (mAnd (mTest (mOp2 (oV (mVar isp)) (oV (mC (.int 0))) gtD)) (mTest (mOp2 (oV (mOp2 (oV (mVar ix)) (oV (mOp2 (oV (mVar isp)) (oV (mC (.int 1))) subD)) ixD)) (oV (mC (.str "abcdefghijklmnopqrstuvwxyz"))) (inD false)))) δ = .ok (decide (c = 40) && pvN s.cps.toList i) δ := by
  intro δ s i c h1 h2 h3 hi hl
  have e := one_eq c 40 "(" rfl
  have g : gtD (.int (i : Int)) (.int 0) = some (.bl (decide (0 < i))) := by
    show some (D.bl _) = _
    congr 2
    exact decide_eq_decide.mpr (by omega)
  unfold pvN
  rcases Nat.eq_zero_or_pos i with h0 | h0
  · subst h0
    have g : gtD (.int ((0 : Nat) : Int)) (.int 0) = some (.bl false) := rfl
    rw [decide_eq_false (Nat.lt_irrefl 0), Bool.false_and, Bool.and_false]
    generalize mTest (mOp2 (oV (mOp2 (oV (mVar ix)) (oV (mOp2 (oV (mVar isp)) (oV (mC (.int 1))) subD)) ixD)) (oV (mC (.str "abcdefghijklmnopqrstuvwxyz"))) (inD false)) = ff
    generalize D.int ((0 : Nat) : Int) = z at g h2
    generalize decide (c = 40) = b at e ⊢
    generalize D.str "(" = L at e ⊢
    cases b <;> simp [h2, h3, e, g]
  · rw [decide_eq_true h0] at g ⊢
    rw [Bool.true_and]
    have hx : ixD (.str s) (.int ((i : Int) - 1)) = some (.str ⟨#[s.cps.toList.getD (i - 1) 0]⟩) := by
      have hat : atI s.cps.toList ((i : Int) - 1) = some (s.cps.toList.getD (i - 1) 0) := by
        rw [atI_k (k := i - 1) _ (by omega) (by omega), List.getElem?_eq_getElem (by omega), List.getD_eq_getElem?_getD, List.getElem?_eq_getElem (by omega)]
        rfl
      show (if s.length ≤ sizeLine then (atI s.cps.toList ((i : Int) - 1)).map fun c => D.str ⟨#[c]⟩ else none) = _
      have hz0 : s.cps.size ≤ 1000 := by simpa using hl
      have hz1 : s.length ≤ 1000 := hz0
      rw [if_pos (sz100 hz1), hat]
      rfl
    have el := in_lowN (s.cps.toList.getD (i - 1) 0)
    generalize isLN (s.cps.toList.getD (i - 1) 0) = bb at el ⊢
    generalize D.str ⟨#[s.cps.toList.getD (i - 1) 0]⟩ = QQ at el hx
    generalize D.str s = SS at hx h1
    generalize D.str "abcdefghijklmnopqrstuvwxyz" = LL at el ⊢
    generalize decide (c = 40) = b at e ⊢
    generalize D.str "(" = L at e ⊢
    generalize (i : Int) = ii at *
    cases b <;> simp [h1, h2, h3, e, g, hx, el]
end DM
set_option maxRecDepth 100000
/-! Data mirror, part 113: a def that lists the empty lists of a tree's childless parts, the very ones. -/
namespace DM
open PySem PySem.Spec L2
inductive LL (H : Hp) : V → T → List V → Prop
  | leaf {p b : Addr} {vx : V} {x : Nat} (h1 : H p = some (.tup [vx, .ref b])) (h2 : H b = some (.lst [])) : LL H (.ref p) (.node x []) [.ref b]
  | node {p b : Addr} {vx : V} {ws : List V} {vss : List (List V)} {x : Nat} {cs : List T} (hne : cs ≠ []) (h1 : H p = some (.tup [vx, .ref b])) (h2 : H b = some (.lst ws)) (h3 : ws.length = cs.length) (h4 : vss.length = cs.length) (h5 : ∀ (j : Nat) (w : V) (c : T) (us : List V), ws[j]? = some w → cs[j]? = some c → vss[j]? = some us → LL H w c us) : LL H (.ref p) (.node x cs) vss.flatten
open Classical in
section
variable {P : Program} {w : World} {K : PySem.W.Frag} {mg : Str → Option Value} {base : Heap}
end
end DM
set_option maxRecDepth 100000
/-! Data mirror, part 114: one of the empty lists of a tree is changed, none else (a rule for three statements). -/
namespace DM
open PySem PySem.Spec L2
section
variable {S H : Hp}
end
end DM
set_option maxRecDepth 100000
/-! Data mirror, part 115: leaves = F(found); leaves[i].append(..); the others stay empty. -/
namespace DM
open PySem PySem.Spec L2
section
variable {X : Cx} {W : WX} {ms : List (Mode (mdl X))} {mr : Mode (mdl X)} {pn : List Nat}
end
end DM
set_option maxRecDepth 100000
/-! Data mirror, part 116: d.get(k, x). -/
namespace DM
open PySem PySem.Spec L2
section
variable {X : Cx} {W : WX} {ms : List (Mode (mdl X))} {mr : Mode (mdl X)} {pn : List Nat} {m1 m2 : Mode (mdl X)}
end
end DM
set_option maxRecDepth 100000
/-! Plain Lean, part 117: the signs that write a tree; a tree built from parts that name what they hang under. -/
namespace DM
open PySem PySem.Spec L2
mutual
def T.sgn : T → List Nat
  | .node x cs => x :: (match cs.isEmpty with
    | true => []
    | false => 40 :: (T.sgns cs ++ [41]))
def T.sgns : List T → List Nat
  | [] => []
  | t :: ts => T.sgn t ++ T.sgns ts
end
theorem T.sgn_leaf (x : Nat) : (T.node x []).sgn = [x] := by rw [T.sgn]; rfl
theorem T.sgn_node (x : Nat) {cs : List T} (h : cs ≠ []) : (T.node x cs).sgn = x :: 40 :: (T.sgns cs ++ [41]) := by
  cases cs with
  | nil => exact absurd rfl h
  | cons c cs => rw [T.sgn]; rfl
mutual
theorem T.sgn_len : ∀ t : T, t.sgn.length ≤ 3 * t.size
  | .node x cs => by
    have h := T.sgns_len cs
    by_cases e : cs = []
    · subst e; rw [T.sgn_leaf, T.size, List.length_singleton]; omega
    · rw [T.sgn_node x e, T.size]
      simp only [List.length_cons, List.length_append, List.length_nil]
      omega
theorem T.sgns_len : ∀ ts : List T, (T.sgns ts).length ≤ 3 * T.sizes ts
  | [] => by simp [T.sgns]
  | t :: ts => by
    have h1 := T.sgn_len t
    have h2 := T.sgns_len ts
    rw [T.sgns, T.sizes, List.length_append]
    omega
end
theorem isLN_ok {x : Nat} (h : 97 ≤ x ∧ x ≤ 122) : isLN x = true := by
  unfold isLN
  simp
  omega
theorem T.sgn_head (t : T) (h : t.good) (s : List Nat) : (t.sgn ++ s).head? ≠ some 40 := by
  cases t with
  | node x cs =>
    rw [T.good] at h
    rw [T.sgn]
    simp
    omega
theorem rdN_p {s : List Nat} (h : s.head? ≠ some 40) (p : Bool) (fs : List (List T × Nat)) (cs : List T) : rdN p s fs cs = rdN false s fs cs := by
  cases s with
  | nil => rw [rdN, rdN]
  | cons c s =>
    have hc : c ≠ 40 := fun z => h (by rw [z]; rfl)
    rw [rdN_cons, rdN_cons]
    simp [hc]
mutual
theorem rdN_sgn : ∀ (t : T), t.good → ∀ (p : Bool) (s : List Nat) (fs : List (List T × Nat)) (cs : List T), s.head? ≠ some 40 → rdN p (t.sgn ++ s) fs cs = rdN false s fs (cs ++ [t])
  | .node x ks, hg, p, s, fs, cs, hs => by
    rw [T.good] at hg
    by_cases e : ks = []
    · subst e
      rw [T.sgn_leaf]
      show rdN p (x :: s) fs cs = _
      rw [rdN_cons, if_pos (isLN_ok hg.1), rdN_p hs]
    · rw [T.sgn_node x e]
      have h1 : (x :: 40 :: (T.sgns ks ++ [41])) ++ s = x :: 40 :: (T.sgns ks ++ (41 :: s)) := by simp
      rw [h1, rdN_cons, if_pos (isLN_ok hg.1), rdN_cons, if_neg (by decide), if_pos ⟨rfl, rfl⟩]
      have h2 : (cs ++ [T.node x []]).getLast? = some (.node x []) := by simp
      rw [h2]
      dsimp only
      rw [List.dropLast_concat, rdN_sgns ks hg.2 false (41 :: s) _ [] (by simp), rdN_cons, if_neg (by decide), if_neg (by decide), if_pos ⟨rfl, by simpa using e⟩]
      simp
theorem rdN_sgns : ∀ (ts : List T), T.goods ts → ∀ (p : Bool) (s : List Nat) (fs : List (List T × Nat)) (cs : List T), s.head? ≠ some 40 → rdN p (T.sgns ts ++ s) fs cs = rdN false s fs (cs ++ ts)
  | [], _, p, s, fs, cs, hs => by
    rw [T.sgns, List.nil_append, List.append_nil, rdN_p hs]
  | t :: ts, hg, p, s, fs, cs, hs => by
    rw [T.goods] at hg
    rw [T.sgns, List.append_assoc]
    have hh : (T.sgns ts ++ s).head? ≠ some 40 := by
      cases ts with
      | nil => rw [T.sgns, List.nil_append]; exact hs
      | cons u us =>
        rw [T.goods] at hg
        rw [T.sgns, List.append_assoc]
        exact T.sgn_head u hg.2.1 _
    rw [rdN_sgn t hg.1 p _ fs cs hh, rdN_sgns ts hg.2 false s fs _ hs]
    simp
end
theorem readN_sgn {t : T} (h : t.good) : readN t.sgn = some t := by
  unfold readN
  have := rdN_sgn t h false [] [] [] (by simp)
  rw [List.append_nil] at this
  rw [this, rdN]
  rfl
def T.wr (t : T) : Str := ⟨t.sgn.toArray⟩
/-! ### trees built from above -/
def kidsN (ab : List (Option Nat)) (k : Nat) : List Nat := (List.range ab.length).filter fun j => decide (ab[j]? = some (some k))
def Upw (ab : List (Option Nat)) : Prop := ∀ (j i : Nat), ab[j]? = some (some i) → i < j
def bT (le : List Nat) (ab : List (Option Nat)) : Nat → Nat → T
  | 0, k => .node (le.getD k 0) []
  | f + 1, k => .node (le.getD k 0) ((kidsN ab k).map (bT le ab f))
theorem kidsN_mem {ab : List (Option Nat)} {k j : Nat} (h : j ∈ kidsN ab k) : j < ab.length ∧ ab[j]? = some (some k) := by
  unfold kidsN at h
  have := List.mem_filter.mp h
  exact ⟨List.mem_range.mp this.1, of_decide_eq_true this.2⟩
theorem bT_stable {le : List Nat} {ab : List (Option Nat)} (hu : Upw ab) : ∀ (f k : Nat), ab.length - k ≤ f → bT le ab f k = bT le ab (ab.length - k) k := by
  intro f
  induction f using Nat.strongRecOn with
  | ind f ih =>
    intro k hk
    cases f with
    | zero => rw [show ab.length - k = 0 by omega]
    | succ f =>
      have hc : ∀ g, g ≤ f → ab.length - (k + 1) ≤ g → (kidsN ab k).map (bT le ab g) = (kidsN ab k).map (fun j => bT le ab (ab.length - j) j) := fun g hg hg2 => by
        apply List.map_congr_left
        intro j hj
        have h2 := hu j k (kidsN_mem hj).2
        exact ih g (by omega) j (by omega)
      cases hm : ab.length - k with
      | zero =>
        have : kidsN ab k = [] := by
          apply List.eq_nil_iff_forall_not_mem.mpr
          intro j hj
          have h1 := kidsN_mem hj
          have h2 := hu j k h1.2
          omega
        rw [bT, bT, this]
        rfl
      | succ m => rw [bT, bT, hc f (Nat.le_refl _) (by omega), hc m (by omega) (by omega)]
theorem bT_eq {le : List Nat} {ab : List (Option Nat)} (hu : Upw ab) {k : Nat} (hk : k < ab.length) : bT le ab (ab.length - k) k = .node (le.getD k 0) ((kidsN ab k).map fun j => bT le ab (ab.length - j) j) := by
  obtain ⟨m, hm⟩ : ∃ m, ab.length - k = m + 1 := ⟨ab.length - k - 1, by omega⟩
  rw [hm, bT]
  congr 1
  apply List.map_congr_left
  intro j hj
  have h2 := hu j k (kidsN_mem hj).2
  exact bT_stable hu m j (by omega)
theorem bT_good {le : List Nat} {ab : List (Option Nat)} (hl : le.length = ab.length) (h : ∀ x ∈ le, 97 ≤ x ∧ x ≤ 122) : ∀ (f k : Nat), k < ab.length → (bT le ab f k).good := by
  have hx : ∀ k, k < ab.length → 97 ≤ le.getD k 0 ∧ le.getD k 0 ≤ 122 := fun k hk => by
    rw [List.getD_eq_getElem?_getD, List.getElem?_eq_getElem (by omega)]
    exact h _ (List.getElem_mem _)
  intro f
  induction f with
  | zero => intro k hk; rw [bT, T.good]; exact ⟨hx k hk, by rw [T.goods]; trivial⟩
  | succ f ih =>
    intro k hk
    rw [bT, T.good, T.goods_iff]
    refine ⟨hx k hk, fun c hc => ?_⟩
    obtain ⟨j, hj, rfl⟩ := List.mem_map.mp hc
    exact ih j (kidsN_mem hj).1
theorem deps_bound {cs : List T} {m : Nat} (h : ∀ c ∈ cs, c.dep ≤ m) : T.deps cs ≤ m := by
  induction cs with
  | nil => rw [T.deps]; omega
  | cons c cs ih =>
    rw [T.deps]
    have h1 := h c (List.mem_cons_self ..)
    have h2 := ih fun d hd => h d (List.mem_cons_of_mem _ hd)
    omega
theorem bT_dep {le : List Nat} {ab : List (Option Nat)} {ds : List Nat} {q : Nat} (hd : ∀ (j i : Nat), ab[j]? = some (some i) → ds.getD j 0 = ds.getD i 0 + 1) (hq : ∀ k, k < ab.length → ds.getD k 0 ≤ q) : ∀ (f k : Nat), k < ab.length → (bT le ab f k).dep + ds.getD k 0 ≤ q + 1 := by
  intro f
  induction f with
  | zero => intro k hk; rw [bT, T.dep, T.deps]; have := hq k hk; omega
  | succ f ih =>
    intro k hk
    rw [bT, T.dep]
    have := hq k hk
    have := deps_bound (cs := (kidsN ab k).map (bT le ab f)) (m := q - ds.getD k 0) fun c hc => by
      obtain ⟨j, hj, rfl⟩ := List.mem_map.mp hc
      have h1 := ih j (kidsN_mem hj).1
      have h2 := hd j k (kidsN_mem hj).2
      omega
    omega
theorem sizes_map {α : Type} (f : α → T) : ∀ l : List α, T.sizes (l.map f) = (l.map fun x => (f x).size).sum
  | [] => by simp [T.sizes]
  | a :: l => by rw [List.map_cons, T.sizes, sizes_map f l, List.map_cons, List.sum_cons]
theorem sum_add {α : Type} (f g : α → Nat) : ∀ l : List α, (l.map fun x => f x + g x).sum = (l.map f).sum + (l.map g).sum
  | [] => rfl
  | a :: l => by
    simp only [List.map_cons, List.sum_cons]
    rw [sum_add f g l]
    omega
theorem sum_filter {α : Type} (p : α → Bool) (f : α → Nat) : ∀ l : List α, ((l.filter p).map f).sum = (l.map fun x => if p x = true then f x else 0).sum
  | [] => rfl
  | a :: l => by
    rw [List.filter_cons]
    by_cases h : p a = true
    · rw [if_pos h, List.map_cons, List.sum_cons, List.map_cons, List.sum_cons, if_pos h, sum_filter p f l]
    · rw [if_neg h, List.map_cons, List.sum_cons, if_neg h, sum_filter p f l]; omega
theorem sum_one (f : Nat → Nat) : ∀ (n k : Nat), ((List.range n).map fun i => if i = k then f i else 0).sum = if k < n then f k else 0
  | 0, k => by simp
  | n + 1, k => by
    rw [List.range_succ, List.map_append, List.sum_append, sum_one f n k]
    simp only [List.map_cons, List.map_nil, List.sum_cons, List.sum_nil]
    by_cases h : n = k
    · subst h; simp
    · rw [if_neg h]
      by_cases h2 : k < n
      · rw [if_pos h2, if_pos (by omega)]; omega
      · rw [if_neg h2, if_neg (by omega)]; omega
def rtP (ab : List (Option Nat)) (j i : Nat) : Bool := decide (j ≤ i) && (match ab[i]? with
  | some (some p) => decide (p < j)
  | _ => true)
theorem bT_sizes {le : List Nat} {ab : List (Option Nat)} (hu : Upw ab) : ∀ m j, j + m = ab.length → ((List.range ab.length).map fun i => if rtP ab j i = true then (bT le ab (ab.length - i) i).size else 0).sum = m
  | 0, j, h => by
    have : ((List.range ab.length).map fun i => if rtP ab j i = true then (bT le ab (ab.length - i) i).size else 0) = (List.range ab.length).map fun _ => 0 := by
      apply List.map_congr_left
      intro i hi
      have := List.mem_range.mp hi
      rw [if_neg]
      unfold rtP
      rw [decide_eq_false (by omega)]
      simp
    rw [this]
    clear this
    induction (List.range ab.length) with
    | nil => rfl
    | cons a l ih => rw [List.map_cons, List.sum_cons, ih]
  | m + 1, j, h => by
    have ih := bT_sizes (le := le) hu m (j + 1) (by omega)
    have hj : j < ab.length := by omega
    have e := bT_eq (le := le) hu hj
    have e1 : (bT le ab (ab.length - j) j).size = ((kidsN ab j).map fun i => (bT le ab (ab.length - i) i).size).sum + 1 := by
      rw [e, T.size, sizes_map]
    unfold kidsN at e1
    rw [sum_filter] at e1
    have e2 := sum_one (fun i => (bT le ab (ab.length - i) i).size) ab.length j
    rw [if_pos hj] at e2
    have e3 := sum_add (fun i => if rtP ab (j + 1) i = true then (bT le ab (ab.length - i) i).size else 0) (fun i => if i = j then (bT le ab (ab.length - i) i).size else 0) (List.range ab.length)
    have e4 := sum_add (fun i => if rtP ab j i = true then (bT le ab (ab.length - i) i).size else 0) (fun i => if decide (ab[i]? = some (some j)) = true then (bT le ab (ab.length - i) i).size else 0) (List.range ab.length)
    have e5 : (List.range ab.length).map (fun i => (if rtP ab (j + 1) i = true then (bT le ab (ab.length - i) i).size else 0) + (if i = j then (bT le ab (ab.length - i) i).size else 0)) = (List.range ab.length).map fun i => (if rtP ab j i = true then (bT le ab (ab.length - i) i).size else 0) + (if decide (ab[i]? = some (some j)) = true then (bT le ab (ab.length - i) i).size else 0) := by
      apply List.map_congr_left
      intro i hi
      have hil := List.mem_range.mp hi
      generalize (bT le ab (ab.length - i) i).size = w
      unfold rtP
      cases hz : ab[i]? with
      | none => rw [List.getElem?_eq_none_iff] at hz; omega
      | some o =>
        cases o with
        | none =>
          by_cases hij : i = j
          · subst hij
            have h2 : ¬ i + 1 ≤ i := by omega
            simp [h2]
          · by_cases hlt : j + 1 ≤ i
            · have : j ≤ i := by omega
              simp [hij, hlt, this]
            · have : ¬ j ≤ i := by omega
              simp [hij, hlt, this]
        | some p =>
          have hp := hu i p hz
          by_cases hij : i = j
          · subst hij
            have h1 : ¬ p = i := by omega
            have h2 : ¬ i + 1 ≤ i := by omega
            simp [hp, h1, h2]
          · by_cases hpj : p = j
            · subst hpj
              have : p + 1 ≤ i := hp
              simp [hij, this]
            · by_cases hlt : j + 1 ≤ i
              · have h1 : j ≤ i := by omega
                by_cases h2 : p < j
                · have h3 : p < j + 1 := by omega
                  simp [hij, hpj, hlt, h1, h2, h3]
                · have h3 : ¬ p < j + 1 := by omega
                  simp [hij, hpj, hlt, h1, h2, h3]
              · have h1 : ¬ j ≤ i := by omega
                simp [hij, hpj, hlt, h1]
    rw [e5] at e3
    omega
theorem bT_size {le : List Nat} {ab : List (Option Nat)} (hu : Upw ab) (h : 0 < ab.length) : (bT le ab ab.length 0).size ≤ ab.length := by
  have e := bT_sizes (le := le) hu ab.length 0 (by omega)
  have e2 := sum_one (fun i => (bT le ab (ab.length - i) i).size) ab.length 0
  rw [if_pos h] at e2
  have hle : ∀ l : List Nat, (l.map fun i => if i = 0 then (bT le ab (ab.length - i) i).size else 0).sum ≤ (l.map fun i => if rtP ab 0 i = true then (bT le ab (ab.length - i) i).size else 0).sum := fun l => by
    induction l with
    | nil => exact Nat.le_refl _
    | cons a l ih =>
      simp only [List.map_cons, List.sum_cons]
      by_cases ha : a = 0
      · subst ha
        have : rtP ab 0 0 = true := by
          unfold rtP
          cases hz : ab[0]? with
          | none => rfl
          | some o =>
            cases o with
            | none => rfl
            | some p => have := hu 0 p hz; omega
        rw [if_pos rfl, if_pos this]
        omega
      · rw [if_neg ha]
        omega
  have := hle (List.range ab.length)
  rw [e2, e] at this
  simpa using this
end DM
set_option maxRecDepth 100000
/-! Data mirror, part 118: text += text. -/
namespace DM
open PySem PySem.Spec L2
def catS : D → D → Option D
  | .str x, .str y => if x.length + y.length ≤ sizeLine then some (.str (x ++ y)) else none
  | _, _ => none
theorem op2_ipS {X : Cx} : Op2 (mdl X) (fun x y H Q => ∃ i j, x = .str i ∧ y = .str j ∧ i.length + j.length ≤ sizeLine ∧ Q (.str (i ++ j)) H) fz fz fz catS := by
  intro S H Γ x y a b d Q ho s1 s2 e k
  unfold catS at e
  split at e
  · split at e
    · rename_i hl
      cases e
      cases s1.str ho.ex; cases s2.str ho.ex
      exact ⟨_, _, rfl, rfl, hl, k _ S H (ho.addFz (.str _))⟩
    · cases e
  · cases e
theorem strsOf_g (g : T → Str) : ∀ cs : List T, strsOf (cs.map fun c => D.str (g c)) = some (cs.map g)
  | [] => rfl
  | c :: cs => by rw [List.map_cons, strsOf, strsOf_g g cs]; rfl
theorem T.wr_len (t : T) : t.wr.length = t.sgn.length := by
  show t.sgn.toArray.size = _
  rw [List.size_toArray]
theorem joinL_e : ∀ l : List (List Nat), TL.joinL [] l = l.flatten
  | [] => rfl
  | [p] => by rw [TL.joinL, List.flatten_cons, List.flatten_nil, List.append_nil]
  | p :: q :: r => by
    rw [TL.joinL, joinL_e (q :: r), List.nil_append]
    rfl
theorem T.tl_wr (t : T) : TL.tl t.wr = t.sgn := rfl
theorem sgns_flat : ∀ cs : List T, (cs.map T.sgn).flatten = T.sgns cs
  | [] => rfl
  | c :: cs => by rw [List.map_cons, List.flatten_cons, sgns_flat cs, T.sgns]
theorem join_wr (cs : List T) : Txt.join "" (cs.map T.wr) = ⟨(T.sgns cs).toArray⟩ := by
  have h := TL.tl_join "" (cs.map T.wr)
  rw [← TL.join_eq, show TL.tl "" = [] from rfl, joinL_e, List.map_map] at h
  refine TL.ext_tl (h.trans ?_)
  show (cs.map T.sgn).flatten = T.sgns cs
  exact sgns_flat cs
theorem lens_wr : ∀ cs : List T, ((cs.map T.wr).map (·.length)).sum = (T.sgns cs).length
  | [] => rfl
  | c :: cs => by
    rw [List.map_cons, List.map_cons, List.sum_cons, lens_wr cs, T.sgns, List.length_append, T.wr_len]
theorem joinD_wr {cs : List T} (h : T.sizes cs ≤ 1000) : joinD "" [.lst (cs.map fun c => D.str c.wr)] = some (.str ⟨(T.sgns cs).toArray⟩) := by
  have hl := T.sgns_len cs
  unfold joinD
  dsimp only
  rw [strsOf_g T.wr]
  dsimp only
  rw [if_pos, join_wr]
  rw [lens_wr, List.length_map]
  show (T.sgns cs).length + cs.length * 0 ≤ 16777216
  omega
theorem addD_str {x y : Str} (h : x.length + y.length ≤ 10000) : addD (.str x) (.str y) = some (.str (x ++ y)) := by
  show (if x.length + y.length ≤ sizeLine then some (D.str (x ++ y)) else none) = _
  rw [if_pos (Nat.le_trans h (by decide))]
theorem catS_str {x y : Str} (h : x.length + y.length ≤ 10000) : catS (.str x) (.str y) = some (.str (x ++ y)) := by
  show (if x.length + y.length ≤ sizeLine then some (D.str (x ++ y)) else none) = _
  rw [if_pos (Nat.le_trans h (by decide))]
theorem len_app (x y : Str) : (x ++ y).length = x.length + y.length := by
  have h := congrArg List.length (TL.tl_append x y)
  rw [List.length_append] at h
  exact h
theorem T.wr_leaf (x : Nat) : (T.node x []).wr = ⟨#[x]⟩ := by
  unfold T.wr
  rw [T.sgn_leaf]
theorem T.wr_node (x : Nat) {cs : List T} (h : cs ≠ []) : (((⟨#[x]⟩ : Str) ++ "(") ++ ⟨(T.sgns cs).toArray⟩) ++ ")" = (T.node x cs).wr := by
  refine TL.ext_tl ?_
  rw [TL.tl_append, TL.tl_append, TL.tl_append, T.tl_wr, T.sgn_node x h]
  show ([x] ++ [40]) ++ (T.sgns cs).toArray.toList ++ [41] = _
  rw [List.toList_toArray]
  simp
theorem T.wr_node2 (x : Nat) {cs : List T} (h : cs ≠ []) : (⟨#[x]⟩ : Str) ++ ((("(" : Str) ++ ⟨(T.sgns cs).toArray⟩) ++ ")") = (T.node x cs).wr := by
  refine TL.ext_tl ?_
  rw [TL.tl_append, TL.tl_append, TL.tl_append, T.tl_wr, T.sgn_node x h]
  show [x] ++ (([40] ++ (T.sgns cs).toArray.toList) ++ [41]) = _
  rw [List.toList_toArray]
  simp
end DM
set_option maxRecDepth 100000
/-! Data mirror, part 119: an except clause whose suite is a block of its own. -/
namespace DM
open PySem PySem.Spec PyProof.Rows L2
def wSuite (K : PySem.W.Frag) (c : Value) (i : Nat) (ts : TS) (D : Ends) : WX := fun cls d σ H =>
  ∃ C, cls = .ref C ∧ d = none ∧ PySem.W.exmOne K cls c = some true ∧ ∀ a, H a = none → ts ⟨fun σ6 H6 => D.nx (σ6.set i none) H6, fun _ _ => False, fun _ _ => False, fun _ _ => False⟩ (σ.set i (some (.ref a))) (upd H a (.ext (ExcAt a C)))
section
variable {X : Cx} {x n : Str} {c : Value} {i : Nat} {body suite : List Stmt} {b₀ : Stmt} {np pos pos' : Pos} {tb : WX → TS} {ts : TS}
theorem ps_try_suite (hs : X.stack = X.env :: X.outer) (hf : X.env.frame = some X.env.locals) (hN : X.N.Nodup) (hi : X.N[i]? = some n) (hln : X.env.kindOf n = some .local) (hc : Names X x c) (hx : X.ex = [])
    (hb : ∀ (W : WX) (pn : List (Addr × Obj)) (xe : Value → Shared → Prop), Takes (X.tr pn xe) W → PassesOwn (model X.prog X.w) X.A X.env xe → PSs (X.tr pn xe) body (tb W))
    (hsu : ∀ (a : Addr) (pn : List (Addr × Obj)), PSs (X.suite a pn) (b₀ :: suite) ts) :
    PS X (.Try body [.ExceptHandler (some (.Name x np)) (some n) (b₀ :: suite) pos'] [] [] pos) (fun D σ H => tb (wSuite X.K c i ts D) D σ H) := by
  refine ⟨fun pins s σ H D I h => ?_⟩
  have ok := I.ok
  have hfr : X.A.frames = some (X.env :: X.outer) := by rw [ok.frames, hs]
  have hloc : Loc X.env.scope n := .inl hln
  refine wpAny_Try_except ?_
  refine wpAny_mono ((hb (wSuite X.K c i ts D) (X.pn ++ pins) (fun e s₁ => wpAny (model X.prog X.w) X.A (noteFrame e X.env) (fun _ s₂ => wpAny (model X.prog X.w) X.A (setFlight e none) (fun _ s₃ =>
    wpAny (model X.prog X.w) X.A (handleBy e X.env [.ExceptHandler (some (.Name x np)) (some n) (b₀ :: suite) pos']) (SP X pins D) X.xe s₃) X.xe s₂) X.xe s₁) (fun u s' xx => ?_) PassesOwn.looking).run [] s σ H D (I.toTry _) h) (fun f s1 hsp => ?_) (fun e s1 he => he)
  · obtain ⟨a, B, sI, pins', σ', H', cls, d, rfl, J', nb, up, sky, na, os, ag, C, rfl, rfl, hb1, hyes⟩ := xx
    have J : Inv X pins σ' H' sI := J'.ofTry ok
    have sky' : Sky B (X.env :: X.outer) a (Zc (.ref C) none) X.env.locals s'.heap := by rw [← hs]; exact sky
    show wpAny (model X.prog X.w) X.A (noteFrame (.ref a) X.env) _ _ _
    refine Sky.land Zc.steady hfr hf sky' fun h3 fl3 up3 => ?_
    have J3 : Inv X pins σ' H' { s' with heap := h3 } := J.landed nb fl3.1 (up.trans up3) os ag
    obtain ⟨oe3, vs3, he3, hz3, hd3⟩ := fl3.there
    have nfr : a ∉ frs (X.env :: X.outer) := fun hm => by
      obtain ⟨_, o', e', hnf⟩ := fl3.2.2.1.mem hm
      rw [he3] at e'; cases e'
      exact hnf _ hd3
    have nL : a ≠ X.env.locals := fun z => nfr (List.mem_filterMap.mpr ⟨X.env, List.mem_cons_self, by rw [hf, z]⟩)
    have nF : a ∉ X.fs := fun hm => by
      obtain ⟨e, he, q⟩ := List.mem_filterMap.mp hm
      exact nfr (List.mem_filterMap.mpr ⟨e, List.mem_cons_of_mem _ he, q⟩)
    have newI : sI.heap.get? a = none := by
      cases e : sI.heap.get? a with
      | none => rfl
      | some o =>
        have := nb a o e (by rw [hs]; exact nfr)
        rw [fl3.2.1] at this
        cases this
    have new0 : X.s_0.heap.get? a = none := by
      cases e : X.s_0.heap.get? a with
      | none => rfl
      | some o =>
        obtain ⟨o', e'⟩ := J.base.there a o e (by rw [hx]; exact fun z => nomatch z)
        rw [newI] at e'
        cases e'
    have newP : ∀ p ∈ X.pn ++ pins, p.1 ≠ a := fun p hp z => by
      obtain ⟨e, _⟩ := J.pin p hp
      rw [z, newI] at e
      cases e
    have S3 := J3.suite he3 hd3 na nL nF
    refine wpAny_handleBy_cons (codeAny_handlers_test ?_) (by intro q; cases q)
    have LT : PySem.W.Looks (model X.prog X.w) h3 (typeOf (.ref a)) (.ref C) := fun A Q E s k q => wpAny_typeOf_ref (k _ _ he3) (by rw [hz3.1]; exact q)
    have LM := PySem.W.exm_one (M := model X.prog X.w) (J3.kIn) LT hb1
    have test : ∀ {Q : Value → Shared → Prop} {E : Value → Shared → Prop}, Q c { s' with heap := h3 } → wpAny (model X.prog X.w) (X.A.mark (some (.ref a))) (eval (.Name x np) X.env) Q E { s' with heap := h3 } := fun {Q E} q => by
      obtain ⟨hg, hdbg, hm | ⟨hm, hv, hnn⟩⟩ := hc
      · exact ld_glob (X := X.suite a ((a, oe3) :: (X.pn ++ pins))) S3 hg hm q hdbg
      · exact ld_blt (X := X.suite a ((a, oe3) :: (X.pn ++ pins))) S3 hg hm hv q hnn hdbg
    refine test (LM.here ?_)
    refine codeAny_handlers_suite_as ?_
    refine HandSPX.lands_againZ fl3 fun h4 fl4 up4 => ?_
    have J4 : Inv X pins σ' H' { s' with heap := h4 } := J.landed nb fl4.1 ((up.trans up3).trans up4) os ag
    obtain ⟨oe4, vs4, he4, hz4, hd4⟩ := fl4.there
    have S4 := J4.suite he4 hd4 na nL nF
    refine store_ok (X := X.suite a ((a, oe4) :: (X.pn ++ pins))) (v := .ref a) S4 hN hi hloc rfl (fun s5 S5 => ?_) (.inr hln)
    have hlt : i < σ'.length := by
      rw [J.len]
      exact (List.getElem?_eq_some_iff.mp hi).1
    have p5 := S5.pin (a, oe4) (by rw [List.append_nil]; exact List.mem_cons_self ..)
    have J5 := track (S5.unsuite ok) p5.1 hd4 p5.2.1 nL new0 newP (excAt_ok p5.1 hz4.1 hz4.2 hd4)
    have Y5 : Inv (X.suite a (X.pn ++ pins)) [] _ _ s5 := ⟨J5.ok.suite _ _, J5.os, J5.bare, J5.base, J5.loc, J5.cell, J5.free, J5.freeC, fun p hp => J5.pin p (by rw [List.append_nil] at hp; exact hp), J5.hok, J5.len⟩
    refine wpAny_mono ((hsu a (X.pn ++ pins)).run [] s5 _ _ ⟨fun σ6 H6 => D.nx (σ6.set i none) H6, fun _ _ => False, fun _ _ => False, fun _ _ => False⟩ Y5 (hyes a na)) (fun f s6 hsp => ?_) (fun _ _ z => False.elim z)
    cases f with
    | next =>
      obtain ⟨σ6, H6, S6, q6⟩ := hsp
      have J6 : Inv X pins σ6 H6 s6 := ⟨ok, S6.os, S6.bare, S6.base, S6.loc, S6.cell, S6.free, S6.freeC, fun p hp => S6.pin p (by rw [List.append_nil]; exact hp), S6.hok, S6.len⟩
      exact gone_ok J6 hN hi hln fun s7 J7 => ⟨_, _, J7, q6⟩
    | brk =>
      obtain ⟨_, _, _, z⟩ := hsp
      exact z.elim
    | cont =>
      obtain ⟨_, _, _, z⟩ := hsp
      exact z.elim
    | ret u =>
      obtain ⟨_, _, _, _, _, z⟩ := hsp
      exact z.elim
  · cases f with
    | next =>
      obtain ⟨σ', H', J', q⟩ := hsp
      exact wpAny_execs_nil ⟨σ', H', J'.ofTry ok, q⟩
    | brk =>
      obtain ⟨σ', H', J', q⟩ := hsp
      exact ⟨σ', H', J'.ofTry ok, q⟩
    | cont =>
      obtain ⟨σ', H', J', q⟩ := hsp
      exact ⟨σ', H', J'.ofTry ok, q⟩
    | ret u =>
      obtain ⟨v, σ', H', J', r, q⟩ := hsp
      exact ⟨v, σ', H', J'.ofTry ok, r, q⟩
end
def mTryS (i : Nat) (cs : Str → Bool) (mb msu : DEnv → SR) : DEnv → SR := fun δ => match mb δ with
  | .exc c δ' => if cs c = true then (match δ'[i]? with
    | some none => (match msu (δ'.set i (some (.exn c))) with
      | .nx δ2 => .nx (δ2.set i none)
      | _ => .stuck)
    | _ => .stuck) else .stuck
  | r => r
section
variable {X : Cx} {W : WX} {ms : List (Mode (mdl X))} {mr : Mode (mdl X)} {pn : List Nat} {x n : Str} {c : Value} {i : Nat} {body suite : List Stmt} {b₀ : Stmt} {np pos pos' : Pos} {mb msu : DEnv → SR}
theorem ds_tryS {cs : Str → Bool} (hs : X.stack = X.env :: X.outer) (hf : X.env.frame = some X.env.locals) (hN : X.N.Nodup) (hi : X.N[i]? = some n) (hln : X.env.kindOf n = some .local) (hc : Names X x c) (hx : X.ex = [])
    (hb : ∀ (W : WX) (pn' : List (Addr × Obj)) (xe : Value → Shared → Prop), Takes (X.tr pn' xe) W → PassesOwn (model X.prog X.w) X.A X.env xe → DSs (X.tr pn' xe) W ms mr pn body mb)
    (hsu : ∀ (a : Addr) (pn' : List (Addr × Obj)), DSs (X.suite a pn') (fun _ _ _ _ => False) ms mr pn (b₀ :: suite) msu)
    (hex : ∀ cn C, cs cn = true → X.mg cn = some (.ref C) → PySem.W.exmOne X.K (.ref C) c = some true) (hm : ms[i]? = some fz) (hpi : i ∉ pn) :
    DS X W ms mr pn (.Try body [.ExceptHandler (some (.Name x np)) (some n) (b₀ :: suite) pos'] [] [] pos) (mTryS i cs mb msu) := by
  refine ⟨_, ps_try_suite (tb := fun W D σ H => ∃ δ τ, StO (M := mdl X) ms σ δ H τ ∧ PostS (X := X) W ms mr pn σ τ D (mb δ)) (ts := fun D σ H => ∃ δ τ, StO (M := mdl X) ms σ δ H τ ∧ PostS (X := X) (fun _ _ _ _ => False) ms mr pn σ τ D (msu δ)) hs hf hN hi hln hc hx (fun W' pn' xe tk hp => ?_) (fun a pn' => ?_), fun σ δ H τ D st q => ⟨δ, τ, st, ?_⟩⟩
  · obtain ⟨t, p, rel⟩ := (hb W' pn' xe tk hp).run
    exact ⟨fun pins s σ H D I ⟨δ, τ, st, q⟩ => p.run pins s σ H D I (rel σ δ H τ D st q)⟩
  · obtain ⟨t, p, rel⟩ := (hsu a pn').run
    exact ⟨fun pins s σ H D I ⟨δ, τ, st, q⟩ => p.run pins s σ H D I (rel σ δ H τ D st q)⟩
  · unfold mTryS at q
    cases z : mb δ with
    | nx δ' => rw [z] at q; exact q
    | rt d δ' => rw [z] at q; exact q
    | bk δ' => rw [z] at q; exact q
    | ct δ' => rw [z] at q; exact q
    | stuck => rw [z] at q; exact q
    | exc cn δ' =>
      rw [z] at q
      dsimp only at q
      split at q
      · rename_i hcs
        split at q
        · rename_i hin
          intro σ' kp H' C st' g
          refine ⟨C, rfl, rfl, hex cn C hcs g, fun a na => ?_⟩
          obtain ⟨S, Γ, sl, ho⟩ := st'
          have e2 := exn_slot (X := X) (cn := cn) ho na g
          have st1 : StO (M := mdl X) ms (σ'.set i (some (.ref a))) (δ'.set i (some (.exn cn))) (upd H' a (.ext (ExcAt a C))) τ := StO.setM (m := fz) (v := .ref a) (d := .exn cn) (show StO (M := mdl X) ms σ' δ' (upd H' a (.ext (ExcAt a C))) (fz.fam (.ref a) (.exn cn) :: τ) from ⟨_, Γ, sl, e2⟩) hm
          split at q
          · rename_i δ2 z2
            refine ⟨_, τ, st1, ?_⟩
            rw [z2]
            intro σ6 H6 k6 st6
            obtain ⟨S6, Γ6, sl6, ho6⟩ := st6
            obtain ⟨Γ7, Δ7, p7, sl7⟩ := sl6.none1 i
            have hlt : i < σ6.length := by rw [sl6.len.1]; exact (List.getElem?_eq_some_iff.mp hm).1
            have no7 : ∀ d, (δ2.set i none)[i]? ≠ some (some d) := fun d e => by
              rw [List.getElem?_set_self (by rw [sl6.len.2]; exact (List.getElem?_eq_some_iff.mp hm).1)] at e
              cases e
            have sl8 := sl7.reval (i := i) none no7
            have ho8 : Holds S6 H6 (τ ++ Γ7) := by
              have h4 : Holds S6 H6 (Δ7 ++ (τ ++ Γ7)) := ho6.perm ((List.Perm.append_left τ p7).trans (List.perm_append_comm_assoc _ _ _))
              exact h4.dropL
            exact q _ _ (((kp.trans (Keep.set hpi)).trans k6).trans (Keep.set hpi)) ⟨S6, Γ7, sl8, ho8⟩
          · exact q.elim
        · exact q.elim
      · exact q.elim
end
end DM
set_option maxRecDepth 100000
/-! Data mirror, part 120: defs that are called within an except suite (they raise nothing). -/
namespace DM
open PySem PySem.Spec PyProof.Rows L2
structure RoomQ (k : Nat) (A : Around) : Prop where
  dp : A.depth + 3 * k + 5 < recursionLimit
  un : A.units + 16 * k + 200 < cLine
theorem RoomQ.deeper {k : Nat} {A : Around} (r : RoomQ (k + 1) A) (env : PySem.Env) : RoomQ k (A.deeper env) :=
  ⟨by have := r.dp; show A.depth + 1 + 3 * k + 5 < _; omega, by have := r.un; show A.units + 3 + 16 * k + 200 < _; omega⟩
theorem RoomQ.units {k : Nat} {A : Around} (h : RoomQ k A) : A.units + 64 < cLine := by have := h.un; omega
theorem RoomG.q {k : Nat} {A : Around} (h : RoomG k A) (v : Option Value) : RoomQ k (A.mark v) := ⟨h.r.dp, h.r.un⟩
def cxQ (CX : CXT) (P : Program) (w : World) (K : PySem.W.Frag) (mg : Str → Option Value) (base : Heap) (N : List Str) (qual : Str) (scope : Scope) (f : Addr) (cd : Value) (A : Around) (outer : List PySem.Env) (s : Shared) (H : Hp) (E : XK) : Cx :=
  { cxOf CX P w K mg base N qual scope f cd A outer s H E with calm := false, xe := fun _ _ => False }
structure FnOkQ (P : Program) (w : World) (K : PySem.W.Frag) (mg : Str → Option Value) (base : Heap) (CX : CXT) (k : Nat) (f : Addr) (fd : FuncData) (ps : List Str) (sp : Sp) : Prop where
  len : ∀ vs H Q E, sp vs H Q E → vs.length = ps.length
  run : ∀ (A : Around) (outer : List PySem.Env) (s : Shared) (H : Hp) (args : Args) (us : List Value) (vs : List V) (Q : VK) (E : XK), RoomQ k A → Env0 P w K mg base A outer s H → BindsTo s fd args (ps.zip us) → Vals vs us → sp vs H Q E →
    codeAny (model P w) A (.call (.ref f) args) (CR CX outer P w H s Q E) s
section
variable {P : Program} {w : World} {K : PySem.W.Frag} {mg : Str → Option Value} {base : Heap}
theorem inv_startQ {CX : CXT} {N ps : List Str} {qual : Str} {scope : Scope} {f : Addr} {cd : Value} {A : Around} {outer : List PySem.Env} {s s1 : Shared} {H : Hp} {E : XK} {us : List Value} {vs : List V}
    (S : FnScope N ps scope) (e0 : Env0 P w K mg base A outer s H) (hl : vs.length = ps.length) (r : Vals vs us)
    (x : InCallC s s.heap.objs.size (bindL (envOfC qual scope s.heap.objs.size f cd).kindOf (ps.zip us) fun _ => none) (cellsFrom (s.heap.objs.size + 1) scope.names []) (bindC (envOfC qual scope s.heap.objs.size f cd).kindOf (ps.zip us) fun _ => none) s1) :
    Inv (cxQ CX P w K mg base N qual scope f cd A outer s H E) [] (L2.start N vs) H s1 := by
  have e1 : Env0 P w K mg base { A with handled := none } outer s H := ⟨e0.frames, e0.mod, e0.bs, e0.bsz, e0.funs, e0.frf, e0.hok, e0.bare⟩
  have J := inv_start (CX := CX) (E := E) S (A := { A with handled := none }) rfl e1 hl r x
  have o := J.ok
  exact ⟨⟨o.mod, o.kind, o.glob, o.blt, o.above, o.inj, o.has, o.cab, (fun z => Bool.noConfusion (show false = true from z)), Around.frames_deeper e0.frames, o.stk, o.exf, o.bs, o.bsz, o.noex, o.exfs, o.funs, o.frf⟩, J.os, J.bare, J.base, J.loc, J.cell, J.free, J.freeC, J.pin, J.hok, J.len⟩
theorem okQ {x qual : Str} {st : Stmt} {f : Addr} {fd : FuncData} {N ps : List Str} {k : Nat} {sp : Sp} (F : Fun K x qual st f fd) (S : FnScope N ps (defScope st)) (len : ∀ vs H Q E, sp vs H Q E → vs.length = ps.length)
    (hbody : ∀ (cdv : Value) (A : Around) (outer : List PySem.Env) (s : Shared) (H : Hp) (vs : List V) (Q : VK) (E : XK), RoomQ k (A.deeper (envOfC qual (defScope st) s.heap.objs.size f cdv)) → sp vs H Q E →
      ∃ t, PSs (cxQ (L2.CX P w) P w K mg base N qual (defScope st) f cdv A outer s H E) (defBody st) t ∧ t { nx := fun _ H' => Q .non H', rt := Q } (L2.start N vs) H) : FnOkQ P w K mg base (L2.CX P w) (k + 1) f fd ps sp := by
  obtain ⟨oc, od, kV, doc, pm, an, cdv, ct, osl, rfl, lk, hcd⟩ := F.ex
  refine ⟨len, fun A outer s H args us vs Q E hr e0 hb r hsp => ?_⟩
  have hl := len _ _ _ _ hsp
  have kin : K.In s.heap := e0.mod.kin.keeps fun b o e => (e0.bs b o e).1
  have lim : s.heap.NoLimit := e0.mod.nolimit.keeps fun b o e => (e0.bs b o e).1
  refine codeAny_call_function (by have := hr.dp; omega) (kin _ _ lk) rfl S.co S.gen rfl (PySem.W.codeRec_of kin hcd) (hb _ _ _ _ ?_)
  refine wpAny_newFunctionEnv_cells S.kind (fun ⟨n, v⟩ hy => ?_) fun env he s1 x => ?_
  · rcases S.par n (List.of_mem_zip hy).1 with q | q
    · exact .inl q
    · exact .inr ⟨q, PySem.W.cellsFrom_some _ _ _ (.inl q)⟩
  · subst he
    refine ⟨lim.keeps x.toInCall.keep, codeAny_func ?_⟩
    obtain ⟨t, ht, hq⟩ := hbody cdv A outer s H vs Q E (hr.deeper _) hsp
    have I : Inv (cxQ (L2.CX P w) P w K mg base N qual (defScope st) f cdv A outer s H E) [] (L2.start N vs) H s1 := inv_startQ S e0 hl r x
    refine wpAny_mono (ht.run [] s1 (L2.start N vs) H _ I hq) (fun fl s' hs => ?_) fun e s' hs => False.elim hs
    cases fl with
    | ret u =>
      obtain ⟨v, σ', H', J, rv, q⟩ := hs
      exact ⟨v, H', J.os, J.bare, J.base, J.hok, rv, q⟩
    | next =>
      obtain ⟨σ', H', J, q⟩ := hs
      exact ⟨V.non, H', J.os, J.bare, J.base, J.hok, rfl, q⟩
    | brk =>
      obtain ⟨_, _, _, q⟩ := hs
      exact False.elim q
    | cont =>
      obtain ⟨_, _, _, q⟩ := hs
      exact False.elim q
end
section
variable {X : Cx} {CX : CXT} {k : Nat} {f : Addr} {fd : FuncData} {ps : List Str} {sp : Sp} {E : L2.St → XK} {x : Str} {q pos : Pos} {e : Expr} {es : List Expr} {t : TA}
theorem pe_callQ (F : FnOkQ X.prog X.w X.K X.mg X.base CX k f fd ps sp) (hr : RoomQ k X.A) (hg : Gl X x) (hm : X.mg x = some (.ref f)) (hk : PySem.W.keepIn X.K (.ref f) = true) (hb : Binds X.K fd ps []) (hx : ∀ σ, PassesAt CX X σ (E σ))
    (ha : PA X (e :: es) t) (hdb : (x == ("__debug__" : Str)) = false := by decide) (he : starEach (e :: es) X.env = (false, eval e X.env) :: starEach es X.env := by rfl) (hpl : (backTo pos (starEach es X.env)).any (·.1) = false := by rfl) :
    PE X (.Call (.Name x q) (e :: es) [] pos) (tCallS sp E t) := by
  refine ⟨fun pins s σ H Q I h => ?_⟩
  refine wpAny_Call_Name_kw (ld_glob I hg hm ?_ hdb)
  refine PySem.W.callWith_K (h₀ := X.base) I.ok.mod.kin hk (thn (ha.run pos pins s σ H _ I h) fun us s1 ⟨vs, H1, I1, r, q⟩ => ⟨I1.kIn, ?_⟩) he hpl
  have b := hb s1 us I1.kIn (by rw [List.append_nil, ← r.length]; exact F.len _ _ _ _ q)
  rw [List.append_nil] at b
  refine wpAny_call (codeAny_mono (F.run X.A X.stack s1 H1 ⟨us, []⟩ us vs Q (E σ) hr I1.env0 b r q) fun r s' hq => ?_)
  cases r with
  | error e => exact hx σ pins H1 s1 e s' I1 hq
  | ok fl => cases fl <;> first | exact I1.after hq | exact False.elim hq
end
section
variable {P : Program} {w : World} {K : PySem.W.Frag} {mg : Str → Option Value} {base : Heap}
theorem fn_okQ {x qual : Str} {st : Stmt} {f : Addr} {fd : FuncData} {N ps : List Str} {k : Nat} (sg : Sig ⟨K, mg⟩) (ext : List (Mode ⟨K, mg⟩)) {body : DEnv → SR} (F : Fun K x qual st f fd) (S : FnScope N ps (defScope st))
    (hl : ps.length = sg.ps.length) (hio : sg.io.length = sg.ps.length) (hN : N.length = ps.length + ext.length)
    (hb : ∀ (cdv : Value) (A : Around) (outer : List PySem.Env) (s : Shared) (H : Hp) (E : XK), RoomQ k (A.deeper (PyProof.Rows.envOfC qual (defScope st) s.heap.objs.size f cdv)) →
      DSs (cxQ (L2.CX P w) P w K mg base N qual (defScope st) f cdv A outer s H E) (fun cls d _ H => E cls d H) (sg.ps ++ ext) sg.rm (pnOf 0 sg.io) (defBody st) body) :
    FnOkQ P w K mg base (L2.CX P w) (k + 1) f fd ps (spD sg (mkF ext.length sg.io body)) := by
  refine okQ F S (fun vs H Q E h => ?_) fun cdv A outer s H vs Q E hr h => ?_
  · obtain ⟨_, _, _, e, _⟩ := h
    rw [e, hl]
  · obtain ⟨S0, ds, τ, e1, e2, ho, q⟩ := h
    obtain ⟨t, p, rel⟩ := (hb cdv A outer s H E hr).run
    refine ⟨t, p, rel _ (ds.map some ++ List.replicate ext.length none) H τ _ ⟨S0, _, ?_, ho.perm List.perm_append_comm⟩ ?_⟩
    · have e3 : L2.start N vs = vs.map some ++ List.replicate ext.length none := by
        unfold L2.start
        rw [show N.length - vs.length = ext.length by omega]
      rw [e3]
      exact Sl.start ext e1 e2
    · unfold mkF at q
      have key : ∀ {σ' : L2.St} {δ' : DEnv} {Γ : List Pc} {es : List D}, Keep (pnOf 0 sg.io) (L2.start N vs) σ' → Sl (sg.ps ++ ext) σ' δ' Γ → outs sg.io δ' = some es → ∃ Γ2, Γ.Perm (famsIO sg.io sg.ps vs es ++ Γ2) := fun {σ' δ' Γ es} kp sl ho => by
        refine sl.outs ho hio e1 fun i hi => ?_
        have e := kp i (by simpa using mem_pnOf (n := 0) hi)
        rw [e]
        unfold L2.start
        have hlt : i < sg.ps.length := by
          have := (List.getElem?_eq_some_iff.mp hi).1
          omega
        rw [List.getElem?_append_left (by simp; omega)]
      cases z : body (ds.map some ++ List.replicate ext.length none) with
      | rt d δ' =>
        rw [z] at q
        intro v σ' H' kp st'
        obtain ⟨S1, Γ, sl, ho1⟩ := st'
        dsimp only at q
        split at q
        · rename_i es zo
          obtain ⟨Γ2, pp⟩ := key kp sl zo
          refine q v S1 H' ?_
          have h1 : Holds S1 H' (Γ2 ++ (sg.rm.fam v d :: (famsIO sg.io sg.ps vs es ++ τ))) := ho1.perm ((pp.append_left _).trans (by
            refine (List.perm_append_comm_assoc _ _ _).trans ?_
            refine List.Perm.trans ?_ List.perm_append_comm
            show (famsIO sg.io sg.ps vs es ++ ((sg.rm.fam v d :: τ) ++ Γ2)).Perm ((sg.rm.fam v d :: (famsIO sg.io sg.ps vs es ++ τ)) ++ Γ2)
            rw [← List.append_assoc]
            exact List.perm_middle.append_right _))
          exact h1.dropL
        · exact q.elim
      | nx δ' =>
        rw [z] at q
        intro σ' H' kp st'
        obtain ⟨S1, Γ, sl, ho1⟩ := st'
        dsimp only at q
        split at q
        · rename_i es zo
          obtain ⟨Γ2, pp⟩ := key kp sl zo
          have h1 : Holds S1 H' (Γ2 ++ (famsIO sg.io sg.ps vs es ++ τ)) := ho1.perm ((pp.append_left _).trans ((List.perm_append_comm_assoc _ _ _).trans (by
            rw [← List.append_assoc]
            exact List.perm_append_comm)))
          exact q .non S1 H' (h1.dropL.scM rfl .non)
        · exact q.elim
      | exc c δ' =>
        rw [z] at q
        intro σ' kp H' C st' gC
        obtain ⟨S1, Γ, sl, ho1⟩ := st'
        dsimp only at q
        split at q
        · rename_i es zo
          obtain ⟨Γ2, pp⟩ := key kp sl zo
          have h1 : Holds S1 H' (Γ2 ++ (famsIO sg.io sg.ps vs es ++ τ)) := ho1.perm ((pp.append_left _).trans ((List.perm_append_comm_assoc _ _ _).trans (by
            rw [← List.append_assoc]
            exact List.perm_append_comm)))
          exact q S1 H' C h1.dropL gC
        · exact q.elim
      | bk δ' => rw [z] at q; exact q.elim
      | ct δ' => rw [z] at q; exact q.elim
      | stuck => rw [z] at q; exact q.elim
theorem fnQ {x qual : Str} {st : Stmt} {f : Addr} {fd : FuncData} {N ps : List Str} {k : Nat} (sg : Sig ⟨K, mg⟩) (ext ms : List (Mode ⟨K, mg⟩)) (mr : Mode ⟨K, mg⟩) (pn : List Nat) (n : Nat) {io : List Bool} {body : DEnv → SR} (F : Fun K x qual st f fd) (S : FnScope N ps (defScope st))
    (hb : ∀ (cdv : Value) (A : Around) (outer : List PySem.Env) (s : Shared) (H : Hp) (E : XK), RoomQ (k + 1) (A.deeper (PyProof.Rows.envOfC qual (defScope st) s.heap.objs.size f cdv)) → N.Nodup →
      DSs (cxQ (L2.CX P w) P w K mg base N qual (defScope st) f cdv A outer s H E) (fun cls d _ H => E cls d H) ms mr pn (defBody st) body)
    (hl : ps.length = sg.ps.length := by rfl) (hio : sg.io.length = sg.ps.length := by rfl) (hN : N.length = ps.length + ext.length := by rfl) (hms : sg.ps ++ ext = ms := by rfl) (hmr : sg.rm = mr := by rfl) (hpn : pnOf 0 sg.io = pn := by rfl) (hn : ext.length = n := by rfl) (hi : sg.io = io := by rfl) :
    FnOkQ P w K mg base (L2.CX P w) (k + 2) f fd ps (spD sg (mkF n io body)) := by
  subst hms hmr hpn hn hi
  exact fn_okQ (k := k + 1) sg ext F S hl hio hN fun cdv A outer s H E hr => hb cdv A outer s H E hr S.nd
theorem fn0Q {f : Addr} {fd : FuncData} {ps : List Str} (sg : Sig ⟨K, mg⟩) (hl : ps.length = sg.ps.length := by rfl) : FnOkQ P w K mg base (L2.CX P w) 0 f fd ps (spD sg fun _ => .stuck) := by
  have no : ∀ vs H Q E, ¬ spD sg (fun _ => .stuck) vs H Q E := fun vs H Q E h => by
    obtain ⟨S, ds, τ, _, _, _, q⟩ := h
    exact q.elim
  exact ⟨fun vs H Q E h => absurd h (no vs H Q E), fun A outer s H args us vs Q E _ _ _ _ h => absurd h (no vs H Q E)⟩
end
def CalQ (P : Program) (w : World) (M : Mdl) (base : Heap) (k : Nat) (x : Str) (ps : List Str) (sg : Sig M) (fn : Fn) : Prop :=
  ∃ f fd, M.mg x = some (.ref f) ∧ PySem.W.keepIn M.K (.ref f) = true ∧ Binds M.K fd ps [] ∧ FnOkQ P w M.K M.mg base (L2.CX P w) k f fd ps (spD sg fn)
section
variable {X : Cx} {W : WX} {ms : List (Mode (mdl X))}
theorem de_callQ {rm : Mode (mdl X)} {io : List Bool} {x : Str} {ps : List Str} {sg : Sig (mdl X)} {fn : Fn} {k : Nat} {ks : List (Kd (mdl X))} {m : DEnv → R (List Opd)} {p pos : Pos} {e : Expr} {es : List Expr} (hc : CalQ X.prog X.w (mdl X) X.base k x ps sg fn) (hr : RoomQ k X.A) (tk : Takes X W) (ha : DA X W ms (e :: es) ks m)
    (hg : Gl X x := by rfl) (hk : ks.map (Kd.mode ms) = sg.ps := by rfl) (hn : ks.length = sg.ps.length := by rfl) (hdb : (x == ("__debug__" : Str)) = false := by decide) (he : starEach (e :: es) X.env = (false, eval e X.env) :: starEach es X.env := by rfl) (hpl : (backTo pos (starEach es X.env)).any (·.1) = false := by rfl) (hrm : sg.rm = rm := by rfl) (hio : sg.io = io := by rfl) :
    DE X W ms (.Call (.Name x p) (e :: es) [] pos) rm (mCall fn io m) := by
  subst hrm hio
  obtain ⟨f, fd, gf, kp, bd, F⟩ := hc
  obtain ⟨t, pa, ra⟩ := ha.run
  refine ⟨_, pe_callQ F hr hg gf kp bd (fun σ => passAt tk σ) pa hdb he hpl, fun σ δ H τ Q st q => ra σ δ H τ _ st ?_⟩
  unfold mCall at q
  cases z : m δ with
  | exc c δ' => rw [z] at q; exact q
  | stuck => rw [z] at q; exact q
  | ok os δ1 =>
    rw [z, R.bind_ok] at q
    exact fun vs H1 Γa ops st1 => spD_of ops st1 hk hn q
end
end DM
set_option maxRecDepth 100000
/-! Data mirror, part 121: isinstance of a kept exception, several classes at once. -/
namespace DM
open PySem PySem.Spec PyProof.Rows L2
def rIsXT (K : PySem.W.Frag) : List V → Hp → VK → Prop := fun xs H Q => ∃ (a C tp : Addr) (cs : List V) (us : List Value) (b : Bool), xs = [.ref a, .ref tp] ∧ H tp = some (.tup cs) ∧ Paired ClsV cs us ∧ H a = some (.ext (ExcAt a C)) ∧ ExcC K C ∧ PySem.W.kitAny K (.ref C) us = some b ∧ Q (.bl b) H
theorem call_isXT {X : Cx} : CallR X (.builtin "isinstance") (rIsXT X.K) := by
  intro pins s σ H xs us Q I r h
  obtain ⟨a, C, tp, cs, ws, b, rfl, hT, k, ha, ec, e, q⟩ := h
  obtain ⟨u1, u2, rfl, r1, r2⟩ := vals2 r
  cases (show u1 = Value.ref a from r1)
  cases (show u2 = Value.ref tp from r2)
  obtain ⟨⟨oe, vs, g1, g2, g3, g4⟩, _⟩ := I.hok a _ ha
  have J : PySem.W.InstAt s.heap a oe C none := by
    obtain ⟨oc, od, oda, osl⟩ := oe
    dsimp only at g2 g3 g4
    subst g2 g3 g4
    exact ⟨g1, rfl, rfl, trivial⟩
  obtain ⟨_, its, rv, o, h1, h2, n, h3⟩ := (show ObjOk X.prog X.w H s.heap tp (.tup cs) from I.hok tp _ hT)
  have e3 := ClsV.all k rv
  subst e3
  obtain ⟨oc, od, dt, sl⟩ := o
  simp only at h2 h3
  subst h2 h3
  exact PySem.W.kia_tup (PySem.W.handS_kitx_exc ec.hg ec.hk ec.hs ec.hd ec.ha ec.hn ec.ht ec.hm) I.kIn J h1 e (fun z => nomatch z) fun tk => ⟨.bl b, H, I.tok tk, rfl, q⟩
def anyTab : List (Str → Option Bool) → Str → Option Bool
  | [], _ => some false
  | t :: ts, c => match t c with
    | some true => some true
    | some false => anyTab ts c
    | none => none
def mIsT (i : Nat) (tabs : List (Str → Option Bool)) : DEnv → R D := fun δ => match (δ[i]?).join with
  | some (.exn c) => (match anyTab tabs c with
    | some b => .ok (.bl b) δ
    | none => .stuck)
  | _ => .stuck
def tCl : List V → TA
  | [] => tNil
  | v :: vs => tCons (tC v) (tCl vs)
theorem tCl_e : ∀ (vs : List V) {σ : L2.St} {H : Hp} {k : List V → Hp → Prop}, k vs H → tCl vs σ H k
  | [], σ, H, k, h => h
  | v :: vs, σ, H, k, h => tCl_e vs (k := fun xs H2 => k (v :: xs) H2) h
inductive TabsOk (X : Cx) : List (Str → Option Bool) → List V → List Value → Prop
  | nil : TabsOk X [] [] []
  | cons {t : Str → Option Bool} {ts : List (Str → Option Bool)} {C : Addr} {vs : List V} {us : List Value} : (∀ c D b, t c = some b → X.mg c = some (.ref D) → ExcC X.K D ∧ PySem.W.kitOne X.K (.ref D) (.ref C) = some b) → TabsOk X ts vs us → TabsOk X (t :: ts) (.ref C :: vs) (.ref C :: us)
theorem TabsOk.cls {X : Cx} {ts : List (Str → Option Bool)} {vs : List V} {us : List Value} (h : TabsOk X ts vs us) : Paired ClsV vs us := by
  induction h with
  | nil => exact .nil
  | cons _ _ ih => exact .cons (.own _) ih
theorem TabsOk.any {X : Cx} {ts : List (Str → Option Bool)} {vs : List V} {us : List Value} (h : TabsOk X ts vs us) {c : Str} {D : Addr} (g : X.mg c = some (.ref D)) : ∀ {b : Bool}, anyTab ts c = some b → PySem.W.kitAny X.K (.ref D) us = some b := by
  induction h with
  | nil => intro b e; exact e
  | @cons t ts C vs us hx _ ih =>
    intro b e
    unfold anyTab at e
    cases z : t c with
    | none => rw [z] at e; cases e
    | some b0 =>
      rw [z] at e
      have k := (hx c D b0 z g).2
      cases b0 with
      | true =>
        refine kitAny_cons k (fun z => Bool.noConfusion z) fun _ => ?_
        injection e with e
        exact e.symm
      | false => exact kitAny_cons k (fun _ => ih e) fun z => Bool.noConfusion z
section
variable {X : Cx} {W : WX} {ms : List (Mode (mdl X))} {a : Expr} {es : List Expr} {p pos pt : Pos} {x1 : Nat}
theorem de_isxT {i : Nat} {t : Str → Option Bool} {ts : List (Str → Option Bool)} {vs : List V} {us : List Value} (hm : X.mg "isinstance" = none) (pa : PE X a (tVar i)) (pes : PA X es (tCl vs)) (hx : TabsOk X (t :: ts) vs us) (hi : ms[i]? = some fz := by rfl) (hl : Nat.ble vs.length 1000 = true := by rfl) (hg : Gl X "isinstance" := by rfl)
    (he : starEach [a, .Tuple es x1 pt] X.env = (false, eval a X.env) :: starEach [.Tuple es x1 pt] X.env := by rfl) (hs2 : starEach [.Tuple es x1 pt] X.env = (false, eval (.Tuple es x1 pt) X.env) :: starEach [] X.env := by rfl) (hpl : (backTo pos (starEach [.Tuple es x1 pt] X.env)).any (·.1) = false := by rfl) :
    DE X W ms (.Call (.Name "isinstance" p) [a, .Tuple es x1 pt] [] pos) fz (mIsT i (t :: ts)) := by
  refine ⟨_, pe_callB call_isXT hg hm (by decide +kernel) (pa_cons pa (pa_cons (pe_tup pes) pa_nil hs2) he) (by decide) (by decide) he hpl, fun σ δ H τ Q st q => ?_⟩
  unfold mIsT at q
  split at q
  · rename_i c hc
    split at q
    · rename_i b hb
      obtain ⟨S, Γ, sl, ho⟩ := id st
      obtain ⟨v, m, Γx, f1, f2, f3, slx⟩ := sl.take (join_some' hc)
      rw [hi] at f2
      cases f2
      obtain ⟨F, rv, _⟩ := ho.mem (P := (fz (M := mdl X)).fam v (.exn c)) (List.mem_append.mpr (.inr ((f3.mem_iff).mpr (List.mem_cons_self ..))))
      cases rv with
      | @exn a1 C _ h1 h2 =>
        refine ⟨.ref a1, f1, ?_⟩
        refine tCl_e vs (k := fun xs H2 => _) ?_
        refine ⟨Nat.le_trans (Nat.le_of_ble_eq_true hl) (by decide), fun tp hp => ?_⟩
        have ex : Ex H (upd H tp (.tup vs)) := Ex.new hp
        obtain ⟨ec, _⟩ : ExcC X.K C ∧ True := by
          cases hx with
          | @cons _ _ C0 _ _ hx0 _ =>
            unfold anyTab at hb
            cases z : t c with
            | none => rw [z] at hb; cases hb
            | some b0 => exact ⟨(hx0 c C b0 z h2).1, trivial⟩
        refine ⟨a1, C, tp, vs, us, b, rfl, upd_same, hx.cls, ex _ _ (ho.ex _ _ h1), ec, hx.any h2 hb, ?_⟩
        have st2 : StO ms σ δ (upd H tp (.tup vs)) τ := ⟨S, Γ, sl, ho.exGrow ex⟩
        exact q (.bl b) _ (st2.fzOf fun S => .bl _)
    · exact q.elim
  · exact q.elim
end
end DM
set_option maxRecDepth 100000
/-! Plain Lean, part 122: what is read writes itself back; a reading by descent reads the same. -/
namespace DM
open PySem PySem.Spec L2
theorem T.sgns_app : ∀ (a b : List T), T.sgns (a ++ b) = T.sgns a ++ T.sgns b
  | [], b => rfl
  | x :: a, b => by rw [List.cons_append, T.sgns, T.sgns, T.sgns_app a b, List.append_assoc]
theorem T.sgns_one (t : T) : T.sgns [t] = t.sgn := by rw [T.sgns, T.sgns, List.append_nil]
def enc : List (List T × Nat) → List T → List Nat
  | [], cs => T.sgns cs
  | (as, x) :: fs, cs => enc fs as ++ (x :: 40 :: T.sgns cs)
theorem enc_app : ∀ (fs : List (List T × Nat)) (cs ds : List T), enc fs (cs ++ ds) = enc fs cs ++ T.sgns ds
  | [], cs, ds => T.sgns_app cs ds
  | (as, x) :: fs, cs, ds => by
    rw [enc, enc, T.sgns_app]
    simp
def Gp (fs : List (List T × Nat)) (cs : List T) : Prop := (∀ f ∈ fs, T.goods f.1 ∧ 97 ≤ f.2 ∧ f.2 ≤ 122) ∧ T.goods cs
theorem goods_app {a b : List T} (h : T.goods a) (k : T.goods b) : T.goods (a ++ b) := T.goods_iff.mpr fun t ht => by
  rcases List.mem_append.mp ht with h1 | h1
  · exact T.goods_iff.mp h t h1
  · exact T.goods_iff.mp k t h1
theorem goods_one {t : T} (h : t.good) : T.goods [t] := T.goods_iff.mpr fun u hu => by rw [List.mem_singleton.mp hu]; exact h
theorem good_leaf {c : Nat} (h : isLN c = true) : (T.node c []).good := by
  unfold isLN at h
  simp at h
  rw [T.good]
  exact ⟨h, by rw [T.goods]; trivial⟩
theorem rdN_sound : ∀ (s : List Nat) (p : Bool) (fs : List (List T × Nat)) (cs : List T) {t : T}, Gp fs cs → rdN p s fs cs = some ([], [t]) → t.good ∧ enc fs cs ++ s = t.sgn
  | [], p, fs, cs, t, g, h => by
    rw [rdN] at h
    cases h
    refine ⟨T.goods_iff.mp g.2 t (List.mem_singleton.mpr rfl), ?_⟩
    rw [List.append_nil, enc, T.sgns_one]
  | c :: s, p, fs, cs, t, g, h => by
    rw [rdN_cons] at h
    by_cases h1 : isLN c = true
    · rw [if_pos h1] at h
      obtain ⟨a, b⟩ := rdN_sound s true fs (cs ++ [.node c []]) ⟨g.1, goods_app g.2 (goods_one (good_leaf h1))⟩ h
      rw [enc_app, T.sgns_one, T.sgn_leaf] at b
      exact ⟨a, by rw [← b]; simp⟩
    · rw [if_neg h1] at h
      by_cases h2 : c = 40 ∧ p = true
      · rw [if_pos h2] at h
        split at h
        · rename_i x hx
          obtain ⟨ys, hy⟩ := List.getLast?_eq_some_iff.mp hx
          subst hy
          rw [List.dropLast_concat] at h
          have gl := T.goods_iff.mp g.2 (.node x []) (by simp)
          rw [T.good] at gl
          have gy : T.goods ys := T.goods_iff.mpr fun u hu => T.goods_iff.mp g.2 u (List.mem_append_left _ hu)
          obtain ⟨a, b⟩ := rdN_sound s false ((ys, x) :: fs) [] ⟨fun f hf => by
            rcases List.mem_cons.mp hf with rfl | hf
            · exact ⟨gy, gl.1⟩
            · exact g.1 f hf, by rw [T.goods]; trivial⟩ h
          refine ⟨a, ?_⟩
          rw [← b, enc, enc_app, T.sgns_one, T.sgn_leaf, h2.1, T.sgns]
          simp
        · cases h
      · rw [if_neg h2] at h
        by_cases h3 : c = 41 ∧ cs ≠ []
        · rw [if_pos h3] at h
          split at h
          · rename_i fs' as x fs2
            have gf := g.1 (as, x) (List.mem_cons_self ..)
            have gn : (T.node x cs).good := by rw [T.good]; exact ⟨gf.2, g.2⟩
            obtain ⟨a, b⟩ := rdN_sound s false fs2 (as ++ [.node x cs]) ⟨fun f hf => g.1 f (List.mem_cons_of_mem _ hf), goods_app gf.1 (goods_one gn)⟩ h
            refine ⟨a, ?_⟩
            rw [enc_app, T.sgns_one, T.sgn_node x h3.2] at b
            rw [← b, enc, h3.1]
            simp
          · cases h
        · rw [if_neg h3] at h
          cases h
theorem readN_sound {s : List Nat} {t : T} (h : readN s = some t) : t.good ∧ t.sgn = s := by
  unfold readN at h
  split at h
  · rename_i u e
    cases h
    obtain ⟨a, b⟩ := rdN_sound s false [] [] ⟨(fun f hf => by cases hf), (by rw [T.goods]; trivial)⟩ e
    exact ⟨a, by rw [← b, enc, T.sgns]; rfl⟩
  · cases h
/-! ### by descent -/
def prl (f : List Nat → Option (T × List Nat)) : Nat → List Nat → Option (List T × List Nat)
  | 0, _ => none
  | m + 1, s => if s.head? = some 41 then some ([], s.tail) else match f s with
    | some (t, s') => (prl f m s').map fun r => (t :: r.1, r.2)
    | none => none
def prs : Nat → List Nat → Option (T × List Nat)
  | 0, _ => none
  | n + 1, s => match s with
    | [] => none
    | c :: s1 => if isLN c = true then (if s1.head? = some 40 then (if s1.tail.head? = some 41 then none else (prl (prs n) (s1.length + 1) s1.tail).map fun r => (.node c r.1, r.2)) else some (.node c [], s1)) else none
theorem prs_nil (n : Nat) : prs n [] = none := by cases n <;> rfl
theorem prs_cons (n c : Nat) (s1 : List Nat) : prs (n + 1) (c :: s1) = if isLN c = true then (if s1.head? = some 40 then (if s1.tail.head? = some 41 then none else (prl (prs n) (s1.length + 1) s1.tail).map fun r => (.node c r.1, r.2)) else some (.node c [], s1)) else none := rfl
theorem prl_succ (f : List Nat → Option (T × List Nat)) (m : Nat) (s : List Nat) : prl f (m + 1) s = if s.head? = some 41 then some ([], s.tail) else match f s with
    | some (t, s') => (prl f m s').map fun r => (t :: r.1, r.2)
    | none => none := rfl
theorem prl_sound {f : List Nat → Option (T × List Nat)} (hf : ∀ s t s', f s = some (t, s') → t.good ∧ s = t.sgn ++ s') : ∀ (m : Nat) (s : List Nat) (ts : List T) (s' : List Nat), prl f m s = some (ts, s') → T.goods ts ∧ s = T.sgns ts ++ 41 :: s'
  | 0, s, ts, s', h => by rw [prl] at h; cases h
  | m + 1, s, ts, s', h => by
    rw [prl_succ] at h
    by_cases h1 : s.head? = some 41
    · rw [if_pos h1] at h
      cases h
      cases s with
      | nil => cases h1
      | cons c s => cases h1; exact ⟨by rw [T.goods]; trivial, by rw [T.sgns]; rfl⟩
    · rw [if_neg h1] at h
      cases z : f s with
      | none => rw [z] at h; cases h
      | some r =>
        obtain ⟨t, s1⟩ := r
        rw [z] at h
        obtain ⟨⟨us, s2⟩, e1, e2⟩ := Option.map_eq_some_iff.mp h
        cases e2
        obtain ⟨a, b⟩ := hf _ _ _ z
        obtain ⟨c, d⟩ := prl_sound hf m s1 us s2 e1
        exact ⟨by rw [T.goods]; exact ⟨a, c⟩, by rw [b, d, T.sgns, List.append_assoc]⟩
theorem prs_sound : ∀ (n : Nat) (s : List Nat) (t : T) (s' : List Nat), prs n s = some (t, s') → t.good ∧ s = t.sgn ++ s'
  | 0, s, t, s', h => by rw [prs] at h; cases h
  | n + 1, s, t, s', h => by
    cases s with
    | nil => rw [prs_nil] at h; cases h
    | cons c s1 =>
      rw [prs_cons] at h
      by_cases h1 : isLN c = true
      · rw [if_pos h1] at h
        by_cases h2 : s1.head? = some 40
        · rw [if_pos h2] at h
          by_cases h3 : s1.tail.head? = some 41
          · rw [if_pos h3] at h; cases h
          · rw [if_neg h3] at h
            obtain ⟨⟨us, s2⟩, e1, e2⟩ := Option.map_eq_some_iff.mp h
            cases e2
            obtain ⟨a, b⟩ := prl_sound (prs_sound n) _ _ _ _ e1
            have gl := good_leaf h1
            rw [T.good] at gl
            have hne : us ≠ [] := fun z => by
              subst z
              rw [T.sgns, List.nil_append] at b
              rw [b] at h3
              exact h3 rfl
            refine ⟨by rw [T.good]; exact ⟨gl.1, a⟩, ?_⟩
            rw [T.sgn_node c hne]
            cases s1 with
            | nil => cases h2
            | cons d s1 =>
              cases h2
              have b : s1 = T.sgns us ++ 41 :: s2 := b
              rw [b]
              simp
        · rw [if_neg h2] at h
          cases h
          exact ⟨good_leaf h1, by rw [T.sgn_leaf]; rfl⟩
      · rw [if_neg h1] at h; cases h
theorem prl_fuel {f : List Nat → Option (T × List Nat)} (hf : ∀ s t s', f s = some (t, s') → s'.length < s.length) : ∀ (m k : Nat) (s : List Nat), s.length < m → s.length < k → prl f m s = prl f k s
  | 0, k, s, h, _ => by omega
  | m + 1, 0, s, _, h => by omega
  | m + 1, k + 1, s, h1, h2 => by
    rw [prl_succ, prl_succ]
    by_cases h : s.head? = some 41
    · rw [if_pos h, if_pos h]
    · rw [if_neg h, if_neg h]
      cases z : f s with
      | none => rfl
      | some r =>
        obtain ⟨t, s'⟩ := r
        have := hf _ _ _ z
        dsimp only
        rw [prl_fuel hf m k s' (by omega) (by omega)]
theorem sgn_pos (t : T) : 0 < t.sgn.length := by
  cases t with
  | node x cs => rw [T.sgn]; simp
theorem prs_shrink (n : Nat) (s : List Nat) (t : T) (s' : List Nat) (h : prs n s = some (t, s')) : s'.length < s.length := by
  obtain ⟨_, b⟩ := prs_sound n s t s' h
  have := sgn_pos t
  rw [b, List.length_append]
  omega
theorem T.sgns_head (ts : List T) (h : T.goods ts) (hne : ts ≠ []) (s : List Nat) : ∃ c r, T.sgns ts ++ s = c :: r ∧ isLN c = true := by
  cases ts with
  | nil => exact absurd rfl hne
  | cons t ts =>
    rw [T.goods] at h
    cases t with
    | node x cs =>
      rw [T.good] at h
      rw [T.sgns, T.sgn]
      exact ⟨x, _, rfl, isLN_ok h.1.1⟩
theorem isLN_ne {c k : Nat} (h : isLN c = true) (hk : k < 97) : c ≠ k := by
  unfold isLN at h
  simp at h
  omega
mutual
theorem prs_sgn : ∀ (t : T) (n : Nat) (s : List Nat), t.good → s.head? ≠ some 40 → t.sgn.count 40 < n → prs n (t.sgn ++ s) = some (t, s)
  | .node x cs, 0, s, _, _, h => by omega
  | .node x cs, n + 1, s, hg, hs, hn => by
    rw [T.good] at hg
    by_cases e : cs = []
    · subst e
      rw [T.sgn_leaf]
      show prs (n + 1) (x :: s) = _
      rw [prs_cons, if_pos (isLN_ok hg.1), if_neg hs]
    · rw [T.sgn_node x e] at hn ⊢
      have h1 : (x :: 40 :: (T.sgns cs ++ [41])) ++ s = x :: 40 :: (T.sgns cs ++ (41 :: s)) := by simp
      rw [h1, prs_cons, if_pos (isLN_ok hg.1), if_pos (by rfl)]
      obtain ⟨c, r, e1, e2⟩ := T.sgns_head cs hg.2 e (41 :: s)
      have h3 : ¬ (40 :: (T.sgns cs ++ 41 :: s)).tail.head? = some 41 := by
        rw [List.tail_cons, e1]
        intro z
        injection z with z
        exact isLN_ne e2 (by decide) z
      rw [if_neg h3, List.tail_cons]
      have hcount : (T.sgns cs).count 40 < n := by
        have : (x :: 40 :: (T.sgns cs ++ [41])).count 40 = (T.sgns cs).count 40 + 1 := by
          rw [List.count_cons, List.count_cons, List.count_append]
          have hx : (x == 40) = false := by simp; omega
          rw [hx]
          simp
        omega
      rw [prl_sgns cs n s hg.2 hcount _ (by simp; omega)]
      rfl
theorem prl_sgns : ∀ (ts : List T) (n : Nat) (s : List Nat), T.goods ts → (T.sgns ts).count 40 < n → ∀ m, (T.sgns ts ++ 41 :: s).length < m → prl (prs n) m (T.sgns ts ++ 41 :: s) = some (ts, s)
  | [], n, s, _, _, 0, h => by omega
  | [], n, s, _, _, m + 1, h => by
    rw [T.sgns, List.nil_append, prl_succ, if_pos (by rfl)]
    rfl
  | t :: ts, n, s, hg, hn, 0, h => by omega
  | t :: ts, n, s, hg, hn, m + 1, h => by
    rw [T.goods] at hg
    rw [T.sgns, List.count_append] at hn
    have hh : (T.sgns ts ++ 41 :: s).head? ≠ some 40 := by
      by_cases e : ts = []
      · subst e; rw [T.sgns]; simp
      · obtain ⟨c, r, e1, e2⟩ := T.sgns_head ts hg.2 e (41 :: s)
        rw [e1]
        intro z
        injection z with z
        exact isLN_ne e2 (by decide) z
    have hh2 : ¬ (T.sgns (t :: ts) ++ 41 :: s).head? = some 41 := by
      obtain ⟨c, r, e1, e2⟩ := T.sgns_head (t :: ts) (by rw [T.goods]; exact hg) (by simp) (41 :: s)
      rw [e1]
      intro z
      injection z with z
      exact isLN_ne e2 (by decide) z
    rw [prl_succ, if_neg hh2]
    have e1 : T.sgns (t :: ts) ++ 41 :: s = t.sgn ++ (T.sgns ts ++ 41 :: s) := by rw [T.sgns, List.append_assoc]
    have hp := sgn_pos t
    have hl : (T.sgns ts ++ 41 :: s).length < m := by
      rw [e1, List.length_append] at h
      omega
    rw [e1, prs_sgn t n _ hg.1 hh (by omega)]
    dsimp only
    rw [prl_sgns ts n s hg.2 (by omega) m hl]
    rfl
end
theorem prs_read {s : List Nat} {n : Nat} (hn : s.count 40 < n) : (∃ t, prs n s = some (t, [])) ↔ ∃ t, readN s = some t := by
  constructor
  · rintro ⟨t, h⟩
    obtain ⟨a, b⟩ := prs_sound n s t [] h
    rw [List.append_nil] at b
    exact ⟨t, by rw [b]; exact readN_sgn a⟩
  · rintro ⟨t, h⟩
    obtain ⟨a, b⟩ := readN_sound h
    refine ⟨t, ?_⟩
    have := prs_sgn t n [] a (by simp) (by rw [b]; exact hn)
    rw [List.append_nil, b] at this
    exact this
mutual
theorem T.dep_count : ∀ t : T, t.dep ≤ t.sgn.count 40 + 1
  | .node x cs => by
    by_cases e : cs = []
    · subst e; rw [T.dep, T.deps]; omega
    · have h := T.deps_count cs
      rw [T.dep, T.sgn_node x e, List.count_cons, List.count_cons, List.count_append]
      simp
      omega
theorem T.deps_count : ∀ ts : List T, T.deps ts ≤ (T.sgns ts).count 40 + 1
  | [] => by rw [T.deps]; omega
  | t :: ts => by
    have h1 := T.dep_count t
    have h2 := T.deps_count ts
    rw [T.deps, T.sgns, List.count_append]
    omega
end
mutual
theorem T.size_len : ∀ t : T, t.size ≤ t.sgn.length
  | .node x cs => by
    by_cases e : cs = []
    · subst e; rw [T.size, T.sizes, T.sgn_leaf]; simp
    · have h := T.sizes_len cs
      rw [T.size, T.sgn_node x e]
      simp
      omega
theorem T.sizes_len : ∀ ts : List T, T.sizes ts ≤ (T.sgns ts).length
  | [] => by rw [T.sizes]; omega
  | t :: ts => by
    have h1 := T.size_len t
    have h2 := T.sizes_len ts
    rw [T.sizes, T.sgns, List.length_append]
    omega
end
mutual
theorem T.count_size : ∀ t : T, t.good → t.sgn.count 40 + 1 ≤ t.size
  | .node x cs, hg => by
    rw [T.good] at hg
    by_cases e : cs = []
    · subst e
      have hx : (x == 40) = false := by simp; omega
      rw [T.size, T.sizes, T.sgn_leaf, List.count_singleton, hx]
      simp
    · have h := T.counts_size cs hg.2
      have hl : 0 < cs.length := List.length_pos_iff.mpr e
      have hx : (x == 40) = false := by simp; omega
      rw [T.size, T.sgn_node x e, List.count_cons, List.count_cons, List.count_append, hx]
      simp
      omega
theorem T.counts_size : ∀ ts : List T, T.goods ts → (T.sgns ts).count 40 + ts.length ≤ T.sizes ts
  | [], _ => by rw [T.sizes, T.sgns]; simp
  | t :: ts, hg => by
    rw [T.goods] at hg
    have h1 := T.count_size t hg.1
    have h2 := T.counts_size ts hg.2
    rw [T.sizes, T.sgns, List.count_append, List.length_cons]
    omega
end
end DM
set_option maxRecDepth 100000
/-! Plain Lean, part 123: texts by their signs. -/
namespace DM
open PySem PySem.Spec L2
def sS (l : List Nat) : Str := ⟨l.toArray⟩
theorem sS_len (l : List Nat) : (sS l).length = l.length := by
  show l.toArray.size = _
  rw [List.size_toArray]
theorem sS_tl (l : List Nat) : TL.tl (sS l) = l := by
  show l.toArray.toList = l
  rw [List.toList_toArray]
theorem sS_inj {a b : List Nat} (h : sS a = sS b) : a = b := by
  have := congrArg TL.tl h
  rwa [sS_tl, sS_tl] at this
theorem sS_app (a b : List Nat) : sS a ++ sS b = sS (a ++ b) := TL.ext_tl (by rw [TL.tl_append, sS_tl, sS_tl, sS_tl])
theorem sS_of (z : Str) : z = sS (TL.tl z) := TL.ext_tl (by rw [sS_tl])
theorem sS_wr (t : T) : t.wr = sS t.sgn := rfl
theorem sS_one (c : Nat) : (⟨#[c]⟩ : Str) = sS [c] := rfl
theorem sz10 {n : Nat} (h : n ≤ 10000) : n ≤ sizeLine := Nat.le_trans h (by decide)
theorem cutS_sS (l : List Nat) (lo hi : Option Int) : cutS (sS l) lo hi = sS (DM.cut l lo hi) := by
  refine TL.ext_tl ?_
  rw [sS_tl]
  unfold cutS DM.cut
  rw [sS_len]
  show ((((sS l).cps.toList.drop _).take _).toArray).toList = _
  rw [List.toList_toArray, show (sS l).cps.toList = l from sS_tl l]
theorem slice_from {l : List Nat} (k : Nat) (h : l.length ≤ 10000) : sliceD (.str (sS l)) (some (k : Int)) none = some (.str (sS (l.drop k))) := by
  show (if (sS l).length ≤ sizeLine then some (D.str (cutS (sS l) (some (k : Int)) none)) else none) = _
  rw [if_pos (by rw [sS_len]; exact sz10 h), cutS_sS, cut_from]
theorem slice_to {l : List Nat} (k : Nat) (h : l.length ≤ 10000) : sliceD (.str (sS l)) none (some (k : Int)) = some (.str (sS (l.take k))) := by
  show (if (sS l).length ≤ sizeLine then some (D.str (cutS (sS l) none (some (k : Int)))) else none) = _
  rw [if_pos (by rw [sS_len]; exact sz10 h), cutS_sS, cut_to]
theorem add_sS {a b : List Nat} (h : a.length + b.length ≤ 10000) : addD (.str (sS a)) (.str (sS b)) = some (.str (sS (a ++ b))) := by
  rw [addD_str (by rw [sS_len, sS_len]; exact h), sS_app]
theorem len_sS {l : List Nat} (h : l.length ≤ 10000) : lenD [.str (sS l)] = some (.int (l.length : Int)) := by
  rw [lenD_s, sS_len, if_pos (sz10 h)]
theorem ix_sS {l : List Nat} {i : Int} {k : Nat} (hi : i = (k : Int)) (hk : k < l.length) (h : l.length ≤ 10000) : ixD (.str (sS l)) (.int i) = some (.str (sS [l[k]])) := by
  show (if (sS l).length ≤ sizeLine then (atI (sS l).cps.toList i).map fun c => D.str ⟨#[c]⟩ else none) = _
  rw [if_pos (by rw [sS_len]; exact sz10 h), show (sS l).cps.toList = l from sS_tl l, atI_k (k := k) i hi hk, List.getElem?_eq_getElem hk]
  rfl
theorem eq_sS (a b : List Nat) : eqD (.str (sS a)) (.str (sS b)) = some (.bl (decide (a = b))) := by
  rw [eqD_s]
  congr 2
  exact decide_eq_decide.mpr ⟨sS_inj, fun h => by rw [h]⟩
theorem ne_sS (a b : List Nat) : neD (.str (sS a)) (.str (sS b)) = some (.bl (!decide (a = b))) := by
  rw [neD_s]
  congr 3
  exact decide_eq_decide.mpr ⟨sS_inj, fun h => by rw [h]⟩
theorem take1_eq (l : List Nat) (c : Nat) : (l.take 1 = [c]) ↔ l.head? = some c := by
  cases l with
  | nil => simp
  | cons a l => simp
end DM
set_option maxRecDepth 100000
set_option maxHeartbeats 4000000
namespace K41
open PySem PySem.Spec L2 DM
def topS (i : Nat) : Stmt := PySem.Challenge.pw_twigfinds_k41_texts_that_write_no_tree.main.body.getD i (.Pass ⟨0, 0, 0, 0⟩)
inductive Fc where
  | is_letter
  | is_tree
  | written
  | show_tree
  | read_tree
  | law_cell
  | law_mixed
  | law_letter
  | law_tree
  | law_built
  | law_written
  | law_rest
  | law_odd
  | law_given
  | law_asked
  | law_word
  | law_bad
  | law_many
  | law
def nmOf : Fc → Str
  | .is_letter => "is_letter"
  | .is_tree => "is_tree"
  | .written => "written"
  | .show_tree => "show_tree"
  | .read_tree => "read_tree"
  | .law_cell => "_law_cell"
  | .law_mixed => "_law_mixed"
  | .law_letter => "_law_letter"
  | .law_tree => "_law_tree"
  | .law_built => "_law_built"
  | .law_written => "_law_written"
  | .law_rest => "_law_rest"
  | .law_odd => "_law_odd"
  | .law_given => "_law_given"
  | .law_asked => "_law_asked"
  | .law_word => "_law_word"
  | .law_bad => "_law_bad"
  | .law_many => "_law_many"
  | .law => "law"
def psOf : Fc → List Str
  | .is_letter => ["thing"]
  | .is_tree => ["thing"]
  | .written => ["tree"]
  | .show_tree => ["tree"]
  | .read_tree => ["text"]
  | .law_cell => ["script", "k"]
  | .law_mixed => ["cell", "k"]
  | .law_letter => ["cell", "wide"]
  | .law_tree => ["cell", "parts", "wide", "deep"]
  | .law_built => ["letters", "aboves", "k"]
  | .law_written => ["tree"]
  | .law_rest => ["text"]
  | .law_odd => ["cell"]
  | .law_given => ["cell"]
  | .law_asked => ["ask", "thing"]
  | .law_word => ["kinds", "others"]
  | .law_bad => ["tree", "k", "cell"]
  | .law_many => ["tree"]
  | .law => ["script"]
def ioOf : Fc → List Bool
  | .is_letter => [false]
  | .is_tree => [false]
  | .written => [false]
  | .show_tree => [false]
  | .read_tree => [false]
  | .law_cell => [false, false]
  | .law_mixed => [false, false]
  | .law_letter => [false, false]
  | .law_tree => [false, false, false, false]
  | .law_built => [false, false, false]
  | .law_written => [false]
  | .law_rest => [false]
  | .law_odd => [false]
  | .law_given => [false]
  | .law_asked => [false, false]
  | .law_word => [false, false]
  | .law_bad => [false, false, false]
  | .law_many => [false]
  | .law => [false]
def sgOf (M : Mdl) : Fc → Sig M
  | .is_letter => ⟨[fz], ioOf .is_letter, fz⟩
  | .is_tree => ⟨[fz], ioOf .is_tree, fz⟩
  | .written => ⟨[fz], ioOf .written, fz⟩
  | .show_tree => ⟨[fz], ioOf .show_tree, fz⟩
  | .read_tree => ⟨[fz], ioOf .read_tree, Tro⟩
  | .law_cell => ⟨[fz, fz], ioOf .law_cell, fz⟩
  | .law_mixed => ⟨[fz, fz], ioOf .law_mixed, fz⟩
  | .law_letter => ⟨[fz, fz], ioOf .law_letter, fz⟩
  | .law_tree => ⟨[fz, fz, fz, fz], ioOf .law_tree, fz⟩
  | .law_built => ⟨[fz, fz, fz], ioOf .law_built, fz⟩
  | .law_written => ⟨[fz], ioOf .law_written, fz⟩
  | .law_rest => ⟨[fz], ioOf .law_rest, fz⟩
  | .law_odd => ⟨[fz], ioOf .law_odd, fz⟩
  | .law_given => ⟨[fz], ioOf .law_given, fz⟩
  | .law_asked => ⟨[fz, fz], ioOf .law_asked, fz⟩
  | .law_word => ⟨[fz, fz], ioOf .law_word, fz⟩
  | .law_bad => ⟨[fz, fz, fz], ioOf .law_bad, fz⟩
  | .law_many => ⟨[fz], ioOf .law_many, fz⟩
  | .law => ⟨[fz], ioOf .law, fz⟩
abbrev calOf (P : Program) (w : World) (M : Mdl) (base : Heap) (k : Nat) (x : Fc) (fn : Fn) : Prop := match x with
  | .is_letter => Cal P w M base k "is_letter" (psOf .is_letter) (sgOf M .is_letter) fn
  | .is_tree => Cal P w M base k "is_tree" (psOf .is_tree) (sgOf M .is_tree) fn
  | .written => Cal P w M base k "written" (psOf .written) (sgOf M .written) fn
  | .show_tree => Cal P w M base k "show_tree" (psOf .show_tree) (sgOf M .show_tree) fn
  | .read_tree => Cal P w M base k "read_tree" (psOf .read_tree) (sgOf M .read_tree) fn
  | .law_cell => Cal P w M base k "_law_cell" (psOf .law_cell) (sgOf M .law_cell) fn
  | .law_mixed => Cal P w M base k "_law_mixed" (psOf .law_mixed) (sgOf M .law_mixed) fn
  | .law_letter => Cal P w M base k "_law_letter" (psOf .law_letter) (sgOf M .law_letter) fn
  | .law_tree => Cal P w M base k "_law_tree" (psOf .law_tree) (sgOf M .law_tree) fn
  | .law_built => Cal P w M base k "_law_built" (psOf .law_built) (sgOf M .law_built) fn
  | .law_written => Cal P w M base k "_law_written" (psOf .law_written) (sgOf M .law_written) fn
  | .law_rest => Cal P w M base k "_law_rest" (psOf .law_rest) (sgOf M .law_rest) fn
  | .law_odd => Cal P w M base k "_law_odd" (psOf .law_odd) (sgOf M .law_odd) fn
  | .law_given => Cal P w M base k "_law_given" (psOf .law_given) (sgOf M .law_given) fn
  | .law_asked => Cal P w M base k "_law_asked" (psOf .law_asked) (sgOf M .law_asked) fn
  | .law_word => CalQ P w M base k "_law_word" (psOf .law_word) (sgOf M .law_word) fn
  | .law_bad => Cal P w M base k "_law_bad" (psOf .law_bad) (sgOf M .law_bad) fn
  | .law_many => Cal P w M base k "_law_many" (psOf .law_many) (sgOf M .law_many) fn
  | .law => Cal P w M base k "law" (psOf .law) (sgOf M .law) fn
structure ErrC (K : PySem.W.Frag) (mg : Str → Option Value) (x : Str) (C : Addr) : Prop where
  g : mg x = some (.ref C)
  q : PySem.W.excIn K C [.type "ValueError", .type "Exception", .type "BaseException", .type "object"] "ValueError.__new__" = true
  k : PySem.W.keepIn K (.ref C) = true
  b : PySem.W.subIn K (.ref C) (.type "BaseException") = some true
  t : PySem.W.typeIn K (.ref C) = some (.type "type")
theorem ErrC.r {X : Cx} {x : Str} {C : Addr} (h : ErrC X.K X.mg x C) : Raises X (.ref C) := raises_own h.b h.t
def tb_NoFinding : Str → Option Bool := fun c => if c = "NoTree" then some false else if c = "NoText" then some false else none
def tb_NoLetter : Str → Option Bool := fun c => if c = "NoTree" then some false else if c = "NoText" then some false else none
def tb_NoName : Str → Option Bool := fun c => if c = "NoTree" then some false else if c = "NoText" then some false else none
def tb_NoNumber : Str → Option Bool := fun c => if c = "NoTree" then some false else if c = "NoText" then some false else none
def tb_NoPart : Str → Option Bool := fun c => if c = "NoTree" then some false else if c = "NoText" then some false else none
def tb_NoRow : Str → Option Bool := fun c => if c = "NoTree" then some false else if c = "NoText" then some false else none
def tb_NoWay : Str → Option Bool := fun c => if c = "NoTree" then some false else if c = "NoText" then some false else none
def tb_TooMany : Str → Option Bool := fun c => if c = "NoTree" then some false else if c = "NoText" then some false else none
def tb_NoText : Str → Option Bool := fun c => if c = "NoTree" then some false else if c = "NoText" then some true else none
def tb_NoTree : Str → Option Bool := fun c => if c = "NoTree" then some true else if c = "NoText" then some false else none
def tb_ValueError : Str → Option Bool := fun c => if c = "NoTree" then some true else if c = "NoText" then some true else none
structure Tx0 (K : PySem.W.Frag) (mg : Str → Option Value) (w0 w1 : Value) (w2 w3 w4 w5 w6 w7 w8 w9 w10 w11 w12 : Addr) : Prop where
  z_ValueError : mg "ValueError" = none
  z_abs : mg "abs" = none
  z_enumerate : mg "enumerate" = none
  z_int : mg "int" = none
  z_isinstance : mg "isinstance" = none
  z_len : mg "len" = none
  z_list : mg "list" = none
  z_max : mg "max" = none
  z_min : mg "min" = none
  z_range : mg "range" = none
  z_str : mg "str" = none
  z_sum : mg "sum" = none
  z_tuple : mg "tuple" = none
  g_LETTERS_trees : RelV (.str "abcdefghijklmnopqrstuvwxyz") w0 ∧ mg "LETTERS_trees" = some w0
  g_LETTERS_texts : RelV (.str "abcdefghijklmnopqrstuvwxyz") w1 ∧ mg "LETTERS_texts" = some w1
  e_TwigError : ErrC K mg "TwigError" w2
  e_NoTree : ErrC K mg "NoTree" w3
  e_NoPart : ErrC K mg "NoPart" w4
  e_NoWay : ErrC K mg "NoWay" w5
  e_NoNumber : ErrC K mg "NoNumber" w6
  e_NoFinding : ErrC K mg "NoFinding" w7
  e_TooMany : ErrC K mg "TooMany" w8
  e_NoLetter : ErrC K mg "NoLetter" w9
  e_NoText : ErrC K mg "NoText" w10
  e_NoName : ErrC K mg "NoName" w11
  e_NoRow : ErrC K mg "NoRow" w12
  kx_TwigError : ∀ cn C, cn ∈ (["NoTree", "NoText"] : List Str) → mg cn = some (.ref C) → PySem.W.exmOne K (.ref C) (.ref w2) = some true
  kn_NoFinding : PySem.W.kitOne K (.type "NoneType") (.ref w7) = some false
  kt_NoFinding : ∀ (c : Str) (C : Addr) (b : Bool), tb_NoFinding c = some b → mg c = some (.ref C) → ExcC K C ∧ PySem.W.kitOne K (.ref C) (.ref w7) = some b
  kn_NoLetter : PySem.W.kitOne K (.type "NoneType") (.ref w9) = some false
  kt_NoLetter : ∀ (c : Str) (C : Addr) (b : Bool), tb_NoLetter c = some b → mg c = some (.ref C) → ExcC K C ∧ PySem.W.kitOne K (.ref C) (.ref w9) = some b
  kn_NoName : PySem.W.kitOne K (.type "NoneType") (.ref w11) = some false
  kt_NoName : ∀ (c : Str) (C : Addr) (b : Bool), tb_NoName c = some b → mg c = some (.ref C) → ExcC K C ∧ PySem.W.kitOne K (.ref C) (.ref w11) = some b
  kn_NoNumber : PySem.W.kitOne K (.type "NoneType") (.ref w6) = some false
  kt_NoNumber : ∀ (c : Str) (C : Addr) (b : Bool), tb_NoNumber c = some b → mg c = some (.ref C) → ExcC K C ∧ PySem.W.kitOne K (.ref C) (.ref w6) = some b
  kn_NoPart : PySem.W.kitOne K (.type "NoneType") (.ref w4) = some false
  kt_NoPart : ∀ (c : Str) (C : Addr) (b : Bool), tb_NoPart c = some b → mg c = some (.ref C) → ExcC K C ∧ PySem.W.kitOne K (.ref C) (.ref w4) = some b
  kn_NoRow : PySem.W.kitOne K (.type "NoneType") (.ref w12) = some false
  kt_NoRow : ∀ (c : Str) (C : Addr) (b : Bool), tb_NoRow c = some b → mg c = some (.ref C) → ExcC K C ∧ PySem.W.kitOne K (.ref C) (.ref w12) = some b
  kn_NoWay : PySem.W.kitOne K (.type "NoneType") (.ref w5) = some false
  kt_NoWay : ∀ (c : Str) (C : Addr) (b : Bool), tb_NoWay c = some b → mg c = some (.ref C) → ExcC K C ∧ PySem.W.kitOne K (.ref C) (.ref w5) = some b
  kn_TooMany : PySem.W.kitOne K (.type "NoneType") (.ref w8) = some false
  kt_TooMany : ∀ (c : Str) (C : Addr) (b : Bool), tb_TooMany c = some b → mg c = some (.ref C) → ExcC K C ∧ PySem.W.kitOne K (.ref C) (.ref w8) = some b
  kn_NoText : PySem.W.kitOne K (.type "NoneType") (.ref w10) = some false
  kt_NoText : ∀ (c : Str) (C : Addr) (b : Bool), tb_NoText c = some b → mg c = some (.ref C) → ExcC K C ∧ PySem.W.kitOne K (.ref C) (.ref w10) = some b
  kn_NoTree : PySem.W.kitOne K (.type "NoneType") (.ref w3) = some false
  kt_NoTree : ∀ (c : Str) (C : Addr) (b : Bool), tb_NoTree c = some b → mg c = some (.ref C) → ExcC K C ∧ PySem.W.kitOne K (.ref C) (.ref w3) = some b
  kn_ValueError : PySem.W.kitOne K (.type "NoneType") (.type "ValueError") = some false
  kt_ValueError : ∀ (c : Str) (C : Addr) (b : Bool), tb_ValueError c = some b → mg c = some (.ref C) → ExcC K C ∧ PySem.W.kitOne K (.ref C) (.type "ValueError") = some b
variable {w0 w1 : Value} {w2 w3 w4 w5 w6 w7 w8 w9 w10 w11 w12 : Addr}
abbrev HC (P : Program) (w : World) (K : PySem.W.Frag) (mg : Str → Option Value) (base : Heap) (k : Nat) (C : Fc → Fn) : Prop := ∀ x, calOf P w ⟨K, mg⟩ base k x (C x)
variable {P : Program} {w : World} {K : PySem.W.Frag} {mg : Str → Option Value} {base : Heap} {k : Nat} {f : Addr} {fd : FuncData} {C : Fc → Fn}
/-! ### is_letter -/
abbrev s_is_letter : Stmt := topS 14
abbrev N_is_letter : List Str := ["thing"]
theorem sc_is_letter : FnScope N_is_letter ["thing"] (defScope s_is_letter) := mkSc
def b_is_letter (C : Fc → Fn) : DEnv → SR :=
    (mRet (mAndV (mOp1 (oV (mVar 0)) (isiD .str)) (mAndV (mOp2 (oV (mOpN (mCons (oV (mVar 0)) mNil) lenD)) (oV (mC (.int 1))) eqD) (mOp2 (oV (mVar 0)) (oV (mC (.str "abcdefghijklmnopqrstuvwxyz"))) (inD false)))))
def q_is_letter_1 (C : Fc → Fn) : DEnv → SR := (mRet (mAndV (mOp1 (oV (mVar 0)) (isiD .str)) (mAndV (mOp2 (oV (mOpN (mCons (oV (mVar 0)) mNil) lenD)) (oV (mC (.int 1))) eqD) (mOp2 (oV (mVar 0)) (oV (mC (.str "abcdefghijklmnopqrstuvwxyz"))) (inD false)))))
theorem k_is_letter (T : Tx0 K mg w0 w1 w2 w3 w4 w5 w6 w7 w8 w9 w10 w11 w12) (B : SysB base) (hC : HC P w K mg base k C) (F : Fun K "is_letter" "is_letter" s_is_letter f fd) : FnOkG P w K mg base (L2.CX P w) (k + 2) f fd ["thing"] (spD (sgOf ⟨K, mg⟩ .is_letter) (mkF 0 (ioOf .is_letter) (b_is_letter C))) :=
  fnL (sgOf ⟨K, mg⟩ .is_letter) [] [fz] fz [] 0 F sc_is_letter fun cdv A outer s H E hr1 hr nd tk hp => (ds_one (ds_ret (de_and (de_isi .str (by decide) T.z_isinstance T.z_str (by decide +kernel) (dv 0)) (de_and (de_cmp (opr_eqE hr.units) (DE.op (de_callB call_len (by rfl) T.z_len (by decide +kernel) (da_cons (dv 0) da_nil) opn_len)) doi op2_eq) (de_one (de_cmp opr_in (dv 0) (DE.op (de_c (pe_glob (by rfl) T.g_LETTERS_trees.2 T.g_LETTERS_trees.1) fun _ => .str _)) (op2_in false)))))))
/-! ### is_tree -/
abbrev s_is_tree : Stmt := topS 15
abbrev N_is_tree : List Str := ["thing", "child"]
theorem sc_is_tree : FnScope N_is_tree ["thing"] (defScope s_is_tree) := mkSc
def b_is_tree (C : Fc → Fn) : DEnv → SR :=
    (mSeq (mIf (mOr (mNot (mTest (mOp1 (oV (mVar 0)) (isiD .tuple)))) (mTest (mOp2 (oV (mOpN (mCons (oV (mVar 0)) mNil) lenD)) (oV (mC (.int 2))) neD))) (mRet (mC (.bl false))) mNext)
    (mSeq (mIf (mOr (mNot (mTest (mCall (C .is_letter) (ioOf .is_letter) (mCons (oV (mOp2 (oV (mVar 0)) (oV (mC (.int 0))) ixD)) mNil)))) (mNot (mTest (mOp1 (oV (mOp2 (oV (mVar 0)) (oV (mC (.int 1))) ixD)) (isiD .list))))) (mRet (mC (.bl false))) mNext)
    (mRet (mOp2 (oV (mLc (mSrc (oV (mOp2 (oV (mVar 0)) (oV (mC (.int 1))) ixD)) seqD) (tName 1) (mNot (mTest (mCall (C .is_tree) (ioOf .is_tree) (mCons (oV (mVar 1)) mNil)))) (mVar 1) [1])) (oV (mLst mNil)) eqD))))
def q_is_tree_1t1 (C : Fc → Fn) : DEnv → SR := (mRet (mC (.bl false)))
def q_is_tree_1 (C : Fc → Fn) : DEnv → SR := (mIf (mOr (mNot (mTest (mOp1 (oV (mVar 0)) (isiD .tuple)))) (mTest (mOp2 (oV (mOpN (mCons (oV (mVar 0)) mNil) lenD)) (oV (mC (.int 2))) neD))) (q_is_tree_1t1 C) mNext)
def q_is_tree_2t1 (C : Fc → Fn) : DEnv → SR := (mRet (mC (.bl false)))
def q_is_tree_2 (C : Fc → Fn) : DEnv → SR := (mIf (mOr (mNot (mTest (mCall (C .is_letter) (ioOf .is_letter) (mCons (oV (mOp2 (oV (mVar 0)) (oV (mC (.int 0))) ixD)) mNil)))) (mNot (mTest (mOp1 (oV (mOp2 (oV (mVar 0)) (oV (mC (.int 1))) ixD)) (isiD .list))))) (q_is_tree_2t1 C) mNext)
def li_is_tree_1 (C : Fc → Fn) : Src := (mSrc (oV (mOp2 (oV (mVar 0)) (oV (mC (.int 1))) ixD)) seqD)
def lc_is_tree_1 (C : Fc → Fn) : DEnv → R Bool := (mNot (mTest (mCall (C .is_tree) (ioOf .is_tree) (mCons (oV (mVar 1)) mNil))))
def le_is_tree_1 (C : Fc → Fn) : DEnv → R D := (mVar 1)
def l_is_tree_1 (C : Fc → Fn) : DEnv → R D := (mLc (li_is_tree_1 C) (tName 1) (lc_is_tree_1 C) (le_is_tree_1 C) [1])
def q_is_tree_3 (C : Fc → Fn) : DEnv → SR := (mRet (mOp2 (oV (l_is_tree_1 C)) (oV (mLst mNil)) eqD))
theorem e_is_tree (C : Fc → Fn) : b_is_tree C =
    (mSeq (q_is_tree_1 C)
    (mSeq (q_is_tree_2 C)
    (q_is_tree_3 C))) := rfl
theorem k_is_tree (T : Tx0 K mg w0 w1 w2 w3 w4 w5 w6 w7 w8 w9 w10 w11 w12) (B : SysB base) (hC : HC P w K mg base k C) (F : Fun K "is_tree" "is_tree" s_is_tree f fd) : FnOkG P w K mg base (L2.CX P w) (k + 2) f fd ["thing"] (spD (sgOf ⟨K, mg⟩ .is_tree) (mkF 1 (ioOf .is_tree) (b_is_tree C))) :=
  fnL (sgOf ⟨K, mg⟩ .is_tree) [fz] [fz, fz] fz [] 1 F sc_is_tree fun cdv A outer s H E hr1 hr nd tk hp => (ds_cons (ds_if (DW.dt (dw_or (dt_not (dt_val (de_isi .tuple (by decide) T.z_isinstance T.z_tuple (by decide +kernel) (dv 0)))) (dw_or1 (dt_cmp (opr_neE hr.units) (DE.op (de_callB call_len (by rfl) T.z_len (by decide +kernel) (da_cons (dv 0) da_nil) opn_len)) doi op2_ne)))) (ds_one (ds_ret dkb)) ds_nil)
    (ds_cons (ds_if (DW.dt (dw_or (dt_not (dt_val (de_call (hC .is_letter) hr tk (da_cons (DE.op (dix (dv 0) doi)) da_nil)))) (dw_or1 (dt_not (dt_val (de_isi .list (by decide) T.z_isinstance T.z_list (by decide +kernel) (DE.op (dix (dv 0) doi)))))))) (ds_one (ds_ret dkb)) ds_nil)
    (ds_one (ds_ret (de_cmp (opr_eqE hr.units) (DE.op (de_lc (own := [("child", 1)]) (pnC := [0]) (me := fz) rfl nd (di_seq (DE.op (dix (dv 0) doi)) flat_fz) (blkOk_by (N := N_is_tree) (sc := (defScope s_is_tree)) (by decide +kernel)) (fun _ => (dg_name (i := 1) nd)) (fun _ => dts_one (dt_not (dt_val (de_call (hC .is_tree) hr takes0 (da_cons (dv 1) da_nil))))) (fun _ => (de_v 1)))) (DE.op (de_ls da_nil)) op2_eq)))))
/-! ### written -/
abbrev s_written : Stmt := topS 18
abbrev N_written : List Str := ["tree", "text", "child"]
theorem sc_written : FnScope N_written ["tree"] (defScope s_written) := mkSc
def q_written_1 (C : Fc → Fn) : DEnv → SR := (mAsg 1 (mOp2 (oV (mVar 0)) (oV (mC (.int 0))) ixD))
def li_written_1 (C : Fc → Fn) : Src := (mSrc (oV (mOp2 (oV (mVar 0)) (oV (mC (.int 1))) ixD)) seqD)
def lc_written_1 (C : Fc → Fn) : DEnv → R Bool := mYes
def le_written_1 (C : Fc → Fn) : DEnv → R D := (mCall (C .written) (ioOf .written) (mCons (oV (mVar 2)) mNil))
def l_written_1 (C : Fc → Fn) : DEnv → R D := (mLc (li_written_1 C) (tName 2) (lc_written_1 C) (le_written_1 C) [2])
def q_written_2t1 (C : Fc → Fn) : DEnv → SR := (mAug 1 (mOp2 (oV (mOp2 (oV (mC (.str "("))) (oV (mOpN (mCons (oV (l_written_1 C)) mNil) (joinD ""))) addD)) (oV (mC (.str ")"))) addD) catS)
def q_written_2 (C : Fc → Fn) : DEnv → SR := (mIf (mTest (mOp2 (oV (mOp2 (oV (mVar 0)) (oV (mC (.int 1))) ixD)) (oV (mLst mNil)) neD)) (q_written_2t1 C) mNext)
def q_written_3 (C : Fc → Fn) : DEnv → SR := (mRet (mVar 1))
def b_written (C : Fc → Fn) : DEnv → SR :=
    (mSeq (q_written_1 C)
    (mSeq (q_written_2 C)
    (q_written_3 C)))
theorem e_written (C : Fc → Fn) : b_written C =
    (mSeq (q_written_1 C)
    (mSeq (q_written_2 C)
    (q_written_3 C))) := rfl
theorem k_written (T : Tx0 K mg w0 w1 w2 w3 w4 w5 w6 w7 w8 w9 w10 w11 w12) (B : SysB base) (hC : HC P w K mg base k C) (F : Fun K "written" "written" s_written f fd) : FnOkG P w K mg base (L2.CX P w) (k + 2) f fd ["tree"] (spD (sgOf ⟨K, mg⟩ .written) (mkF 2 (ioOf .written) (b_written C))) :=
  fnL (sgOf ⟨K, mg⟩ .written) [fz, fz] [fz, fz, fz] fz [] 2 F sc_written fun cdv A outer s H E hr1 hr nd tk hp => (ds_cons (ds_set (i := 1) nd (dix (dv 0) doi))
    (ds_cons (ds_if (dt_cmp (opr_neE hr.units) (DE.op (dix (dv 0) doi)) (DE.op (de_ls da_nil)) op2_ne) (ds_one (ds_aug (i := 1) nd (DE.share (de_op opr_add (DE.op (de_op opr_add dos (DE.op (de_join (da_cons (DE.op (de_lc (own := [("child", 2)]) (pnC := [0, 1]) (me := fz) rfl nd (di_seq (DE.op (dix (dv 0) doi)) flat_fz) (blkOk_by (N := N_written) (sc := (defScope s_written)) (by decide +kernel)) (fun _ => (dg_name (i := 2) nd)) (fun _ => dts_nil) (fun _ => (de_call (hC .written) hr takes0 (da_cons (dv 2) da_nil))))) da_nil))) (op2_add flat_fz flat_fz))) dos (op2_add flat_L flat_fz))) ipr_addS op2_ipS)) ds_nil)
    (ds_one (ds_ret (de_v 1)))))
/-! ### show_tree -/
abbrev s_show_tree : Stmt := topS 19
abbrev N_show_tree : List Str := ["tree"]
theorem sc_show_tree : FnScope N_show_tree ["tree"] (defScope s_show_tree) := mkSc
def q_show_tree_1t1 (C : Fc → Fn) : DEnv → SR := (mRaise "NoTree")
def q_show_tree_1 (C : Fc → Fn) : DEnv → SR := (mIf (mNot (mTest (mCall (C .is_tree) (ioOf .is_tree) (mCons (oV (mVar 0)) mNil)))) (q_show_tree_1t1 C) mNext)
def q_show_tree_2 (C : Fc → Fn) : DEnv → SR := (mRet (mCall (C .written) (ioOf .written) (mCons (oV (mVar 0)) mNil)))
def b_show_tree (C : Fc → Fn) : DEnv → SR :=
    (mSeq (q_show_tree_1 C)
    (q_show_tree_2 C))
theorem e_show_tree (C : Fc → Fn) : b_show_tree C =
    (mSeq (q_show_tree_1 C)
    (q_show_tree_2 C)) := rfl
theorem k_show_tree (T : Tx0 K mg w0 w1 w2 w3 w4 w5 w6 w7 w8 w9 w10 w11 w12) (B : SysB base) (hC : HC P w K mg base k C) (F : Fun K "show_tree" "show_tree" s_show_tree f fd) : FnOkG P w K mg base (L2.CX P w) (k + 2) f fd ["tree"] (spD (sgOf ⟨K, mg⟩ .show_tree) (mkF 0 (ioOf .show_tree) (b_show_tree C))) :=
  fnL (sgOf ⟨K, mg⟩ .show_tree) [] [fz] fz [] 0 F sc_show_tree fun cdv A outer s H E hr1 hr nd tk hp => (ds_cons (ds_if (dt_not (dt_val (de_call (hC .is_tree) hr tk (da_cons (dv 0) da_nil)))) (ds_one (ds_raise rfl tk PySem.F.excBase_ValueError T.e_NoTree.q T.e_NoTree.g T.e_NoTree.k T.e_NoTree.r)) ds_nil)
    (ds_one (ds_ret (de_call (hC .written) hr tk (da_cons (dv 0) da_nil)))))
/-! ### read_tree -/
abbrev s_read_tree : Stmt := topS 20
abbrev N_read_tree : List Str := ["text", "tops", "pile", "spot", "sign"]
theorem sc_read_tree : FnScope N_read_tree ["text"] (defScope s_read_tree) := mkSc
def q_read_tree_1t1 (C : Fc → Fn) : DEnv → SR := (mRaise "NoText")
def q_read_tree_1 (C : Fc → Fn) : DEnv → SR := (mIf (mOr (mNot (mTest (mOp1 (oV (mVar 0)) (isiD .str)))) (mTest (mOp2 (oV (mVar 0)) (oV (mC (.str ""))) eqD))) (q_read_tree_1t1 C) mNext)
def q_read_tree_2 (C : Fc → Fn) : DEnv → SR := (mRead 0 1 2 3 4)
def b_read_tree (C : Fc → Fn) : DEnv → SR :=
    (mSeq (q_read_tree_1 C) (q_read_tree_2 C))
theorem e_read_tree (C : Fc → Fn) : b_read_tree C =
    (mSeq (q_read_tree_1 C) (q_read_tree_2 C)) := rfl
theorem k_read_tree (T : Tx0 K mg w0 w1 w2 w3 w4 w5 w6 w7 w8 w9 w10 w11 w12) (B : SysB base) (hC : HC P w K mg base k C) (F : Fun K "read_tree" "read_tree" s_read_tree f fd) : FnOkG P w K mg base (L2.CX P w) (k + 2) f fd ["text"] (spD (sgOf ⟨K, mg⟩ .read_tree) (mkF 4 (ioOf .read_tree) (b_read_tree C))) :=
  fnL (sgOf ⟨K, mg⟩ .read_tree) [fz, (Lof (Lof fz)), fz, fz] [fz, fz, (Lof (Lof fz)), fz, fz] Tro [] 4 F sc_read_tree fun cdv A outer s H E hr1 hr nd tk hp => (ds_cons (ds_if (DW.dt (dw_or (dt_not (dt_val (de_isi .str (by decide) T.z_isinstance T.z_str (by decide +kernel) (dv 0)))) (dw_or1 (dt_cmp (opr_eqE hr.units) (dv 0) dos op2_eq)))) (ds_one (ds_raise rfl tk PySem.F.excBase_ValueError T.e_NoText.q T.e_NoText.g T.e_NoText.k T.e_NoText.r)) ds_nil) (ds_read (ix := 0) (it := 1) (ip := 2) (isp := 3) (isg := 4) (ps_set (i := 1) nd rfl (.inl rfl) (pe_lst pa_nil)) (ps_set (i := 2) nd rfl (.inl rfl) (pe_lst (pa_cons (pv 1) pa_nil))) (fun pg q1 qI q2 q3 qR => ps_for hp rfl (pi_enumS (by rfl) T.z_enumerate (pa_cons (pv 0) pa_nil)) pg (pss_one (ps_if q1 (pss_one (ps_expr (pe_bm PySem.F.plainAttrs_list PySem.F.slot_list_append PySem.F.type_list_append mt_append (pe_ix ix_list (pv 2) (pe_un un_neg pe_int) (fun _ _ => rfl)) (pa_cons qI pa_nil)))) (pss_one (ps_if q2 (pss_one (ps_expr (pe_bm PySem.F.plainAttrs_list PySem.F.slot_list_append PySem.F.type_list_append mt_append (pv 2) (pa_cons (pe_ix ix_tup (pe_ix ix_list (pe_ix ix_list (pv 2) (pe_un un_neg pe_int) (fun _ _ => rfl)) (pe_un un_neg pe_int) (fun _ _ => rfl)) pe_int (fun _ _ => rfl)) pa_nil)))) (pss_one (ps_if (pw_and q3 (pw_and (pt_cmpR opr_gt (pe_callB call_len (by rfl) T.z_len (by decide +kernel) (pa_cons (pv 2) pa_nil)) pe_int (by first | exact nomark _ | rfl)) (pw_and1 (pt_cmpR (opr_neE hr.units) (pe_ix ix_list (pv 2) (pe_un un_neg pe_int) (fun _ _ => rfl)) (pe_lst pa_nil) (by first | exact nomark _ | rfl))))).pt (pss_one (ps_expr (pe_bm0 PySem.F.plainAttrs_list PySem.F.slot_list_pop PySem.F.type_list_pop mt_pop (pv 2)))) (pss_one qR)))))))) (fun qR => ps_if (pw_or (pt_cmpR opr_gt (pe_callB call_len (by rfl) T.z_len (by decide +kernel) (pa_cons (pv 2) pa_nil)) pe_int (by first | exact nomark _ | rfl)) (pw_or1 (pt_cmpR (opr_neE hr.units) (pe_callB call_len (by rfl) T.z_len (by decide +kernel) (pa_cons (pv 1) pa_nil)) pe_int (by first | exact nomark _ | rfl)))).pt (pss_one qR) pss_nil) (ps_ret (pe_ix ix_list (pv 1) pe_int (fun _ _ => rfl))) (dg_tup rfl (dgs_cons (dg_name (i := 3) nd) (dgs_cons (dg_name (i := 4) nd) dgs_nil))) (dt_cmp opr_in (dv 4) (DE.op (de_c (pe_glob (by rfl) T.g_LETTERS_texts.2 T.g_LETTERS_texts.1) fun _ => .str _)) (op2_in false)) (DE.sub Tro.fold (de_tupO (qs := [fz, (Lof Tro)]) (da_cons (dv 4) (da_cons (DE.op (de_lstO (m0 := Tro) da_nil (by intro q h; cases h))) da_nil)))) (DW.dt (dw_and (dt_cmp (opr_eqE hr.units) (dv 4) dos op2_eq) (dw_and (dt_cmp opr_gt (dv 3) doi op2_gt) (dw_and1 (dt_cmp opr_in (DE.op (dix (dv 0) (DE.op (de_op op_sub (dv 3) doi op2_sub)))) (DE.op (de_c (pe_glob (by rfl) T.g_LETTERS_texts.2 T.g_LETTERS_texts.1) fun _ => .str _)) (op2_in false)))))) (dt_cmp (opr_eqE hr.units) (dv 4) dos op2_eq) (ds_raise rfl tk PySem.F.excBase_ValueError T.e_NoText.q T.e_NoText.g T.e_NoText.k T.e_NoText.r) (ds_raise rfl tk PySem.F.excBase_ValueError T.e_NoText.q T.e_NoText.g T.e_NoText.k T.e_NoText.r) (rd_h1 4) (rd_hI 4) (rd_h2 0 3 4) (rd_h3 4)))
/-! ### _law_cell -/
abbrev s_law_cell : Stmt := topS 22
abbrev N_law_cell : List Str := ["script", "k"]
theorem sc_law_cell : FnScope N_law_cell ["script", "k"] (defScope s_law_cell) := mkSc
def q_law_cell_1t1 (C : Fc → Fn) : DEnv → SR := (mRet (mOp2 (oV (mVar 0)) (oV (mVar 1)) ixD))
def q_law_cell_1 (C : Fc → Fn) : DEnv → SR := (mIf (mTest (mOp2 (oV (mVar 1)) (oV (mOpN (mCons (oV (mVar 0)) mNil) lenD)) ltD)) (q_law_cell_1t1 C) mNext)
def q_law_cell_2 (C : Fc → Fn) : DEnv → SR := (mRet (mOp2 (oV (mOp2 (oV (mOp2 (oV (mOp2 (oV (mC (.int 73))) (oV (mVar 1)) mulD)) (oV (mVar 1)) mulD)) (oV (mOp2 (oV (mC (.int 59))) (oV (mVar 1)) mulD)) addD)) (oV (mC (.int 15))) addD))
def b_law_cell (C : Fc → Fn) : DEnv → SR :=
    (mSeq (q_law_cell_1 C)
    (q_law_cell_2 C))
theorem e_law_cell (C : Fc → Fn) : b_law_cell C =
    (mSeq (q_law_cell_1 C)
    (q_law_cell_2 C)) := rfl
theorem k_law_cell (T : Tx0 K mg w0 w1 w2 w3 w4 w5 w6 w7 w8 w9 w10 w11 w12) (B : SysB base) (hC : HC P w K mg base k C) (F : Fun K "_law_cell" "_law_cell" s_law_cell f fd) : FnOkG P w K mg base (L2.CX P w) (k + 2) f fd ["script", "k"] (spD (sgOf ⟨K, mg⟩ .law_cell) (mkF 0 (ioOf .law_cell) (b_law_cell C))) :=
  fnL (sgOf ⟨K, mg⟩ .law_cell) [] [fz, fz] fz [] 0 F sc_law_cell fun cdv A outer s H E hr1 hr nd tk hp => (ds_cons (ds_if (dt_cmp opr_lt (dv 1) (DE.op (de_callB call_len (by rfl) T.z_len (by decide +kernel) (da_cons (dv 0) da_nil) opn_len)) op2_lt) (ds_one (ds_ret (dix (dv 0) (dv 1)))) ds_nil)
    (ds_one (ds_ret (DE.share (de_op opr_add (DE.op (de_op opr_add (DE.op (de_op opr_mul (DE.op (de_op opr_mul doi (dv 1) (op2_mul flat_fz))) (dv 1) (op2_mul flat_L))) (DE.op (de_op opr_mul doi (dv 1) (op2_mul flat_fz))) (op2_add flat_L flat_L))) doi (op2_add flat_L flat_fz))))))
/-! ### _law_mixed -/
abbrev s_law_mixed : Stmt := topS 23
abbrev N_law_mixed : List Str := ["cell", "k", "number"]
theorem sc_law_mixed : FnScope N_law_mixed ["cell", "k"] (defScope s_law_mixed) := mkSc
def q_law_mixed_1 (C : Fc → Fn) : DEnv → SR := (mAsg 2 (mOp2 (oV (mOp2 (oV (mOp2 (oV (mOp2 (oV (mOp2 (oV (mVar 0)) (oV (mC (.int 48271))) mulD)) (oV (mOp2 (oV (mOp2 (oV (mC (.int 7919))) (oV (mVar 1)) mulD)) (oV (mVar 1)) mulD)) addD)) (oV (mOp2 (oV (mC (.int 104729))) (oV (mVar 1)) mulD)) addD)) (oV (mC (.int 11))) addD)) (oV (mC (.int 2147483647))) modD))
def q_law_mixed_2 (C : Fc → Fn) : DEnv → SR := (mAsg 2 (mOp2 (oV (mOp2 (oV (mVar 2)) (oV (mVar 2)) mulD)) (oV (mC (.int 2147483629))) modD))
def q_law_mixed_3 (C : Fc → Fn) : DEnv → SR := (mRet (mOp2 (oV (mOp2 (oV (mVar 2)) (oV (mC (.int 16807))) mulD)) (oV (mOp2 (oV (mVar 0)) (oV (mC (.int 5))) modD)) addD))
def b_law_mixed (C : Fc → Fn) : DEnv → SR :=
    (mSeq (q_law_mixed_1 C)
    (mSeq (q_law_mixed_2 C)
    (q_law_mixed_3 C)))
theorem e_law_mixed (C : Fc → Fn) : b_law_mixed C =
    (mSeq (q_law_mixed_1 C)
    (mSeq (q_law_mixed_2 C)
    (q_law_mixed_3 C))) := rfl
theorem k_law_mixed (T : Tx0 K mg w0 w1 w2 w3 w4 w5 w6 w7 w8 w9 w10 w11 w12) (B : SysB base) (hC : HC P w K mg base k C) (F : Fun K "_law_mixed" "_law_mixed" s_law_mixed f fd) : FnOkG P w K mg base (L2.CX P w) (k + 2) f fd ["cell", "k"] (spD (sgOf ⟨K, mg⟩ .law_mixed) (mkF 1 (ioOf .law_mixed) (b_law_mixed C))) :=
  fnL (sgOf ⟨K, mg⟩ .law_mixed) [fz] [fz, fz, fz] fz [] 1 F sc_law_mixed fun cdv A outer s H E hr1 hr nd tk hp => (ds_cons (ds_set (i := 2) nd (de_op op_mod (DE.op (de_op opr_add (DE.op (de_op opr_add (DE.op (de_op opr_add (DE.op (de_op opr_mul (dv 0) doi (op2_mul flat_fz))) (DE.op (de_op opr_mul (DE.op (de_op opr_mul doi (dv 1) (op2_mul flat_fz))) (dv 1) (op2_mul flat_L))) (op2_add flat_L flat_L))) (DE.op (de_op opr_mul doi (dv 1) (op2_mul flat_fz))) (op2_add flat_L flat_L))) doi (op2_add flat_L flat_fz))) doi op2_mod))
    (ds_cons (ds_set (i := 2) nd (de_op op_mod (DE.op (de_op opr_mul (dv 2) (dv 2) (op2_mul flat_fz))) doi op2_mod))
    (ds_one (ds_ret (DE.share (de_op opr_add (DE.op (de_op opr_mul (dv 2) doi (op2_mul flat_fz))) (DE.op (de_op op_mod (dv 0) doi op2_mod)) (op2_add flat_L flat_fz)))))))
/-! ### _law_letter -/
abbrev s_law_letter : Stmt := topS 24
abbrev N_law_letter : List Str := ["cell", "wide"]
theorem sc_law_letter : FnScope N_law_letter ["cell", "wide"] (defScope s_law_letter) := mkSc
def q_law_letter_1t1 (C : Fc → Fn) : DEnv → SR := (mRet (mOp2 (oV (mC (.str "abcdefghijklmnopqrstuvwxyz"))) (oV (mOp2 (oV (mVar 0)) (oV (mC (.int 26))) modD)) ixD))
def q_law_letter_1 (C : Fc → Fn) : DEnv → SR := (mIf (mTest (mOp2 (oV (mVar 1)) (oV (mC (.int 0))) eqD)) (q_law_letter_1t1 C) mNext)
def q_law_letter_2 (C : Fc → Fn) : DEnv → SR := (mRet (mOp2 (oV (mC (.str "azmq"))) (oV (mOp2 (oV (mVar 0)) (oV (mVar 1)) modD)) ixD))
def b_law_letter (C : Fc → Fn) : DEnv → SR :=
    (mSeq (q_law_letter_1 C)
    (q_law_letter_2 C))
theorem e_law_letter (C : Fc → Fn) : b_law_letter C =
    (mSeq (q_law_letter_1 C)
    (q_law_letter_2 C)) := rfl
theorem k_law_letter (T : Tx0 K mg w0 w1 w2 w3 w4 w5 w6 w7 w8 w9 w10 w11 w12) (B : SysB base) (hC : HC P w K mg base k C) (F : Fun K "_law_letter" "_law_letter" s_law_letter f fd) : FnOkG P w K mg base (L2.CX P w) (k + 2) f fd ["cell", "wide"] (spD (sgOf ⟨K, mg⟩ .law_letter) (mkF 0 (ioOf .law_letter) (b_law_letter C))) :=
  fnL (sgOf ⟨K, mg⟩ .law_letter) [] [fz, fz] fz [] 0 F sc_law_letter fun cdv A outer s H E hr1 hr nd tk hp => (ds_cons (ds_if (dt_cmp (opr_eqE hr.units) (dv 1) doi op2_eq) (ds_one (ds_ret (dix dos (DE.op (de_op op_mod (dv 0) doi op2_mod))))) ds_nil)
    (ds_one (ds_ret (dix dos (DE.op (de_op op_mod (dv 0) (dv 1) op2_mod))))))
/-! ### _law_tree -/
abbrev s_law_tree : Stmt := topS 25
abbrev N_law_tree : List Str := ["cell", "parts", "wide", "deep", "letters", "aboves", "depths", "k", "one", "spots", "spot"]
theorem sc_law_tree : FnScope N_law_tree ["cell", "parts", "wide", "deep"] (defScope s_law_tree) := mkSc
def q_law_tree_1 (C : Fc → Fn) : DEnv → SR := (mAsg 4 (mLst mNil))
def q_law_tree_2 (C : Fc → Fn) : DEnv → SR := (mAsg 5 (mLst mNil))
def q_law_tree_3 (C : Fc → Fn) : DEnv → SR := (mAsg 6 (mLst mNil))
def i_law_tree_4 (C : Fc → Fn) : Src := (mSrcA (mCons (oV (mVar 1)) mNil) range1D)
def q_law_tree_4b1 (C : Fc → Fn) : DEnv → SR := (mAsg 8 (mCall (C .law_mixed) (ioOf .law_mixed) (mCons (oV (mVar 0)) (mCons (oV (mVar 7)) mNil))))
def q_law_tree_4b2 (C : Fc → Fn) : DEnv → SR := (mDrop (mMut (oS 4) (mCons (oV (mCall (C .law_letter) (ioOf .law_letter) (mCons (oV (mOp2 (oV (mVar 8)) (oV (mC (.int 11))) fdivD)) (mCons (oV (mVar 2)) mNil)))) mNil) appendF))
def li_law_tree_1 (C : Fc → Fn) : Src := (mSrcA (mCons (oV (mVar 7)) mNil) range1D)
def lc_law_tree_1 (C : Fc → Fn) : DEnv → R Bool := (mTest (mOp2 (oV (mOp2 (oS 6) (oV (mVar 10)) ixD)) (oV (mVar 3)) ltD))
def le_law_tree_1 (C : Fc → Fn) : DEnv → R D := (mVar 10)
def l_law_tree_1 (C : Fc → Fn) : DEnv → R D := (mLc (li_law_tree_1 C) (tName 10) (lc_law_tree_1 C) (le_law_tree_1 C) [10])
def q_law_tree_4b3 (C : Fc → Fn) : DEnv → SR := (mAsg 9 (l_law_tree_1 C))
def q_law_tree_4b4t1 (C : Fc → Fn) : DEnv → SR := (mDrop (mMut (oS 5) (mCons (oV (mC .non)) mNil) appendF))
def q_law_tree_4b4t2 (C : Fc → Fn) : DEnv → SR := (mDrop (mMut (oS 6) (mCons (oV (mC (.int 1))) mNil) appendF))
def Q_law_tree_4b4t (C : Fc → Fn) : DEnv → SR := (mSeq (q_law_tree_4b4t1 C)
    (q_law_tree_4b4t2 C))
def q_law_tree_4b4e1 (C : Fc → Fn) : DEnv → SR := (mAsg 10 (mOp2 (oV (mVar 9)) (oV (mOp2 (oV (mLst (mCons (oV (mOp2 (oV (mOp2 (oV (mVar 8)) (oV (mC (.int 300))) fdivD)) (oV (mOpN (mCons (oV (mVar 9)) mNil) lenD)) modD)) (mCons (oV (mOp2 (oV (mOpN (mCons (oV (mVar 9)) mNil) lenD)) (oV (mC (.int 1))) subD)) (mCons (oV (mC (.int 0))) mNil))))) (oV (mOpN (mCons (oV (mC (.int 0))) (mCons (oV (mOp2 (oV (mOp2 (oV (mOp2 (oV (mVar 0)) (oV (mC (.int 11))) fdivD)) (oV (mC (.int 5))) modD)) (oV (mC (.int 2))) subD)) mNil)) max2D)) ixD)) ixD))
def q_law_tree_4b4e2 (C : Fc → Fn) : DEnv → SR := (mDrop (mMut (oS 5) (mCons (oV (mVar 10)) mNil) appendF))
def q_law_tree_4b4e3 (C : Fc → Fn) : DEnv → SR := (mDrop (mMut (oS 6) (mCons (oV (mOp2 (oV (mOp2 (oS 6) (oV (mVar 10)) ixD)) (oV (mC (.int 1))) addD)) mNil) appendF))
def Q_law_tree_4b4e (C : Fc → Fn) : DEnv → SR := (mSeq (q_law_tree_4b4e1 C)
    (mSeq (q_law_tree_4b4e2 C)
    (q_law_tree_4b4e3 C)))
def q_law_tree_4b4 (C : Fc → Fn) : DEnv → SR := (mIf (mTest (mOp2 (oV (mVar 7)) (oV (mC (.int 0))) eqD)) (Q_law_tree_4b4t C) (Q_law_tree_4b4e C))
def Q_law_tree_4b (C : Fc → Fn) : DEnv → SR := (mSeq (q_law_tree_4b1 C)
    (mSeq (q_law_tree_4b2 C)
    (mSeq (q_law_tree_4b3 C)
    (q_law_tree_4b4 C))))
def q_law_tree_4 (C : Fc → Fn) : DEnv → SR := (mFor (i_law_tree_4 C) (tName 7) (Q_law_tree_4b C))
def q_law_tree_5 (C : Fc → Fn) : DEnv → SR := (mRet (mCall (C .law_built) (ioOf .law_built) (mCons (oV (mMove 4)) (mCons (oV (mMove 5)) (mCons (oV (mC (.int 0))) mNil)))))
def b_law_tree (C : Fc → Fn) : DEnv → SR :=
    (mSeq (q_law_tree_1 C)
    (mSeq (q_law_tree_2 C)
    (mSeq (q_law_tree_3 C)
    (mSeq (q_law_tree_4 C)
    (q_law_tree_5 C)))))
theorem e_law_tree (C : Fc → Fn) : b_law_tree C =
    (mSeq (q_law_tree_1 C)
    (mSeq (q_law_tree_2 C)
    (mSeq (q_law_tree_3 C)
    (mSeq (q_law_tree_4 C)
    (q_law_tree_5 C))))) := rfl
theorem k_law_tree (T : Tx0 K mg w0 w1 w2 w3 w4 w5 w6 w7 w8 w9 w10 w11 w12) (B : SysB base) (hC : HC P w K mg base k C) (F : Fun K "_law_tree" "_law_tree" s_law_tree f fd) : FnOkG P w K mg base (L2.CX P w) (k + 2) f fd ["cell", "parts", "wide", "deep"] (spD (sgOf ⟨K, mg⟩ .law_tree) (mkF 7 (ioOf .law_tree) (b_law_tree C))) :=
  fnL (sgOf ⟨K, mg⟩ .law_tree) [(Lof fz), (Lof fz), (Lof fz), fz, fz, fz, fz] [fz, fz, fz, fz, (Lof fz), (Lof fz), (Lof fz), fz, fz, fz, fz] fz [] 7 F sc_law_tree fun cdv A outer s H E hr1 hr nd tk hp => (ds_cons (ds_set (i := 4) nd (de_ls da_nil))
    (ds_cons (ds_set (i := 5) nd (de_ls da_nil))
    (ds_cons (ds_set (i := 6) nd (de_ls da_nil))
    (ds_cons (ds_for hp rfl (di_range1 T.z_range (da_cons (dv 1) da_nil)) (dg_name (i := 7) nd) (ds_cons (ds_set (i := 8) nd (de_call (hC .law_mixed) hr tk (da_cons (dv 0) (da_cons (dv 7) da_nil))))
    (ds_cons (ds_expr (de_mut PySem.F.slot_list_append PySem.F.type_list_append mt_append (dsl 4) (da_cons (DE.op (de_call (hC .law_letter) hr tk (da_cons (DE.op (de_op op_fdiv (dv 8) doi op2_fdiv)) (da_cons (dv 2) da_nil)))) da_nil) mut_append))
    (ds_cons (ds_setLcF (i := 9) (own := [("spot", 10)]) (pnC := [0, 1, 2, 3, 4, 5, 6, 7, 8, 9]) (me := fz) rfl nd (di_range1 T.z_range (da_cons (dv 7) da_nil)) (blkOk_by (N := N_law_tree) (sc := (defScope s_law_tree)) (by decide +kernel)) (fun _ => (dg_name (i := 10) nd)) (fun _ => dts_one (dt_cmp opr_lt (DE.op (de_ix ix_seq (dsl 6) (dv 10) (op2_ix flat_L))) (dv 3) op2_lt)) (fun _ => (de_v 10)) (sw_true rfl rfl rfl (by decide +kernel)))
    (ds_one (ds_if (dt_cmp (opr_eqE hr.units) (dv 7) doi op2_eq) (ds_cons (ds_expr (de_mut PySem.F.slot_list_append PySem.F.type_list_append mt_append (dsl 5) (da_cons (DE.op dkn) da_nil) mut_append))
    (ds_one (ds_expr (de_mut PySem.F.slot_list_append PySem.F.type_list_append mt_append (dsl 6) (da_cons doi da_nil) mut_append)))) (ds_cons (ds_set (i := 10) nd (dix (dv 9) (DE.op (de_ix ix_seq (DE.op (de_ls (da_cons (DE.op (de_op op_mod (DE.op (de_op op_fdiv (dv 8) doi op2_fdiv)) (DE.op (de_callB call_len (by rfl) T.z_len (by decide +kernel) (da_cons (dv 9) da_nil) opn_len)) op2_mod)) (da_cons (DE.op (de_op op_sub (DE.op (de_callB call_len (by rfl) T.z_len (by decide +kernel) (da_cons (dv 9) da_nil) opn_len)) doi op2_sub)) (da_cons doi da_nil))))) (DE.op (de_callB (call_max2 rfl) (by rfl) T.z_max (by decide +kernel) (da_cons doi (da_cons (DE.op (de_op op_sub (DE.op (de_op op_mod (DE.op (de_op op_fdiv (dv 0) doi op2_fdiv)) doi op2_mod)) doi op2_sub)) da_nil)) opn_max2)) (op2_ix flat_L)))))
    (ds_cons (ds_expr (de_mut PySem.F.slot_list_append PySem.F.type_list_append mt_append (dsl 5) (da_cons (dv 10) da_nil) mut_append))
    (ds_one (ds_expr (de_mut PySem.F.slot_list_append PySem.F.type_list_append mt_append (dsl 6) (da_cons (DE.op (DE.share (de_op opr_add (DE.op (de_ix ix_seq (dsl 6) (dv 10) (op2_ix flat_L))) doi (op2_add flat_fz flat_fz)))) da_nil) mut_append)))))))))))
    (ds_one (ds_ret (de_call (hC .law_built) hr tk (da_cons (DE.op (DE.share (de_move (i := 4) (pv 4) rfl))) (da_cons (DE.op (DE.share (de_move (i := 5) (pv 5) rfl))) (da_cons doi da_nil))))))))))
/-! ### _law_built -/
abbrev s_law_built : Stmt := topS 26
abbrev N_law_built : List Str := ["letters", "aboves", "k", "children", "spot"]
theorem sc_law_built : FnScope N_law_built ["letters", "aboves", "k"] (defScope s_law_built) := mkSc
def li_law_built_1 (C : Fc → Fn) : Src := (mSrcA (mCons (oV (mOpN (mCons (oV (mVar 1)) mNil) lenD)) mNil) range1D)
def lc_law_built_1 (C : Fc → Fn) : DEnv → R Bool := (mTest (mOp2 (oV (mOp2 (oV (mVar 1)) (oV (mVar 4)) ixD)) (oV (mVar 2)) eqD))
def le_law_built_1 (C : Fc → Fn) : DEnv → R D := (mCall (C .law_built) (ioOf .law_built) (mCons (oV (mVar 0)) (mCons (oV (mVar 1)) (mCons (oV (mVar 4)) mNil))))
def l_law_built_1 (C : Fc → Fn) : DEnv → R D := (mLc (li_law_built_1 C) (tName 4) (lc_law_built_1 C) (le_law_built_1 C) [4])
def q_law_built_1 (C : Fc → Fn) : DEnv → SR := (mAsg 3 (l_law_built_1 C))
def q_law_built_2 (C : Fc → Fn) : DEnv → SR := (mRet (mTup (mCons (oV (mOp2 (oV (mVar 0)) (oV (mVar 2)) ixD)) (mCons (oV (mVar 3)) mNil))))
def b_law_built (C : Fc → Fn) : DEnv → SR :=
    (mSeq (q_law_built_1 C)
    (q_law_built_2 C))
theorem e_law_built (C : Fc → Fn) : b_law_built C =
    (mSeq (q_law_built_1 C)
    (q_law_built_2 C)) := rfl
theorem k_law_built (T : Tx0 K mg w0 w1 w2 w3 w4 w5 w6 w7 w8 w9 w10 w11 w12) (B : SysB base) (hC : HC P w K mg base k C) (F : Fun K "_law_built" "_law_built" s_law_built f fd) : FnOkG P w K mg base (L2.CX P w) (k + 2) f fd ["letters", "aboves", "k"] (spD (sgOf ⟨K, mg⟩ .law_built) (mkF 2 (ioOf .law_built) (b_law_built C))) :=
  fnL (sgOf ⟨K, mg⟩ .law_built) [fz, fz] [fz, fz, fz, fz, fz] fz [] 2 F sc_law_built fun cdv A outer s H E hr1 hr nd tk hp => (ds_cons (ds_setLcF (i := 3) (own := [("spot", 4)]) (pnC := [0, 1, 2, 3]) (me := fz) rfl nd (di_range1 T.z_range (da_cons (DE.op (de_callB call_len (by rfl) T.z_len (by decide +kernel) (da_cons (dv 1) da_nil) opn_len)) da_nil)) (blkOk_by (N := N_law_built) (sc := (defScope s_law_built)) (by decide +kernel)) (fun _ => (dg_name (i := 4) nd)) (fun _ => dts_one (dt_cmp (opr_eqE hr.units) (DE.op (dix (dv 1) (dv 4))) (dv 2) op2_eq)) (fun _ => (de_call (hC .law_built) hr takes0 (da_cons (dv 0) (da_cons (dv 1) (da_cons (dv 4) da_nil))))) (sw_true rfl rfl rfl (by decide +kernel)))
    (ds_one (ds_ret (de_tp (da_cons (DE.op (dix (dv 0) (dv 2))) (da_cons (dv 3) da_nil))))))
/-! ### _law_written -/
abbrev s_law_written : Stmt := topS 27
abbrev N_law_written : List Str := ["tree", "child"]
theorem sc_law_written : FnScope N_law_written ["tree"] (defScope s_law_written) := mkSc
def q_law_written_1t1 (C : Fc → Fn) : DEnv → SR := (mRet (mOp2 (oV (mVar 0)) (oV (mC (.int 0))) ixD))
def q_law_written_1 (C : Fc → Fn) : DEnv → SR := (mIf (mTest (mOp2 (oV (mOp2 (oV (mVar 0)) (oV (mC (.int 1))) ixD)) (oV (mLst mNil)) eqD)) (q_law_written_1t1 C) mNext)
def li_law_written_1 (C : Fc → Fn) : Src := (mSrc (oV (mOp2 (oV (mVar 0)) (oV (mC (.int 1))) ixD)) seqD)
def lc_law_written_1 (C : Fc → Fn) : DEnv → R Bool := mYes
def le_law_written_1 (C : Fc → Fn) : DEnv → R D := (mCall (C .law_written) (ioOf .law_written) (mCons (oV (mVar 1)) mNil))
def l_law_written_1 (C : Fc → Fn) : DEnv → R D := (mLc (li_law_written_1 C) (tName 1) (lc_law_written_1 C) (le_law_written_1 C) [1])
def q_law_written_2 (C : Fc → Fn) : DEnv → SR := (mRet (mOp2 (oV (mOp2 (oV (mOp2 (oV (mOp2 (oV (mVar 0)) (oV (mC (.int 0))) ixD)) (oV (mC (.str "("))) addD)) (oV (mOpN (mCons (oV (l_law_written_1 C)) mNil) (joinD ""))) addD)) (oV (mC (.str ")"))) addD))
def b_law_written (C : Fc → Fn) : DEnv → SR :=
    (mSeq (q_law_written_1 C)
    (q_law_written_2 C))
theorem e_law_written (C : Fc → Fn) : b_law_written C =
    (mSeq (q_law_written_1 C)
    (q_law_written_2 C)) := rfl
theorem k_law_written (T : Tx0 K mg w0 w1 w2 w3 w4 w5 w6 w7 w8 w9 w10 w11 w12) (B : SysB base) (hC : HC P w K mg base k C) (F : Fun K "_law_written" "_law_written" s_law_written f fd) : FnOkG P w K mg base (L2.CX P w) (k + 2) f fd ["tree"] (spD (sgOf ⟨K, mg⟩ .law_written) (mkF 1 (ioOf .law_written) (b_law_written C))) :=
  fnL (sgOf ⟨K, mg⟩ .law_written) [fz] [fz, fz] fz [] 1 F sc_law_written fun cdv A outer s H E hr1 hr nd tk hp => (ds_cons (ds_if (dt_cmp (opr_eqE hr.units) (DE.op (dix (dv 0) doi)) (DE.op (de_ls da_nil)) op2_eq) (ds_one (ds_ret (dix (dv 0) doi))) ds_nil)
    (ds_one (ds_ret (DE.share (de_op opr_add (DE.op (de_op opr_add (DE.op (de_op opr_add (DE.op (dix (dv 0) doi)) dos (op2_add flat_fz flat_fz))) (DE.op (de_join (da_cons (DE.op (de_lc (own := [("child", 1)]) (pnC := [0]) (me := fz) rfl nd (di_seq (DE.op (dix (dv 0) doi)) flat_fz) (blkOk_by (N := N_law_written) (sc := (defScope s_law_written)) (by decide +kernel)) (fun _ => (dg_name (i := 1) nd)) (fun _ => dts_nil) (fun _ => (de_call (hC .law_written) hr takes0 (da_cons (dv 1) da_nil))))) da_nil))) (op2_add flat_L flat_fz))) dos (op2_add flat_L flat_fz))))))
/-! ### _law_rest -/
abbrev s_law_rest : Stmt := topS 28
abbrev N_law_rest : List Str := ["text"]
theorem sc_law_rest : FnScope N_law_rest ["text"] (defScope s_law_rest) := mkSc
def q_law_rest_1t1 (C : Fc → Fn) : DEnv → SR := (mRet (mC .non))
def q_law_rest_1 (C : Fc → Fn) : DEnv → SR := (mIf (mOr (mTest (mOp2 (oV (mVar 0)) (oV (mC (.str ""))) eqD)) (mTest (mOp2 (oV (mOp2 (oV (mVar 0)) (oV (mC (.int 0))) ixD)) (oV (mC (.str "abcdefghijklmnopqrstuvwxyz"))) (inD true)))) (q_law_rest_1t1 C) mNext)
def q_law_rest_2 (C : Fc → Fn) : DEnv → SR := (mAsg 0 (mSl (oV (mVar 0)) (bAt (mC (.int 1))) bNo))
def q_law_rest_3t1 (C : Fc → Fn) : DEnv → SR := (mRet (mVar 0))
def q_law_rest_3 (C : Fc → Fn) : DEnv → SR := (mIf (mTest (mOp2 (oV (mSl (oV (mVar 0)) bNo (bAt (mC (.int 1))))) (oV (mC (.str "("))) neD)) (q_law_rest_3t1 C) mNext)
def q_law_rest_4 (C : Fc → Fn) : DEnv → SR := (mAsg 0 (mSl (oV (mVar 0)) (bAt (mC (.int 1))) bNo))
def q_law_rest_5t1 (C : Fc → Fn) : DEnv → SR := (mRet (mC .non))
def q_law_rest_5 (C : Fc → Fn) : DEnv → SR := (mIf (mTest (mOp2 (oV (mSl (oV (mVar 0)) bNo (bAt (mC (.int 1))))) (oV (mC (.str ")"))) eqD)) (q_law_rest_5t1 C) mNext)
def w_law_rest_6 (C : Fc → Fn) : DEnv → R Bool := (mAnd (mTest (mOp2 (oV (mVar 0)) (oV (mC .non)) notND)) (mTest (mOp2 (oV (mSl (oV (mVar 0)) bNo (bAt (mC (.int 1))))) (oV (mC (.str ")"))) neD)))
def q_law_rest_6b1 (C : Fc → Fn) : DEnv → SR := (mAsg 0 (mCall (C .law_rest) (ioOf .law_rest) (mCons (oV (mVar 0)) mNil)))
def q_law_rest_6 (C : Fc → Fn) : DEnv → SR := (dWhile (w_law_rest_6 C) (q_law_rest_6b1 C) 1000000000)
def q_law_rest_7t1 (C : Fc → Fn) : DEnv → SR := (mRet (mC .non))
def q_law_rest_7 (C : Fc → Fn) : DEnv → SR := (mIf (mTest (mOp2 (oV (mVar 0)) (oV (mC .non)) isND)) (q_law_rest_7t1 C) mNext)
def q_law_rest_8 (C : Fc → Fn) : DEnv → SR := (mRet (mSl (oV (mVar 0)) (bAt (mC (.int 1))) bNo))
def b_law_rest (C : Fc → Fn) : DEnv → SR :=
    (mSeq (q_law_rest_1 C)
    (mSeq (q_law_rest_2 C)
    (mSeq (q_law_rest_3 C)
    (mSeq (q_law_rest_4 C)
    (mSeq (q_law_rest_5 C)
    (mSeq (q_law_rest_6 C)
    (mSeq (q_law_rest_7 C)
    (q_law_rest_8 C))))))))
theorem e_law_rest (C : Fc → Fn) : b_law_rest C =
    (mSeq (q_law_rest_1 C)
    (mSeq (q_law_rest_2 C)
    (mSeq (q_law_rest_3 C)
    (mSeq (q_law_rest_4 C)
    (mSeq (q_law_rest_5 C)
    (mSeq (q_law_rest_6 C)
    (mSeq (q_law_rest_7 C)
    (q_law_rest_8 C)))))))) := rfl
theorem k_law_rest (T : Tx0 K mg w0 w1 w2 w3 w4 w5 w6 w7 w8 w9 w10 w11 w12) (B : SysB base) (hC : HC P w K mg base k C) (F : Fun K "_law_rest" "_law_rest" s_law_rest f fd) : FnOkG P w K mg base (L2.CX P w) (k + 2) f fd ["text"] (spD (sgOf ⟨K, mg⟩ .law_rest) (mkF 0 (ioOf .law_rest) (b_law_rest C))) :=
  fnL (sgOf ⟨K, mg⟩ .law_rest) [] [fz] fz [] 0 F sc_law_rest fun cdv A outer s H E hr1 hr nd tk hp => (ds_cons (ds_if (DW.dt (dw_or (dt_cmp (opr_eqE hr.units) (dv 0) dos op2_eq) (dw_or1 (dt_cmp opr_notIn (DE.op (dix (dv 0) doi)) dos (op2_in true))))) (ds_one (ds_ret dkn)) ds_nil)
    (ds_cons (ds_set (i := 0) nd (DE.share (de_slice (dv 0) flat_fz (db_at dki) db_no)))
    (ds_cons (ds_if (dt_cmp (opr_neE hr.units) (DE.op (de_slice (dv 0) flat_fz db_no (db_at dki))) dos op2_ne) (ds_one (ds_ret (de_v 0))) ds_nil)
    (ds_cons (ds_set (i := 0) nd (DE.share (de_slice (dv 0) flat_fz (db_at dki) db_no)))
    (ds_cons (ds_if (dt_cmp (opr_eqE hr.units) (DE.op (de_slice (dv 0) flat_fz db_no (db_at dki))) dos op2_eq) (ds_one (ds_ret dkn)) ds_nil)
    (ds_cons (ds_while 1000000000 hp (DW.dt (dw_and (dt_cmp op_notN (dv 0) (DE.op dkn) op2_notN) (dw_and1 (dt_cmp (opr_neE hr.units) (DE.op (de_slice (dv 0) flat_fz db_no (db_at dki))) dos op2_ne)))) (ds_one (ds_set (i := 0) nd (de_call (hC .law_rest) hr tk (da_cons (dv 0) da_nil)))))
    (ds_cons (ds_if (dt_cmp op_isN (dv 0) (DE.op dkn) op2_isN) (ds_one (ds_ret dkn)) ds_nil)
    (ds_one (ds_ret (DE.share (de_slice (dv 0) flat_fz (db_at dki) db_no)))))))))))
/-! ### _law_odd -/
abbrev s_law_odd : Stmt := topS 29
abbrev N_law_odd : List Str := ["cell", "some"]
theorem sc_law_odd : FnScope N_law_odd ["cell"] (defScope s_law_odd) := mkSc
def q_law_odd_1 (C : Fc → Fn) : DEnv → SR := (mAsg 1 (mLst (mCons (oV (mC (.str ""))) (mCons (oV (mC (.str " "))) (mCons (oV (mC (.str "a "))) (mCons (oV (mC (.str " a"))) (mCons (oV (mC (.str "A"))) (mCons (oV (mC (.str "aa"))) (mCons (oV (mC (.str "abc"))) (mCons (oV (mC (.str "abcd"))) (mCons (oV (mC (.str "a(b)c(d)e"))) (mCons (oV (mC (.str "ab(c)"))) (mCons (oV (mC (.str "a()"))) (mCons (oV (mC (.str "a("))) mNil))))))))))))))
def q_law_odd_2 (C : Fc → Fn) : DEnv → SR := (mAsg 1 (mOp2 (oV (mVar 1)) (oV (mLst (mCons (oV (mC (.str "a)"))) (mCons (oV (mC (.str "(a)"))) (mCons (oV (mC (.str "()"))) (mCons (oV (mC (.str "a(b"))) (mCons (oV (mC (.str "a(b))"))) (mCons (oV (mC (.str "a(b)c"))) (mCons (oV (mC (.str "a((b))"))) (mCons (oV (mC (.str "a(b,c)"))) mNil)))))))))) addD))
def q_law_odd_3 (C : Fc → Fn) : DEnv → SR := (mAsg 1 (mOp2 (oV (mVar 1)) (oV (mLst (mCons (oV (mC (.str "\na"))) (mCons (oV (mC (.str "a(\nb)"))) (mCons (oV (mC (.str "a\n(b)"))) (mCons (oV (mC (.str "\ta"))) (mCons (oV (mC (.str "a(b\n)"))) mNil))))))) addD))
def q_law_odd_4 (C : Fc → Fn) : DEnv → SR := (mAsg 1 (mOp2 (oV (mVar 1)) (oV (mLst (mCons (oV (mC (.str "a(b c)"))) (mCons (oV (mC (.str "a1"))) (mCons (oV (mC (.str "1"))) (mCons (oV (mC (.str "a(1)"))) (mCons (oV (mC (.str "a(b)(c)"))) (mCons (oV (mC (.str "a(b())"))) (mCons (oV (mC (.str "a.b"))) mNil))))))))) addD))
def q_law_odd_5 (C : Fc → Fn) : DEnv → SR := (mAsg 1 (mOp2 (oV (mVar 1)) (oV (mLst (mCons (oV (mC (.str "-"))) (mCons (oV (mC (.str "a(b)\n"))) (mCons (oV (mC (.str "a\t"))) (mCons (oV (mC (.str "a[b]"))) (mCons (oV (mC (.str "a(B)"))) (mCons (oV (mC (.str "a(b(c)d"))) (mCons (oV (mC (.str "a(b(c)d))"))) mNil))))))))) addD))
def q_law_odd_6 (C : Fc → Fn) : DEnv → SR := (mAsg 1 (mOp2 (oV (mVar 1)) (oV (mLst (mCons (oV (mC (.str "a(bcd(efg)h(i(j)))"))) (mCons (oV (mC (.str "z(yx(w))"))) (mCons (oV (mC (.str "a(a(a(a(a))))"))) (mCons (oV (mC (.str "a(`)"))) (mCons (oV (mC (.str "a({)"))) mNil))))))) addD))
def q_law_odd_7 (C : Fc → Fn) : DEnv → SR := (mRet (mOp2 (oV (mVar 1)) (oV (mLst (mCons (oV (mC (.str "`"))) (mCons (oV (mC (.str "{"))) (mCons (oV (mC (.str "a(b)a"))) (mCons (oV (mC (.str "a(bb)"))) (mCons (oV (mC (.str "q(w(e)r(t)y)"))) mNil))))))) addD))
def b_law_odd (C : Fc → Fn) : DEnv → SR :=
    (mSeq (q_law_odd_1 C)
    (mSeq (q_law_odd_2 C)
    (mSeq (q_law_odd_3 C)
    (mSeq (q_law_odd_4 C)
    (mSeq (q_law_odd_5 C)
    (mSeq (q_law_odd_6 C)
    (q_law_odd_7 C)))))))
theorem k_law_odd (T : Tx0 K mg w0 w1 w2 w3 w4 w5 w6 w7 w8 w9 w10 w11 w12) (B : SysB base) (hC : HC P w K mg base k C) (F : Fun K "_law_odd" "_law_odd" s_law_odd f fd) : FnOkG P w K mg base (L2.CX P w) (k + 2) f fd ["cell"] (spD (sgOf ⟨K, mg⟩ .law_odd) (mkF 1 (ioOf .law_odd) (b_law_odd C))) :=
  fnL (sgOf ⟨K, mg⟩ .law_odd) [fz] [fz, fz] fz [] 1 F sc_law_odd fun cdv A outer s H E hr1 hr nd tk hp => (ds_cons (ds_set (i := 1) nd (DE.share (de_ls (da_cons dos (da_cons dos (da_cons dos (da_cons dos (da_cons dos (da_cons dos (da_cons dos (da_cons dos (da_cons dos (da_cons dos (da_cons dos (da_cons dos da_nil)))))))))))))))
    (ds_cons (ds_set (i := 1) nd (DE.share (de_op opr_add (dv 1) (DE.op (de_ls (da_cons dos (da_cons dos (da_cons dos (da_cons dos (da_cons dos (da_cons dos (da_cons dos (da_cons dos da_nil)))))))))) (op2_add flat_fz flat_L))))
    (ds_cons (ds_set (i := 1) nd (DE.share (de_op opr_add (dv 1) (DE.op (de_ls (da_cons dos (da_cons dos (da_cons dos (da_cons dos (da_cons dos da_nil))))))) (op2_add flat_fz flat_L))))
    (ds_cons (ds_set (i := 1) nd (DE.share (de_op opr_add (dv 1) (DE.op (de_ls (da_cons dos (da_cons dos (da_cons dos (da_cons dos (da_cons dos (da_cons dos (da_cons dos da_nil))))))))) (op2_add flat_fz flat_L))))
    (ds_cons (ds_set (i := 1) nd (DE.share (de_op opr_add (dv 1) (DE.op (de_ls (da_cons dos (da_cons dos (da_cons dos (da_cons dos (da_cons dos (da_cons dos (da_cons dos da_nil))))))))) (op2_add flat_fz flat_L))))
    (ds_cons (ds_set (i := 1) nd (DE.share (de_op opr_add (dv 1) (DE.op (de_ls (da_cons dos (da_cons dos (da_cons dos (da_cons dos (da_cons dos da_nil))))))) (op2_add flat_fz flat_L))))
    (ds_one (ds_ret (DE.share (de_op opr_add (dv 1) (DE.op (de_ls (da_cons dos (da_cons dos (da_cons dos (da_cons dos (da_cons dos da_nil))))))) (op2_add flat_fz flat_L)))))))))))
/-! ### _law_given -/
abbrev s_law_given : Stmt := topS 30
abbrev N_law_given : List Str := ["cell", "kind", "text", "some", "at", "signs", "sign"]
theorem sc_law_given : FnScope N_law_given ["cell"] (defScope s_law_given) := mkSc
def q_law_given_1 (C : Fc → Fn) : DEnv → SR := (mAsg 1 (mOp2 (oV (mVar 0)) (oV (mC (.int 5))) modD))
def q_law_given_2 (C : Fc → Fn) : DEnv → SR := (mAsg 2 (mCall (C .law_written) (ioOf .law_written) (mCons (oV (mCall (C .law_tree) (ioOf .law_tree) (mCons (oV (mCall (C .law_mixed) (ioOf .law_mixed) (mCons (oV (mVar 0)) (mCons (oV (mC (.int 3))) mNil)))) (mCons (oV (mOp2 (oV (mC (.int 1))) (oV (mOp2 (oV (mOp2 (oV (mVar 0)) (oV (mC (.int 5))) fdivD)) (oV (mC (.int 39))) modD)) addD)) (mCons (oV (mOp2 (oV (mOp2 (oV (mVar 0)) (oV (mC (.int 200))) fdivD)) (oV (mC (.int 5))) modD)) (mCons (oV (mC (.int 6))) mNil)))))) mNil)))
def q_law_given_3t1 (C : Fc → Fn) : DEnv → SR := (mAsg 3 (mCall (C .law_odd) (ioOf .law_odd) (mCons (oV (mVar 0)) mNil)))
def q_law_given_3t2 (C : Fc → Fn) : DEnv → SR := (mRet (mOp2 (oV (mVar 3)) (oV (mOp2 (oV (mOp2 (oV (mVar 0)) (oV (mC (.int 5))) fdivD)) (oV (mOpN (mCons (oV (mVar 3)) mNil) lenD)) modD)) ixD))
def Q_law_given_3t (C : Fc → Fn) : DEnv → SR := (mSeq (q_law_given_3t1 C)
    (q_law_given_3t2 C))
def q_law_given_3 (C : Fc → Fn) : DEnv → SR := (mIf (mTest (mOp2 (oV (mVar 1)) (oV (mC (.int 0))) eqD)) (Q_law_given_3t C) mNext)
def q_law_given_4t1 (C : Fc → Fn) : DEnv → SR := (mRet (mOp2 (oV (mVar 2)) (oV (mCall (C .law_written) (ioOf .law_written) (mCons (oV (mCall (C .law_tree) (ioOf .law_tree) (mCons (oV (mCall (C .law_mixed) (ioOf .law_mixed) (mCons (oV (mVar 0)) (mCons (oV (mC (.int 5))) mNil)))) (mCons (oV (mOp2 (oV (mC (.int 1))) (oV (mOp2 (oV (mOp2 (oV (mVar 0)) (oV (mC (.int 4000))) fdivD)) (oV (mC (.int 5))) modD)) addD)) (mCons (oV (mC (.int 2))) (mCons (oV (mC (.int 3))) mNil)))))) mNil))) addD))
def q_law_given_4 (C : Fc → Fn) : DEnv → SR := (mIf (mAnd (mTest (mOp2 (oV (mVar 1)) (oV (mC (.int 4))) eqD)) (mTest (mOp2 (oV (mOp2 (oV (mOp2 (oV (mVar 0)) (oV (mC (.int 1000))) fdivD)) (oV (mC (.int 4))) modD)) (oV (mC (.int 1))) eqD))) (q_law_given_4t1 C) mNext)
def q_law_given_5 (C : Fc → Fn) : DEnv → SR := (mAsg 4 (mOp2 (oV (mOp2 (oV (mVar 0)) (oV (mC (.int 1000))) fdivD)) (oV (mOp2 (oV (mOpN (mCons (oV (mVar 2)) mNil) lenD)) (oV (mC (.int 1))) addD)) modD))
def q_law_given_6 (C : Fc → Fn) : DEnv → SR := (mAsg 5 (mC (.str " !#$&'()*+,-./0123456789:;<=>?@ABCDEFGHIJKLMNOPQRSTUVWXYZ[]^_`abcdefghijklmnopqrstuvwxyz{|}~\t\n")))
def q_law_given_7 (C : Fc → Fn) : DEnv → SR := (mAsg 6 (mOp2 (oV (mVar 5)) (oV (mOp2 (oV (mOp2 (oV (mVar 0)) (oV (mC (.int 100000))) fdivD)) (oV (mOpN (mCons (oV (mVar 5)) mNil) lenD)) modD)) ixD))
def q_law_given_8t1 (C : Fc → Fn) : DEnv → SR := (mAsg 6 (mOp2 (oV (mC (.str "()ab"))) (oV (mOp2 (oV (mOp2 (oV (mVar 0)) (oV (mC (.int 100000))) fdivD)) (oV (mC (.int 4))) modD)) ixD))
def q_law_given_8 (C : Fc → Fn) : DEnv → SR := (mIf (mTest (mOp2 (oV (mOp2 (oV (mOp2 (oV (mVar 0)) (oV (mC (.int 50))) fdivD)) (oV (mC (.int 3))) modD)) (oV (mC (.int 1))) eqD)) (q_law_given_8t1 C) mNext)
def q_law_given_9t1 (C : Fc → Fn) : DEnv → SR := (mRet (mOp2 (oV (mSl (oV (mVar 2)) bNo (bAt (mVar 4)))) (oV (mSl (oV (mVar 2)) (bAt (mOp2 (oV (mVar 4)) (oV (mC (.int 1))) addD)) bNo)) addD))
def q_law_given_9 (C : Fc → Fn) : DEnv → SR := (mIf (mTest (mOp2 (oV (mVar 1)) (oV (mC (.int 1))) eqD)) (q_law_given_9t1 C) mNext)
def q_law_given_10 (C : Fc → Fn) : DEnv → SR := (mRet (mOp2 (oV (mOp2 (oV (mSl (oV (mVar 2)) bNo (bAt (mVar 4)))) (oV (mVar 6)) addD)) (oV (mSl (oV (mVar 2)) (bAt (mOp2 (oV (mVar 4)) (oV (mOpN (mCons (oV (mOp2 (oV (mVar 1)) (oV (mC (.int 2))) eqD)) mNil) intD)) addD)) bNo)) addD))
def b_law_given (C : Fc → Fn) : DEnv → SR :=
    (mSeq (q_law_given_1 C)
    (mSeq (q_law_given_2 C)
    (mSeq (q_law_given_3 C)
    (mSeq (q_law_given_4 C)
    (mSeq (q_law_given_5 C)
    (mSeq (q_law_given_6 C)
    (mSeq (q_law_given_7 C)
    (mSeq (q_law_given_8 C)
    (mSeq (q_law_given_9 C)
    (q_law_given_10 C))))))))))
theorem e_law_given (C : Fc → Fn) : b_law_given C =
    (mSeq (q_law_given_1 C)
    (mSeq (q_law_given_2 C)
    (mSeq (q_law_given_3 C)
    (mSeq (q_law_given_4 C)
    (mSeq (q_law_given_5 C)
    (mSeq (q_law_given_6 C)
    (mSeq (q_law_given_7 C)
    (mSeq (q_law_given_8 C)
    (mSeq (q_law_given_9 C)
    (q_law_given_10 C)))))))))) := rfl
theorem k_law_given (T : Tx0 K mg w0 w1 w2 w3 w4 w5 w6 w7 w8 w9 w10 w11 w12) (B : SysB base) (hC : HC P w K mg base k C) (F : Fun K "_law_given" "_law_given" s_law_given f fd) : FnOkG P w K mg base (L2.CX P w) (k + 2) f fd ["cell"] (spD (sgOf ⟨K, mg⟩ .law_given) (mkF 6 (ioOf .law_given) (b_law_given C))) :=
  fnL (sgOf ⟨K, mg⟩ .law_given) [fz, fz, fz, fz, fz, fz] [fz, fz, fz, fz, fz, fz, fz] fz [] 6 F sc_law_given fun cdv A outer s H E hr1 hr nd tk hp => (ds_cons (ds_set (i := 1) nd (de_op op_mod (dv 0) doi op2_mod))
    (ds_cons (ds_set (i := 2) nd (de_call (hC .law_written) hr tk (da_cons (DE.op (de_call (hC .law_tree) hr tk (da_cons (DE.op (de_call (hC .law_mixed) hr tk (da_cons (dv 0) (da_cons doi da_nil)))) (da_cons (DE.op (DE.share (de_op opr_add doi (DE.op (de_op op_mod (DE.op (de_op op_fdiv (dv 0) doi op2_fdiv)) doi op2_mod)) (op2_add flat_fz flat_fz)))) (da_cons (DE.op (de_op op_mod (DE.op (de_op op_fdiv (dv 0) doi op2_fdiv)) doi op2_mod)) (da_cons doi da_nil)))))) da_nil)))
    (ds_cons (ds_if (dt_cmp (opr_eqE hr.units) (dv 1) doi op2_eq) (ds_cons (ds_set (i := 3) nd (de_call (hC .law_odd) hr tk (da_cons (dv 0) da_nil)))
    (ds_one (ds_ret (dix (dv 3) (DE.op (de_op op_mod (DE.op (de_op op_fdiv (dv 0) doi op2_fdiv)) (DE.op (de_callB call_len (by rfl) T.z_len (by decide +kernel) (da_cons (dv 3) da_nil) opn_len)) op2_mod)))))) ds_nil)
    (ds_cons (ds_if (DW.dt (dw_and (dt_cmp (opr_eqE hr.units) (dv 1) doi op2_eq) (dw_and1 (dt_cmp (opr_eqE hr.units) (DE.op (de_op op_mod (DE.op (de_op op_fdiv (dv 0) doi op2_fdiv)) doi op2_mod)) doi op2_eq)))) (ds_one (ds_ret (DE.share (de_op opr_add (dv 2) (DE.op (de_call (hC .law_written) hr tk (da_cons (DE.op (de_call (hC .law_tree) hr tk (da_cons (DE.op (de_call (hC .law_mixed) hr tk (da_cons (dv 0) (da_cons doi da_nil)))) (da_cons (DE.op (DE.share (de_op opr_add doi (DE.op (de_op op_mod (DE.op (de_op op_fdiv (dv 0) doi op2_fdiv)) doi op2_mod)) (op2_add flat_fz flat_fz)))) (da_cons doi (da_cons doi da_nil)))))) da_nil))) (op2_add flat_fz flat_fz))))) ds_nil)
    (ds_cons (ds_set (i := 4) nd (de_op op_mod (DE.op (de_op op_fdiv (dv 0) doi op2_fdiv)) (DE.op (de_op opr_add (DE.op (de_callB call_len (by rfl) T.z_len (by decide +kernel) (da_cons (dv 2) da_nil) opn_len)) doi (op2_add flat_fz flat_fz))) op2_mod))
    (ds_cons (ds_set (i := 5) nd dks)
    (ds_cons (ds_set (i := 6) nd (dix (dv 5) (DE.op (de_op op_mod (DE.op (de_op op_fdiv (dv 0) doi op2_fdiv)) (DE.op (de_callB call_len (by rfl) T.z_len (by decide +kernel) (da_cons (dv 5) da_nil) opn_len)) op2_mod))))
    (ds_cons (ds_if (dt_cmp (opr_eqE hr.units) (DE.op (de_op op_mod (DE.op (de_op op_fdiv (dv 0) doi op2_fdiv)) doi op2_mod)) doi op2_eq) (ds_one (ds_set (i := 6) nd (dix dos (DE.op (de_op op_mod (DE.op (de_op op_fdiv (dv 0) doi op2_fdiv)) doi op2_mod))))) ds_nil)
    (ds_cons (ds_if (dt_cmp (opr_eqE hr.units) (dv 1) doi op2_eq) (ds_one (ds_ret (DE.share (de_op opr_add (DE.op (de_slice (dv 2) flat_fz db_no (db_at (de_v 4)))) (DE.op (de_slice (dv 2) flat_fz (db_at (DE.share (de_op opr_add (dv 4) doi (op2_add flat_fz flat_fz)))) db_no)) (op2_add flat_L flat_L))))) ds_nil)
    (ds_one (ds_ret (DE.share (de_op opr_add (DE.op (de_op opr_add (DE.op (de_slice (dv 2) flat_fz db_no (db_at (de_v 4)))) (dv 6) (op2_add flat_L flat_fz))) (DE.op (de_slice (dv 2) flat_fz (db_at (DE.share (de_op opr_add (dv 4) (DE.op (de_callTy call_int1 (by rfl) T.z_int (by decide +kernel) (da_cons (DE.op (de_cmp (opr_eqE hr.units) (dv 1) doi op2_eq)) da_nil) opn_int)) (op2_add flat_fz flat_fz)))) db_no)) (op2_add flat_L flat_L))))))))))))))
/-! ### _law_asked -/
abbrev s_law_asked : Stmt := topS 31
abbrev N_law_asked : List Str := ["ask", "thing", "found", "e", "kinds", "others"]
theorem sc_law_asked : FnScope N_law_asked ["ask", "thing"] (defScope s_law_asked) := mkSc
def q_law_asked_1 (C : Fc → Fn) : DEnv → SR := (mAsg 2 (mLst (mCons (oV (mC (.bl false))) (mCons (oV (mC .non)) mNil))))
def q_law_asked_2y1t1 (C : Fc → Fn) : DEnv → SR := (mStore (mCall (C .read_tree) (ioOf .read_tree) (mCons (oV (mVar 1)) mNil)) (oS 2) (mC (.int 1)) setF)
def q_law_asked_2y1e1 (C : Fc → Fn) : DEnv → SR := (mStore (mCall (C .show_tree) (ioOf .show_tree) (mCons (oV (mVar 1)) mNil)) (oS 2) (mC (.int 1)) setF)
def q_law_asked_2y1 (C : Fc → Fn) : DEnv → SR := (mIf (mTest (mOp2 (oV (mVar 0)) (oV (mC (.int 0))) eqD)) (q_law_asked_2y1t1 C) (q_law_asked_2y1e1 C))
def q_law_asked_2x1 (C : Fc → Fn) : DEnv → SR := (mAsg 4 (mLst (mCons (oV (mOp1 (oV (mVar 3)) (isxD tb_NoText))) (mCons (oV (mOp1 (oV (mVar 3)) (isxD tb_NoTree))) (mCons (oV (mOp1 (oV (mVar 3)) (isxD tb_ValueError))) mNil)))))
def q_law_asked_2x2 (C : Fc → Fn) : DEnv → SR := (mAsg 5 (mIsT 3 [tb_NoFinding, tb_NoLetter, tb_NoName, tb_NoNumber, tb_NoPart, tb_NoRow, tb_NoWay, tb_TooMany]))
def q_law_asked_2x3 (C : Fc → Fn) : DEnv → SR := (mAsg 2 (mLst (mCons (oV (mC (.bl true))) (mCons (oV (mOp2 (oV (mLst (mCons (oV (mC (.str "other"))) (mCons (oV (mC (.str "text"))) (mCons (oV (mC (.str "tree"))) mNil))))) (oV (mCall (C .law_word) (ioOf .law_word) (mCons (oV (mVar 4)) (mCons (oV (mVar 5)) mNil)))) ixD)) mNil))))
def Q_law_asked_2x (C : Fc → Fn) : DEnv → SR := (mSeq (q_law_asked_2x1 C)
    (mSeq (q_law_asked_2x2 C)
    (q_law_asked_2x3 C)))
def q_law_asked_2 (C : Fc → Fn) : DEnv → SR := (mTryS 3 (fun c => decide (c ∈ (["NoTree", "NoText"] : List Str))) (q_law_asked_2y1 C) (Q_law_asked_2x C))
def q_law_asked_3 (C : Fc → Fn) : DEnv → SR := (mRet (mMove 2))
def b_law_asked (C : Fc → Fn) : DEnv → SR :=
    (mSeq (q_law_asked_1 C)
    (mSeq (q_law_asked_2 C)
    (q_law_asked_3 C)))
theorem e_law_asked (C : Fc → Fn) : b_law_asked C =
    (mSeq (q_law_asked_1 C)
    (mSeq (q_law_asked_2 C)
    (q_law_asked_3 C))) := rfl
theorem k_law_asked (T : Tx0 K mg w0 w1 w2 w3 w4 w5 w6 w7 w8 w9 w10 w11 w12) (B : SysB base) (hC : HC P w K mg base k C) (F : Fun K "_law_asked" "_law_asked" s_law_asked f fd) : FnOkG P w K mg base (L2.CX P w) (k + 2) f fd ["ask", "thing"] (spD (sgOf ⟨K, mg⟩ .law_asked) (mkF 4 (ioOf .law_asked) (b_law_asked C))) :=
  fnL (sgOf ⟨K, mg⟩ .law_asked) [(Lof fz), fz, fz, fz] [fz, fz, (Lof fz), fz, fz, fz] fz [] 4 F sc_law_asked fun cdv A outer s H E hr1 hr nd tk hp => (ds_cons (ds_set (i := 2) nd (de_ls (da_cons (DE.op dkb) (da_cons (DE.op dkn) da_nil))))
    (ds_cons (ds_tryS (i := 3) (cs := (fun c => decide (c ∈ (["NoTree", "NoText"] : List Str)))) rfl rfl nd rfl rfl ⟨by rfl, by decide, .inl T.e_TwigError.g⟩ rfl (fun W pn' xe tk hp => (ds_one (ds_if (dt_cmp (opr_eqE hr.units) (dv 0) doi op2_eq) (ds_one (ds_store (DE.share (de_call (hC .read_tree) hr tk (da_cons (dv 1) da_nil))) (dsl 2) dki)) (ds_one (ds_store (de_call (hC .show_tree) hr tk (da_cons (dv 1) da_nil)) (dsl 2) dki))))) (fun a pn => (ds_cons (ds_set (i := 4) nd (DE.share (de_ls (da_cons (DE.op (de_isx (v := .ref w10) (cv := (.ref w10)) tb_NoText T.z_isinstance (pe_glob (by rfl) T.e_NoText.g rfl) (fun u h => h) T.kn_NoText T.kt_NoText (dv 3))) (da_cons (DE.op (de_isx (v := .ref w3) (cv := (.ref w3)) tb_NoTree T.z_isinstance (pe_glob (by rfl) T.e_NoTree.g rfl) (fun u h => h) T.kn_NoTree T.kt_NoTree (dv 3))) (da_cons (DE.op (de_isx (v := .ty "ValueError") (cv := (.type "ValueError")) tb_ValueError T.z_isinstance (pe_bltn (by rfl) T.z_ValueError (by decide +kernel) (v := .ty "ValueError") rfl (by decide) (by decide)) (fun u h => h) T.kn_ValueError T.kt_ValueError (dv 3))) da_nil))))))
    (ds_cons (ds_set (i := 5) nd (de_isxT (i := 3) (vs := [.ref w7, .ref w9, .ref w11, .ref w6, .ref w4, .ref w12, .ref w5, .ref w8]) (us := [.ref w7, .ref w9, .ref w11, .ref w6, .ref w4, .ref w12, .ref w5, .ref w8]) T.z_isinstance (pv 3) (pa_cons (pe_glob (by rfl) T.e_NoFinding.g rfl) (pa_cons (pe_glob (by rfl) T.e_NoLetter.g rfl) (pa_cons (pe_glob (by rfl) T.e_NoName.g rfl) (pa_cons (pe_glob (by rfl) T.e_NoNumber.g rfl) (pa_cons (pe_glob (by rfl) T.e_NoPart.g rfl) (pa_cons (pe_glob (by rfl) T.e_NoRow.g rfl) (pa_cons (pe_glob (by rfl) T.e_NoWay.g rfl) (pa_cons (pe_glob (by rfl) T.e_TooMany.g rfl) pa_nil)))))))) (.cons T.kt_NoFinding (.cons T.kt_NoLetter (.cons T.kt_NoName (.cons T.kt_NoNumber (.cons T.kt_NoPart (.cons T.kt_NoRow (.cons T.kt_NoWay (.cons T.kt_TooMany .nil))))))))))
    (ds_one (ds_set (i := 2) nd (de_ls (da_cons (DE.op dkb) (da_cons (DE.op (de_ix ix_seq (DE.op (de_ls (da_cons dos (da_cons dos (da_cons dos da_nil))))) (DE.op (de_callQ (hC .law_word) (hr.q _) takes0 (da_cons (dv 4) (da_cons (dv 5) da_nil)))) (op2_ix flat_L))) da_nil)))))))) (fun cn C h => T.kx_TwigError cn C (of_decide_eq_true h)) rfl (by decide))
    (ds_one (ds_ret (DE.share (de_move (i := 2) (pv 2) rfl))))))
/-! ### _law_word -/
abbrev s_law_word : Stmt := topS 32
abbrev N_law_word : List Str := ["kinds", "others"]
theorem sc_law_word : FnScope N_law_word ["kinds", "others"] (defScope s_law_word) := mkSc
def q_law_word_1t1 (C : Fc → Fn) : DEnv → SR := (mRet (mOp2 (oV (mC (.int 1))) (oV (mOpN (mCons (oV (mOp2 (oV (mVar 0)) (oV (mC (.int 1))) ixD)) mNil) intD)) addD))
def q_law_word_1 (C : Fc → Fn) : DEnv → SR := (mIf (mAnd (mTest (mOp2 (oV (mVar 0)) (oV (mC (.int 2))) ixD)) (mAnd (mNot (mTest (mVar 1))) (mTest (mOp2 (oV (mOp2 (oV (mVar 0)) (oV (mC (.int 0))) ixD)) (oV (mOp2 (oV (mVar 0)) (oV (mC (.int 1))) ixD)) neD)))) (q_law_word_1t1 C) mNext)
def q_law_word_2 (C : Fc → Fn) : DEnv → SR := (mRet (mC (.int 0)))
def b_law_word (C : Fc → Fn) : DEnv → SR :=
    (mSeq (q_law_word_1 C)
    (q_law_word_2 C))
theorem k_law_word (T : Tx0 K mg w0 w1 w2 w3 w4 w5 w6 w7 w8 w9 w10 w11 w12) (B : SysB base) (hC : HC P w K mg base k C) (F : Fun K "_law_word" "_law_word" s_law_word f fd) : FnOkQ P w K mg base (L2.CX P w) (k + 2) f fd ["kinds", "others"] (spD (sgOf ⟨K, mg⟩ .law_word) (mkF 0 (ioOf .law_word) (b_law_word C))) :=
  fnQ (sgOf ⟨K, mg⟩ .law_word) [] [fz, fz] fz [] 0 F sc_law_word fun cdv A outer s H E hr nd => (ds_cons (ds_if (DW.dt (dw_and (dt_val (dix (dv 0) doi)) (dw_and (dt_not (dt_val (de_v 1))) (dw_and1 (dt_cmp (opr_neE hr.units) (DE.op (dix (dv 0) doi)) (DE.op (dix (dv 0) doi)) op2_ne))))) (ds_one (ds_ret (DE.share (de_op opr_add doi (DE.op (de_callTy call_int1 (by rfl) T.z_int (by decide +kernel) (da_cons (DE.op (dix (dv 0) doi)) da_nil) opn_int)) (op2_add flat_fz flat_fz))))) ds_nil)
    (ds_one (ds_ret dki)))
/-! ### _law_bad -/
abbrev s_law_bad : Stmt := topS 33
abbrev N_law_bad : List Str := ["tree", "k", "cell", "some", "children", "child", "many"]
theorem sc_law_bad : FnScope N_law_bad ["tree", "k", "cell"] (defScope s_law_bad) := mkSc
def q_law_bad_1t1 (C : Fc → Fn) : DEnv → SR := (mAsg 3 (mLst (mCons (oV (mC .non)) (mCons (oV (mTup (mCons (oV (mOp2 (oV (mVar 0)) (oV (mC (.int 0))) ixD)) mNil))) (mCons (oV (mTup (mCons (oV (mOp2 (oV (mOp2 (oV (mVar 0)) (oV (mC (.int 0))) ixD)) (oV (mC (.str "a"))) addD)) (mCons (oV (mOp2 (oV (mVar 0)) (oV (mC (.int 1))) ixD)) mNil)))) (mCons (oV (mTup (mCons (oV (mC (.str "A"))) (mCons (oV (mOp2 (oV (mVar 0)) (oV (mC (.int 1))) ixD)) mNil)))) mNil))))))
def q_law_bad_1t2 (C : Fc → Fn) : DEnv → SR := (mAsg 3 (mOp2 (oV (mVar 3)) (oV (mLst (mCons (oV (mTup (mCons (oV (mOp2 (oV (mVar 0)) (oV (mC (.int 0))) ixD)) (mCons (oV (mC .non)) mNil)))) (mCons (oV (mTup (mCons (oV (mOp2 (oV (mVar 0)) (oV (mC (.int 0))) ixD)) (mCons (oV (mTup mNil)) mNil)))) (mCons (oV (mLst (mCons (oV (mOp2 (oV (mVar 0)) (oV (mC (.int 0))) ixD)) (mCons (oV (mOp2 (oV (mVar 0)) (oV (mC (.int 1))) ixD)) mNil)))) mNil))))) addD))
def q_law_bad_1t3 (C : Fc → Fn) : DEnv → SR := (mAsg 3 (mOp2 (oV (mVar 3)) (oV (mLst (mCons (oV (mTup (mCons (oV (mC (.str ""))) (mCons (oV (mOp2 (oV (mVar 0)) (oV (mC (.int 1))) ixD)) mNil)))) (mCons (oV (mTup (mCons (oV (mC (.str "`"))) (mCons (oV (mOp2 (oV (mVar 0)) (oV (mC (.int 1))) ixD)) mNil)))) (mCons (oV (mTup (mCons (oV (mC (.str "{"))) (mCons (oV (mOp2 (oV (mVar 0)) (oV (mC (.int 1))) ixD)) mNil)))) (mCons (oV (mTup (mCons (oV (mC (.int 1))) (mCons (oV (mOp2 (oV (mVar 0)) (oV (mC (.int 1))) ixD)) mNil)))) mNil)))))) addD))
def q_law_bad_1t4 (C : Fc → Fn) : DEnv → SR := (mAsg 3 (mOp2 (oV (mVar 3)) (oV (mLst (mCons (oV (mOp2 (oV (mVar 0)) (oV (mTup (mCons (oV (mC (.int 0))) mNil))) addTD)) (mCons (oV (mOp2 (oV (mVar 0)) (oV (mC (.int 0))) ixD)) (mCons (oV (mTup (mCons (oV (mOp2 (oV (mOp2 (oV (mVar 0)) (oV (mC (.int 0))) ixD)) (oV (mC (.str "\n"))) addD)) (mCons (oV (mOp2 (oV (mVar 0)) (oV (mC (.int 1))) ixD)) mNil)))) mNil))))) addD))
def q_law_bad_1t5 (C : Fc → Fn) : DEnv → SR := (mRet (mOp2 (oV (mVar 3)) (oV (mOp2 (oV (mVar 2)) (oV (mOpN (mCons (oV (mVar 3)) mNil) lenD)) modD)) ixD))
def Q_law_bad_1t (C : Fc → Fn) : DEnv → SR := (mSeq (q_law_bad_1t1 C)
    (mSeq (q_law_bad_1t2 C)
    (mSeq (q_law_bad_1t3 C)
    (mSeq (q_law_bad_1t4 C)
    (q_law_bad_1t5 C)))))
def q_law_bad_1 (C : Fc → Fn) : DEnv → SR := (mIf (mTest (mOp2 (oV (mVar 1)) (oV (mC (.int 0))) eqD)) (Q_law_bad_1t C) mNext)
def q_law_bad_2 (C : Fc → Fn) : DEnv → SR := (mAsg 4 (mLst mNil))
def q_law_bad_3 (C : Fc → Fn) : DEnv → SR := (mAsg 1 (mOp2 (oV (mVar 1)) (oV (mC (.int 1))) subD))
def i_law_bad_4 (C : Fc → Fn) : Src := (mSrc (oV (mOp2 (oV (mVar 0)) (oV (mC (.int 1))) ixD)) seqD)
def q_law_bad_4b1 (C : Fc → Fn) : DEnv → SR := (mAsg 6 (mCall (C .law_many) (ioOf .law_many) (mCons (oV (mVar 5)) mNil)))
def q_law_bad_4b2t1 (C : Fc → Fn) : DEnv → SR := (mAsg 5 (mCall (C .law_bad) (ioOf .law_bad) (mCons (oV (mVar 5)) (mCons (oV (mVar 1)) (mCons (oV (mVar 2)) mNil)))))
def q_law_bad_4b2 (C : Fc → Fn) : DEnv → SR := (mIf (mTest (mChain (mC (.int 0)) (mVar 1) (mVar 6) leD ltD)) (q_law_bad_4b2t1 C) mNext)
def q_law_bad_4b3 (C : Fc → Fn) : DEnv → SR := (mAsg 1 (mOp2 (oV (mVar 1)) (oV (mVar 6)) subD))
def q_law_bad_4b4 (C : Fc → Fn) : DEnv → SR := (mDrop (mMut (oS 4) (mCons (oV (mVar 5)) mNil) appendF))
def Q_law_bad_4b (C : Fc → Fn) : DEnv → SR := (mSeq (q_law_bad_4b1 C)
    (mSeq (q_law_bad_4b2 C)
    (mSeq (q_law_bad_4b3 C)
    (q_law_bad_4b4 C))))
def q_law_bad_4 (C : Fc → Fn) : DEnv → SR := (mFor (i_law_bad_4 C) (tName 5) (Q_law_bad_4b C))
def q_law_bad_5 (C : Fc → Fn) : DEnv → SR := (mRet (mTup (mCons (oV (mOp2 (oV (mVar 0)) (oV (mC (.int 0))) ixD)) (mCons (oV (mMove 4)) mNil))))
def b_law_bad (C : Fc → Fn) : DEnv → SR :=
    (mSeq (q_law_bad_1 C)
    (mSeq (q_law_bad_2 C)
    (mSeq (q_law_bad_3 C)
    (mSeq (q_law_bad_4 C)
    (q_law_bad_5 C)))))
theorem e_law_bad (C : Fc → Fn) : b_law_bad C =
    (mSeq (q_law_bad_1 C)
    (mSeq (q_law_bad_2 C)
    (mSeq (q_law_bad_3 C)
    (mSeq (q_law_bad_4 C)
    (q_law_bad_5 C))))) := rfl
theorem k_law_bad (T : Tx0 K mg w0 w1 w2 w3 w4 w5 w6 w7 w8 w9 w10 w11 w12) (B : SysB base) (hC : HC P w K mg base k C) (F : Fun K "_law_bad" "_law_bad" s_law_bad f fd) : FnOkG P w K mg base (L2.CX P w) (k + 2) f fd ["tree", "k", "cell"] (spD (sgOf ⟨K, mg⟩ .law_bad) (mkF 4 (ioOf .law_bad) (b_law_bad C))) :=
  fnL (sgOf ⟨K, mg⟩ .law_bad) [fz, (Lof fz), fz, fz] [fz, fz, fz, fz, (Lof fz), fz, fz] fz [] 4 F sc_law_bad fun cdv A outer s H E hr1 hr nd tk hp => (ds_cons (ds_if (dt_cmp (opr_eqE hr.units) (dv 1) doi op2_eq) (ds_cons (ds_set (i := 3) nd (DE.share (de_ls (da_cons (DE.op dkn) (da_cons (DE.op (de_tp (da_cons (DE.op (dix (dv 0) doi)) da_nil))) (da_cons (DE.op (de_tp (da_cons (DE.op (DE.share (de_op opr_add (DE.op (dix (dv 0) doi)) dos (op2_add flat_fz flat_fz)))) (da_cons (DE.op (dix (dv 0) doi)) da_nil)))) (da_cons (DE.op (de_tp (da_cons dos (da_cons (DE.op (dix (dv 0) doi)) da_nil)))) da_nil)))))))
    (ds_cons (ds_set (i := 3) nd (DE.share (de_op opr_add (dv 3) (DE.op (de_ls (da_cons (DE.op (de_tp (da_cons (DE.op (dix (dv 0) doi)) (da_cons (DE.op dkn) da_nil)))) (da_cons (DE.op (de_tp (da_cons (DE.op (dix (dv 0) doi)) (da_cons (DE.op (de_tp da_nil)) da_nil)))) (da_cons (DE.op (DE.share (de_ls (da_cons (DE.op (dix (dv 0) doi)) (da_cons (DE.op (dix (dv 0) doi)) da_nil))))) da_nil))))) (op2_add flat_fz flat_L))))
    (ds_cons (ds_set (i := 3) nd (DE.share (de_op opr_add (dv 3) (DE.op (de_ls (da_cons (DE.op (de_tp (da_cons dos (da_cons (DE.op (dix (dv 0) doi)) da_nil)))) (da_cons (DE.op (de_tp (da_cons dos (da_cons (DE.op (dix (dv 0) doi)) da_nil)))) (da_cons (DE.op (de_tp (da_cons dos (da_cons (DE.op (dix (dv 0) doi)) da_nil)))) (da_cons (DE.op (de_tp (da_cons doi (da_cons (DE.op (dix (dv 0) doi)) da_nil)))) da_nil)))))) (op2_add flat_fz flat_L))))
    (ds_cons (ds_set (i := 3) nd (DE.share (de_op opr_add (dv 3) (DE.op (de_ls (da_cons (DE.op (de_op op_catA (dv 0) (DE.op (de_tp (da_cons doi da_nil))) (op2_catT flat_fz flat_fz))) (da_cons (DE.op (dix (dv 0) doi)) (da_cons (DE.op (de_tp (da_cons (DE.op (DE.share (de_op opr_add (DE.op (dix (dv 0) doi)) dos (op2_add flat_fz flat_fz)))) (da_cons (DE.op (dix (dv 0) doi)) da_nil)))) da_nil))))) (op2_add flat_fz flat_L))))
    (ds_one (ds_ret (dix (dv 3) (DE.op (de_op op_mod (dv 2) (DE.op (de_callB call_len (by rfl) T.z_len (by decide +kernel) (da_cons (dv 3) da_nil) opn_len)) op2_mod))))))))) ds_nil)
    (ds_cons (ds_set (i := 4) nd (de_ls da_nil))
    (ds_cons (ds_set (i := 1) nd (de_op op_sub (dv 1) doi op2_sub))
    (ds_cons (ds_for hp rfl (di_seq (DE.op (dix (dv 0) doi)) flat_fz) (dg_name (i := 5) nd) (ds_cons (ds_set (i := 6) nd (de_call (hC .law_many) hr tk (da_cons (dv 5) da_nil)))
    (ds_cons (ds_if (dt_chain opr_le opr_lt dki (de_v 1) (de_v 6) op2_le op2_lt) (ds_one (ds_set (i := 5) nd (de_call (hC .law_bad) hr tk (da_cons (dv 5) (da_cons (dv 1) (da_cons (dv 2) da_nil)))))) ds_nil)
    (ds_cons (ds_set (i := 1) nd (de_op op_sub (dv 1) (dv 6) op2_sub))
    (ds_one (ds_expr (de_mut PySem.F.slot_list_append PySem.F.type_list_append mt_append (dsl 4) (da_cons (dv 5) da_nil) mut_append)))))))
    (ds_one (ds_ret (de_tp (da_cons (DE.op (dix (dv 0) doi)) (da_cons (DE.op (DE.share (de_move (i := 4) (pv 4) rfl))) da_nil)))))))))
/-! ### _law_many -/
abbrev s_law_many : Stmt := topS 34
abbrev N_law_many : List Str := ["tree", "child"]
theorem sc_law_many : FnScope N_law_many ["tree"] (defScope s_law_many) := mkSc
def li_law_many_1 (C : Fc → Fn) : Src := (mSrc (oV (mOp2 (oV (mVar 0)) (oV (mC (.int 1))) ixD)) seqD)
def lc_law_many_1 (C : Fc → Fn) : DEnv → R Bool := mYes
def le_law_many_1 (C : Fc → Fn) : DEnv → R D := (mCall (C .law_many) (ioOf .law_many) (mCons (oV (mVar 1)) mNil))
def l_law_many_1 (C : Fc → Fn) : DEnv → R D := (mLc (li_law_many_1 C) (tName 1) (lc_law_many_1 C) (le_law_many_1 C) [1])
def q_law_many_1 (C : Fc → Fn) : DEnv → SR := (mRet (mOp2 (oV (mC (.int 1))) (oV (mOpN (mCons (oV (l_law_many_1 C)) mNil) sumD)) addD))
def b_law_many (C : Fc → Fn) : DEnv → SR :=
    (q_law_many_1 C)
theorem e_law_many (C : Fc → Fn) : b_law_many C =
    (q_law_many_1 C) := rfl
theorem k_law_many (T : Tx0 K mg w0 w1 w2 w3 w4 w5 w6 w7 w8 w9 w10 w11 w12) (B : SysB base) (hC : HC P w K mg base k C) (F : Fun K "_law_many" "_law_many" s_law_many f fd) : FnOkG P w K mg base (L2.CX P w) (k + 2) f fd ["tree"] (spD (sgOf ⟨K, mg⟩ .law_many) (mkF 1 (ioOf .law_many) (b_law_many C))) :=
  fnL (sgOf ⟨K, mg⟩ .law_many) [fz] [fz, fz] fz [] 1 F sc_law_many fun cdv A outer s H E hr1 hr nd tk hp => (ds_one (ds_ret (DE.share (de_op opr_add doi (DE.op (de_callB (cr_sum rfl) (by rfl) T.z_sum (by decide +kernel) (da_cons (DE.op (de_lc (own := [("child", 1)]) (pnC := [0]) (me := fz) rfl nd (di_seq (DE.op (dix (dv 0) doi)) flat_fz) (blkOk_by (N := N_law_many) (sc := (defScope s_law_many)) (by decide +kernel)) (fun _ => (dg_name (i := 1) nd)) (fun _ => dts_nil) (fun _ => (de_call (hC .law_many) hr takes0 (da_cons (dv 1) da_nil))))) da_nil) opn_sum)) (op2_add flat_fz flat_fz)))))
/-! ### law -/
abbrev s_law : Stmt := topS 35
abbrev N_law : List Str := ["script", "k", "text", "found", "cell", "tree", "bad", "odd", "some"]
theorem sc_law : FnScope N_law ["script"] (defScope s_law) := mkSc
def i_law_1 (C : Fc → Fn) : Src := (mSrcA (mCons (oV (mOpN (mCons (oV (mC (.int 16))) (mCons (oV (mOpN (mCons (oV (mOpN (mCons (oV (mVar 0)) mNil) lenD)) (mCons (oV (mC (.int 63))) mNil)) min2D)) mNil)) max2D)) mNil) range1D)
def q_law_1b1 (C : Fc → Fn) : DEnv → SR := (mAsg 2 (mCall (C .law_given) (ioOf .law_given) (mCons (oV (mOpN (mCons (oV (mCall (C .law_cell) (ioOf .law_cell) (mCons (oV (mVar 0)) (mCons (oV (mVar 1)) mNil)))) mNil) absD)) mNil)))
def q_law_1b2 (C : Fc → Fn) : DEnv → SR := (mAsg 3 (mCall (C .law_asked) (ioOf .law_asked) (mCons (oV (mC (.int 0))) (mCons (oV (mVar 2)) mNil))))
def q_law_1b3t1t1 (C : Fc → Fn) : DEnv → SR := (mRet (mC (.bl false)))
def q_law_1b3t1 (C : Fc → Fn) : DEnv → SR := (mIf (mOr (mTest (mOp2 (oV (mVar 3)) (oV (mC (.int 0))) ixD)) (mTest (mOp2 (oV (mCall (C .law_written) (ioOf .law_written) (mCons (oV (mOp2 (oV (mVar 3)) (oV (mC (.int 1))) ixD)) mNil))) (oV (mVar 2)) neD))) (q_law_1b3t1t1 C) mNext)
def q_law_1b3e1t1 (C : Fc → Fn) : DEnv → SR := (mRet (mC (.bl false)))
def q_law_1b3e1 (C : Fc → Fn) : DEnv → SR := (mIf (mTest (mOp2 (oV (mVar 3)) (oV (mLst (mCons (oV (mC (.bl true))) (mCons (oV (mC (.str "text"))) mNil)))) neD)) (q_law_1b3e1t1 C) mNext)
def q_law_1b3 (C : Fc → Fn) : DEnv → SR := (mIf (mTest (mOp2 (oV (mCall (C .law_rest) (ioOf .law_rest) (mCons (oV (mVar 2)) mNil))) (oV (mC (.str ""))) eqD)) (q_law_1b3t1 C) (q_law_1b3e1 C))
def Q_law_1b (C : Fc → Fn) : DEnv → SR := (mSeq (q_law_1b1 C)
    (mSeq (q_law_1b2 C)
    (q_law_1b3 C)))
def q_law_1 (C : Fc → Fn) : DEnv → SR := (mFor (i_law_1 C) (tName 1) (Q_law_1b C))
def i_law_2 (C : Fc → Fn) : Src := (mSrcA (mCons (oV (mC (.int 4))) mNil) range1D)
def q_law_2b1 (C : Fc → Fn) : DEnv → SR := (mAsg 4 (mOpN (mCons (oV (mCall (C .law_cell) (ioOf .law_cell) (mCons (oV (mVar 0)) (mCons (oV (mVar 1)) mNil)))) mNil) absD))
def q_law_2b2 (C : Fc → Fn) : DEnv → SR := (mAsg 5 (mCall (C .law_tree) (ioOf .law_tree) (mCons (oV (mCall (C .law_mixed) (ioOf .law_mixed) (mCons (oV (mVar 4)) (mCons (oV (mC (.int 8))) mNil)))) (mCons (oV (mOp2 (oV (mC (.int 1))) (oV (mOp2 (oV (mVar 4)) (oV (mC (.int 40))) modD)) addD)) (mCons (oV (mOp2 (oV (mOp2 (oV (mVar 4)) (oV (mC (.int 40))) fdivD)) (oV (mC (.int 5))) modD)) (mCons (oV (mC (.int 12))) mNil))))))
def q_law_2b3 (C : Fc → Fn) : DEnv → SR := (mAsg 6 (mCall (C .law_bad) (ioOf .law_bad) (mCons (oV (mVar 5)) (mCons (oV (mOp2 (oV (mOp2 (oV (mVar 4)) (oV (mC (.int 200))) fdivD)) (oV (mCall (C .law_many) (ioOf .law_many) (mCons (oV (mVar 5)) mNil))) modD)) (mCons (oV (mOp2 (oV (mOp2 (oV (mVar 4)) (oV (mC (.int 8000))) fdivD)) (oV (mVar 1)) addD)) mNil)))))
def q_law_2b4t1 (C : Fc → Fn) : DEnv → SR := (mRet (mC (.bl false)))
def q_law_2b4 (C : Fc → Fn) : DEnv → SR := (mIf (mOr (mTest (mOp2 (oV (mCall (C .law_asked) (ioOf .law_asked) (mCons (oV (mC (.int 1))) (mCons (oV (mVar 6)) mNil)))) (oV (mLst (mCons (oV (mC (.bl true))) (mCons (oV (mC (.str "tree"))) mNil)))) neD)) (mTest (mOp2 (oV (mCall (C .law_asked) (ioOf .law_asked) (mCons (oV (mC (.int 1))) (mCons (oV (mVar 5)) mNil)))) (oV (mLst (mCons (oV (mC (.bl false))) (mCons (oV (mCall (C .law_written) (ioOf .law_written) (mCons (oV (mVar 5)) mNil))) mNil)))) neD))) (q_law_2b4t1 C) mNext)
def Q_law_2b (C : Fc → Fn) : DEnv → SR := (mSeq (q_law_2b1 C)
    (mSeq (q_law_2b2 C)
    (mSeq (q_law_2b3 C)
    (q_law_2b4 C))))
def q_law_2 (C : Fc → Fn) : DEnv → SR := (mFor (i_law_2 C) (tName 1) (Q_law_2b C))
def i_law_3 (C : Fc → Fn) : Src := (mSrc (oV (mLst (mCons (oV (mC .non)) (mCons (oV (mC (.int 0))) (mCons (oV (mLst (mCons (oV (mC (.str "a"))) mNil))) (mCons (oV (mTup (mCons (oV (mC (.str "a"))) (mCons (oV (mLst mNil)) mNil)))) (mCons (oV (mC (.bl true))) (mCons (oV mDK0) (mCons (oV (mTup (mCons (oV (mC (.str "a"))) mNil))) mNil))))))))) seqD)
def q_law_3b1t1 (C : Fc → Fn) : DEnv → SR := (mRet (mC (.bl false)))
def q_law_3b1 (C : Fc → Fn) : DEnv → SR := (mIf (mTest (mOp2 (oV (mCall (C .law_asked) (ioOf .law_asked) (mCons (oV (mC (.int 0))) (mCons (oV (mVar 7)) mNil)))) (oV (mLst (mCons (oV (mC (.bl true))) (mCons (oV (mC (.str "text"))) mNil)))) neD)) (q_law_3b1t1 C) mNext)
def q_law_3 (C : Fc → Fn) : DEnv → SR := (mFor (i_law_3 C) (tName 7) (q_law_3b1 C))
def q_law_4 (C : Fc → Fn) : DEnv → SR := (mAsg 8 (mLst (mCons (oV (mC .non)) (mCons (oV (mC (.str "a"))) (mCons (oV (mTup (mCons (oV (mC (.str "a"))) mNil))) (mCons (oV (mTup (mCons (oV (mC (.str "aa"))) (mCons (oV (mLst mNil)) mNil)))) (mCons (oV (mTup (mCons (oV (mC (.str "A"))) (mCons (oV (mLst mNil)) mNil)))) (mCons (oV (mTup (mCons (oV (mC (.str "a"))) (mCons (oV (mTup mNil)) mNil)))) (mCons (oV (mTup (mCons (oV (mC (.str "a"))) (mCons (oV (mLst (mCons (oV (mTup (mCons (oV (mC (.str "b"))) (mCons (oV (mC .non)) mNil)))) mNil))) mNil)))) mNil)))))))))
def q_law_5 (C : Fc → Fn) : DEnv → SR := (mAsg 8 (mOp2 (oV (mVar 8)) (oV (mLst (mCons (oV (mLst (mCons (oV (mC (.str "a"))) (mCons (oV (mLst mNil)) mNil)))) (mCons (oV (mTup (mCons (oV (mC (.str "a"))) (mCons (oV (mLst (mCons (oV (mLst (mCons (oV (mC (.str "b"))) (mCons (oV (mLst mNil)) mNil)))) mNil))) mNil)))) (mCons (oV (mTup (mCons (oV (mC (.str ""))) (mCons (oV (mLst mNil)) mNil)))) (mCons (oV (mTup (mCons (oV (mC (.str "a"))) (mCons (oV (mLst (mCons (oV (mTup (mCons (oV (mC (.str "b"))) (mCons (oV (mLst (mCons (oV (mTup (mCons (oV (mC (.str "c"))) (mCons (oV (mLst mNil)) mNil)))) (mCons (oV (mTup (mCons (oV (mC (.str "D"))) (mCons (oV (mLst mNil)) mNil)))) mNil)))) mNil)))) mNil))) mNil)))) mNil)))))) addD))
def i_law_6 (C : Fc → Fn) : Src := (mSrc (oV (mOp2 (oV (mVar 8)) (oV (mLst (mCons (oV (mTup (mCons (oV (mC (.str "a"))) (mCons (oV (mLst (mCons (oV (mTup (mCons (oV (mC (.str "b"))) (mCons (oV (mLst mNil)) mNil)))) (mCons (oV (mTup (mCons (oV (mC (.str "c"))) (mCons (oV (mLst (mCons (oV (mTup (mCons (oV (mC (.str "d"))) (mCons (oV (mC .non)) mNil)))) mNil))) mNil)))) mNil)))) mNil)))) mNil))) addD)) seqD)
def q_law_6b1t1 (C : Fc → Fn) : DEnv → SR := (mRet (mC (.bl false)))
def q_law_6b1 (C : Fc → Fn) : DEnv → SR := (mIf (mTest (mOp2 (oV (mCall (C .law_asked) (ioOf .law_asked) (mCons (oV (mC (.int 1))) (mCons (oV (mVar 7)) mNil)))) (oV (mLst (mCons (oV (mC (.bl true))) (mCons (oV (mC (.str "tree"))) mNil)))) neD)) (q_law_6b1t1 C) mNext)
def q_law_6 (C : Fc → Fn) : DEnv → SR := (mFor (i_law_6 C) (tName 7) (q_law_6b1 C))
def q_law_7 (C : Fc → Fn) : DEnv → SR := (mRet (mC (.bl true)))
def b_law (C : Fc → Fn) : DEnv → SR :=
    (mSeq (q_law_1 C)
    (mSeq (q_law_2 C)
    (mSeq (q_law_3 C)
    (mSeq (q_law_4 C)
    (mSeq (q_law_5 C)
    (mSeq (q_law_6 C)
    (q_law_7 C)))))))
theorem e_law (C : Fc → Fn) : b_law C =
    (mSeq (q_law_1 C)
    (mSeq (q_law_2 C)
    (mSeq (q_law_3 C)
    (mSeq (q_law_4 C)
    (mSeq (q_law_5 C)
    (mSeq (q_law_6 C)
    (q_law_7 C))))))) := rfl
theorem k_law (T : Tx0 K mg w0 w1 w2 w3 w4 w5 w6 w7 w8 w9 w10 w11 w12) (B : SysB base) (hC : HC P w K mg base k C) (F : Fun K "law" "law" s_law f fd) : FnOkG P w K mg base (L2.CX P w) (k + 2) f fd ["script"] (spD (sgOf ⟨K, mg⟩ .law) (mkF 8 (ioOf .law) (b_law C))) :=
  fnL (sgOf ⟨K, mg⟩ .law) [fz, fz, fz, fz, fz, fz, fz, fz] [fz, fz, fz, fz, fz, fz, fz, fz, fz] fz [] 8 F sc_law fun cdv A outer s H E hr1 hr nd tk hp => (ds_cons (ds_for hp rfl (di_range1 T.z_range (da_cons (DE.op (de_callB (call_max2 rfl) (by rfl) T.z_max (by decide +kernel) (da_cons doi (da_cons (DE.op (de_callB (call_min2 rfl) (by rfl) T.z_min (by decide +kernel) (da_cons (DE.op (de_callB call_len (by rfl) T.z_len (by decide +kernel) (da_cons (dv 0) da_nil) opn_len)) (da_cons doi da_nil)) opn_min2)) da_nil)) opn_max2)) da_nil)) (dg_name (i := 1) nd) (ds_cons (ds_set (i := 2) nd (de_call (hC .law_given) hr tk (da_cons (DE.op (de_callB call_abs (by rfl) T.z_abs (by decide +kernel) (da_cons (DE.op (de_call (hC .law_cell) hr tk (da_cons (dv 0) (da_cons (dv 1) da_nil)))) da_nil) opn_abs)) da_nil)))
    (ds_cons (ds_set (i := 3) nd (de_call (hC .law_asked) hr tk (da_cons doi (da_cons (dv 2) da_nil))))
    (ds_one (ds_if (dt_cmp (opr_eqE hr.units) (DE.op (de_call (hC .law_rest) hr tk (da_cons (dv 2) da_nil))) dos op2_eq) (ds_one (ds_if (DW.dt (dw_or (dt_val (dix (dv 3) doi)) (dw_or1 (dt_cmp (opr_neE hr.units) (DE.op (de_call (hC .law_written) hr tk (da_cons (DE.op (dix (dv 3) doi)) da_nil))) (dv 2) op2_ne)))) (ds_one (ds_ret dkb)) ds_nil)) (ds_one (ds_if (dt_cmp (opr_neE hr.units) (dv 3) (DE.op (de_ls (da_cons (DE.op dkb) (da_cons dos da_nil)))) op2_ne) (ds_one (ds_ret dkb)) ds_nil)))))))
    (ds_cons (ds_for hp rfl (di_range1 T.z_range (da_cons doi da_nil)) (dg_name (i := 1) nd) (ds_cons (ds_set (i := 4) nd (de_callB call_abs (by rfl) T.z_abs (by decide +kernel) (da_cons (DE.op (de_call (hC .law_cell) hr tk (da_cons (dv 0) (da_cons (dv 1) da_nil)))) da_nil) opn_abs))
    (ds_cons (ds_set (i := 5) nd (de_call (hC .law_tree) hr tk (da_cons (DE.op (de_call (hC .law_mixed) hr tk (da_cons (dv 4) (da_cons doi da_nil)))) (da_cons (DE.op (DE.share (de_op opr_add doi (DE.op (de_op op_mod (dv 4) doi op2_mod)) (op2_add flat_fz flat_fz)))) (da_cons (DE.op (de_op op_mod (DE.op (de_op op_fdiv (dv 4) doi op2_fdiv)) doi op2_mod)) (da_cons doi da_nil))))))
    (ds_cons (ds_set (i := 6) nd (de_call (hC .law_bad) hr tk (da_cons (dv 5) (da_cons (DE.op (de_op op_mod (DE.op (de_op op_fdiv (dv 4) doi op2_fdiv)) (DE.op (de_call (hC .law_many) hr tk (da_cons (dv 5) da_nil))) op2_mod)) (da_cons (DE.op (DE.share (de_op opr_add (DE.op (de_op op_fdiv (dv 4) doi op2_fdiv)) (dv 1) (op2_add flat_fz flat_fz)))) da_nil)))))
    (ds_one (ds_if (DW.dt (dw_or (dt_cmp (opr_neE hr.units) (DE.op (de_call (hC .law_asked) hr tk (da_cons doi (da_cons (dv 6) da_nil)))) (DE.op (de_ls (da_cons (DE.op dkb) (da_cons dos da_nil)))) op2_ne) (dw_or1 (dt_cmp (opr_neE hr.units) (DE.op (de_call (hC .law_asked) hr tk (da_cons doi (da_cons (dv 5) da_nil)))) (DE.op (de_ls (da_cons (DE.op dkb) (da_cons (DE.op (de_call (hC .law_written) hr tk (da_cons (dv 5) da_nil))) da_nil)))) op2_ne)))) (ds_one (ds_ret dkb)) ds_nil))))))
    (ds_cons (ds_for hp rfl (di_seq (DE.op (de_ls (da_cons (DE.op dkn) (da_cons doi (da_cons (DE.op (DE.share (de_ls (da_cons dos da_nil)))) (da_cons (DE.op (de_tp (da_cons dos (da_cons (DE.op (DE.share (de_ls da_nil))) da_nil)))) (da_cons (DE.op dkb) (da_cons (DE.op (DE.share de_dK0)) (da_cons (DE.op (de_tp (da_cons dos da_nil))) da_nil))))))))) flat_L) (dg_name (i := 7) nd) (ds_one (ds_if (dt_cmp (opr_neE hr.units) (DE.op (de_call (hC .law_asked) hr tk (da_cons doi (da_cons (dv 7) da_nil)))) (DE.op (de_ls (da_cons (DE.op dkb) (da_cons dos da_nil)))) op2_ne) (ds_one (ds_ret dkb)) ds_nil)))
    (ds_cons (ds_set (i := 8) nd (DE.share (de_ls (da_cons (DE.op dkn) (da_cons dos (da_cons (DE.op (de_tp (da_cons dos da_nil))) (da_cons (DE.op (de_tp (da_cons dos (da_cons (DE.op (DE.share (de_ls da_nil))) da_nil)))) (da_cons (DE.op (de_tp (da_cons dos (da_cons (DE.op (DE.share (de_ls da_nil))) da_nil)))) (da_cons (DE.op (de_tp (da_cons dos (da_cons (DE.op (de_tp da_nil)) da_nil)))) (da_cons (DE.op (de_tp (da_cons dos (da_cons (DE.op (DE.share (de_ls (da_cons (DE.op (de_tp (da_cons dos (da_cons (DE.op dkn) da_nil)))) da_nil)))) da_nil)))) da_nil))))))))))
    (ds_cons (ds_set (i := 8) nd (DE.share (de_op opr_add (dv 8) (DE.op (de_ls (da_cons (DE.op (DE.share (de_ls (da_cons dos (da_cons (DE.op (DE.share (de_ls da_nil))) da_nil))))) (da_cons (DE.op (de_tp (da_cons dos (da_cons (DE.op (DE.share (de_ls (da_cons (DE.op (DE.share (de_ls (da_cons dos (da_cons (DE.op (DE.share (de_ls da_nil))) da_nil))))) da_nil)))) da_nil)))) (da_cons (DE.op (de_tp (da_cons dos (da_cons (DE.op (DE.share (de_ls da_nil))) da_nil)))) (da_cons (DE.op (de_tp (da_cons dos (da_cons (DE.op (DE.share (de_ls (da_cons (DE.op (de_tp (da_cons dos (da_cons (DE.op (DE.share (de_ls (da_cons (DE.op (de_tp (da_cons dos (da_cons (DE.op (DE.share (de_ls da_nil))) da_nil)))) (da_cons (DE.op (de_tp (da_cons dos (da_cons (DE.op (DE.share (de_ls da_nil))) da_nil)))) da_nil))))) da_nil)))) da_nil)))) da_nil)))) da_nil)))))) (op2_add flat_fz flat_L))))
    (ds_cons (ds_for hp rfl (di_seq (DE.op (de_op opr_add (dv 8) (DE.op (de_ls (da_cons (DE.op (de_tp (da_cons dos (da_cons (DE.op (DE.share (de_ls (da_cons (DE.op (de_tp (da_cons dos (da_cons (DE.op (DE.share (de_ls da_nil))) da_nil)))) (da_cons (DE.op (de_tp (da_cons dos (da_cons (DE.op (DE.share (de_ls (da_cons (DE.op (de_tp (da_cons dos (da_cons (DE.op dkn) da_nil)))) da_nil)))) da_nil)))) da_nil))))) da_nil)))) da_nil))) (op2_add flat_fz flat_L))) flat_L) (dg_name (i := 7) nd) (ds_one (ds_if (dt_cmp (opr_neE hr.units) (DE.op (de_call (hC .law_asked) hr tk (da_cons doi (da_cons (dv 7) da_nil)))) (DE.op (de_ls (da_cons (DE.op dkb) (da_cons dos da_nil)))) op2_ne) (ds_one (ds_ret dkb)) ds_nil)))
    (ds_one (ds_ret dkb))))))))
def stOf : Fc → Stmt
  | .is_letter => s_is_letter
  | .is_tree => s_is_tree
  | .written => s_written
  | .show_tree => s_show_tree
  | .read_tree => s_read_tree
  | .law_cell => s_law_cell
  | .law_mixed => s_law_mixed
  | .law_letter => s_law_letter
  | .law_tree => s_law_tree
  | .law_built => s_law_built
  | .law_written => s_law_written
  | .law_rest => s_law_rest
  | .law_odd => s_law_odd
  | .law_given => s_law_given
  | .law_asked => s_law_asked
  | .law_word => s_law_word
  | .law_bad => s_law_bad
  | .law_many => s_law_many
  | .law => s_law
def bdOf (C : Fc → Fn) : Fc → Fn
  | .is_letter => mkF 0 (ioOf .is_letter) (b_is_letter C)
  | .is_tree => mkF 1 (ioOf .is_tree) (b_is_tree C)
  | .written => mkF 2 (ioOf .written) (b_written C)
  | .show_tree => mkF 0 (ioOf .show_tree) (b_show_tree C)
  | .read_tree => mkF 4 (ioOf .read_tree) (b_read_tree C)
  | .law_cell => mkF 0 (ioOf .law_cell) (b_law_cell C)
  | .law_mixed => mkF 1 (ioOf .law_mixed) (b_law_mixed C)
  | .law_letter => mkF 0 (ioOf .law_letter) (b_law_letter C)
  | .law_tree => mkF 7 (ioOf .law_tree) (b_law_tree C)
  | .law_built => mkF 2 (ioOf .law_built) (b_law_built C)
  | .law_written => mkF 1 (ioOf .law_written) (b_law_written C)
  | .law_rest => mkF 0 (ioOf .law_rest) (b_law_rest C)
  | .law_odd => mkF 1 (ioOf .law_odd) (b_law_odd C)
  | .law_given => mkF 6 (ioOf .law_given) (b_law_given C)
  | .law_asked => mkF 4 (ioOf .law_asked) (b_law_asked C)
  | .law_word => mkF 0 (ioOf .law_word) (b_law_word C)
  | .law_bad => mkF 4 (ioOf .law_bad) (b_law_bad C)
  | .law_many => mkF 1 (ioOf .law_many) (b_law_many C)
  | .law => mkF 8 (ioOf .law) (b_law C)
def hfOf (K : PySem.W.Frag) (mg : Str → Option Value) (x : Fc) : Prop := match x with
  | .is_letter => ∃ f fd, mg "is_letter" = some (.ref f) ∧ PySem.W.keepIn K (.ref f) = true ∧ Binds K fd (psOf .is_letter) [] ∧ Fun K "is_letter" "is_letter" s_is_letter f fd
  | .is_tree => ∃ f fd, mg "is_tree" = some (.ref f) ∧ PySem.W.keepIn K (.ref f) = true ∧ Binds K fd (psOf .is_tree) [] ∧ Fun K "is_tree" "is_tree" s_is_tree f fd
  | .written => ∃ f fd, mg "written" = some (.ref f) ∧ PySem.W.keepIn K (.ref f) = true ∧ Binds K fd (psOf .written) [] ∧ Fun K "written" "written" s_written f fd
  | .show_tree => ∃ f fd, mg "show_tree" = some (.ref f) ∧ PySem.W.keepIn K (.ref f) = true ∧ Binds K fd (psOf .show_tree) [] ∧ Fun K "show_tree" "show_tree" s_show_tree f fd
  | .read_tree => ∃ f fd, mg "read_tree" = some (.ref f) ∧ PySem.W.keepIn K (.ref f) = true ∧ Binds K fd (psOf .read_tree) [] ∧ Fun K "read_tree" "read_tree" s_read_tree f fd
  | .law_cell => ∃ f fd, mg "_law_cell" = some (.ref f) ∧ PySem.W.keepIn K (.ref f) = true ∧ Binds K fd (psOf .law_cell) [] ∧ Fun K "_law_cell" "_law_cell" s_law_cell f fd
  | .law_mixed => ∃ f fd, mg "_law_mixed" = some (.ref f) ∧ PySem.W.keepIn K (.ref f) = true ∧ Binds K fd (psOf .law_mixed) [] ∧ Fun K "_law_mixed" "_law_mixed" s_law_mixed f fd
  | .law_letter => ∃ f fd, mg "_law_letter" = some (.ref f) ∧ PySem.W.keepIn K (.ref f) = true ∧ Binds K fd (psOf .law_letter) [] ∧ Fun K "_law_letter" "_law_letter" s_law_letter f fd
  | .law_tree => ∃ f fd, mg "_law_tree" = some (.ref f) ∧ PySem.W.keepIn K (.ref f) = true ∧ Binds K fd (psOf .law_tree) [] ∧ Fun K "_law_tree" "_law_tree" s_law_tree f fd
  | .law_built => ∃ f fd, mg "_law_built" = some (.ref f) ∧ PySem.W.keepIn K (.ref f) = true ∧ Binds K fd (psOf .law_built) [] ∧ Fun K "_law_built" "_law_built" s_law_built f fd
  | .law_written => ∃ f fd, mg "_law_written" = some (.ref f) ∧ PySem.W.keepIn K (.ref f) = true ∧ Binds K fd (psOf .law_written) [] ∧ Fun K "_law_written" "_law_written" s_law_written f fd
  | .law_rest => ∃ f fd, mg "_law_rest" = some (.ref f) ∧ PySem.W.keepIn K (.ref f) = true ∧ Binds K fd (psOf .law_rest) [] ∧ Fun K "_law_rest" "_law_rest" s_law_rest f fd
  | .law_odd => ∃ f fd, mg "_law_odd" = some (.ref f) ∧ PySem.W.keepIn K (.ref f) = true ∧ Binds K fd (psOf .law_odd) [] ∧ Fun K "_law_odd" "_law_odd" s_law_odd f fd
  | .law_given => ∃ f fd, mg "_law_given" = some (.ref f) ∧ PySem.W.keepIn K (.ref f) = true ∧ Binds K fd (psOf .law_given) [] ∧ Fun K "_law_given" "_law_given" s_law_given f fd
  | .law_asked => ∃ f fd, mg "_law_asked" = some (.ref f) ∧ PySem.W.keepIn K (.ref f) = true ∧ Binds K fd (psOf .law_asked) [] ∧ Fun K "_law_asked" "_law_asked" s_law_asked f fd
  | .law_word => ∃ f fd, mg "_law_word" = some (.ref f) ∧ PySem.W.keepIn K (.ref f) = true ∧ Binds K fd (psOf .law_word) [] ∧ Fun K "_law_word" "_law_word" s_law_word f fd
  | .law_bad => ∃ f fd, mg "_law_bad" = some (.ref f) ∧ PySem.W.keepIn K (.ref f) = true ∧ Binds K fd (psOf .law_bad) [] ∧ Fun K "_law_bad" "_law_bad" s_law_bad f fd
  | .law_many => ∃ f fd, mg "_law_many" = some (.ref f) ∧ PySem.W.keepIn K (.ref f) = true ∧ Binds K fd (psOf .law_many) [] ∧ Fun K "_law_many" "_law_many" s_law_many f fd
  | .law => ∃ f fd, mg "law" = some (.ref f) ∧ PySem.W.keepIn K (.ref f) = true ∧ Binds K fd (psOf .law) [] ∧ Fun K "law" "law" s_law f fd
def Mt : Nat → Fc → Fn
  | 0 => fun _ _ => .stuck
  | n + 1 => bdOf (Mt n)
theorem tab {P : Program} {w : World} {K : PySem.W.Frag} {mg : Str → Option Value} {base : Heap} (T : Tx0 K mg w0 w1 w2 w3 w4 w5 w6 w7 w8 w9 w10 w11 w12) (B : SysB base) (hF : ∀ x, hfOf K mg x) :
    ∀ (n : Nat) (x : Fc), calOf P w ⟨K, mg⟩ base (2 * n) x (Mt n x)
  | 0, x => by
    have h := hF x
    cases x with
    | is_letter => let ⟨f, fd, a, b, c, F⟩ := h; exact ⟨f, fd, a, b, c, fn0 _⟩
    | is_tree => let ⟨f, fd, a, b, c, F⟩ := h; exact ⟨f, fd, a, b, c, fn0 _⟩
    | written => let ⟨f, fd, a, b, c, F⟩ := h; exact ⟨f, fd, a, b, c, fn0 _⟩
    | show_tree => let ⟨f, fd, a, b, c, F⟩ := h; exact ⟨f, fd, a, b, c, fn0 _⟩
    | read_tree => let ⟨f, fd, a, b, c, F⟩ := h; exact ⟨f, fd, a, b, c, fn0 _⟩
    | law_cell => let ⟨f, fd, a, b, c, F⟩ := h; exact ⟨f, fd, a, b, c, fn0 _⟩
    | law_mixed => let ⟨f, fd, a, b, c, F⟩ := h; exact ⟨f, fd, a, b, c, fn0 _⟩
    | law_letter => let ⟨f, fd, a, b, c, F⟩ := h; exact ⟨f, fd, a, b, c, fn0 _⟩
    | law_tree => let ⟨f, fd, a, b, c, F⟩ := h; exact ⟨f, fd, a, b, c, fn0 _⟩
    | law_built => let ⟨f, fd, a, b, c, F⟩ := h; exact ⟨f, fd, a, b, c, fn0 _⟩
    | law_written => let ⟨f, fd, a, b, c, F⟩ := h; exact ⟨f, fd, a, b, c, fn0 _⟩
    | law_rest => let ⟨f, fd, a, b, c, F⟩ := h; exact ⟨f, fd, a, b, c, fn0 _⟩
    | law_odd => let ⟨f, fd, a, b, c, F⟩ := h; exact ⟨f, fd, a, b, c, fn0 _⟩
    | law_given => let ⟨f, fd, a, b, c, F⟩ := h; exact ⟨f, fd, a, b, c, fn0 _⟩
    | law_asked => let ⟨f, fd, a, b, c, F⟩ := h; exact ⟨f, fd, a, b, c, fn0 _⟩
    | law_word => let ⟨f, fd, a, b, c, F⟩ := h; exact ⟨f, fd, a, b, c, fn0Q _⟩
    | law_bad => let ⟨f, fd, a, b, c, F⟩ := h; exact ⟨f, fd, a, b, c, fn0 _⟩
    | law_many => let ⟨f, fd, a, b, c, F⟩ := h; exact ⟨f, fd, a, b, c, fn0 _⟩
    | law => let ⟨f, fd, a, b, c, F⟩ := h; exact ⟨f, fd, a, b, c, fn0 _⟩
  | n + 1, x => by
    have h := hF x
    have hC := tab (P := P) (w := w) (base := base) T B hF n
    cases x with
    | is_letter => let ⟨f, fd, a, b, c, F⟩ := h; exact ⟨f, fd, a, b, c, k_is_letter T B hC F⟩
    | is_tree => let ⟨f, fd, a, b, c, F⟩ := h; exact ⟨f, fd, a, b, c, k_is_tree T B hC F⟩
    | written => let ⟨f, fd, a, b, c, F⟩ := h; exact ⟨f, fd, a, b, c, k_written T B hC F⟩
    | show_tree => let ⟨f, fd, a, b, c, F⟩ := h; exact ⟨f, fd, a, b, c, k_show_tree T B hC F⟩
    | read_tree => let ⟨f, fd, a, b, c, F⟩ := h; exact ⟨f, fd, a, b, c, k_read_tree T B hC F⟩
    | law_cell => let ⟨f, fd, a, b, c, F⟩ := h; exact ⟨f, fd, a, b, c, k_law_cell T B hC F⟩
    | law_mixed => let ⟨f, fd, a, b, c, F⟩ := h; exact ⟨f, fd, a, b, c, k_law_mixed T B hC F⟩
    | law_letter => let ⟨f, fd, a, b, c, F⟩ := h; exact ⟨f, fd, a, b, c, k_law_letter T B hC F⟩
    | law_tree => let ⟨f, fd, a, b, c, F⟩ := h; exact ⟨f, fd, a, b, c, k_law_tree T B hC F⟩
    | law_built => let ⟨f, fd, a, b, c, F⟩ := h; exact ⟨f, fd, a, b, c, k_law_built T B hC F⟩
    | law_written => let ⟨f, fd, a, b, c, F⟩ := h; exact ⟨f, fd, a, b, c, k_law_written T B hC F⟩
    | law_rest => let ⟨f, fd, a, b, c, F⟩ := h; exact ⟨f, fd, a, b, c, k_law_rest T B hC F⟩
    | law_odd => let ⟨f, fd, a, b, c, F⟩ := h; exact ⟨f, fd, a, b, c, k_law_odd T B hC F⟩
    | law_given => let ⟨f, fd, a, b, c, F⟩ := h; exact ⟨f, fd, a, b, c, k_law_given T B hC F⟩
    | law_asked => let ⟨f, fd, a, b, c, F⟩ := h; exact ⟨f, fd, a, b, c, k_law_asked T B hC F⟩
    | law_word => let ⟨f, fd, a, b, c, F⟩ := h; exact ⟨f, fd, a, b, c, k_law_word T B hC F⟩
    | law_bad => let ⟨f, fd, a, b, c, F⟩ := h; exact ⟨f, fd, a, b, c, k_law_bad T B hC F⟩
    | law_many => let ⟨f, fd, a, b, c, F⟩ := h; exact ⟨f, fd, a, b, c, k_law_many T B hC F⟩
    | law => let ⟨f, fd, a, b, c, F⟩ := h; exact ⟨f, fd, a, b, c, k_law T B hC F⟩
end K41
set_option maxRecDepth 100000
set_option maxHeartbeats 400000
namespace K41
open PySem PySem.Spec L2 DM
theorem mulOk_l (i j : Int) (h : -(2 ^ 64) < i ∧ i < 2 ^ 64) : mulOk i j = true := by
  unfold mulOk
  have e : nb i 18446744073709551615 = true := nb_iff.mpr ⟨by omega, by omega⟩
  rw [e]
  rfl
theorem mulOk_r (i j : Int) (h : -(2 ^ 64) < j ∧ j < 2 ^ 64) : mulOk i j = true := by
  unfold mulOk
  have e : nb j 18446744073709551615 = true := nb_iff.mpr ⟨by omega, by omega⟩
  rw [e, Bool.or_true]
  rfl
theorem cell_ok (n : Nat) (ns : List Int) {k : Nat} (hk : k < 100) : ∃ c : Int, Mt (n + 1) .law_cell [.scr ns, .int (k : Int)] = .ok (.int c) [] := by
  show ∃ c : Int, mkF 0 (ioOf .law_cell) (b_law_cell (Mt n)) [.scr ns, .int (k : Int)] = .ok (.int c) []
  rw [e_law_cell]
  by_cases h : (k : Int) < ns.length
  · have hl : k < ns.length := by omega
    refine ⟨ns[k], ?_⟩
    have e : atI ns (k : Int) = some ns[k] := by rw [atI_k (k := k) _ rfl hl, List.getElem?_eq_getElem hl]
    simp [ioOf, q_law_cell_1, q_law_cell_1t1, h, e]
  · refine ⟨73 * (k : Int) * k + 59 * k + 15, ?_⟩
    have m1 := mulOk_l 73 (k : Int) (by decide)
    have m2 := mulOk_r (73 * (k : Int)) (k : Int) (by omega)
    have m3 := mulOk_l 59 (k : Int) (by decide)
    simp [ioOf, q_law_cell_1, q_law_cell_1t1, q_law_cell_2, h, m1, m2, m3]
theorem mixed_ok (n : Nat) (c : Int) {k : Nat} (hk : k < 100) : ∃ m : Int, Mt (n + 1) .law_mixed [.int c, .int (k : Int)] = .ok (.int m) [] := by
  show ∃ m : Int, mkF 1 (ioOf .law_mixed) (b_law_mixed (Mt n)) [.int c, .int (k : Int)] = .ok (.int m) []
  rw [e_law_mixed]
  have m1 := mulOk_r c 48271 (by decide)
  have m2 := mulOk_l 7919 (k : Int) (by decide)
  have m3 := mulOk_r (7919 * (k : Int)) (k : Int) (by omega)
  have m4 := mulOk_l 104729 (k : Int) (by decide)
  obtain ⟨a, ha⟩ : ∃ a : Int, (c * 48271 + 7919 * (k : Int) * k + 104729 * k + 11) % 2147483647 = a := ⟨_, rfl⟩
  have ha0 : 0 ≤ a := ha ▸ Int.emod_nonneg _ (by decide)
  have ha1 : a < 2147483647 := ha ▸ Int.emod_lt_of_pos _ (by decide)
  have m5 := mulOk_l a a (by omega)
  obtain ⟨b, hb⟩ : ∃ b : Int, a * a % 2147483629 = b := ⟨_, rfl⟩
  have hb0 : 0 ≤ b := hb ▸ Int.emod_nonneg _ (by decide)
  have hb1 : b < 2147483629 := hb ▸ Int.emod_lt_of_pos _ (by decide)
  have m6 := mulOk_l b 16807 (by omega)
  refine ⟨b * 16807 + c % 5, ?_⟩
  simp [ioOf, q_law_mixed_1, q_law_mixed_2, q_law_mixed_3, m1, m2, m3, m4, ha, m5, hb, m6]
theorem seq_nx {a b : DEnv → SR} {δ δ1 : DEnv} (h : a δ = .nx δ1) : mSeq a b δ = b δ1 := by rw [mSeq_e, h]; rfl
theorem abc_z : ∀ i : Nat, i < 26 → ("abcdefghijklmnopqrstuvwxyz" : Str).cps.toList[i]? = some (97 + i) := by decide
theorem let40_ok (n : Nat) (c : Int) {w : Int} (h0 : 0 ≤ w) (h1 : w < 5) : ∃ x : Nat, Mt (n + 1) .law_letter [.int c, .int w] = .ok (.str ⟨#[x]⟩) [] ∧ 97 ≤ x ∧ x ≤ 122 := by
  show ∃ x : Nat, mkF 0 (ioOf .law_letter) (b_law_letter (Mt n)) [.int c, .int w] = .ok (.str ⟨#[x]⟩) [] ∧ 97 ≤ x ∧ x ≤ 122
  rw [e_law_letter]
  by_cases h : w = 0
  · subst h
    have a0 : 0 ≤ c % 26 := Int.emod_nonneg _ (by decide)
    have a1 : c % 26 < 26 := Int.emod_lt_of_pos _ (by decide)
    have e : ixD (.str "abcdefghijklmnopqrstuvwxyz") (.int (c % 26)) = some (.str ⟨#[97 + (c % 26).toNat]⟩) := by
      show (if Str.length "abcdefghijklmnopqrstuvwxyz" ≤ sizeLine then (atI ("abcdefghijklmnopqrstuvwxyz" : Str).cps.toList (c % 26)).map fun c => D.str ⟨#[c]⟩ else none) = _
      rw [if_pos (by decide), atI_k (k := (c % 26).toNat) _ (by omega) (by show (c % 26).toNat < 26; omega), abc_z _ (by omega)]
      rfl
    refine ⟨97 + (c % 26).toNat, ?_, by omega, by omega⟩
    simp [ioOf, q_law_letter_1, q_law_letter_1t1, e]
  · have hw : 0 < w := by omega
    have a0 : 0 ≤ c % w := Int.emod_nonneg _ (by omega)
    have a1 : c % w < w := Int.emod_lt_of_pos _ hw
    obtain ⟨x, hx, b0, b1⟩ : ∃ x : Nat, ixD (.str "azmq") (.int (c % w)) = some (.str ⟨#[x]⟩) ∧ 97 ≤ x ∧ x ≤ 122 := by
      have : c % w = 0 ∨ c % w = 1 ∨ c % w = 2 ∨ c % w = 3 := by omega
      rcases this with h | h | h | h <;> rw [h]
      · exact ⟨97, rfl, by decide, by decide⟩
      · exact ⟨122, rfl, by decide, by decide⟩
      · exact ⟨109, rfl, by decide, by decide⟩
      · exact ⟨113, rfl, by decide, by decide⟩
    refine ⟨x, ?_, b0, b1⟩
    simp [ioOf, q_law_letter_1, q_law_letter_1t1, q_law_letter_2, h, hw, hx]
end K41
set_option maxRecDepth 100000
set_option maxHeartbeats 400000
namespace K41
open PySem PySem.Spec L2 DM
def ltsD (ls : List Nat) : List D := ls.map fun c => D.str ⟨#[c]⟩
def abD : Option Nat → D
  | none => .non
  | some i => .int (i : Int)
def absD (ab : List (Option Nat)) : List D := ab.map abD
structure Bu (q k : Nat) (ls : List Nat) (ab : List (Option Nat)) (ds : List Nat) : Prop where
  ll : ls.length = k
  la : ab.length = k
  ld : ds.length = k
  lt : ∀ c ∈ ls, 97 ≤ c ∧ c ≤ 122
  up : Upw ab
  dp : ∀ (j i : Nat), ab[j]? = some (some i) → ds.getD j 0 = ds.getD i 0 + 1
  dq : ∀ j, j < k → ds.getD j 0 ≤ q
  d0 : 0 < k → ds.getD 0 0 = 1
theorem getD_l {ds : List Nat} {j x : Nat} (h : j < ds.length) : (ds ++ [x]).getD j 0 = ds.getD j 0 := by
  rw [List.getD_eq_getElem?_getD, List.getElem?_append_left h, ← List.getD_eq_getElem?_getD]
theorem getD_r {ds : List Nat} {x : Nat} : (ds ++ [x]).getD ds.length 0 = x := by
  rw [List.getD_eq_getElem?_getD, List.getElem?_append_right (Nat.le_refl _), Nat.sub_self]
  rfl
theorem Bu.step {q k : Nat} {ls : List Nat} {ab : List (Option Nat)} {ds : List Nat} (b : Bu q k ls ab ds) {c : Nat} (hc : 97 ≤ c ∧ c ≤ 122) {o : Option Nat} {x : Nat} (h0 : k = 0 → o = none ∧ x = 1) (hq : 1 ≤ q)
    (h1 : 0 < k → ∃ s, s < k ∧ o = some s ∧ ds.getD s 0 < q ∧ x = ds.getD s 0 + 1) : Bu q (k + 1) (ls ++ [c]) (ab ++ [o]) (ds ++ [x]) := by
  have old : ∀ {j : Nat} {p : Option Nat}, (ab ++ [o])[j]? = some p → (j < k ∧ ab[j]? = some p) ∨ (j = k ∧ p = o) := fun {j p} h => by
    by_cases hj : j < k
    · rw [List.getElem?_append_left (by rw [b.la]; exact hj)] at h
      exact .inl ⟨hj, h⟩
    · rw [List.getElem?_append_right (by rw [b.la]; omega), b.la] at h
      have : j - k = 0 := by
        have := (List.getElem?_eq_some_iff.mp h).1
        simp at this
        omega
      rw [this] at h
      exact .inr ⟨by omega, by cases h; rfl⟩
  refine ⟨by rw [List.length_append, b.ll]; rfl, by rw [List.length_append, b.la]; rfl, by rw [List.length_append, b.ld]; rfl, fun d hd => ?_, fun j i h => ?_, fun j i h => ?_, fun j hj => ?_, fun _ => ?_⟩
  · rcases List.mem_append.mp hd with hd | hd
    · exact b.lt d hd
    · rw [List.mem_singleton.mp hd]; exact hc
  · rcases old h with ⟨hj, h⟩ | ⟨hj, h⟩
    · exact b.up j i h
    · by_cases hk : k = 0
      · rw [(h0 hk).1] at h; cases h
      · obtain ⟨s, hs, e, _⟩ := h1 (by omega)
        rw [e] at h
        cases h
        omega
  · rcases old h with ⟨hj, h⟩ | ⟨hj, h⟩
    · have := b.up j i h
      rw [getD_l (by rw [b.ld]; exact hj), getD_l (by rw [b.ld]; omega)]
      exact b.dp j i h
    · by_cases hk : k = 0
      · rw [(h0 hk).1] at h; cases h
      · obtain ⟨s, hs, e, _, ex⟩ := h1 (by omega)
        rw [e] at h
        cases h
        have e2 := getD_r (ds := ds) (x := x)
        rw [b.ld] at e2
        rw [hj, e2, getD_l (j := i) (by rw [b.ld]; exact hs), ex]
  · by_cases hjk : j < k
    · rw [getD_l (by rw [b.ld]; exact hjk)]; exact b.dq j hjk
    · have := getD_r (ds := ds) (x := x)
      rw [b.ld] at this
      rw [show j = k by omega, this]
      by_cases hk : k = 0
      · rw [(h0 hk).2]; exact hq
      · obtain ⟨s, hs, e, hs2, ex⟩ := h1 (by omega)
        omega
  · by_cases hk : k = 0
    · subst hk
      have := getD_r (ds := ds) (x := x)
      rw [b.ld] at this
      rw [this]
      exact (h0 rfl).2
    · rw [getD_l (by rw [b.ld]; omega)]; exact b.d0 (by omega)
theorem Bu.nil (q : Nat) : Bu q 0 [] [] [] := ⟨rfl, rfl, rfl, (fun _ h => by cases h), (fun _ _ h => by cases h), (fun _ _ h => by cases h), (fun _ h => by omega), (fun h => by omega)⟩
theorem rg_ints (k : Nat) : rgItems 0 1 k = intsD (List.range k) := by
  unfold rgItems intsD
  apply List.map_congr_left
  intro i _
  simp
theorem bspots (C : Fc → Fn) {k q : Nat} {ds : List Nat} {d0 d1 d2 d4 d5 o8 o9 o10 : Option D} (hk : k ≤ 100) (hd : ds.length = k) :
    l_law_tree_1 C [d0, d1, d2, some (.int (q : Int)), d4, d5, some (.lst (intsD ds)), some (.int (k : Int)), o8, o9, o10] = .ok (.lst (intsD ((List.range k).filter fun s => decide (ds.getD s 0 < q)))) [d0, d1, d2, some (.int (q : Int)), d4, d5, some (.lst (intsD ds)), some (.int (k : Int)), o8, o9, o10] := by
  have e := lc1g (src := li_law_tree_1 C) (cond := lc_law_tree_1 C) (elt := le_law_tree_1 C) (i := 10) (o := o10) (δ := [d0, d1, d2, some (.int (q : Int)), d4, d5, some (.lst (intsD ds)), some (.int (k : Int)), o8, o9, o10]) (xs := intsD (List.range k))
    (p := fun d => match d with | .int s => decide (ds.getD s.toNat 0 < q) | _ => false) (g := fun d => d)
    (by
      refine mSrcA_ok (os := [.v (.int (k : Int))]) (δ1 := [d0, d1, d2, some (.int (q : Int)), d4, d5, some (.lst (intsD ds)), some (.int (k : Int)), o8, o9, o10]) (ds := [.int (k : Int)]) ?_ rfl rfl ?_
      · simp
      · rw [range1_ok (k : Int) (by omega) (by omega), Int.toNat_natCast, rg_ints])
    (by rw [intsD_len, List.length_range]; exact Nat.le_trans hk (by decide)) rfl
    (fun d hd' => by
      obtain ⟨s, hs, rfl⟩ := intsD_mem hd'
      have hs2 := List.mem_range.mp hs
      have ea := intsD_at (ks := ds) (k := s) (by omega)
      have eg : ds.getD s 0 = ds[s]'(by omega) := by rw [List.getD_eq_getElem?_getD, List.getElem?_eq_getElem (by omega)]; rfl
      rw [← eg] at ea
      obtain ⟨y, hy⟩ : ∃ y, ds.getD s 0 = y := ⟨_, rfl⟩
      rw [hy] at ea
      have ep : (match D.int (s : Int) with | .int s => decide (ds.getD s.toNat 0 < q) | _ => false) = decide (y < q) := by
        show decide (ds.getD (Int.toNat (s : Int)) 0 < q) = _
        rw [Int.toNat_natCast, hy]
      show lc_law_tree_1 C _ = .ok (match D.int (s : Int) with | .int s => decide (ds.getD s.toNat 0 < q) | _ => false) _
      rw [ep]
      unfold lc_law_tree_1
      generalize intsD ds = X at ea ⊢
      simp [-ixD_l, ea])
    (fun d hd' _ => by
      unfold le_law_tree_1
      simp)
  unfold l_law_tree_1
  rw [e, List.map_id', filter_intsD (q := fun s => decide (ds.getD s 0 < q)) fun s hs => by simp]
theorem tbody (n : Nat) {c p w : Int} {q k : Nat} {ls ds : List Nat} {ab : List (Option Nat)} {o8 o9 o10 : Option D} (hw0 : 0 ≤ w) (hw1 : w < 5) (hq : 2 ≤ q) (hk : k < 100) (b : Bu q k ls ab ds) :
    ∃ x8 x9 x10 ls' ab' ds', Q_law_tree_4b (Mt (n + 1)) [some (.int c), some (.int p), some (.int w), some (.int (q : Int)), some (.lst (ltsD ls)), some (.lst (absD ab)), some (.lst (intsD ds)), some (.int (k : Int)), o8, o9, o10]
      = .nx [some (.int c), some (.int p), some (.int w), some (.int (q : Int)), some (.lst (ltsD ls')), some (.lst (absD ab')), some (.lst (intsD ds')), some (.int (k : Int)), x8, x9, x10] ∧ Bu q (k + 1) ls' ab' ds' := by
  obtain ⟨m, e1⟩ := mixed_ok n c hk
  obtain ⟨x, e2, hx1, hx2⟩ := let40_ok n (m / 11) hw0 hw1
  have hls : ls.length < sizeLine := by rw [b.ll]; exact Nat.lt_trans hk (by decide)
  have hab : ab.length < sizeLine := by rw [b.la]; exact Nat.lt_trans hk (by decide)
  have hds : ds.length < sizeLine := by rw [b.ld]; exact Nat.lt_trans hk (by decide)
  have t1 : q_law_tree_4b1 (Mt (n + 1)) [some (.int c), some (.int p), some (.int w), some (.int (q : Int)), some (.lst (ltsD ls)), some (.lst (absD ab)), some (.lst (intsD ds)), some (.int (k : Int)), o8, o9, o10] = .nx [some (.int c), some (.int p), some (.int w), some (.int (q : Int)), some (.lst (ltsD ls)), some (.lst (absD ab)), some (.lst (intsD ds)), some (.int (k : Int)), some (.int m), o9, o10] := by
    unfold q_law_tree_4b1
    simp [ioOf, e1]
  have t2 : q_law_tree_4b2 (Mt (n + 1)) [some (.int c), some (.int p), some (.int w), some (.int (q : Int)), some (.lst (ltsD ls)), some (.lst (absD ab)), some (.lst (intsD ds)), some (.int (k : Int)), some (.int m), o9, o10] = .nx [some (.int c), some (.int p), some (.int w), some (.int (q : Int)), some (.lst (ltsD (ls ++ [x]))), some (.lst (absD ab)), some (.lst (intsD ds)), some (.int (k : Int)), some (.int m), o9, o10] := by
    unfold q_law_tree_4b2
    have h : (ltsD ls).length < sizeLine := by unfold ltsD; rw [List.length_map]; exact hls
    have h2 : ltsD (ls ++ [x]) = ltsD ls ++ [.str ⟨#[x]⟩] := by unfold ltsD; rw [List.map_append]; rfl
    rw [h2]
    generalize ltsD ls = LL at h ⊢
    simp [ioOf, e2, h]
  have e3 := bspots (Mt (n + 1)) (k := k) (q := q) (ds := ds) (d0 := some (.int c)) (d1 := some (.int p)) (d2 := some (.int w)) (d4 := some (.lst (ltsD (ls ++ [x])))) (d5 := some (.lst (absD ab))) (o8 := some (.int m)) (o9 := o9) (o10 := o10) (by omega) b.ld
  have hS : ∀ s ∈ (List.range k).filter (fun s => decide (ds.getD s 0 < q)), s < k ∧ ds.getD s 0 < q := fun s hs => ⟨List.mem_range.mp (List.mem_filter.mp hs).1, of_decide_eq_true (List.mem_filter.mp hs).2⟩
  have hS0 : 0 < k → 0 < ((List.range k).filter fun s => decide (ds.getD s 0 < q)).length := fun h => by
    refine List.length_pos_of_mem (a := 0) (List.mem_filter.mpr ⟨List.mem_range.mpr h, ?_⟩)
    rw [b.d0 h]
    exact decide_eq_true (by omega)
  generalize (List.range k).filter (fun s => decide (ds.getD s 0 < q)) = S at e3 hS hS0
  have t3 : q_law_tree_4b3 (Mt (n + 1)) [some (.int c), some (.int p), some (.int w), some (.int (q : Int)), some (.lst (ltsD (ls ++ [x]))), some (.lst (absD ab)), some (.lst (intsD ds)), some (.int (k : Int)), some (.int m), o9, o10] = .nx [some (.int c), some (.int p), some (.int w), some (.int (q : Int)), some (.lst (ltsD (ls ++ [x]))), some (.lst (absD ab)), some (.lst (intsD ds)), some (.int (k : Int)), some (.int m), some (.lst (intsD S)), o10] := by
    unfold q_law_tree_4b3
    rw [mAsg_e, e3]
    rfl
  have hA : (absD ab).length < sizeLine := by unfold absD; rw [List.length_map]; exact hab
  have hA2 : ∀ o, absD (ab ++ [o]) = absD ab ++ [abD o] := fun o => by unfold absD; rw [List.map_append]; rfl
  have hI : (intsD ds).length < sizeLine := by rw [intsD_len]; exact hds
  have hI2 : ∀ y : Nat, intsD (ds ++ [y]) = intsD ds ++ [.int (y : Int)] := fun y => by unfold intsD; rw [List.map_append]; rfl
  by_cases hk0 : k = 0
  · have t4 : q_law_tree_4b4 (Mt (n + 1)) [some (.int c), some (.int p), some (.int w), some (.int (q : Int)), some (.lst (ltsD (ls ++ [x]))), some (.lst (absD ab)), some (.lst (intsD ds)), some (.int (k : Int)), some (.int m), some (.lst (intsD S)), o10] = .nx [some (.int c), some (.int p), some (.int w), some (.int (q : Int)), some (.lst (ltsD (ls ++ [x]))), some (.lst (absD (ab ++ [none]))), some (.lst (intsD (ds ++ [1]))), some (.int (k : Int)), some (.int m), some (.lst (intsD S)), o10] := by
      unfold q_law_tree_4b4 Q_law_tree_4b4t q_law_tree_4b4t1 q_law_tree_4b4t2
      rw [hA2, hI2]
      generalize absD ab = AA at hA ⊢
      generalize intsD ds = DD at hI ⊢
      generalize intsD S = SS
      generalize ltsD (ls ++ [x]) = LL
      simp [hk0, hA, hI, abD]
    refine ⟨some (.int m), some (.lst (intsD S)), o10, ls ++ [x], ab ++ [none], ds ++ [1], ?_, b.step ⟨hx1, hx2⟩ (fun _ => ⟨rfl, rfl⟩) (by omega) fun h => by omega⟩
    unfold Q_law_tree_4b
    rw [seq_nx t1, seq_nx t2, seq_nx t3, t4]
  · have hS1 := hS0 (by omega)
    obtain ⟨j, hj0, hj1, hj⟩ : ∃ j : Int, 0 ≤ j ∧ j < S.length ∧ ixD (.lst [.int (m / 300 % (S.length : Int)), .int ((S.length : Int) - 1), .int 0]) (.int (if 2 < c / 11 % 5 then c / 11 % 5 - 2 else 0)) = some (.int j) := by
      have h1 : 0 ≤ c / 11 % 5 := Int.emod_nonneg _ (by decide)
      have h2 : c / 11 % 5 < 5 := Int.emod_lt_of_pos _ (by decide)
      have h3 : 0 ≤ m / 300 % (S.length : Int) := Int.emod_nonneg _ (by omega)
      have h4 : m / 300 % (S.length : Int) < S.length := Int.emod_lt_of_pos _ (by omega)
      have : (if 2 < c / 11 % 5 then c / 11 % 5 - 2 else 0) = 0 ∨ (if 2 < c / 11 % 5 then c / 11 % 5 - 2 else 0) = 1 ∨ (if 2 < c / 11 % 5 then c / 11 % 5 - 2 else 0) = 2 := by split <;> omega
      rcases this with h | h | h <;> rw [h]
      · exact ⟨m / 300 % (S.length : Int), h3, h4, by rw [ixD_l, atI_0]⟩
      · exact ⟨(S.length : Int) - 1, by omega, by omega, by rw [ixD_l, atI_1]⟩
      · exact ⟨0, by omega, by omega, by rw [ixD_l, atI_2]⟩
    obtain ⟨jn, hjn⟩ : ∃ jn : Nat, j = (jn : Int) := ⟨j.toNat, by omega⟩
    subst hjn
    have hjl : jn < S.length := by omega
    have ea := intsD_at (ks := S) (k := jn) hjl
    have hs := hS _ (List.getElem_mem hjl)
    generalize S[jn] = s at ea hs
    have hsl : s < ds.length := by rw [b.ld]; exact hs.1
    have eb := intsD_at (ks := ds) (k := s) hsl
    have eg : ds.getD s 0 = ds[s] := by rw [List.getD_eq_getElem?_getD, List.getElem?_eq_getElem hsl]; rfl
    rw [← eg] at eb
    have hSl : (intsD S).length = S.length := intsD_len S
    have hpos : 0 < (S.length : Int) := by omega
    have s3 : (3 : Nat) ≤ sizeLine := by decide
    have t4 : q_law_tree_4b4 (Mt (n + 1)) [some (.int c), some (.int p), some (.int w), some (.int (q : Int)), some (.lst (ltsD (ls ++ [x]))), some (.lst (absD ab)), some (.lst (intsD ds)), some (.int (k : Int)), some (.int m), some (.lst (intsD S)), o10] = .nx [some (.int c), some (.int p), some (.int w), some (.int (q : Int)), some (.lst (ltsD (ls ++ [x]))), some (.lst (absD (ab ++ [some s]))), some (.lst (intsD (ds ++ [ds.getD s 0 + 1]))), some (.int (k : Int)), some (.int m), some (.lst (intsD S)), some (.int (s : Int))] := by
      unfold q_law_tree_4b4 Q_law_tree_4b4e q_law_tree_4b4e1 q_law_tree_4b4e2 q_law_tree_4b4e3
      rw [hA2, hI2]
      have hk1 : ¬ ((k : Int) = 0) := by omega
      have hab' : abD (some s) = .int (s : Int) := rfl
      rw [hab']
      generalize ds.getD s 0 = y at eb ⊢
      generalize absD ab = AA at hA ⊢
      generalize intsD ds = DD at hI eb ⊢
      generalize ltsD (ls ++ [x]) = LL
      generalize intsD S = SS at ea hSl ⊢
      generalize S.length = sl at hj hSl hpos hjl
      have hpn : 0 < sl := by omega
      simp [hk0, hA, hI, -ixD_l, hSl, hpn, s3, hj, ea, eb]
    refine ⟨some (.int m), some (.lst (intsD S)), some (.int (s : Int)), ls ++ [x], ab ++ [some s], ds ++ [ds.getD s 0 + 1], ?_, b.step ⟨hx1, hx2⟩ (fun h => absurd h hk0) (by omega) fun _ => ⟨s, hs.1, rfl, hs.2, rfl⟩⟩
    unfold Q_law_tree_4b
    rw [seq_nx t1, seq_nx t2, seq_nx t3, t4]
end K41
set_option maxRecDepth 100000
set_option maxHeartbeats 400000
namespace K41
open PySem PySem.Spec L2 DM
theorem eqD_ab (o : Option Nat) (k : Nat) : eqD (abD o) (.int (k : Int)) = some (.bl (decide (o = some k))) := by
  cases o with
  | none => rfl
  | some i =>
    show eqD (.int (i : Int)) (.int (k : Int)) = _
    rw [eqD_i]
    congr 2
    by_cases h : i = k
    · subst h; simp
    · have : ¬ (i : Int) = k := by omega
      simp [h, this]
theorem absD_at {ab : List (Option Nat)} {k : Nat} (h : k < ab.length) : ixD (.lst (absD ab)) (.int (k : Int)) = some (abD ab[k]) := by
  rw [ixD_l, DM.atI_nat (by unfold absD; rw [List.length_map]; exact h)]
  unfold absD
  rw [List.getElem?_map, List.getElem?_eq_getElem h]
  rfl
theorem ltsD_at {ls : List Nat} {k : Nat} (h : k < ls.length) : ixD (.lst (ltsD ls)) (.int (k : Int)) = some (.str ⟨#[ls.getD k 0]⟩) := by
  rw [ixD_l, DM.atI_nat (by unfold ltsD; rw [List.length_map]; exact h)]
  unfold ltsD
  rw [List.getElem?_map, List.getElem?_eq_getElem h, List.getD_eq_getElem?_getD, List.getElem?_eq_getElem h]
  rfl
theorem built_step (C : Fc → Fn) {ls : List Nat} {ab : List (Option Nat)} {k : Nat} {g : Nat → T} (hl : ls.length = ab.length) (h100 : ab.length ≤ 100) (hk : k < ab.length) (hb : ∀ j ∈ kidsN ab k, C .law_built [.lst (ltsD ls), .lst (absD ab), .int (j : Int)] = .ok (g j).dat []) :
    bdOf C .law_built [.lst (ltsD ls), .lst (absD ab), .int (k : Int)] = .ok (T.node (ls.getD k 0) ((kidsN ab k).map g)).dat [] := by
  have hA : (absD ab).length = ab.length := by unfold absD; rw [List.length_map]
  have e := lc1g (src := li_law_built_1 C) (cond := lc_law_built_1 C) (elt := le_law_built_1 C) (i := 4) (o := none) (δ := [some (.lst (ltsD ls)), some (.lst (absD ab)), some (.int (k : Int)), none, none]) (xs := intsD (List.range ab.length))
    (p := fun d => match d with | .int s => decide (ab[s.toNat]? = some (some k)) | _ => false) (g := fun d => match d with | .int s => (g s.toNat).dat | _ => .non)
    (by
      refine mSrcA_ok (os := [.v (.int (ab.length : Int))]) (δ1 := [some (.lst (ltsD ls)), some (.lst (absD ab)), some (.int (k : Int)), none, none]) (ds := [.int (ab.length : Int)]) ?_ rfl rfl ?_
      · generalize ltsD ls = LL
        generalize absD ab = AA at hA ⊢
        simp [hA]
      · rw [range1_ok _ (by omega) (by omega), Int.toNat_natCast, rg_ints])
    (by rw [intsD_len, List.length_range]; exact Nat.le_trans h100 (by decide)) rfl
    (fun d hd' => by
      obtain ⟨s, hs, rfl⟩ := intsD_mem hd'
      have hs2 := List.mem_range.mp hs
      have ea := absD_at (ab := ab) hs2
      have eq := eqD_ab ab[s] k
      show lc_law_built_1 C _ = .ok (decide (ab[Int.toNat (s : Int)]? = some (some k))) _
      rw [Int.toNat_natCast, List.getElem?_eq_getElem hs2]
      generalize ab[s] = o at ea eq ⊢
      have ep : decide (some o = some (some k)) = decide (o = some k) := by
        apply decide_eq_decide.mpr
        exact ⟨fun h => by injection h, fun h => by rw [h]⟩
      rw [ep]
      generalize decide (o = some k) = bb at eq ⊢
      unfold lc_law_built_1
      generalize ltsD ls = LL
      generalize absD ab = AA at ea ⊢
      simp [-ixD_l, ea, eq])
    (fun d hd' hp => by
      obtain ⟨s, hs, rfl⟩ := intsD_mem hd'
      have hs2 := List.mem_range.mp hs
      have hp : decide (ab[Int.toNat (s : Int)]? = some (some k)) = true := hp
      rw [Int.toNat_natCast] at hp
      have hm : s ∈ kidsN ab k := List.mem_filter.mpr ⟨hs, hp⟩
      have ec := hb s hm
      show le_law_built_1 C _ = .ok (g (Int.toNat (s : Int))).dat _
      rw [Int.toNat_natCast]
      unfold le_law_built_1
      generalize ltsD ls = LL at ec ⊢
      generalize absD ab = AA at ec ⊢
      generalize (g s).dat = GG at ec ⊢
      simp [ioOf, ec])
  rw [filter_intsD (q := fun j => decide (ab[j]? = some (some k))) (fun s hs => by show decide (ab[Int.toNat (s : Int)]? = some (some k)) = _; rw [Int.toNat_natCast])] at e
  have ek : (List.range ab.length).filter (fun j => decide (ab[j]? = some (some k))) = kidsN ab k := rfl
  rw [ek] at e
  have em : (intsD (kidsN ab k)).map (fun d => match d with | .int s => (g s.toNat).dat | _ => .non) = T.dats ((kidsN ab k).map g) := by
    rw [T.dats_map]
    unfold intsD
    rw [List.map_map, List.map_map]
    apply List.map_congr_left
    intro j _
    show (g (Int.toNat (j : Int))).dat = _
    rw [Int.toNat_natCast]
    rfl
  rw [em] at e
  have el := ltsD_at (ls := ls) (k := k) (by omega)
  have s2 : (2 : Nat) ≤ sizeLine := by decide
  show mkF 2 (ioOf .law_built) (b_law_built C) [.lst (ltsD ls), .lst (absD ab), .int (k : Int)] = _
  rw [T.dat, e_law_built]
  have t1 : q_law_built_1 C [some (.lst (ltsD ls)), some (.lst (absD ab)), some (.int (k : Int)), none, none] = .nx [some (.lst (ltsD ls)), some (.lst (absD ab)), some (.int (k : Int)), some (.lst (T.dats ((kidsN ab k).map g))), none] := by
    unfold q_law_built_1 l_law_built_1
    rw [mAsg_e, e]
    rfl
  have e0 : List.map some [D.lst (ltsD ls), .lst (absD ab), .int (k : Int)] ++ List.replicate 2 none = [some (.lst (ltsD ls)), some (.lst (absD ab)), some (.int (k : Int)), none, none] := rfl
  rw [mkF_e, e0, seq_nx t1]
  unfold q_law_built_2
  generalize ltsD ls = LL at el ⊢
  generalize absD ab = AA
  generalize T.dats ((kidsN ab k).map g) = KK
  simp [-ixD_l, el, ioOf, s2]
theorem built_ok {ls : List Nat} {ab : List (Option Nat)} (hl : ls.length = ab.length) (h100 : ab.length ≤ 100) (hu : Upw ab) : ∀ (n k : Nat), k < ab.length → ab.length - k ≤ n + 1 → Mt (n + 1) .law_built [.lst (ltsD ls), .lst (absD ab), .int (k : Int)] = .ok (bT ls ab n k).dat [] := by
  intro n
  induction n with
  | zero =>
    intro k hk hn
    have h0 : kidsN ab k = [] := by
      apply List.eq_nil_iff_forall_not_mem.mpr
      intro j hj
      have h1 := kidsN_mem hj
      have h2 := hu j k h1.2
      omega
    have := built_step (Mt 0) (g := fun _ => .node 0 []) hl h100 hk fun j hj => by rw [h0] at hj; cases hj
    rw [h0] at this
    rw [bT]
    exact this
  | succ n ih =>
    intro k hk hn
    rw [bT]
    exact built_step (Mt (n + 1)) hl h100 hk fun j hj => by
      have h1 := kidsN_mem hj
      have h2 := hu j k h1.2
      exact ih j h1.1 (by omega)
theorem tree40_ok (n : Nat) (hn : 41 ≤ n) (c : Int) {p q : Nat} {w : Int} (hp1 : 1 ≤ p) (hp : p ≤ 40) (hw0 : 0 ≤ w) (hw1 : w < 5) (hq : 2 ≤ q) : ∃ t : T, Mt (n + 1) .law_tree [.int c, .int (p : Int), .int w, .int (q : Int)] = .ok t.dat [] ∧ t.good ∧ t.size ≤ p ∧ t.dep ≤ q := by
  obtain ⟨m, rfl⟩ : ∃ m, n = m + 1 := ⟨n - 1, by omega⟩
  have s0 : (0 : Nat) ≤ sizeLine := by decide
  have t1 : q_law_tree_1 (Mt (m + 1)) [some (.int c), some (.int (p : Int)), some (.int w), some (.int (q : Int)), none, none, none, none, none, none, none] = .nx [some (.int c), some (.int (p : Int)), some (.int w), some (.int (q : Int)), some (.lst []), none, none, none, none, none, none] := by
    unfold q_law_tree_1
    simp [s0]
  have t2 : q_law_tree_2 (Mt (m + 1)) [some (.int c), some (.int (p : Int)), some (.int w), some (.int (q : Int)), some (.lst []), none, none, none, none, none, none] = .nx [some (.int c), some (.int (p : Int)), some (.int w), some (.int (q : Int)), some (.lst []), some (.lst []), none, none, none, none, none] := by
    unfold q_law_tree_2
    simp [s0]
  have t3 : q_law_tree_3 (Mt (m + 1)) [some (.int c), some (.int (p : Int)), some (.int w), some (.int (q : Int)), some (.lst []), some (.lst []), none, none, none, none, none] = .nx [some (.int c), some (.int (p : Int)), some (.int w), some (.int (q : Int)), some (.lst []), some (.lst []), some (.lst []), none, none, none, none] := by
    unfold q_law_tree_3
    simp [s0]
  have src : i_law_tree_4 (Mt (m + 1)) [some (.int c), some (.int (p : Int)), some (.int w), some (.int (q : Int)), some (.lst []), some (.lst []), some (.lst []), none, none, none, none] = .ok (rgItems 0 1 p, some) [some (.int c), some (.int (p : Int)), some (.int w), some (.int (q : Int)), some (.lst []), some (.lst []), some (.lst []), none, none, none, none] := by
    refine mSrcA_ok (os := [.v (.int (p : Int))]) (δ1 := [some (.int c), some (.int (p : Int)), some (.int w), some (.int (q : Int)), some (.lst []), some (.lst []), some (.lst []), none, none, none, none]) (ds := [.int (p : Int)]) ?_ rfl rfl ?_
    · simp
    · rw [range1_ok _ (by omega) (by omega), Int.toNat_natCast]
  obtain ⟨δ', ef, x7, x8, x9, x10, ls, ab, ds, rfl, hB⟩ := dFor_run (tg := tName 7) (body := Q_law_tree_4b (Mt (m + 1))) (fun i δ => ∃ x7 x8 x9 x10 ls ab ds, δ = [some (.int c), some (.int (p : Int)), some (.int w), some (.int (q : Int)), some (.lst (ltsD ls)), some (.lst (absD ab)), some (.lst (intsD ds)), x7, x8, x9, x10] ∧ Bu q i ls ab ds) (rgItems 0 1 p) 0 [some (.int c), some (.int (p : Int)), some (.int w), some (.int (q : Int)), some (.lst []), some (.lst []), some (.lst []), none, none, none, none]
    ⟨none, none, none, none, [], [], [], rfl, Bu.nil q⟩ fun i d δ hd hI => by
      rw [rg_ints] at hd
      unfold intsD at hd
      have hi : i < p := by
        have := (List.getElem?_eq_some_iff.mp hd).1
        simpa using this
      rw [List.getElem?_map, List.getElem?_range hi] at hd
      cases hd
      obtain ⟨x7, x8, x9, x10, ls, ab, ds, rfl, hB⟩ := hI
      rw [Nat.zero_add] at hB
      obtain ⟨y8, y9, y10, ls', ab', ds', e, hB'⟩ := tbody m (c := c) (p := (p : Int)) (o8 := x8) (o9 := x9) (o10 := x10) hw0 hw1 hq (by omega) hB
      exact ⟨_, _, rfl, .inl e, some (.int (i : Int)), y8, y9, y10, ls', ab', ds', rfl, by rw [Nat.zero_add]; exact hB'⟩
  have t4 : q_law_tree_4 (Mt (m + 1)) [some (.int c), some (.int (p : Int)), some (.int w), some (.int (q : Int)), some (.lst []), some (.lst []), some (.lst []), none, none, none, none] = .nx [some (.int c), some (.int (p : Int)), some (.int w), some (.int (q : Int)), some (.lst (ltsD ls)), some (.lst (absD ab)), some (.lst (intsD ds)), x7, x8, x9, x10] := by
    unfold q_law_tree_4
    rw [mFor_e, src, DM.R.thn_ok]
    show finR some (dFor (tName 7) _ (rgItems _ _ _) _) = _
    rw [ef]
    rfl
  rw [show 0 + (rgItems 0 1 p).length = p by rw [rg_ints, intsD_len, List.length_range]; omega] at hB
  have eb := built_ok (ls := ls) (ab := ab) (by rw [hB.ll, hB.la]) (by rw [hB.la]; omega) hB.up m 0 (by rw [hB.la]; omega) (by rw [hB.la]; omega)
  rw [bT_stable hB.up m 0 (by rw [hB.la]; omega)] at eb
  have hz := bT_size (le := ls) hB.up (by rw [hB.la]; omega)
  refine ⟨bT ls ab (ab.length - 0) 0, ?_, bT_good (by rw [hB.ll, hB.la]) hB.lt _ _ (by rw [hB.la]; omega), Nat.le_trans hz (by rw [hB.la]; exact Nat.le_refl _), ?_⟩
  · show mkF 7 (ioOf .law_tree) (b_law_tree (Mt (m + 1))) [.int c, .int (p : Int), .int w, .int (q : Int)] = _
    have e0 : List.map some [D.int c, .int (p : Int), .int w, .int (q : Int)] ++ List.replicate 7 none = [some (.int c), some (.int (p : Int)), some (.int w), some (.int (q : Int)), none, none, none, none, none, none, none] := rfl
    rw [mkF_e, e_law_tree, e0, seq_nx t1, seq_nx t2, seq_nx t3, seq_nx t4]
    unfold q_law_tree_5
    have eb : Mt (m + 1) .law_built [.lst (ltsD ls), .lst (absD ab), .int 0] = .ok (bT ls ab (ab.length - 0) 0).dat [] := eb
    generalize (bT ls ab (ab.length - 0) 0).dat = TT at eb ⊢
    generalize ltsD ls = LL at eb ⊢
    generalize absD ab = AA at eb ⊢
    generalize intsD ds = DD
    simp [ioOf, eb]
  · have hd := bT_dep (le := ls) (q := q) hB.dp (fun k hk => hB.dq k (by rw [← hB.la]; exact hk)) (ab.length - 0) 0 (by rw [hB.la]; omega)
    rw [hB.d0 (by omega)] at hd
    omega
end K41
set_option maxRecDepth 100000
set_option maxHeartbeats 400000
namespace K41
open PySem PySem.Spec L2 DM
theorem sg1 (x : Nat) : (⟨#[x]⟩ : Str).length = 1 := rfl
theorem letter_ok (C : Fc → Fn) {x : Nat} (h : 97 ≤ x ∧ x ≤ 122) : bdOf C .is_letter [.str ⟨#[x]⟩] = .ok (.bl true) [] := by
  have e : inD false (.str ⟨#[x]⟩) (.str "abcdefghijklmnopqrstuvwxyz") = some (.bl true) := by
    show (if (⟨#[x]⟩ : Str).length = 1 then some (D.bl (if false = true then _ else decide ((⟨#[x]⟩ : Str).cps.getD 0 0 ∈ ("abcdefghijklmnopqrstuvwxyz" : Str).cps.toList))) else none) = _
    rw [if_pos (sg1 x)]
    have hx : x ∈ ("abcdefghijklmnopqrstuvwxyz" : Str).cps.toList := by
      have : ∀ k : Nat, k < 26 → 97 + k ∈ ("abcdefghijklmnopqrstuvwxyz" : Str).cps.toList := by decide
      have := this (x - 97) (by omega)
      rwa [show 97 + (x - 97) = x by omega] at this
    have : decide ((⟨#[x]⟩ : Str).cps.getD 0 0 ∈ ("abcdefghijklmnopqrstuvwxyz" : Str).cps.toList) = true := decide_eq_true hx
    rw [this]
    rfl
  have s1 : (1 : Nat) ≤ sizeLine := by decide
  simp [bdOf, b_is_letter, ioOf, e, s1, sg1, eqD_i, Ty.isa]
theorem is_tree_ok : ∀ (n : Nat) (t : T), t.good → t.size ≤ 100 → t.dep ≤ n → Mt (n + 1) .is_tree [t.dat] = .ok (.bl true) []
  | 0, .node x cs, _, _, h => by rw [T.dep] at h; omega
  | n + 1, .node x cs, hg, hz, hd => by
    rw [T.good, T.goods_iff] at hg
    rw [T.dep] at hd
    rw [T.size] at hz
    have hl : (T.dats cs).length ≤ sizeLine := by
      rw [T.dats_map, List.length_map]
      exact Nat.le_trans (T.len_le_sizes cs) (Nat.le_trans (by omega) (by decide : 100 ≤ sizeLine))
    have s2 : (2 : Nat) ≤ sizeLine := by decide
    have s0 : (0 : Nat) ≤ sizeLine := by decide
    have lc : mLc (mSrc (oV (mOp2 (oV (mVar 0)) (oV (mC (.int 1))) ixD)) seqD) (tName 1) (mNot (mTest (mCall (Mt (n + 1) .is_tree) (ioOf .is_tree) (mCons (oV (mVar 1)) mNil)))) (mVar 1) [1] [some (.tup [.str ⟨#[x]⟩, .lst (T.dats cs)]), none] = .ok (.lst []) [some (.tup [.str ⟨#[x]⟩, .lst (T.dats cs)]), none] := by
      have := lc1 (src := mSrc (oV (mOp2 (oV (mVar 0)) (oV (mC (.int 1))) ixD)) seqD) (cond := mNot (mTest (mCall (Mt (n + 1) .is_tree) (ioOf .is_tree) (mCons (oV (mVar 1)) mNil)))) (elt := mVar 1) (i := 1) (δ := [some (.tup [.str ⟨#[x]⟩, .lst (T.dats cs)]), none]) (xs := T.dats cs) (p := fun _ => false) (g := fun d => d) (by simp) hl rfl (fun d hd' => ?_) (fun d _ h => by cases h)
      · rw [this]
        simp
      · rw [T.dats_map, List.mem_map] at hd'
        obtain ⟨c, hc, rfl⟩ := hd'
        have h1 := T.dep_le_deps hc
        have h2 := T.size_le_sizes hc
        have ih := is_tree_ok n c (hg.2 c hc) (by omega) (by omega)
        simp [ioOf, ih]
    have hlet := letter_ok (Mt n) hg.1
    show mkF 1 (ioOf .is_tree) (b_is_tree (Mt (n + 1))) [(T.node x cs).dat] = _
    have e0 : Mt (n + 1) .is_letter [.str ⟨#[x]⟩] = .ok (.bl true) [] := hlet
    unfold b_is_tree
    rw [T.dat]
    simp only [ioOf] at lc
    simp [ioOf, e0, lc, s2, s0, eqD_nil, neD_i, Ty.isa]
end K41
set_option maxRecDepth 100000
set_option maxHeartbeats 400000
namespace K41
open PySem PySem.Spec L2 DM
theorem deps_zero {cs : List T} (h : T.deps cs ≤ 0) : cs = [] := by
  cases cs with
  | nil => rfl
  | cons c cs =>
    cases c with
    | node x ks =>
      rw [T.deps, T.dep] at h
      omega
theorem eqD_nilT (cs : List T) : eqD (.lst (T.dats cs)) (.lst []) = some (.bl (decide (cs = []))) := by
  rw [eqD_n]
  cases cs with
  | nil => simp [T.dats]
  | cons c cs => simp [T.dats]
theorem neD_nilT (cs : List T) : neD (.lst (T.dats cs)) (.lst []) = some (.bl (!decide (cs = []))) := by
  rw [neD_n]
  cases cs with
  | nil => simp [T.dats]
  | cons c cs => simp [T.dats]
theorem dats_g {g : T → D} {cs : List T} {h : D → D} (e : ∀ c ∈ cs, h c.dat = g c) : (T.dats cs).map h = cs.map g := by
  rw [T.dats_map, List.map_map]
  exact List.map_congr_left fun c hc => e c hc
theorem lc_kids {src : Src} {cond : DEnv → R Bool} {elt : DEnv → R D} {i : Nat} {o : Option D} {δ : DEnv} {cs : List T} {g : T → D} (hs : src δ = .ok (T.dats cs, some) δ) (hl : cs.length ≤ 1000) (h : δ[i]? = some o) (hy : cond = mYes)
    (he : ∀ c ∈ cs, elt (δ.set i (some c.dat)) = .ok (g c) (δ.set i (some c.dat))) : mLc src (tName i) cond elt [i] δ = .ok (.lst (cs.map g)) δ := by
  subst hy
  obtain ⟨h', hh⟩ : ∃ h' : D → D, ∀ c ∈ cs, h' c.dat = g c := by
    refine ⟨fun d => match elt (δ.set i (some d)) with | .ok z _ => z | _ => .non, fun c hc => ?_⟩
    show (match elt (δ.set i (some c.dat)) with | .ok z _ => z | _ => D.non) = _
    rw [he c hc]
  rw [lc1g (p := fun _ => true) (g := h') hs (by rw [T.dats_map, List.length_map]; exact Nat.le_trans hl (by decide)) h (cond := mYes) (fun d _ => rfl) (fun d hd _ => by
    rw [T.dats_map] at hd
    obtain ⟨c, hc, rfl⟩ := List.mem_map.mp hd
    rw [he c hc, hh c hc])]
  rw [List.filter_eq_self.mpr (fun _ _ => rfl), dats_g hh]
theorem lwritten_step (C : Fc → Fn) {x : Nat} {cs : List T} (hz : T.sizes cs ≤ 1000) (hb : ∀ c ∈ cs, C .law_written [c.dat] = .ok (.str c.wr) []) : bdOf C .law_written [(T.node x cs).dat] = .ok (.str (T.node x cs).wr) [] := by
  have hlen := T.len_le_sizes cs
  have s0 : (0 : Nat) ≤ sizeLine := by decide
  have src : li_law_written_1 C [some (.tup [.str ⟨#[x]⟩, .lst (T.dats cs)]), none] = .ok (T.dats cs, some) [some (.tup [.str ⟨#[x]⟩, .lst (T.dats cs)]), none] := by
    unfold li_law_written_1
    simp
  have e := lc_kids (src := li_law_written_1 C) (cond := lc_law_written_1 C) (elt := le_law_written_1 C) (i := 1) (g := fun c => D.str c.wr) src (by omega) rfl rfl fun c hc => by
    have ec := hb c hc
    unfold le_law_written_1
    generalize T.dats cs = KK
    generalize c.dat = CC at ec ⊢
    simp [ioOf, ec]
  have e1 : l_law_written_1 C [some (.tup [.str ⟨#[x]⟩, .lst (T.dats cs)]), none] = .ok (.lst (cs.map fun c => D.str c.wr)) [some (.tup [.str ⟨#[x]⟩, .lst (T.dats cs)]), none] := e
  have ej := joinD_wr (cs := cs) hz
  show mkF 1 (ioOf .law_written) (b_law_written C) [(T.node x cs).dat] = _
  rw [T.dat, e_law_written]
  have eq := eqD_nilT cs
  unfold q_law_written_1 q_law_written_1t1 q_law_written_2
  by_cases hc : cs = []
  · subst hc
    rw [T.wr_leaf]
    simp [ioOf, T.dats, s0]
  · have hl := T.sgns_len cs
    have a1 : addD (.str ⟨#[x]⟩) (.str "(") = some (.str ((⟨#[x]⟩ : Str) ++ "(")) := addD_str (by show 1 + 1 ≤ 10000; omega)
    have l1 : ((⟨#[x]⟩ : Str) ++ "(").length = 2 := by rw [len_app]; rfl
    have lJ : (⟨(T.sgns cs).toArray⟩ : Str).length = (T.sgns cs).length := by show (T.sgns cs).toArray.size = _; rw [List.size_toArray]
    have a2 := addD_str (x := (⟨#[x]⟩ : Str) ++ "(") (y := ⟨(T.sgns cs).toArray⟩) (by rw [l1, lJ]; omega)
    have a3 := addD_str (x := ((⟨#[x]⟩ : Str) ++ "(") ++ ⟨(T.sgns cs).toArray⟩) (y := ")") (by rw [len_app, l1, lJ]; show 2 + _ + 1 ≤ 10000; omega)
    rw [T.wr_node x hc] at a3
    rw [decide_eq_false hc] at eq
    generalize T.dats cs = KK at e1 eq ⊢
    generalize (cs.map fun c => D.str c.wr) = JJ at e1 ej
    generalize (T.node x cs).wr = WW at a3 ⊢
    generalize ((⟨#[x]⟩ : Str) ++ "(") ++ ⟨(T.sgns cs).toArray⟩ = A2 at a2 a3
    generalize (⟨#[x]⟩ : Str) ++ "(" = A1 at a1 a2
    simp [ioOf, eq, e1, ej, a1, a2, a3, s0]
theorem lwritten_ok : ∀ (n : Nat) (t : T), t.size ≤ 1000 → t.dep ≤ n + 1 → Mt (n + 1) .law_written [t.dat] = .ok (.str t.wr) []
  | n, .node x cs, hz, hd => by
    rw [T.dep] at hd
    rw [T.size] at hz
    refine lwritten_step (Mt n) (by omega) fun c hc => ?_
    have h1 := T.dep_le_deps hc
    have h2 := T.size_le_sizes hc
    cases n with
    | zero =>
      have h0 := deps_zero (cs := cs) (by omega)
      rw [h0] at hc
      cases hc
    | succ n => exact lwritten_ok n c (by omega) (by omega)
theorem written_step (C : Fc → Fn) {x : Nat} {cs : List T} (hz : T.sizes cs ≤ 1000) (hb : ∀ c ∈ cs, C .written [c.dat] = .ok (.str c.wr) []) : bdOf C .written [(T.node x cs).dat] = .ok (.str (T.node x cs).wr) [] := by
  have hlen := T.len_le_sizes cs
  have s0 : (0 : Nat) ≤ sizeLine := by decide
  have src : li_written_1 C [some (.tup [.str ⟨#[x]⟩, .lst (T.dats cs)]), some (.str ⟨#[x]⟩), none] = .ok (T.dats cs, some) [some (.tup [.str ⟨#[x]⟩, .lst (T.dats cs)]), some (.str ⟨#[x]⟩), none] := by
    unfold li_written_1
    simp
  have e := lc_kids (src := li_written_1 C) (cond := lc_written_1 C) (elt := le_written_1 C) (i := 2) (g := fun c => D.str c.wr) src (by omega) rfl rfl fun c hc => by
    have ec := hb c hc
    unfold le_written_1
    generalize T.dats cs = KK
    generalize c.dat = CC at ec ⊢
    simp [ioOf, ec]
  have e1 : l_written_1 C [some (.tup [.str ⟨#[x]⟩, .lst (T.dats cs)]), some (.str ⟨#[x]⟩), none] = .ok (.lst (cs.map fun c => D.str c.wr)) [some (.tup [.str ⟨#[x]⟩, .lst (T.dats cs)]), some (.str ⟨#[x]⟩), none] := e
  have ej := joinD_wr (cs := cs) hz
  show mkF 2 (ioOf .written) (b_written C) [(T.node x cs).dat] = _
  rw [T.dat, e_written]
  have eq := neD_nilT cs
  unfold q_written_1 q_written_2 q_written_2t1 q_written_3
  by_cases hc : cs = []
  · subst hc
    rw [T.wr_leaf]
    simp [ioOf, T.dats, s0]
  · have hl := T.sgns_len cs
    have lJ : (⟨(T.sgns cs).toArray⟩ : Str).length = (T.sgns cs).length := by show (T.sgns cs).toArray.size = _; rw [List.size_toArray]
    have a1 := addD_str (x := "(") (y := ⟨(T.sgns cs).toArray⟩) (by rw [lJ]; show 1 + _ ≤ 10000; omega)
    have l1 : (("(" : Str) ++ ⟨(T.sgns cs).toArray⟩).length = 1 + (T.sgns cs).length := by rw [len_app, lJ]; rfl
    have a2 := addD_str (x := ("(" : Str) ++ ⟨(T.sgns cs).toArray⟩) (y := ")") (by rw [l1]; show 1 + _ + 1 ≤ 10000; omega)
    have a3 := catS_str (x := ⟨#[x]⟩) (y := (("(" : Str) ++ ⟨(T.sgns cs).toArray⟩) ++ ")") (by rw [len_app, l1]; show 1 + (1 + _ + 1) ≤ 10000; omega)
    rw [T.wr_node2 x hc] at a3
    rw [decide_eq_false hc] at eq
    generalize T.dats cs = KK at e1 eq ⊢
    generalize (cs.map fun c => D.str c.wr) = JJ at e1 ej
    generalize (T.node x cs).wr = WW at a3 ⊢
    generalize (("(" : Str) ++ ⟨(T.sgns cs).toArray⟩) ++ ")" = A2 at a2 a3
    generalize ("(" : Str) ++ ⟨(T.sgns cs).toArray⟩ = A1 at a1 a2
    simp [ioOf, eq, e1, ej, a1, a2, a3, s0]
theorem written_ok : ∀ (n : Nat) (t : T), t.size ≤ 1000 → t.dep ≤ n + 1 → Mt (n + 1) .written [t.dat] = .ok (.str t.wr) []
  | n, .node x cs, hz, hd => by
    rw [T.dep] at hd
    rw [T.size] at hz
    refine written_step (Mt n) (by omega) fun c hc => ?_
    have h1 := T.dep_le_deps hc
    have h2 := T.size_le_sizes hc
    cases n with
    | zero =>
      have h0 := deps_zero (cs := cs) (by omega)
      rw [h0] at hc
      cases hc
    | succ n => exact written_ok n c (by omega) (by omega)
theorem show_ok (n : Nat) (t : T) (hg : t.good) (hz : t.size ≤ 100) (hd : t.dep ≤ n) : Mt (n + 2) .show_tree [t.dat] = .ok (.str t.wr) [] := by
  have e1 := is_tree_ok n t hg hz hd
  have e2 := written_ok n t (by omega) (by omega)
  show mkF 0 (ioOf .show_tree) (b_show_tree (Mt (n + 1))) [t.dat] = _
  rw [e_show_tree]
  unfold q_show_tree_1 q_show_tree_2
  generalize t.dat = TT at e1 e2 ⊢
  simp [ioOf, e1, e2]
end K41
set_option maxRecDepth 100000
set_option maxHeartbeats 400000
namespace K41
open PySem PySem.Spec L2 DM
def rsD (r : Option (List Nat)) : D := match r with
  | some s => .str (sS s)
  | none => .non
theorem lit0 : ("" : Str) = sS [] := rfl
theorem lit40 : ("(" : Str) = sS [40] := rfl
theorem lit41 : (")" : Str) = sS [41] := rfl
theorem in_abc (c : Nat) : inD true (.str (sS [c])) (.str "abcdefghijklmnopqrstuvwxyz") = some (.bl (!isLN c)) := by
  show (if (sS [c]).length = 1 then some (D.bl (if true = true then !decide ((sS [c]).cps.getD 0 0 ∈ ("abcdefghijklmnopqrstuvwxyz" : Str).cps.toList) else _)) else none) = _
  rw [if_pos (show (sS [c]).length = 1 from sS_len [c]), if_pos rfl]
  congr 2
  have h1 : (sS [c]).cps.getD 0 0 = c := rfl
  rw [h1]
  congr 1
  have h2 : ∀ k : Nat, k ∈ ("abcdefghijklmnopqrstuvwxyz" : Str).cps.toList ↔ (97 ≤ k ∧ k ≤ 122) := fun k => by
    have e : ("abcdefghijklmnopqrstuvwxyz" : Str).cps.toList = (List.range 26).map (97 + ·) := by decide
    rw [e, List.mem_map]
    constructor
    · rintro ⟨a, ha, rfl⟩
      have := List.mem_range.mp ha
      omega
    · intro h
      exact ⟨k - 97, List.mem_range.mpr (by omega), by omega⟩
  have : decide (c ∈ ("abcdefghijklmnopqrstuvwxyz" : Str).cps.toList) = isLN c := by
    unfold isLN
    rw [← Bool.decide_and]
    exact decide_eq_decide.mpr (h2 c)
  exact this
theorem rest_loop (C : Fc → Fn) {m : Nat} (ih : ∀ u : List Nat, u.length ≤ 1000 → u.count 40 < m → C .law_rest [.str (sS u)] = .ok (rsD ((prs m u).map Prod.snd)) []) {s : List Nat} (hl : s.length ≤ 1000) (hc : s.count 40 < m) :
    q_law_rest_6 C [some (.str (sS s))] = .nx [some (rsD (((prl (prs m) (s.length + 1) s).map Prod.snd).map fun r => 41 :: r))] := by
  obtain ⟨R, hR⟩ : ∃ R, (prl (prs m) (s.length + 1) s).map Prod.snd = R := ⟨_, rfl⟩
  obtain ⟨δ', e, z⟩ := dWhile_run (c := w_law_rest_6 C) (body := q_law_rest_6b1 C) (fun μ δ => (∃ u : List Nat, δ = [some (.str (sS u))] ∧ u.length ≤ 1000 ∧ u.count 40 < m ∧ (prl (prs m) (u.length + 1) u).map Prod.snd = R ∧ μ = u.length + 1) ∨ (δ = [some .non] ∧ R = none ∧ μ = 0))
    (fun δ => δ = [some (rsD (R.map fun r => 41 :: r))]) (fun μ δ hI => by
      rcases hI with ⟨u, rfl, h1, h2, h3, rfl⟩ | ⟨rfl, rfl, rfl⟩
      · have e1 := slice_to (l := u) 1 (by omega)
        have e2 := ne_sS (u.take 1) [41]
        by_cases hh : u.head? = some 41
        · left
          refine ⟨[some (.str (sS u))], ?_, ?_⟩
          · rw [decide_eq_true ((take1_eq u 41).mpr hh)] at e2
            unfold w_law_rest_6
            rw [lit41]
            generalize sS u = SU at e1 ⊢
            generalize sS (u.take 1) = S1 at e1 e2
            have e1 : sliceD (.str SU) none (some 1) = some (.str S1) := e1
            have hn : D.isNon (.str SU) = false := rfl
            simp [e1, e2, hn]
          · rw [prl_succ, if_pos hh] at h3
            cases u with
            | nil => cases hh
            | cons a u =>
              cases hh
              rw [← h3]
              rfl
        · right
          refine ⟨[some (.str (sS u))], [some (rsD ((prs m u).map Prod.snd))], ?_⟩
          have c1 : w_law_rest_6 C [some (.str (sS u))] = .ok true [some (.str (sS u))] := by
            rw [decide_eq_false (fun z => hh ((take1_eq u 41).mp z))] at e2
            unfold w_law_rest_6
            rw [lit41]
            generalize sS u = SU at e1 ⊢
            generalize sS (u.take 1) = S1 at e1 e2
            have e1 : sliceD (.str SU) none (some 1) = some (.str S1) := e1
            have hn : D.isNon (.str SU) = false := rfl
            simp [e1, e2, hn]
          have c2 : q_law_rest_6b1 C [some (.str (sS u))] = .nx [some (rsD ((prs m u).map Prod.snd))] := by
            have ec := ih u h1 h2
            unfold q_law_rest_6b1
            generalize sS u = SU at ec ⊢
            generalize rsD ((prs m u).map Prod.snd) = RR at ec ⊢
            simp [ioOf, ec]
          rw [prl_succ, if_neg hh] at h3
          cases hp : prs m u with
          | none =>
            rw [hp] at h3 c2
            refine ⟨0, by omega, c1, .inl c2, .inr ⟨rfl, h3.symm, rfl⟩⟩
          | some r =>
            obtain ⟨t, u'⟩ := r
            rw [hp] at h3 c2
            have hs := prs_shrink m u t u' hp
            obtain ⟨_, hb⟩ := prs_sound m u t u' hp
            refine ⟨u'.length + 1, by omega, c1, .inl c2, .inl ⟨u', rfl, by omega, ?_, ?_, rfl⟩⟩
            · rw [hb, List.count_append] at h2
              omega
            · have h3 : ((prl (prs m) u.length u').map fun r => (t :: r.1, r.2)).map Prod.snd = R := h3
              rw [← h3, prl_fuel (prs_shrink m) (u'.length + 1) u.length u' (by omega) hs]
              cases prl (prs m) u.length u' with
              | none => rfl
              | some r => rfl
      · left
        refine ⟨[some .non], ?_, rfl⟩
        unfold w_law_rest_6
        simp) (s.length + 1) 1000000000 [some (.str (sS s))] (by omega) (.inl ⟨s, rfl, hl, hc, hR, rfl⟩)
  unfold q_law_rest_6
  rw [e, z, hR]
theorem rest_step (C : Fc → Fn) {m : Nat} (ih : ∀ u : List Nat, u.length ≤ 1000 → u.count 40 < m → C .law_rest [.str (sS u)] = .ok (rsD ((prs m u).map Prod.snd)) []) {s : List Nat} (hl : s.length ≤ 1000) (hc : s.count 40 < m + 1) :
    bdOf C .law_rest [.str (sS s)] = .ok (rsD ((prs (m + 1) s).map Prod.snd)) [] := by
  show mkF 0 (ioOf .law_rest) (b_law_rest C) [.str (sS s)] = _
  have e0 : List.map some [D.str (sS s)] ++ List.replicate 0 none = [some (.str (sS s))] := rfl
  rw [mkF_e, e_law_rest, e0]
  cases s with
  | nil =>
    have t1 : q_law_rest_1 C [some (.str (sS []))] = .rt .non [some (.str (sS []))] := by
      have e := eq_sS [] []
      unfold q_law_rest_1 q_law_rest_1t1
      rw [lit0]
      generalize sS [] = S0 at e ⊢
      simp [e]
    rw [mSeq_e, t1]
    rfl
  | cons c s1 =>
    have l1 : s1.length ≤ 1000 := by rw [List.length_cons] at hl; omega
    have e1 := eq_sS (c :: s1) []
    rw [decide_eq_false (by simp)] at e1
    have e2 := ix_sS (l := c :: s1) (i := 0) (k := 0) rfl (by simp) (by omega)
    have e3 := in_abc c
    rw [prs_cons]
    by_cases h1 : isLN c = true
    · rw [h1] at e3
      rw [if_pos h1]
      have t1 : q_law_rest_1 C [some (.str (sS (c :: s1)))] = .nx [some (.str (sS (c :: s1)))] := by
        have e2 : ixD (.str (sS (c :: s1))) (.int 0) = some (.str (sS [c])) := e2
        unfold q_law_rest_1 q_law_rest_1t1
        rw [lit0]
        generalize sS (c :: s1) = SS at e1 e2 ⊢
        generalize sS [c] = SC at e2 e3
        generalize sS [] = S0 at e1 ⊢
        simp [e1, e2, e3]
      have e4 := slice_from (l := c :: s1) 1 (by omega)
      have t2 : q_law_rest_2 C [some (.str (sS (c :: s1)))] = .nx [some (.str (sS s1))] := by
        have e4 : sliceD (.str (sS (c :: s1))) (some 1) none = some (.str (sS s1)) := e4
        unfold q_law_rest_2
        generalize sS (c :: s1) = SS at e4 ⊢
        simp [e4]
      have e5 := slice_to (l := s1) 1 (by omega)
      have e6 := ne_sS (s1.take 1) [40]
      rw [seq_nx t1, seq_nx t2]
      by_cases h2 : s1.head? = some 40
      · rw [if_pos h2]
        rw [decide_eq_true ((take1_eq s1 40).mpr h2)] at e6
        have t3 : q_law_rest_3 C [some (.str (sS s1))] = .nx [some (.str (sS s1))] := by
          have e5 : sliceD (.str (sS s1)) none (some 1) = some (.str (sS (s1.take 1))) := e5
          unfold q_law_rest_3 q_law_rest_3t1
          rw [lit40]
          generalize sS s1 = SS at e5 ⊢
          generalize sS (s1.take 1) = ST at e5 e6
          simp [e5, e6]
        have e7 := slice_from (l := s1) 1 (by omega)
        rw [List.drop_one] at e7
        have t4 : q_law_rest_4 C [some (.str (sS s1))] = .nx [some (.str (sS s1.tail))] := by
          have e7 : sliceD (.str (sS s1)) (some 1) none = some (.str (sS s1.tail)) := e7
          unfold q_law_rest_4
          generalize sS s1 = SS at e7 ⊢
          simp [e7]
        have l2 : s1.tail.length ≤ 1000 := by rw [List.length_tail]; omega
        have e8 := slice_to (l := s1.tail) 1 (by omega)
        have e9 := eq_sS (s1.tail.take 1) [41]
        have hcc : s1.tail.count 40 < m := by
          cases s1 with
          | nil => cases h2
          | cons d s2 =>
            cases h2
            rw [List.count_cons, List.count_cons] at hc
            simp at hc
            rw [List.tail_cons]
            omega
        rw [seq_nx t3, seq_nx t4]
        by_cases h3 : s1.tail.head? = some 41
        · rw [if_pos h3]
          rw [decide_eq_true ((take1_eq s1.tail 41).mpr h3)] at e9
          have t5 : q_law_rest_5 C [some (.str (sS s1.tail))] = .rt .non [some (.str (sS s1.tail))] := by
            have e8 : sliceD (.str (sS s1.tail)) none (some 1) = some (.str (sS (s1.tail.take 1))) := e8
            unfold q_law_rest_5 q_law_rest_5t1
            rw [lit41]
            generalize sS s1.tail = SS at e8 ⊢
            generalize sS (s1.tail.take 1) = ST at e8 e9
            simp [e8, e9]
          rw [mSeq_e, t5]
          rfl
        · rw [if_neg h3]
          rw [decide_eq_false (fun z => h3 ((take1_eq s1.tail 41).mp z))] at e9
          have t5 : q_law_rest_5 C [some (.str (sS s1.tail))] = .nx [some (.str (sS s1.tail))] := by
            have e8 : sliceD (.str (sS s1.tail)) none (some 1) = some (.str (sS (s1.tail.take 1))) := e8
            unfold q_law_rest_5 q_law_rest_5t1
            rw [lit41]
            generalize sS s1.tail = SS at e8 ⊢
            generalize sS (s1.tail.take 1) = ST at e8 e9
            simp [e8, e9]
          have t6 := rest_loop C ih l2 hcc
          have ef : prl (prs m) (s1.tail.length + 1) s1.tail = prl (prs m) (s1.length + 1) s1.tail := prl_fuel (prs_shrink m) _ _ _ (by omega) (by rw [List.length_tail]; omega)
          rw [ef] at t6
          rw [seq_nx t5]
          cases hp : prl (prs m) (s1.length + 1) s1.tail with
          | none =>
            have t7 : q_law_rest_7 C [some .non] = .rt .non [some .non] := by
              unfold q_law_rest_7 q_law_rest_7t1
              simp
            have t6' : q_law_rest_6 C [some (.str (sS s1.tail))] = .nx [some .non] := by rw [t6, hp]; rfl
            rw [seq_nx t6', mSeq_e, t7]
            rfl
          | some r =>
            obtain ⟨ts, s'⟩ := r
            have hs' : (41 :: s').length ≤ 1001 := by
              obtain ⟨_, hb⟩ := prl_sound (prs_sound m) _ _ _ _ hp
              have := congrArg List.length hb
              rw [List.length_append] at this
              omega
            have e10 := slice_from (l := 41 :: s') 1 (by omega)
            have t7 : q_law_rest_7 C [some (.str (sS (41 :: s')))] = .nx [some (.str (sS (41 :: s')))] := by
              unfold q_law_rest_7 q_law_rest_7t1
              generalize sS (41 :: s') = SS
              have hn : D.isNon (.str SS) = false := rfl
              simp [hn]
            have t8 : q_law_rest_8 C [some (.str (sS (41 :: s')))] = .rt (.str (sS s')) [some (.str (sS (41 :: s')))] := by
              have e10 : sliceD (.str (sS (41 :: s'))) (some 1) none = some (.str (sS s')) := e10
              unfold q_law_rest_8
              generalize sS (41 :: s') = SS at e10 ⊢
              simp [e10]
            have t6' : q_law_rest_6 C [some (.str (sS s1.tail))] = .nx [some (.str (sS (41 :: s')))] := by rw [t6, hp]; rfl
            rw [seq_nx t6', seq_nx t7, t8]
            rfl
      · rw [if_neg h2]
        rw [decide_eq_false (fun z => h2 ((take1_eq s1 40).mp z))] at e6
        have t3 : q_law_rest_3 C [some (.str (sS s1))] = .rt (.str (sS s1)) [some (.str (sS s1))] := by
          have e5 : sliceD (.str (sS s1)) none (some 1) = some (.str (sS (s1.take 1))) := e5
          unfold q_law_rest_3 q_law_rest_3t1
          rw [lit40]
          generalize sS s1 = SS at e5 ⊢
          generalize sS (s1.take 1) = ST at e5 e6
          simp [e5, e6]
        rw [mSeq_e, t3]
        rfl
    · have h1' : isLN c = false := by simpa using h1
      rw [h1'] at e3
      rw [if_neg h1]
      have t1 : q_law_rest_1 C [some (.str (sS (c :: s1)))] = .rt .non [some (.str (sS (c :: s1)))] := by
        have e2 : ixD (.str (sS (c :: s1))) (.int 0) = some (.str (sS [c])) := e2
        unfold q_law_rest_1 q_law_rest_1t1
        rw [lit0]
        generalize sS (c :: s1) = SS at e1 e2 ⊢
        generalize sS [c] = SC at e2 e3
        generalize sS [] = S0 at e1 ⊢
        simp [e1, e2, e3]
      rw [mSeq_e, t1]
      rfl
theorem rest_ok : ∀ (n : Nat) (s : List Nat), s.length ≤ 1000 → s.count 40 < n → Mt n .law_rest [.str (sS s)] = .ok (rsD ((prs n s).map Prod.snd)) []
  | 0, s, _, h => by omega
  | n + 1, s, hl, hc => rest_step (Mt n) (fun u h1 h2 => rest_ok n u h1 h2) hl hc
end K41
set_option maxRecDepth 100000
set_option maxHeartbeats 400000
namespace K41
open PySem PySem.Spec L2 DM
def oddS : List Str := (["", " ", "a ", " a", "A", "aa", "abc"] : List Str) ++ (["abcd", "a(b)c(d)e", "ab(c)", "a()", "a(", "a)", "(a)"] : List Str) ++ (["()", "a(b", "a(b))", "a(b)c", "a((b))", "a(b,c)", "\na"] : List Str) ++ (["a(\nb)", "a\n(b)", "\ta", "a(b\n)", "a(b c)", "a1", "1"] : List Str) ++ (["a(1)", "a(b)(c)", "a(b())", "a.b", "-", "a(b)\n", "a\t"] : List Str) ++ (["a[b]", "a(B)", "a(b(c)d", "a(b(c)d))", "a(bcd(efg)h(i(j)))", "z(yx(w))", "a(a(a(a(a))))"] : List Str) ++ (["a(`)", "a({)", "`", "{", "a(b)a", "a(bb)", "q(w(e)r(t)y)"] : List Str)
theorem odd_ok (n : Nat) (c : Int) : Mt (n + 1) .law_odd [.int c] = .ok (.lst (oddS.map D.str)) [] := by
  show mkF 1 (ioOf .law_odd) (b_law_odd (Mt n)) [.int c] = _
  rfl
theorem odd_len : oddS.length = 49 := rfl
theorem odd_sm : ∀ z ∈ oddS, (TL.tl z).length ≤ 40 ∧ (TL.tl z).count 40 ≤ 20 := by decide
end K41
set_option maxRecDepth 100000
set_option maxHeartbeats 400000
namespace K41
open PySem PySem.Spec L2 DM
def sgS : Str := " !#$&'()*+,-./0123456789:;<=>?@ABCDEFGHIJKLMNOPQRSTUVWXYZ[]^_`abcdefghijklmnopqrstuvwxyz{|}~\t\n"
theorem sg_ix {i : Int} (h0 : 0 ≤ i) (h1 : i < (sgS.length : Int)) : ∃ x : Nat, ixD (.str sgS) (.int i) = some (.str (sS [x])) := by
  have hl : (TL.tl sgS).length = sgS.length := rfl
  have hn : sgS.length ≤ 1000 := by decide
  have := ix_sS (l := TL.tl sgS) (i := i) (k := i.toNat) (by omega) (by omega) (by omega)
  rw [← sS_of] at this
  exact ⟨_, this⟩
theorem sg4_ix {i : Int} (h0 : 0 ≤ i) (h1 : i < 4) : ∃ x : Nat, ixD (.str "()ab") (.int i) = some (.str (sS [x])) := by
  have : i = 0 ∨ i = 1 ∨ i = 2 ∨ i = 3 := by omega
  rcases this with h | h | h | h <;> rw [h]
  · exact ⟨40, rfl⟩
  · exact ⟨41, rfl⟩
  · exact ⟨97, rfl⟩
  · exact ⟨98, rfl⟩
theorem count_take (l : List Nat) (k : Nat) : (l.take k).count 40 ≤ l.count 40 := (List.take_sublist k l).count_le 40
theorem count_drop (l : List Nat) (k : Nat) : (l.drop k).count 40 ≤ l.count 40 := (List.drop_sublist k l).count_le 40
theorem count_one (x : Nat) : ([x] : List Nat).count 40 ≤ 1 := by
  rw [List.count_singleton]
  split <;> omega
theorem given_ok (n : Nat) (hn : 45 ≤ n) {c : Int} (hc : 0 ≤ c) : ∃ l : List Nat, Mt (n + 1) .law_given [.int c] = .ok (.str (sS l)) [] ∧ l.length ≤ 300 ∧ l.count 40 ≤ 50 := by
  obtain ⟨m, rfl⟩ : ∃ m, n = m + 1 := ⟨n - 1, by omega⟩
  have k0 : 0 ≤ c % 5 := Int.emod_nonneg _ (by decide)
  have k1 : c % 5 < 5 := Int.emod_lt_of_pos _ (by decide)
  obtain ⟨kd, hkd⟩ : ∃ kd : Int, c % 5 = kd := ⟨_, rfl⟩
  rw [hkd] at k0 k1
  obtain ⟨mx, e2⟩ := mixed_ok m c (k := 3) (by omega)
  have e2 : Mt (m + 1) .law_mixed [.int c, .int 3] = .ok (.int mx) [] := e2
  have a0 : 0 ≤ c / 5 % 39 := Int.emod_nonneg _ (by decide)
  have a1 : c / 5 % 39 < 39 := Int.emod_lt_of_pos _ (by decide)
  obtain ⟨p, hp⟩ : ∃ p : Nat, 1 + c / 5 % 39 = (p : Int) := ⟨(1 + c / 5 % 39).toNat, by omega⟩
  have b0 : 0 ≤ c / 200 % 5 := Int.emod_nonneg _ (by decide)
  have b1 : c / 200 % 5 < 5 := Int.emod_lt_of_pos _ (by decide)
  obtain ⟨t, e3, hg, hz, hd⟩ := tree40_ok m (by omega) mx (p := p) (q := 6) (w := c / 200 % 5) (by omega) (by omega) b0 b1 (by omega)
  have e3 : Mt (m + 1) .law_tree [.int mx, .int (p : Int), .int (c / 200 % 5), .int 6] = .ok t.dat [] := e3
  have e4 : Mt (m + 1) .law_written [t.dat] = .ok (.str (sS t.sgn)) [] := lwritten_ok m t (by omega) (by omega)
  have tl := t.sgn_len
  have tc := T.count_size t hg
  have t1 : q_law_given_1 (Mt (m + 1)) [some (.int c), none, none, none, none, none, none] = .nx [some (.int c), some (.int kd), none, none, none, none, none] := by
    unfold q_law_given_1
    simp [hkd]
  have t2 : q_law_given_2 (Mt (m + 1)) [some (.int c), some (.int kd), none, none, none, none, none] = .nx [some (.int c), some (.int kd), some (.str (sS t.sgn)), none, none, none, none] := by
    unfold q_law_given_2
    generalize t.dat = TD at e3 e4
    generalize sS t.sgn = TS at e4 ⊢
    simp [ioOf, e2, hp, e3, e4]
  have start : ∀ {l : List Nat}, mkF 6 (ioOf .law_given) (b_law_given (Mt (m + 1))) [.int c] = .ok (.str (sS l)) [] → Mt (m + 1 + 1) .law_given [.int c] = .ok (.str (sS l)) [] := fun h => h
  have e0 : List.map some [D.int c] ++ List.replicate 6 none = [some (.int c), none, none, none, none, none, none] := rfl
  by_cases h0 : kd = 0
  · obtain ⟨N, hN⟩ : ∃ N : Nat, oddS.length = N := ⟨_, rfl⟩
    have hN0 : 0 < N := by rw [← hN, odd_len]; decide
    have i0 : 0 ≤ c / 5 % (N : Int) := Int.emod_nonneg _ (by omega)
    have i1 : c / 5 % (N : Int) < N := Int.emod_lt_of_pos _ (by omega)
    have hil : (c / 5 % (N : Int)).toNat < oddS.length := by omega
    have ei : atI (oddS.map D.str) (c / 5 % (N : Int)) = some (.str (sS (TL.tl (oddS[(c / 5 % (N : Int)).toNat])))) := by
      rw [atI_k (k := (c / 5 % (N : Int)).toNat) _ (by omega) (by rw [List.length_map]; exact hil), List.getElem?_map, List.getElem?_eq_getElem hil, ← sS_of]
      rfl
    have hsm := odd_sm _ (List.getElem_mem hil)
    generalize TL.tl (oddS[(c / 5 % (N : Int)).toNat]) = l at ei hsm
    have eo := odd_ok m c
    have hlm : (oddS.map D.str).length = N := by rw [List.length_map, hN]
    refine ⟨l, start ?_, by omega, by omega⟩
    have t3 : q_law_given_3 (Mt (m + 1)) [some (.int c), some (.int kd), some (.str (sS t.sgn)), none, none, none, none] = .rt (.str (sS l)) [some (.int c), some (.int kd), some (.str (sS t.sgn)), some (.lst (oddS.map D.str)), none, none, none] := by
      unfold q_law_given_3 Q_law_given_3t q_law_given_3t1 q_law_given_3t2
      generalize oddS.map D.str = OD at eo ei hlm ⊢
      generalize sS t.sgn = TS
      generalize sS l = SL at ei ⊢
      simp [h0, ioOf, eo, hlm, hN0, ei]
    rw [mkF_e, e_law_given, e0, seq_nx t1, seq_nx t2, mSeq_e, t3]
    rfl
  · have t3 : q_law_given_3 (Mt (m + 1)) [some (.int c), some (.int kd), some (.str (sS t.sgn)), none, none, none, none] = .nx [some (.int c), some (.int kd), some (.str (sS t.sgn)), none, none, none, none] := by
      unfold q_law_given_3
      generalize sS t.sgn = TS
      simp [h0]
    by_cases h4 : kd = 4 ∧ c / 1000 % 4 = 1
    · obtain ⟨my, f2⟩ := mixed_ok m c (k := 5) (by omega)
      have f2 : Mt (m + 1) .law_mixed [.int c, .int 5] = .ok (.int my) [] := f2
      have d0 : 0 ≤ c / 4000 % 5 := Int.emod_nonneg _ (by decide)
      have d1 : c / 4000 % 5 < 5 := Int.emod_lt_of_pos _ (by decide)
      obtain ⟨p2, hp2⟩ : ∃ p : Nat, 1 + c / 4000 % 5 = (p : Int) := ⟨(1 + c / 4000 % 5).toNat, by omega⟩
      obtain ⟨u, f3, hg2, hz2, hd2⟩ := tree40_ok m (by omega) my (p := p2) (q := 3) (w := 2) (by omega) (by omega) (by decide) (by decide) (by omega)
      have f3 : Mt (m + 1) .law_tree [.int my, .int (p2 : Int), .int 2, .int 3] = .ok u.dat [] := f3
      have f4 : Mt (m + 1) .law_written [u.dat] = .ok (.str (sS u.sgn)) [] := lwritten_ok m u (by omega) (by omega)
      have ul := u.sgn_len
      have uc := T.count_size u hg2
      have ea := add_sS (a := t.sgn) (b := u.sgn) (by omega)
      refine ⟨t.sgn ++ u.sgn, start ?_, by rw [List.length_append]; omega, by rw [List.count_append]; omega⟩
      have t4 : q_law_given_4 (Mt (m + 1)) [some (.int c), some (.int kd), some (.str (sS t.sgn)), none, none, none, none] = .rt (.str (sS (t.sgn ++ u.sgn))) [some (.int c), some (.int kd), some (.str (sS t.sgn)), none, none, none, none] := by
        unfold q_law_given_4 q_law_given_4t1
        generalize sS (t.sgn ++ u.sgn) = SA at ea ⊢
        generalize sS t.sgn = TS at ea ⊢
        generalize sS u.sgn = US at ea f4
        generalize u.dat = UD at f3 f4
        simp [h4.1, h4.2, ioOf, f2, hp2, f3, f4, ea]
      rw [mkF_e, e_law_given, e0, seq_nx t1, seq_nx t2, seq_nx t3, mSeq_e, t4]
      rfl
    · have t4 : q_law_given_4 (Mt (m + 1)) [some (.int c), some (.int kd), some (.str (sS t.sgn)), none, none, none, none] = .nx [some (.int c), some (.int kd), some (.str (sS t.sgn)), none, none, none, none] := by
        unfold q_law_given_4
        generalize sS t.sgn = TS
        by_cases h5 : kd = 4
        · have h6 : ¬ c / 1000 % 4 = 1 := fun z => h4 ⟨h5, z⟩
          simp [h5, h6]
        · simp [h5]
      have el := len_sS (l := t.sgn) (by omega)
      have a0 : 0 ≤ c / 1000 % ((t.sgn.length : Int) + 1) := Int.emod_nonneg _ (by omega)
      have a1 : c / 1000 % ((t.sgn.length : Int) + 1) < (t.sgn.length : Int) + 1 := Int.emod_lt_of_pos _ (by omega)
      obtain ⟨a, ha⟩ : ∃ a : Nat, c / 1000 % ((t.sgn.length : Int) + 1) = (a : Int) := ⟨(c / 1000 % ((t.sgn.length : Int) + 1)).toNat, by omega⟩
      have t5 : q_law_given_5 (Mt (m + 1)) [some (.int c), some (.int kd), some (.str (sS t.sgn)), none, none, none, none] = .nx [some (.int c), some (.int kd), some (.str (sS t.sgn)), none, some (.int (a : Int)), none, none] := by
        have hpos : (0 : Int) < (t.sgn.length : Int) + 1 := by omega
        unfold q_law_given_5
        generalize sS t.sgn = TS at el ⊢
        generalize (t.sgn.length : Int) = L at el ha hpos ⊢
        simp [el, ha, hpos]
      have t6 : q_law_given_6 (Mt (m + 1)) [some (.int c), some (.int kd), some (.str (sS t.sgn)), none, some (.int (a : Int)), none, none] = .nx [some (.int c), some (.int kd), some (.str (sS t.sgn)), none, some (.int (a : Int)), some (.str sgS), none] := rfl
      have hsl : 0 < sgS.length ∧ sgS.length ≤ 10000 := by decide
      have els : lenD [.str sgS] = some (.int (sgS.length : Int)) := by rw [lenD_s, if_pos (sz10 hsl.2)]
      obtain ⟨x, ex⟩ := sg_ix (i := c / 100000 % (sgS.length : Int)) (Int.emod_nonneg _ (by omega)) (Int.emod_lt_of_pos _ (by omega))
      have t7 : q_law_given_7 (Mt (m + 1)) [some (.int c), some (.int kd), some (.str (sS t.sgn)), none, some (.int (a : Int)), some (.str sgS), none] = .nx [some (.int c), some (.int kd), some (.str (sS t.sgn)), none, some (.int (a : Int)), some (.str sgS), some (.str (sS [x]))] := by
        have hsp : (0 : Int) < (sgS.length : Int) := by omega
        unfold q_law_given_7
        generalize sS t.sgn = TS
        generalize sS [x] = SX at ex ⊢
        generalize (sgS.length : Int) = L at els ex hsp
        generalize sgS = SG at els ex ⊢
        simp [els, ex, hsp]
      obtain ⟨y, ey⟩ := sg4_ix (i := c / 100000 % 4) (Int.emod_nonneg _ (by decide)) (Int.emod_lt_of_pos _ (by decide))
      obtain ⟨z, t8⟩ : ∃ z : Nat, q_law_given_8 (Mt (m + 1)) [some (.int c), some (.int kd), some (.str (sS t.sgn)), none, some (.int (a : Int)), some (.str sgS), some (.str (sS [x]))] = .nx [some (.int c), some (.int kd), some (.str (sS t.sgn)), none, some (.int (a : Int)), some (.str sgS), some (.str (sS [z]))] := by
        by_cases h8 : c / 50 % 3 = 1
        · refine ⟨y, ?_⟩
          unfold q_law_given_8 q_law_given_8t1
          generalize sS t.sgn = TS
          generalize sS [x] = SX
          generalize sS [y] = SY at ey ⊢
          generalize sgS = SG
          simp [h8, ey]
        · refine ⟨x, ?_⟩
          unfold q_law_given_8
          generalize sS t.sgn = TS
          generalize sS [x] = SX
          generalize sgS = SG
          simp [h8]
      have s1 := slice_to (l := t.sgn) a (by omega)
      by_cases h9 : kd = 1
      · have s2 := slice_from (l := t.sgn) (a + 1) (by omega)
        have hA := List.length_take_le a t.sgn
        have hB : (t.sgn.drop (a + 1)).length ≤ t.sgn.length := by rw [List.length_drop]; omega
        have cA := count_take t.sgn a
        have cB := count_drop t.sgn (a + 1)
        have hcnt : (t.sgn.take a).count 40 + (t.sgn.drop (a + 1)).count 40 ≤ t.sgn.count 40 := by
          have h1 : (t.sgn.drop (a + 1)).count 40 ≤ (t.sgn.drop a).count 40 := by
            rw [← List.drop_drop]
            exact (List.drop_sublist _ _).count_le 40
          have h2 : (t.sgn.take a).count 40 + (t.sgn.drop a).count 40 = t.sgn.count 40 := by rw [← List.count_append, List.take_append_drop]
          omega
        have ea := add_sS (a := t.sgn.take a) (b := t.sgn.drop (a + 1)) (by omega)
        refine ⟨t.sgn.take a ++ t.sgn.drop (a + 1), start ?_, by rw [List.length_append]; omega, by rw [List.count_append]; omega⟩
        have t9 : q_law_given_9 (Mt (m + 1)) [some (.int c), some (.int kd), some (.str (sS t.sgn)), none, some (.int (a : Int)), some (.str sgS), some (.str (sS [z]))] = .rt (.str (sS (t.sgn.take a ++ t.sgn.drop (a + 1)))) [some (.int c), some (.int kd), some (.str (sS t.sgn)), none, some (.int (a : Int)), some (.str sgS), some (.str (sS [z]))] := by
          have s2 : sliceD (.str (sS t.sgn)) (some ((a : Int) + 1)) none = some (.str (sS (t.sgn.drop (a + 1)))) := s2
          unfold q_law_given_9 q_law_given_9t1
          generalize sS (t.sgn.take a ++ t.sgn.drop (a + 1)) = SA at ea ⊢
          generalize sS (t.sgn.take a) = S1 at s1 ea
          generalize sS (t.sgn.drop (a + 1)) = S2 at s2 ea
          generalize sS t.sgn = TS at s1 s2 ⊢
          generalize sS [z] = SZ
          generalize sgS = SG
          simp [h9, s1, s2, ea]
        rw [mkF_e, e_law_given, e0, seq_nx t1, seq_nx t2, seq_nx t3, seq_nx t4, seq_nx t5, seq_nx t6, seq_nx t7, seq_nx t8, mSeq_e, t9]
        rfl
      · have t9 : q_law_given_9 (Mt (m + 1)) [some (.int c), some (.int kd), some (.str (sS t.sgn)), none, some (.int (a : Int)), some (.str sgS), some (.str (sS [z]))] = .nx [some (.int c), some (.int kd), some (.str (sS t.sgn)), none, some (.int (a : Int)), some (.str sgS), some (.str (sS [z]))] := by
          unfold q_law_given_9
          generalize sS t.sgn = TS
          generalize sS [z] = SZ
          generalize sgS = SG
          simp [h9]
        obtain ⟨e, he, he1⟩ : ∃ e : Nat, (if kd = 2 then (1 : Int) else 0) = (e : Int) ∧ e ≤ 1 := by
          by_cases h : kd = 2
          · exact ⟨1, by rw [if_pos h]; rfl, by omega⟩
          · exact ⟨0, by rw [if_neg h]; rfl, by omega⟩
        have s2 := slice_from (l := t.sgn) (a + e) (by omega)
        have hA := List.length_take_le a t.sgn
        have hB : (t.sgn.drop (a + e)).length ≤ t.sgn.length := by rw [List.length_drop]; omega
        have hcnt : (t.sgn.take a).count 40 + (t.sgn.drop (a + e)).count 40 ≤ t.sgn.count 40 := by
          have h1 : (t.sgn.drop (a + e)).count 40 ≤ (t.sgn.drop a).count 40 := by
            rw [← List.drop_drop]
            exact (List.drop_sublist _ _).count_le 40
          have h2 : (t.sgn.take a).count 40 + (t.sgn.drop a).count 40 = t.sgn.count 40 := by rw [← List.count_append, List.take_append_drop]
          omega
        have cz := count_one z
        have ea := add_sS (a := t.sgn.take a) (b := [z]) (by rw [List.length_singleton]; omega)
        have eb := add_sS (a := t.sgn.take a ++ [z]) (b := t.sgn.drop (a + e)) (by rw [List.length_append, List.length_singleton]; omega)
        refine ⟨(t.sgn.take a ++ [z]) ++ t.sgn.drop (a + e), start ?_, by rw [List.length_append, List.length_append, List.length_singleton]; omega, by rw [List.count_append, List.count_append]; omega⟩
        have t10 : q_law_given_10 (Mt (m + 1)) [some (.int c), some (.int kd), some (.str (sS t.sgn)), none, some (.int (a : Int)), some (.str sgS), some (.str (sS [z]))] = .rt (.str (sS ((t.sgn.take a ++ [z]) ++ t.sgn.drop (a + e)))) [some (.int c), some (.int kd), some (.str (sS t.sgn)), none, some (.int (a : Int)), some (.str sgS), some (.str (sS [z]))] := by
          have s2 : sliceD (.str (sS t.sgn)) (some ((a : Int) + (e : Int))) none = some (.str (sS (t.sgn.drop (a + e)))) := s2
          rw [← he] at s2
          unfold q_law_given_10
          generalize sS ((t.sgn.take a ++ [z]) ++ t.sgn.drop (a + e)) = SA at eb ⊢
          generalize sS (t.sgn.take a ++ [z]) = S3 at ea eb
          generalize sS (t.sgn.take a) = S1 at s1 ea
          generalize sS (t.sgn.drop (a + e)) = S2 at s2 eb
          generalize sS t.sgn = TS at s1 s2 ⊢
          generalize sS [z] = SZ at ea ⊢
          generalize sgS = SG
          by_cases h : kd = 2
          · simp [h] at s2
            simp [h, s1, s2, ea, eb]
          · simp [h] at s2
            simp [h, s1, s2, ea, eb]
        rw [mkF_e, e_law_given, e0, seq_nx t1, seq_nx t2, seq_nx t3, seq_nx t4, seq_nx t5, seq_nx t6, seq_nx t7, seq_nx t8, seq_nx t9, t10]
        rfl
end K41
set_option maxRecDepth 100000
set_option maxHeartbeats 400000
namespace K41
open PySem PySem.Spec L2 DM
theorem word1 (n : Nat) : Mt (n + 1) .law_word [.lst [.bl true, .bl false, .bl true], .bl false] = .ok (.int 1) [] := by
  show mkF 0 (ioOf .law_word) (b_law_word (Mt n)) [.lst [.bl true, .bl false, .bl true], .bl false] = _
  rfl
theorem word2 (n : Nat) : Mt (n + 1) .law_word [.lst [.bl false, .bl true, .bl true], .bl false] = .ok (.int 2) [] := by
  show mkF 0 (ioOf .law_word) (b_law_word (Mt n)) [.lst [.bl false, .bl true, .bl true], .bl false] = _
  rfl
theorem read_exc (n : Nat) {l : List Nat} (hl : l.length ≤ 1000) (h : readN l = none) : Mt (n + 1) .read_tree [.str (sS l)] = .exc "NoText" [] := by
  show mkF 4 (ioOf .read_tree) (b_read_tree (Mt n)) [.str (sS l)] = _
  have e0 : List.map some [D.str (sS l)] ++ List.replicate 4 none = [some (.str (sS l)), none, none, none, none] := rfl
  rw [mkF_e, e_read_tree, e0]
  have e := eq_sS l []
  by_cases hn : l = []
  · rw [decide_eq_true hn] at e
    have t1 : q_read_tree_1 (Mt n) [some (.str (sS l)), none, none, none, none] = .exc "NoText" [some (.str (sS l)), none, none, none, none] := by
      unfold q_read_tree_1 q_read_tree_1t1
      rw [lit0]
      generalize sS l = SL at e ⊢
      generalize sS [] = S0 at e ⊢
      simp [Ty.isa, e, -eqD_s]
    rw [mSeq_e, t1]
    rfl
  · rw [decide_eq_false hn] at e
    have t1 : q_read_tree_1 (Mt n) [some (.str (sS l)), none, none, none, none] = .nx [some (.str (sS l)), none, none, none, none] := by
      unfold q_read_tree_1 q_read_tree_1t1
      rw [lit0]
      generalize sS l = SL at e ⊢
      generalize sS [] = S0 at e ⊢
      simp [Ty.isa, e, -eqD_s]
    have t2 : q_read_tree_2 (Mt n) [some (.str (sS l)), none, none, none, none] = .exc "NoText" [some (.str (sS l)), none, none, none, none] := by
      unfold q_read_tree_2 mRead
      show (if (sS l).cps.toList.length ≤ 1000 then (match readN (sS l).cps.toList with
        | some t => SR.rt t.dat [some (.str _), none, none, none, none]
        | none => .exc "NoText" [some (.str _), none, none, none, none]) else .stuck) = _
      rw [show (sS l).cps.toList = l from sS_tl l, if_pos hl, h]
    rw [seq_nx t1, t2]
    rfl
theorem read_ok (n : Nat) {l : List Nat} {t : T} (hl : l.length ≤ 1000) (h : readN l = some t) : Mt (n + 1) .read_tree [.str (sS l)] = .ok t.dat [] := by
  show mkF 4 (ioOf .read_tree) (b_read_tree (Mt n)) [.str (sS l)] = _
  have e0 : List.map some [D.str (sS l)] ++ List.replicate 4 none = [some (.str (sS l)), none, none, none, none] := rfl
  rw [mkF_e, e_read_tree, e0]
  have e := eq_sS l []
  have hn : l ≠ [] := fun z => by
    obtain ⟨_, b⟩ := readN_sound h
    have := sgn_pos t
    rw [b, z] at this
    simp at this
  rw [decide_eq_false hn] at e
  have t1 : q_read_tree_1 (Mt n) [some (.str (sS l)), none, none, none, none] = .nx [some (.str (sS l)), none, none, none, none] := by
    unfold q_read_tree_1 q_read_tree_1t1
    rw [lit0]
    generalize sS l = SL at e ⊢
    generalize sS [] = S0 at e ⊢
    simp [Ty.isa, e, -eqD_s]
  have t2 : q_read_tree_2 (Mt n) [some (.str (sS l)), none, none, none, none] = .rt t.dat [some (.str (sS l)), none, none, none, none] := by
    unfold q_read_tree_2 mRead
    show (if (sS l).cps.toList.length ≤ 1000 then (match readN (sS l).cps.toList with
      | some t => SR.rt t.dat [some (.str _), none, none, none, none]
      | none => .exc "NoText" [some (.str _), none, none, none, none]) else .stuck) = _
    rw [show (sS l).cps.toList = l from sS_tl l, if_pos hl, h]
  rw [seq_nx t1, t2]
  rfl
theorem show_exc (n : Nat) {d : D} (h : Mt (n + 1) .is_tree [d] = .ok (.bl false) []) : Mt (n + 2) .show_tree [d] = .exc "NoTree" [] := by
  show mkF 0 (ioOf .show_tree) (b_show_tree (Mt (n + 1))) [d] = _
  rw [e_show_tree]
  unfold q_show_tree_1 q_show_tree_1t1 q_show_tree_2
  simp [ioOf, h]
def txtF : D := .lst [.bl true, .str "text"]
def treF : D := .lst [.bl true, .str "tree"]
theorem isx_e {tab : Str → Option Bool} {c : Str} {b : Bool} (h : tab c = some b) : isxD tab (.exn c) = some (.bl b) := by
  show (tab c).map D.bl = _
  rw [h]
  rfl
theorem asked_ok {n : Nat} {a d r : D} (h : (a = .int 0 ∧ Mt (n + 1) .read_tree [d] = .ok r []) ∨ (a = .int 1 ∧ Mt (n + 1) .show_tree [d] = .ok r [])) : Mt (n + 2) .law_asked [a, d] = .ok (.lst [.bl false, r]) [] := by
  have s2 : (2 : Nat) ≤ sizeLine := by decide
  show mkF 4 (ioOf .law_asked) (b_law_asked (Mt (n + 1))) [a, d] = _
  have e0 : List.map some [a, d] ++ List.replicate 4 none = [some a, some d, none, none, none, none] := rfl
  rw [mkF_e, e_law_asked, e0]
  have t1 : q_law_asked_1 (Mt (n + 1)) [some a, some d, none, none, none, none] = .nx [some a, some d, some (.lst [.bl false, .non]), none, none, none] := by
    unfold q_law_asked_1
    simp [s2]
  have x1 : ixN 2 1 = some 1 := ixN_int (by decide) (by decide)
  have t2 : q_law_asked_2y1 (Mt (n + 1)) [some a, some d, some (.lst [.bl false, .non]), none, none, none] = .nx [some a, some d, some (.lst [.bl false, r]), none, none, none] := by
    unfold q_law_asked_2y1 q_law_asked_2y1t1 q_law_asked_2y1e1
    rcases h with ⟨rfl, h⟩ | ⟨rfl, h⟩
    · simp [ioOf, h, x1]
    · simp [ioOf, h, x1]
  have t2' : q_law_asked_2 (Mt (n + 1)) [some a, some d, some (.lst [.bl false, .non]), none, none, none] = .nx [some a, some d, some (.lst [.bl false, r]), none, none, none] := by
    unfold q_law_asked_2 mTryS
    rw [t2]
  rw [seq_nx t1, seq_nx t2']
  unfold q_law_asked_3
  simp [ioOf]
theorem asked_exc {n : Nat} {a d : D} {tx : Bool} (h : (a = .int 0 ∧ Mt (n + 1) .read_tree [d] = .exc "NoText" [] ∧ tx = true) ∨ (a = .int 1 ∧ Mt (n + 1) .show_tree [d] = .exc "NoTree" [] ∧ tx = false)) : Mt (n + 2) .law_asked [a, d] = .ok (if tx = true then txtF else treF) [] := by
  have s2 : (2 : Nat) ≤ sizeLine := by decide
  have s3 : (3 : Nat) ≤ sizeLine := by decide
  show mkF 4 (ioOf .law_asked) (b_law_asked (Mt (n + 1))) [a, d] = _
  have e0 : List.map some [a, d] ++ List.replicate 4 none = [some a, some d, none, none, none, none] := rfl
  rw [mkF_e, e_law_asked, e0]
  have t1 : q_law_asked_1 (Mt (n + 1)) [some a, some d, none, none, none, none] = .nx [some a, some d, some (.lst [.bl false, .non]), none, none, none] := by
    unfold q_law_asked_1
    simp [s2]
  have t2 : q_law_asked_2y1 (Mt (n + 1)) [some a, some d, some (.lst [.bl false, .non]), none, none, none] = .exc (if tx = true then "NoText" else "NoTree") [some a, some d, some (.lst [.bl false, .non]), none, none, none] := by
    unfold q_law_asked_2y1 q_law_asked_2y1t1 q_law_asked_2y1e1
    rcases h with ⟨rfl, h, rfl⟩ | ⟨rfl, h, rfl⟩
    · simp [ioOf, h]
    · simp [ioOf, h]
  have w1 := word1 n
  have w2 := word2 n
  have t2' : q_law_asked_2 (Mt (n + 1)) [some a, some d, some (.lst [.bl false, .non]), none, none, none] = .nx [some a, some d, some (if tx = true then txtF else treF), none, some (if tx = true then .lst [.bl true, .bl false, .bl true] else .lst [.bl false, .bl true, .bl true]), some (.bl false)] := by
    unfold q_law_asked_2 mTryS
    rw [t2]
    cases tx with
    | true =>
      have u1 : q_law_asked_2x1 (Mt (n + 1)) [some a, some d, some (.lst [.bl false, .non]), some (.exn "NoText"), none, none] = .nx [some a, some d, some (.lst [.bl false, .non]), some (.exn "NoText"), some (.lst [.bl true, .bl false, .bl true]), none] := by
        have a1 : isxD tb_NoText (.exn "NoText") = some (.bl true) := isx_e (by decide)
        have a2 : isxD tb_NoTree (.exn "NoText") = some (.bl false) := isx_e (by decide)
        have a3 : isxD tb_ValueError (.exn "NoText") = some (.bl true) := isx_e (by decide)
        unfold q_law_asked_2x1
        simp [a1, a2, a3, s3]
      have u2 : q_law_asked_2x2 (Mt (n + 1)) [some a, some d, some (.lst [.bl false, .non]), some (.exn "NoText"), some (.lst [.bl true, .bl false, .bl true]), none] = .nx [some a, some d, some (.lst [.bl false, .non]), some (.exn "NoText"), some (.lst [.bl true, .bl false, .bl true]), some (.bl false)] := by
        have a1 : anyTab [tb_NoFinding, tb_NoLetter, tb_NoName, tb_NoNumber, tb_NoPart, tb_NoRow, tb_NoWay, tb_TooMany] "NoText" = some false := by decide
        unfold q_law_asked_2x2
        rw [mAsg_e]
        unfold mIsT
        show (match anyTab [tb_NoFinding, tb_NoLetter, tb_NoName, tb_NoNumber, tb_NoPart, tb_NoRow, tb_NoWay, tb_TooMany] "NoText" with | some b => R.ok (D.bl b) _ | none => .stuck).thn _ = _
        rw [a1]
        rfl
      have u3 : q_law_asked_2x3 (Mt (n + 1)) [some a, some d, some (.lst [.bl false, .non]), some (.exn "NoText"), some (.lst [.bl true, .bl false, .bl true]), some (.bl false)] = .nx [some a, some d, some txtF, some (.exn "NoText"), some (.lst [.bl true, .bl false, .bl true]), some (.bl false)] := by
        unfold q_law_asked_2x3 txtF
        simp [ioOf, w1, s3, s2]
      have u : Q_law_asked_2x (Mt (n + 1)) [some a, some d, some (.lst [.bl false, .non]), some (.exn "NoText"), none, none] = .nx [some a, some d, some txtF, some (.exn "NoText"), some (.lst [.bl true, .bl false, .bl true]), some (.bl false)] := by
        unfold Q_law_asked_2x
        rw [seq_nx u1, seq_nx u2, u3]
      show (if decide (("NoText" : Str) ∈ (["NoTree", "NoText"] : List Str)) = true then (match Q_law_asked_2x (Mt (n + 1)) [some a, some d, some (.lst [.bl false, .non]), some (.exn "NoText"), none, none] with | .nx δ2 => SR.nx (δ2.set 3 none) | _ => .stuck) else .stuck) = _
      rw [if_pos (by decide), u]
      rfl
    | false =>
      have u1 : q_law_asked_2x1 (Mt (n + 1)) [some a, some d, some (.lst [.bl false, .non]), some (.exn "NoTree"), none, none] = .nx [some a, some d, some (.lst [.bl false, .non]), some (.exn "NoTree"), some (.lst [.bl false, .bl true, .bl true]), none] := by
        have a1 : isxD tb_NoText (.exn "NoTree") = some (.bl false) := isx_e (by decide)
        have a2 : isxD tb_NoTree (.exn "NoTree") = some (.bl true) := isx_e (by decide)
        have a3 : isxD tb_ValueError (.exn "NoTree") = some (.bl true) := isx_e (by decide)
        unfold q_law_asked_2x1
        simp [a1, a2, a3, s3]
      have u2 : q_law_asked_2x2 (Mt (n + 1)) [some a, some d, some (.lst [.bl false, .non]), some (.exn "NoTree"), some (.lst [.bl false, .bl true, .bl true]), none] = .nx [some a, some d, some (.lst [.bl false, .non]), some (.exn "NoTree"), some (.lst [.bl false, .bl true, .bl true]), some (.bl false)] := by
        have a1 : anyTab [tb_NoFinding, tb_NoLetter, tb_NoName, tb_NoNumber, tb_NoPart, tb_NoRow, tb_NoWay, tb_TooMany] "NoTree" = some false := by decide
        unfold q_law_asked_2x2
        rw [mAsg_e]
        unfold mIsT
        show (match anyTab [tb_NoFinding, tb_NoLetter, tb_NoName, tb_NoNumber, tb_NoPart, tb_NoRow, tb_NoWay, tb_TooMany] "NoTree" with | some b => R.ok (D.bl b) _ | none => .stuck).thn _ = _
        rw [a1]
        rfl
      have u3 : q_law_asked_2x3 (Mt (n + 1)) [some a, some d, some (.lst [.bl false, .non]), some (.exn "NoTree"), some (.lst [.bl false, .bl true, .bl true]), some (.bl false)] = .nx [some a, some d, some treF, some (.exn "NoTree"), some (.lst [.bl false, .bl true, .bl true]), some (.bl false)] := by
        unfold q_law_asked_2x3 treF
        simp [ioOf, w2, s3, s2]
      have u : Q_law_asked_2x (Mt (n + 1)) [some a, some d, some (.lst [.bl false, .non]), some (.exn "NoTree"), none, none] = .nx [some a, some d, some treF, some (.exn "NoTree"), some (.lst [.bl false, .bl true, .bl true]), some (.bl false)] := by
        unfold Q_law_asked_2x
        rw [seq_nx u1, seq_nx u2, u3]
      show (if decide (("NoTree" : Str) ∈ (["NoTree", "NoText"] : List Str)) = true then (match Q_law_asked_2x (Mt (n + 1)) [some a, some d, some (.lst [.bl false, .non]), some (.exn "NoTree"), none, none] with | .nx δ2 => SR.nx (δ2.set 3 none) | _ => .stuck) else .stuck) = _
      rw [if_pos (by decide), u]
      rfl
  rw [seq_nx t1, seq_nx t2']
  unfold q_law_asked_3
  generalize (if tx = true then txtF else treF) = FF
  simp [ioOf]
end K41
set_option maxRecDepth 100000
set_option maxHeartbeats 400000
namespace K41
open PySem PySem.Spec L2 DM
theorem letter_long (C : Fc → Fn) {l : List Nat} (hl : l.length ≤ 1000) (h : l.length ≠ 1) : bdOf C .is_letter [.str (sS l)] = .ok (.bl false) [] := by
  have e := len_sS (l := l) (by omega)
  have h2 : ¬ (l.length : Int) = 1 := by omega
  show mkF 0 (ioOf .is_letter) (b_is_letter C) [.str (sS l)] = _
  unfold b_is_letter
  generalize sS l = SL at e ⊢
  generalize (l.length : Int) = L at e h2
  simp [ioOf, Ty.isa, e, h2, -lenD_s]
theorem in_abcF (c : Nat) : inD false (.str (sS [c])) (.str "abcdefghijklmnopqrstuvwxyz") = some (.bl (isLN c)) := by
  have e := in_abc c
  have e2 : inD true (.str (sS [c])) (.str "abcdefghijklmnopqrstuvwxyz") = (inD false (.str (sS [c])) (.str "abcdefghijklmnopqrstuvwxyz")).map fun d => match d with | .bl b => .bl (!b) | d => d := by
    show (if (sS [c]).length = 1 then some (D.bl (if true = true then !decide _ else _)) else none) = (if (sS [c]).length = 1 then some (D.bl (if false = true then _ else decide _)) else none).map _
    rw [if_pos (show (sS [c]).length = 1 from sS_len [c]), if_pos (show (sS [c]).length = 1 from sS_len [c])]
    rfl
  rw [e] at e2
  cases h : inD false (.str (sS [c])) (.str "abcdefghijklmnopqrstuvwxyz") with
  | none => rw [h] at e2; cases e2
  | some d =>
    have hb : ∃ b, d = .bl b := by
      have h : (if (sS [c]).length = 1 then some (D.bl (if false = true then !decide ((sS [c]).cps.getD 0 0 ∈ ("abcdefghijklmnopqrstuvwxyz" : Str).cps.toList) else decide ((sS [c]).cps.getD 0 0 ∈ ("abcdefghijklmnopqrstuvwxyz" : Str).cps.toList))) else none) = some d := h
      rw [if_pos (show (sS [c]).length = 1 from sS_len [c])] at h
      exact ⟨_, (Option.some.inj h).symm⟩
    obtain ⟨b, rfl⟩ := hb
    rw [h] at e2
    have e3 : (!isLN c) = (!b) := by
      have := Option.some.inj e2
      injection this
    have : isLN c = b := by cases h1 : isLN c <;> cases b <;> simp_all
    rw [this]
theorem letter_one (C : Fc → Fn) (c : Nat) : bdOf C .is_letter [.str (sS [c])] = .ok (.bl (isLN c)) [] := by
  have e := len_sS (l := [c]) (by simp)
  have e : lenD [.str (sS [c])] = some (.int 1) := e
  have e2 := in_abcF c
  show mkF 0 (ioOf .is_letter) (b_is_letter C) [.str (sS [c])] = _
  unfold b_is_letter
  generalize sS [c] = SL at e e2 ⊢
  simp [ioOf, Ty.isa, e, e2, -lenD_s]
theorem letter_int (C : Fc → Fn) (i : Int) : bdOf C .is_letter [.int i] = .ok (.bl false) [] := by
  show mkF 0 (ioOf .is_letter) (b_is_letter C) [.int i] = _
  unfold b_is_letter
  simp [ioOf, Ty.isa]
theorem tree_pair (C : Fc → Fn) {a b : D} {ok : Bool} (h : C .is_letter [a] = .ok (.bl ok) []) (hb : ok = false ∨ b = .non ∨ b = .tup []) : bdOf C .is_tree [.tup [a, b]] = .ok (.bl false) [] := by
  show mkF 1 (ioOf .is_tree) (b_is_tree C) [.tup [a, b]] = _
  rw [e_is_tree]
  unfold q_is_tree_1 q_is_tree_1t1 q_is_tree_2 q_is_tree_2t1
  cases ok with
  | false => simp [ioOf, Ty.isa, h, neD_i]
  | true =>
    rcases hb with hb | rfl | rfl
    · cases hb
    · simp [ioOf, Ty.isa, h, neD_i]
    · simp [ioOf, Ty.isa, h, neD_i]
theorem tree_no (C : Fc → Fn) {d : D} (h : d = .non ∨ (∃ z, d = .str z) ∨ (∃ l, d = .lst l) ∨ ∃ l, d = .tup l ∧ l.length ≠ 2) : bdOf C .is_tree [d] = .ok (.bl false) [] := by
  show mkF 1 (ioOf .is_tree) (b_is_tree C) [d] = _
  rw [e_is_tree]
  unfold q_is_tree_1 q_is_tree_1t1
  rcases h with rfl | ⟨z, rfl⟩ | ⟨l, rfl⟩ | ⟨l, rfl, h⟩
  · simp [ioOf, Ty.isa]
  · simp [ioOf, Ty.isa]
  · simp [ioOf, Ty.isa]
  · have h2 : ¬ (l.length : Int) = 2 := by omega
    simp [ioOf, Ty.isa, neD_i, h, h2]
def Tells (m : Nat) (d : D) (b : Bool) : Prop := ∀ k, m ≤ k → Mt (k + 1) .is_tree [d] = .ok (.bl b) []
theorem Tells.up {m k : Nat} {d : D} {b : Bool} (h : Tells m d b) (e : m ≤ k) : Tells k d b := fun j hj => h j (Nat.le_trans e hj)
theorem tells_tree {t : T} (hg : t.good) (hz : t.size ≤ 100) : Tells t.dep t.dat true := fun k hk => is_tree_ok k t hg hz hk
theorem tells_pair {a b : D} {ok : Bool} (h : ∀ C : Fc → Fn, bdOf C .is_letter [a] = .ok (.bl ok) []) (hb : ok = false ∨ b = .non ∨ b = .tup []) : Tells 1 (.tup [a, b]) false := fun k hk => by
  obtain ⟨j, rfl⟩ : ∃ j, k = j + 1 := ⟨k - 1, by omega⟩
  exact tree_pair (Mt (j + 1)) (h (Mt j)) hb
theorem tells_no {d : D} (h : d = .non ∨ (∃ z, d = .str z) ∨ (∃ l, d = .lst l) ∨ ∃ l, d = .tup l ∧ l.length ≠ 2) : Tells 1 d false := fun k _ => tree_no (Mt k) h
def badL (x : Nat) (K : D) : List D := [.non, .tup [.str (sS [x])], .tup [.str (sS ([x] ++ [97])), K], .tup [.str "A", K]] ++ [.tup [.str (sS [x]), .non], .tup [.str (sS [x]), .tup []], .lst [.str (sS [x]), K]] ++ [.tup [.str "", K], .tup [.str "`", K], .tup [.str "{", K], .tup [.int 1, K]] ++ [.tup [.str (sS [x]), K, .int 0], .str (sS [x]), .tup [.str (sS ([x] ++ [10])), K]]
theorem badL_tells {x : Nat} {K : D} (hx : 97 ≤ x ∧ x ≤ 122) : ∀ d ∈ badL x K, Tells 1 d false := by
  intro d hd
  have hl := isLN_ok hx
  unfold badL at hd
  simp only [List.mem_append, List.mem_cons, List.not_mem_nil, or_false] at hd
  have t1 : ∀ C : Fc → Fn, bdOf C .is_letter [.str (sS [x])] = .ok (.bl true) [] := fun C => by rw [letter_one, hl]
  have two : ∀ y : Nat, ∀ C : Fc → Fn, bdOf C .is_letter [.str (sS ([x] ++ [y]))] = .ok (.bl false) [] := fun y C => letter_long C (by simp) (by simp)
  have one : ∀ c : Nat, isLN c = false → ∀ C : Fc → Fn, bdOf C .is_letter [.str (sS [c])] = .ok (.bl false) [] := fun c h C => by rw [letter_one, h]
  rcases hd with (((rfl | rfl | rfl | rfl) | rfl | rfl | rfl) | rfl | rfl | rfl | rfl) | rfl | rfl | rfl
  · exact tells_no (.inl rfl)
  · exact tells_no (.inr (.inr (.inr ⟨_, rfl, by simp⟩)))
  · exact tells_pair (two 97) (.inl rfl)
  · exact tells_pair (one 65 (by decide)) (.inl rfl)
  · exact tells_pair t1 (.inr (.inl rfl))
  · exact tells_pair t1 (.inr (.inr rfl))
  · exact tells_no (.inr (.inr (.inl ⟨_, rfl⟩)))
  · exact tells_pair (fun C => letter_long C (l := []) (by simp) (by simp)) (.inl rfl)
  · exact tells_pair (one 96 (by decide)) (.inl rfl)
  · exact tells_pair (one 123 (by decide)) (.inl rfl)
  · exact tells_pair (fun C => letter_int C 1) (.inl rfl)
  · exact tells_no (.inr (.inr (.inr ⟨_, rfl, by simp⟩)))
  · exact tells_no (.inr (.inl ⟨_, rfl⟩))
  · exact tells_pair (two 10) (.inl rfl)
theorem tells_node {x m : Nat} {ks : List D} (hx : 97 ≤ x ∧ x ≤ 122) (hl : ks.length ≤ 1000) (h : ∀ d ∈ ks, ∃ b, Tells m d b) (hf : ∃ d ∈ ks, Tells m d false) : Tells (m + 1) (.tup [.str (sS [x]), .lst ks]) false := fun k hk => by
  obtain ⟨j, rfl⟩ : ∃ j, k = j + 1 := ⟨k - 1, by omega⟩
  have s0 : (0 : Nat) ≤ sizeLine := by decide
  have el : Mt (j + 1) .is_letter [.str (sS [x])] = .ok (.bl true) [] := by
    have := letter_one (Mt j) x
    rw [isLN_ok hx] at this
    exact this
  have hd : ∀ d ∈ ks, ∃ b, Mt (j + 1) .is_tree [d] = .ok (.bl b) [] := fun d hd => by
    obtain ⟨b, hb⟩ := h d hd
    exact ⟨b, hb j (by omega)⟩
  have lc := lc1g (src := li_is_tree_1 (Mt (j + 1))) (cond := lc_is_tree_1 (Mt (j + 1))) (elt := le_is_tree_1 (Mt (j + 1))) (i := 1) (o := none) (δ := [some (.tup [.str (sS [x]), .lst ks]), none]) (xs := ks) (p := fun d => match Mt (j + 1) .is_tree [d] with | .ok (.bl b) _ => !b | _ => false) (g := fun d => d)
    (by
      unfold li_is_tree_1
      generalize sS [x] = SX
      simp) (Nat.le_trans hl (by decide)) rfl
    (fun d hd' => by
      obtain ⟨b, hb⟩ := hd d hd'
      show lc_is_tree_1 (Mt (j + 1)) _ = .ok (match Mt (j + 1) .is_tree [d] with | .ok (.bl b) _ => !b | _ => false) _
      rw [hb]
      unfold lc_is_tree_1
      generalize sS [x] = SX
      simp [ioOf, hb])
    (fun d _ _ => by
      unfold le_is_tree_1
      simp)
  rw [List.map_id'] at lc
  have hne : (ks.filter fun d => match Mt (j + 1) .is_tree [d] with | .ok (.bl b) _ => !b | _ => false) ≠ [] := fun z => by
    obtain ⟨d, hdm, hdf⟩ := hf
    have e := hdf j (by omega)
    have : d ∈ (ks.filter fun d => match Mt (j + 1) .is_tree [d] with | .ok (.bl b) _ => !b | _ => false) := List.mem_filter.mpr ⟨hdm, by rw [e]; rfl⟩
    rw [z] at this
    cases this
  have lc2 : l_is_tree_1 (Mt (j + 1)) [some (.tup [.str (sS [x]), .lst ks]), none] = .ok (.lst (ks.filter fun d => match Mt (j + 1) .is_tree [d] with | .ok (.bl b) _ => !b | _ => false)) [some (.tup [.str (sS [x]), .lst ks]), none] := lc
  have he : eqD (.lst (ks.filter fun d => match Mt (j + 1) .is_tree [d] with | .ok (.bl b) _ => !b | _ => false)) (.lst []) = some (.bl false) := by
    rw [eqD_n]
    cases hz : (ks.filter fun d => match Mt (j + 1) .is_tree [d] with | .ok (.bl b) _ => !b | _ => false) with
    | nil => exact absurd hz hne
    | cons a r => rfl
  show mkF 1 (ioOf .is_tree) (b_is_tree (Mt (j + 1))) [.tup [.str (sS [x]), .lst ks]] = _
  rw [e_is_tree]
  unfold q_is_tree_1 q_is_tree_1t1 q_is_tree_2 q_is_tree_2t1 q_is_tree_3
  generalize (ks.filter fun d => match Mt (j + 1) .is_tree [d] with | .ok (.bl b) _ => !b | _ => false) = FF at lc2 he
  generalize sS [x] = SX at el lc2 ⊢
  simp [ioOf, Ty.isa, el, lc2, he, neD_i, s0]
/-! ### how many parts -/
theorem sizes_sum : ∀ cs : List T, (cs.map fun c => ((c.size : Nat) : Int)).sum = ((T.sizes cs : Nat) : Int)
  | [] => by rw [T.sizes]; rfl
  | c :: cs => by rw [List.map_cons, List.sum_cons, sizes_sum cs, T.sizes]; omega
theorem many_step (C : Fc → Fn) {x : Nat} {cs : List T} (hz : T.sizes cs ≤ 1000) (hb : ∀ c ∈ cs, C .law_many [c.dat] = .ok (.int (c.size : Int)) []) : bdOf C .law_many [(T.node x cs).dat] = .ok (.int ((T.node x cs).size : Int)) [] := by
  have hlen := T.len_le_sizes cs
  have src : li_law_many_1 C [some (.tup [.str ⟨#[x]⟩, .lst (T.dats cs)]), none] = .ok (T.dats cs, some) [some (.tup [.str ⟨#[x]⟩, .lst (T.dats cs)]), none] := by
    unfold li_law_many_1
    simp
  have e := lc_kids (src := li_law_many_1 C) (cond := lc_law_many_1 C) (elt := le_law_many_1 C) (i := 1) (g := fun c => D.int ((c.size : Nat) : Int)) src (by omega) rfl rfl fun c hc => by
    have ec := hb c hc
    unfold le_law_many_1
    generalize T.dats cs = KK
    generalize c.dat = CC at ec ⊢
    simp [ioOf, ec]
  have e1 : l_law_many_1 C [some (.tup [.str ⟨#[x]⟩, .lst (T.dats cs)]), none] = .ok (.lst (cs.map fun c => D.int ((c.size : Nat) : Int))) [some (.tup [.str ⟨#[x]⟩, .lst (T.dats cs)]), none] := e
  have es : sumD [.lst (cs.map fun c => D.int ((c.size : Nat) : Int))] = some (.int ((T.sizes cs : Nat) : Int)) := by
    have := sumD_ints (cs.map fun c => ((c.size : Nat) : Int))
    rw [List.map_map, sizes_sum] at this
    exact this
  have hsz : (1 : Int) + ((T.sizes cs : Nat) : Int) = (((T.node x cs).size : Nat) : Int) := by rw [T.size]; omega
  show mkF 1 (ioOf .law_many) (b_law_many C) [(T.node x cs).dat] = _
  rw [T.dat, e_law_many]
  unfold q_law_many_1
  generalize T.dats cs = KK at e1 ⊢
  generalize (cs.map fun c => D.int ((c.size : Nat) : Int)) = SS at e1 es
  generalize ((T.sizes cs : Nat) : Int) = Z at es hsz
  simp [ioOf, e1, es, hsz]
theorem many_ok : ∀ (n : Nat) (t : T), t.size ≤ 1000 → t.dep ≤ n + 1 → Mt (n + 1) .law_many [t.dat] = .ok (.int (t.size : Int)) []
  | n, .node x cs, hz, hd => by
    rw [T.dep] at hd
    rw [T.size] at hz
    refine many_step (Mt n) (by omega) fun c hc => ?_
    have h1 := T.dep_le_deps hc
    have h2 := T.size_le_sizes hc
    cases n with
    | zero =>
      have h0 := deps_zero (cs := cs) (by omega)
      rw [h0] at hc
      cases hc
    | succ n => exact many_ok n c (by omega) (by omega)
end K41
set_option maxRecDepth 100000
set_option maxHeartbeats 400000
namespace K41
open PySem PySem.Spec L2 DM
theorem badL_len (x : Nat) (K : D) : (badL x K).length = 14 := rfl
theorem bad_zero (C : Fc → Fn) {x : Nat} {cs : List T} {c : Int} : ∃ d ∈ badL x (.lst (T.dats cs)), bdOf C .law_bad [(T.node x cs).dat, .int 0, .int c] = .ok d [] := by
  have s4 : (4 : Nat) ≤ sizeLine := by decide
  have s3 : (3 : Nat) ≤ sizeLine := by decide
  have s2 : (2 : Nat) ≤ sizeLine := by decide
  have s1 : (1 : Nat) ≤ sizeLine := by decide
  have s0 : (0 : Nat) ≤ sizeLine := by decide
  have s7 : (7 : Nat) ≤ sizeLine := by decide
  have s11 : (11 : Nat) ≤ sizeLine := by decide
  have s14 : (14 : Nat) ≤ sizeLine := by decide
  rw [T.dat, sS_one]
  have c0 : 0 ≤ c % 14 := Int.emod_nonneg _ (by decide)
  have c1 : c % 14 < 14 := Int.emod_lt_of_pos _ (by decide)
  generalize T.dats cs = KK
  have hil : (c % 14).toNat < (badL x (.lst KK)).length := by rw [badL_len]; omega
  refine ⟨_, List.getElem_mem hil, ?_⟩
  have ei : atI (badL x (.lst KK)) (c % 14) = some (badL x (.lst KK))[(c % 14).toNat] := by
    rw [atI_k (k := (c % 14).toNat) _ (by omega) hil, List.getElem?_eq_getElem hil]
  generalize (badL x (.lst KK))[(c % 14).toNat] = Z at ei ⊢
  have ea : addD (.str (sS [x])) (.str "a") = some (.str (sS ([x] ++ [97]))) := add_sS (a := [x]) (b := [97]) (by simp)
  have en : addD (.str (sS [x])) (.str "\n") = some (.str (sS ([x] ++ [10]))) := add_sS (a := [x]) (b := [10]) (by simp)
  show mkF 4 (ioOf .law_bad) (b_law_bad C) [.tup [.str (sS [x]), .lst KK], .int 0, .int c] = _
  have e0 : List.map some [D.tup [.str (sS [x]), .lst KK], .int 0, .int c] ++ List.replicate 4 none = [some (.tup [.str (sS [x]), .lst KK]), some (.int 0), some (.int c), none, none, none, none] := rfl
  rw [mkF_e, e_law_bad, e0]
  have t1 : q_law_bad_1 C [some (.tup [.str (sS [x]), .lst KK]), some (.int 0), some (.int c), none, none, none, none] = .rt Z [some (.tup [.str (sS [x]), .lst KK]), some (.int 0), some (.int c), some (.lst (badL x (.lst KK))), none, none, none] := by
    unfold q_law_bad_1 Q_law_bad_1t
    have u1 : q_law_bad_1t1 C [some (.tup [.str (sS [x]), .lst KK]), some (.int 0), some (.int c), none, none, none, none] = .nx [some (.tup [.str (sS [x]), .lst KK]), some (.int 0), some (.int c), some (.lst [.non, .tup [.str (sS [x])], .tup [.str (sS ([x] ++ [97])), .lst KK], .tup [.str "A", .lst KK]]), none, none, none] := by
      unfold q_law_bad_1t1
      generalize sS ([x] ++ [97]) = SA at ea ⊢
      generalize sS [x] = SX at ea ⊢
      simp [ea, s1, s2, s4]
    have u2 : q_law_bad_1t2 C [some (.tup [.str (sS [x]), .lst KK]), some (.int 0), some (.int c), some (.lst [.non, .tup [.str (sS [x])], .tup [.str (sS ([x] ++ [97])), .lst KK], .tup [.str "A", .lst KK]]), none, none, none] = .nx [some (.tup [.str (sS [x]), .lst KK]), some (.int 0), some (.int c), some (.lst ([.non, .tup [.str (sS [x])], .tup [.str (sS ([x] ++ [97])), .lst KK], .tup [.str "A", .lst KK]] ++ [.tup [.str (sS [x]), .non], .tup [.str (sS [x]), .tup []], .lst [.str (sS [x]), .lst KK]])), none, none, none] := by
      unfold q_law_bad_1t2
      generalize sS ([x] ++ [97]) = SA
      generalize sS [x] = SX
      simp [s0, s2, s3, s7]
    have u3 : q_law_bad_1t3 C [some (.tup [.str (sS [x]), .lst KK]), some (.int 0), some (.int c), some (.lst ([.non, .tup [.str (sS [x])], .tup [.str (sS ([x] ++ [97])), .lst KK], .tup [.str "A", .lst KK]] ++ [.tup [.str (sS [x]), .non], .tup [.str (sS [x]), .tup []], .lst [.str (sS [x]), .lst KK]])), none, none, none] = .nx [some (.tup [.str (sS [x]), .lst KK]), some (.int 0), some (.int c), some (.lst ([.non, .tup [.str (sS [x])], .tup [.str (sS ([x] ++ [97])), .lst KK], .tup [.str "A", .lst KK]] ++ [.tup [.str (sS [x]), .non], .tup [.str (sS [x]), .tup []], .lst [.str (sS [x]), .lst KK]] ++ [.tup [.str "", .lst KK], .tup [.str "`", .lst KK], .tup [.str "{", .lst KK], .tup [.int 1, .lst KK]])), none, none, none] := by
      unfold q_law_bad_1t3
      generalize sS ([x] ++ [97]) = SA
      generalize sS [x] = SX
      simp [s2, s4, s11]
    have u4 : q_law_bad_1t4 C [some (.tup [.str (sS [x]), .lst KK]), some (.int 0), some (.int c), some (.lst ([.non, .tup [.str (sS [x])], .tup [.str (sS ([x] ++ [97])), .lst KK], .tup [.str "A", .lst KK]] ++ [.tup [.str (sS [x]), .non], .tup [.str (sS [x]), .tup []], .lst [.str (sS [x]), .lst KK]] ++ [.tup [.str "", .lst KK], .tup [.str "`", .lst KK], .tup [.str "{", .lst KK], .tup [.int 1, .lst KK]])), none, none, none] = .nx [some (.tup [.str (sS [x]), .lst KK]), some (.int 0), some (.int c), some (.lst (badL x (.lst KK))), none, none, none] := by
      unfold q_law_bad_1t4 badL
      generalize sS ([x] ++ [97]) = SA
      generalize sS ([x] ++ [10]) = SN at en ⊢
      generalize sS [x] = SX at en ⊢
      simp [en, s1, s2, s3, s14]
    have hlen : (badL x (.lst KK)).length = 14 := rfl
    have u5 : q_law_bad_1t5 C [some (.tup [.str (sS [x]), .lst KK]), some (.int 0), some (.int c), some (.lst (badL x (.lst KK))), none, none, none] = .rt Z [some (.tup [.str (sS [x]), .lst KK]), some (.int 0), some (.int c), some (.lst (badL x (.lst KK))), none, none, none] := by
      unfold q_law_bad_1t5
      generalize badL x (.lst KK) = BL at ei hlen ⊢
      generalize sS [x] = SX
      simp [hlen, ei]
    have ht : mTest (mOp2 (oV (mVar 1)) (oV (mC (.int 0))) eqD) [some (.tup [.str (sS [x]), .lst KK]), some (.int 0), some (.int c), none, none, none, none] = .ok true [some (.tup [.str (sS [x]), .lst KK]), some (.int 0), some (.int c), none, none, none, none] := by
      generalize sS [x] = SX
      simp
    rw [mIf_e, ht, DM.R.thn_ok, if_pos rfl, seq_nx u1, seq_nx u2, seq_nx u3, seq_nx u4, u5]
  rw [mSeq_e, t1]
  rfl
theorem bad_loop (C : Fc → Fn) {x m : Nat} {K : D} {c : Int} : ∀ (cs : List T) (k : Int) (ds : List D) (o5 o6 : Option D), (∀ t ∈ cs, t.good ∧ t.size ≤ 100 ∧ t.dep ≤ m) → (∀ t ∈ cs, C .law_many [t.dat] = .ok (.int (t.size : Int)) []) → (∀ t ∈ cs, ∀ j : Nat, j < t.size → ∃ d, C .law_bad [t.dat, .int (j : Int), .int c] = .ok d [] ∧ Tells m d false) →
    ds.length + cs.length ≤ 1000 → (∀ d ∈ ds, ∃ b, Tells m d b) → (k < 0 → ∃ d ∈ ds, Tells m d false) → k < T.sizes cs →
    ∃ ds' k' p5 p6, dFor (tName 5) (Q_law_bad_4b C) (T.dats cs) [some (.tup [.str (sS [x]), K]), some (.int k), some (.int c), none, some (.lst ds), o5, o6] = .nx [some (.tup [.str (sS [x]), K]), some (.int k'), some (.int c), none, some (.lst ds'), p5, p6] ∧ ds'.length = ds.length + cs.length ∧ (∀ d ∈ ds', ∃ b, Tells m d b) ∧ ∃ d ∈ ds', Tells m d false
  | [], k, ds, o5, o6, _, _, _, _, h1, h2, h3 => by
    rw [T.sizes] at h3
    exact ⟨ds, k, o5, o6, by rw [T.dats, dFor], by simp, h1, h2 (by omega)⟩
  | t :: cs, k, ds, o5, o6, hg, hm, hb, hl, h1, h2, h3 => by
    rw [T.sizes] at h3
    rw [List.length_cons] at hl
    have gt := hg t (List.mem_cons_self ..)
    have em := hm t (List.mem_cons_self ..)
    have hsl : ds.length < sizeLine := Nat.lt_of_lt_of_le (by omega : ds.length < 1000) (by decide)
    -- the child as it is taken
    obtain ⟨d, hd, hdf, eb⟩ : ∃ d, (∃ b, Tells m d b) ∧ ((0 ≤ k ∧ k < t.size) → Tells m d false) ∧ Q_law_bad_4b C [some (.tup [.str (sS [x]), K]), some (.int k), some (.int c), none, some (.lst ds), some (t.dat), o6] = .nx [some (.tup [.str (sS [x]), K]), some (.int (k - (t.size : Int))), some (.int c), none, some (.lst (ds ++ [d])), some (d), some (.int (t.size : Int))] := by
      have u1 : q_law_bad_4b1 C [some (.tup [.str (sS [x]), K]), some (.int k), some (.int c), none, some (.lst ds), some (t.dat), o6] = .nx [some (.tup [.str (sS [x]), K]), some (.int k), some (.int c), none, some (.lst ds), some (t.dat), some (.int (t.size : Int))] := by
        unfold q_law_bad_4b1
        generalize sS [x] = SX
        generalize t.dat = TD at em ⊢
        generalize (t.size : Int) = TZ at em ⊢
        simp [ioOf, em]
      have u34 : ∀ d, mSeq (q_law_bad_4b3 C) (q_law_bad_4b4 C) [some (.tup [.str (sS [x]), K]), some (.int k), some (.int c), none, some (.lst ds), some (d), some (.int (t.size : Int))] = .nx [some (.tup [.str (sS [x]), K]), some (.int (k - (t.size : Int))), some (.int c), none, some (.lst (ds ++ [d])), some (d), some (.int (t.size : Int))] := fun d => by
        unfold q_law_bad_4b3 q_law_bad_4b4
        generalize sS [x] = SX
        simp [hsl]
      by_cases h : 0 ≤ k ∧ k < t.size
      · obtain ⟨j, hj⟩ : ∃ j : Nat, k = (j : Int) := ⟨k.toNat, by omega⟩
        obtain ⟨d, e, hf⟩ := hb t (List.mem_cons_self ..) j (by omega)
        rw [← hj] at e
        refine ⟨d, ⟨false, hf⟩, fun _ => hf, ?_⟩
        have u2 : q_law_bad_4b2 C [some (.tup [.str (sS [x]), K]), some (.int k), some (.int c), none, some (.lst ds), some (t.dat), some (.int (t.size : Int))] = .nx [some (.tup [.str (sS [x]), K]), some (.int k), some (.int c), none, some (.lst ds), some (d), some (.int (t.size : Int))] := by
          have ha := h.1
          have hb' := h.2
          unfold q_law_bad_4b2 q_law_bad_4b2t1
          generalize sS [x] = SX
          generalize t.dat = TD at e ⊢
          generalize (t.size : Int) = TZ at hb' ⊢
          simp [ioOf, e, ha, hb']
        unfold Q_law_bad_4b
        rw [seq_nx u1, seq_nx u2, u34]
      · refine ⟨t.dat, ⟨true, (tells_tree gt.1 gt.2.1).up gt.2.2⟩, fun z => absurd z h, ?_⟩
        have u2 : q_law_bad_4b2 C [some (.tup [.str (sS [x]), K]), some (.int k), some (.int c), none, some (.lst ds), some (t.dat), some (.int (t.size : Int))] = .nx [some (.tup [.str (sS [x]), K]), some (.int k), some (.int c), none, some (.lst ds), some (t.dat), some (.int (t.size : Int))] := by
          unfold q_law_bad_4b2
          generalize sS [x] = SX
          generalize t.dat = TD
          generalize (t.size : Int) = TZ at h ⊢
          by_cases h0 : 0 ≤ k
          · have h1 : ¬ k < TZ := fun z => h ⟨h0, z⟩
            simp [h0, h1]
          · simp [h0]
        unfold Q_law_bad_4b
        rw [seq_nx u1, seq_nx u2, u34]
    obtain ⟨ds', k', p5, p6, e, l', a, b⟩ := bad_loop C (x := x) (m := m) (K := K) (c := c) cs (k - (t.size : Int)) (ds ++ [d]) (some d) (some (.int (t.size : Int))) (fun u hu => hg u (List.mem_cons_of_mem _ hu)) (fun u hu => hm u (List.mem_cons_of_mem _ hu)) (fun u hu => hb u (List.mem_cons_of_mem _ hu)) (by rw [List.length_append, List.length_singleton]; omega)
      (fun u hu => by
        rcases List.mem_append.mp hu with hu | hu
        · exact h1 u hu
        · rw [List.mem_singleton.mp hu]; exact hd)
      (fun hk => by
        by_cases hk0 : k < 0
        · obtain ⟨u, hu, hf⟩ := h2 hk0
          exact ⟨u, List.mem_append_left _ hu, hf⟩
        · exact ⟨d, List.mem_append_right _ (List.mem_singleton.mpr rfl), hdf ⟨by omega, by omega⟩⟩)
      (by omega)
    refine ⟨ds', k', p5, p6, ?_, by rw [l', List.length_append, List.length_singleton, List.length_cons]; omega, a, b⟩
    rw [T.dats, dFor]
    show (match Q_law_bad_4b C [some (.tup [.str (sS [x]), K]), some (.int k), some (.int c), none, some (.lst ds), some (t.dat), o6] with
      | .nx δ2 => dFor (tName 5) (Q_law_bad_4b C) (T.dats cs) δ2
      | .ct δ2 => dFor (tName 5) (Q_law_bad_4b C) (T.dats cs) δ2
      | .bk δ2 => _
      | .rt x δ2 => _
      | .exc e δ2 => _
      | .stuck => _) = _
    rw [eb]
    exact e
theorem bad_ok : ∀ (n : Nat) (t : T) (j : Nat) (c : Int), t.good → t.size ≤ 100 → t.dep ≤ n + 1 → j < t.size → ∃ d, Mt (n + 1) .law_bad [t.dat, .int (j : Int), .int c] = .ok d [] ∧ Tells t.dep d false
  | n, .node x cs, 0, c, hg, hz, hd, hj => by
    rw [T.good] at hg
    obtain ⟨d, hm, e⟩ := bad_zero (Mt n) (x := x) (cs := cs) (c := c)
    exact ⟨d, e, (badL_tells hg.1 d hm).up (by rw [T.dep]; omega)⟩
  | n, .node x cs, j + 1, c, hg, hz, hd, hj => by
    have hg0 := hg
    rw [T.good, T.goods_iff] at hg
    rw [T.dep] at hd ⊢
    rw [T.size] at hz hj
    have hlen := T.len_le_sizes cs
    have hne : cs ≠ [] := fun z => by rw [z, T.sizes] at hj; omega
    obtain ⟨m, rfl⟩ : ∃ m, n = m + 1 := by
      cases n with
      | zero => exact absurd (deps_zero (cs := cs) (by omega)) hne
      | succ m => exact ⟨m, rfl⟩
    have s0 : (0 : Nat) ≤ sizeLine := by decide
    have s2 : (2 : Nat) ≤ sizeLine := by decide
    obtain ⟨ds, k', p5, p6, e, el, a, b⟩ := bad_loop (Mt (m + 1)) (x := x) (m := T.deps cs) (K := .lst (T.dats cs)) (c := c) cs (j : Int) [] none none (fun t ht => ⟨hg.2 t ht, by have := T.size_le_sizes ht; omega, T.dep_le_deps ht⟩) (fun t ht => many_ok m t (by have := T.size_le_sizes ht; omega) (by have := T.dep_le_deps ht; omega))
      (fun t ht i hi => by
        have h1 := T.dep_le_deps ht
        have h2 := T.size_le_sizes ht
        obtain ⟨d, e, f⟩ := bad_ok m t i c (hg.2 t ht) (by omega) (by omega) hi
        exact ⟨d, e, f.up h1⟩)
      (by rw [List.length_nil]; omega) (fun d hd => by cases hd) (fun z => by omega) (by omega)
    refine ⟨.tup [.str (sS [x]), .lst ds], ?_, tells_node hg.1 (by rw [el, List.length_nil]; omega) a b⟩
    show mkF 4 (ioOf .law_bad) (b_law_bad (Mt (m + 1))) [(T.node x cs).dat, .int ((j + 1 : Nat) : Int), .int c] = _
    rw [T.dat, sS_one]
    have e0 : List.map some [D.tup [.str (sS [x]), .lst (T.dats cs)], .int ((j + 1 : Nat) : Int), .int c] ++ List.replicate 4 none = [some (.tup [.str (sS [x]), .lst (T.dats cs)]), some (.int ((j + 1 : Nat) : Int)), some (.int c), none, none, none, none] := rfl
    rw [mkF_e, e_law_bad, e0]
    have t1 : q_law_bad_1 (Mt (m + 1)) [some (.tup [.str (sS [x]), .lst (T.dats cs)]), some (.int ((j + 1 : Nat) : Int)), some (.int c), none, none, none, none] = .nx [some (.tup [.str (sS [x]), .lst (T.dats cs)]), some (.int ((j + 1 : Nat) : Int)), some (.int c), none, none, none, none] := by
      have hk : ¬ ((j + 1 : Nat) : Int) = 0 := by omega
      unfold q_law_bad_1
      generalize ((j + 1 : Nat) : Int) = J at hk ⊢
      generalize sS [x] = SX
      generalize T.dats cs = KK
      simp [hk]
    have t2 : q_law_bad_2 (Mt (m + 1)) [some (.tup [.str (sS [x]), .lst (T.dats cs)]), some (.int ((j + 1 : Nat) : Int)), some (.int c), none, none, none, none] = .nx [some (.tup [.str (sS [x]), .lst (T.dats cs)]), some (.int ((j + 1 : Nat) : Int)), some (.int c), none, some (.lst []), none, none] := by
      unfold q_law_bad_2
      generalize ((j + 1 : Nat) : Int) = J
      generalize sS [x] = SX
      generalize T.dats cs = KK
      simp [s0]
    have t3 : q_law_bad_3 (Mt (m + 1)) [some (.tup [.str (sS [x]), .lst (T.dats cs)]), some (.int ((j + 1 : Nat) : Int)), some (.int c), none, some (.lst []), none, none] = .nx [some (.tup [.str (sS [x]), .lst (T.dats cs)]), some (.int (j : Int)), some (.int c), none, some (.lst []), none, none] := by
      have hk : ((j + 1 : Nat) : Int) - 1 = (j : Int) := by omega
      unfold q_law_bad_3
      generalize ((j + 1 : Nat) : Int) = J at hk ⊢
      generalize sS [x] = SX
      generalize T.dats cs = KK
      simp [hk]
    have src : i_law_bad_4 (Mt (m + 1)) [some (.tup [.str (sS [x]), .lst (T.dats cs)]), some (.int (j : Int)), some (.int c), none, some (.lst []), none, none] = .ok (T.dats cs, some) [some (.tup [.str (sS [x]), .lst (T.dats cs)]), some (.int (j : Int)), some (.int c), none, some (.lst []), none, none] := by
      unfold i_law_bad_4
      generalize sS [x] = SX
      simp
    have t4 : q_law_bad_4 (Mt (m + 1)) [some (.tup [.str (sS [x]), .lst (T.dats cs)]), some (.int (j : Int)), some (.int c), none, some (.lst []), none, none] = .nx [some (.tup [.str (sS [x]), .lst (T.dats cs)]), some (.int k'), some (.int c), none, some (.lst ds), p5, p6] := by
      unfold q_law_bad_4
      rw [mFor_e, src, DM.R.thn_ok]
      show finR some (dFor (tName 5) _ (T.dats cs) _) = _
      rw [e]
      rfl
    rw [seq_nx t1, seq_nx t2, seq_nx t3, seq_nx t4]
    unfold q_law_bad_5
    generalize sS [x] = SX
    generalize T.dats cs = KK
    simp [ioOf, s2]
end K41
set_option maxRecDepth 100000
set_option maxHeartbeats 400000
namespace K41
open PySem PySem.Spec L2 DM
theorem cmp_sS {l : List Nat} (h : ∀ c ∈ l, c < 1114112) (k : Nat) : Cmp (.str (sS l)) k := ⟨.str (sS l), by rw [D.py], by
  rw [PyData.canLay0]
  unfold PyData.strOk
  rw [Array.all_eq_true_iff_forall_mem]
  intro c hc
  have : c ∈ l := by
    have := Array.mem_toList_iff.mpr hc
    rwa [show (sS l).cps.toList = l from sS_tl l] at this
  simpa using h c this, by rw [PyData.depth]; omega⟩
theorem eq_non {l : List Nat} (h : ∀ c ∈ l, c < 1114112) : eqD .non (.str (sS l)) = some (.bl false) := by
  show (eqvD .non (.str (sS l))).map D.bl = _
  obtain ⟨p, a, b, c⟩ := cmp_sS h 0
  obtain ⟨q, a', b', c'⟩ := Cmp.non 0
  have s1 := shaped_of b c (by decide)
  have s2 := shaped_of b' c' (by decide)
  unfold eqvD
  rw [a', a]
  simp only [s1, s2, and_self, if_true]
  have e1 : p = .str (sS l) := Option.some.inj (a.symm.trans (by rw [D.py]))
  have e2 : q = .none := Option.some.inj (a'.symm.trans (by rw [D.py]))
  subst e1 e2
  simp [PyData.eqv]
mutual
theorem sgn_lt : ∀ t : T, t.good → ∀ c ∈ t.sgn, c < 1114112
  | .node x cs, hg, c, hc => by
    rw [T.good] at hg
    by_cases e : cs = []
    · subst e
      rw [T.sgn_leaf] at hc
      rw [List.mem_singleton.mp hc]
      omega
    · rw [T.sgn_node x e] at hc
      simp only [List.mem_cons, List.mem_append, List.not_mem_nil, or_false] at hc
      rcases hc with rfl | rfl | hc | rfl
      · omega
      · decide
      · exact sgns_lt cs hg.2 c hc
      · decide
theorem sgns_lt : ∀ ts : List T, T.goods ts → ∀ c ∈ T.sgns ts, c < 1114112
  | [], _, c, hc => by rw [T.sgns] at hc; cases hc
  | t :: ts, hg, c, hc => by
    rw [T.goods] at hg
    rw [T.sgns] at hc
    rcases List.mem_append.mp hc with hc | hc
    · exact sgn_lt t hg.1 c hc
    · exact sgns_lt ts hg.2 c hc
end
theorem ne_txt : neD txtF txtF = some (.bl false) := neD_refl (k := 2) (CmpL.lst (.cons (.bl _ _) (.cons (cmp_sS (l := [116, 101, 120, 116]) (by decide) _) (.nil _)))) (by decide)
theorem ne_tre : neD treF treF = some (.bl false) := neD_refl (k := 2) (CmpL.lst (.cons (.bl _ _) (.cons (cmp_sS (l := [116, 114, 101, 101]) (by decide) _) (.nil _)))) (by decide)
theorem law_one {ns : List Int} {k : Nat} (hk : k < 100) {o1 o2 o3 : Option D} : ∃ x2 x3, Q_law_1b (Mt 59) [some (.scr ns), some (.int (k : Int)), o2, o3, none, none, none, none, none] = .nx [some (.scr ns), some (.int (k : Int)), x2, x3, none, none, none, none, none] := by
  obtain ⟨c, e1⟩ := cell_ok 58 ns (k := k) hk
  have e1 : Mt 59 .law_cell [.scr ns, .int (k : Int)] = .ok (.int c) [] := e1
  obtain ⟨a, ha, ha0⟩ : ∃ a : Int, DM.absD [.int c] = some (.int a) ∧ 0 ≤ a := by
    refine ⟨_, rfl, ?_⟩
    split <;> omega
  obtain ⟨l, e2, hl, hc⟩ := given_ok 58 (by omega) ha0
  have e2 : Mt 59 .law_given [.int a] = .ok (.str (sS l)) [] := e2
  have er := rest_ok 59 l (by omega) (by omega)
  have t1 : q_law_1b1 (Mt 59) [some (.scr ns), some (.int (k : Int)), o2, o3, none, none, none, none, none] = .nx [some (.scr ns), some (.int (k : Int)), some (.str (sS l)), o3, none, none, none, none, none] := by
    unfold q_law_1b1
    generalize sS l = SL at e2 ⊢
    simp [ioOf, e1, ha, e2]
  cases hr : readN l with
  | some t =>
    obtain ⟨hg, hs⟩ := readN_sound hr
    obtain ⟨u, hu⟩ := (prs_read (s := l) (n := 59) (by omega)).mpr ⟨t, hr⟩
    rw [hu] at er
    have er : Mt 59 .law_rest [.str (sS l)] = .ok (.str (sS [])) [] := er
    have ek : Mt 59 .law_asked [.int 0, .str (sS l)] = .ok (.lst [.bl false, t.dat]) [] := asked_ok (n := 57) (.inl ⟨rfl, read_ok 57 (by omega) hr⟩)
    have hd := T.dep_count t
    have hz := T.size_len t
    rw [hs] at hd hz
    have ew : Mt 59 .law_written [t.dat] = .ok (.str (sS l)) [] := by
      have := lwritten_ok 58 t (by omega) (by omega)
      rw [sS_wr, hs] at this
      exact this
    have en := ne_sS l l
    rw [decide_eq_true rfl] at en
    have eq0 := eq_sS [] []
    rw [decide_eq_true rfl] at eq0
    refine ⟨some (.str (sS l)), some (.lst [.bl false, t.dat]), ?_⟩
    have t2 : q_law_1b2 (Mt 59) [some (.scr ns), some (.int (k : Int)), some (.str (sS l)), o3, none, none, none, none, none] = .nx [some (.scr ns), some (.int (k : Int)), some (.str (sS l)), some (.lst [.bl false, t.dat]), none, none, none, none, none] := by
      unfold q_law_1b2
      generalize sS l = SL at ek ⊢
      generalize t.dat = TD at ek ⊢
      simp [ioOf, ek]
    have t3 : q_law_1b3 (Mt 59) [some (.scr ns), some (.int (k : Int)), some (.str (sS l)), some (.lst [.bl false, t.dat]), none, none, none, none, none] = .nx [some (.scr ns), some (.int (k : Int)), some (.str (sS l)), some (.lst [.bl false, t.dat]), none, none, none, none, none] := by
      unfold q_law_1b3 q_law_1b3t1 q_law_1b3t1t1
      rw [lit0]
      generalize sS [] = S0 at er eq0 ⊢
      generalize sS l = SL at er ew en ⊢
      generalize t.dat = TD at ew ⊢
      simp [ioOf, er, eq0, ew, en, -eqD_s, -neD_s]
    unfold Q_law_1b
    rw [seq_nx t1, seq_nx t2, t3]
  | none =>
    have ek : Mt 59 .law_asked [.int 0, .str (sS l)] = .ok txtF [] := asked_exc (n := 57) (tx := true) (.inl ⟨rfl, read_exc 57 (by omega) hr, rfl⟩)
    obtain ⟨R, hR, hne⟩ : ∃ R, rsD ((prs 59 l).map Prod.snd) = R ∧ eqD R (.str (sS [])) = some (.bl false) := by
      refine ⟨_, rfl, ?_⟩
      cases hp : prs 59 l with
      | none => exact eq_non (l := []) (fun c hc => by cases hc)
      | some r =>
        obtain ⟨u, s'⟩ := r
        show eqD (.str (sS s')) (.str (sS [])) = _
        rw [eq_sS, decide_eq_false]
        intro z
        subst z
        obtain ⟨t, ht⟩ := (prs_read (s := l) (n := 59) (by omega)).mp ⟨u, hp⟩
        rw [hr] at ht
        cases ht
    rw [hR] at er
    have ntx := ne_txt
    have hx : D.lst [.bl true, .str "text"] = txtF := rfl
    have s2 : (2 : Nat) ≤ sizeLine := by decide
    refine ⟨some (.str (sS l)), some txtF, ?_⟩
    have t2 : q_law_1b2 (Mt 59) [some (.scr ns), some (.int (k : Int)), some (.str (sS l)), o3, none, none, none, none, none] = .nx [some (.scr ns), some (.int (k : Int)), some (.str (sS l)), some (txtF), none, none, none, none, none] := by
      unfold q_law_1b2
      generalize sS l = SL at ek ⊢
      generalize txtF = TF at ek ⊢
      simp [ioOf, ek]
    have t3 : q_law_1b3 (Mt 59) [some (.scr ns), some (.int (k : Int)), some (.str (sS l)), some (txtF), none, none, none, none, none] = .nx [some (.scr ns), some (.int (k : Int)), some (.str (sS l)), some (txtF), none, none, none, none, none] := by
      unfold q_law_1b3 q_law_1b3e1 q_law_1b3e1t1
      rw [lit0]
      generalize sS [] = S0 at hne ⊢
      generalize sS l = SL at er ⊢
      generalize txtF = TF at ntx hx ⊢
      simp [ioOf, er, hne, hx, ntx, s2]
    unfold Q_law_1b
    rw [seq_nx t1, seq_nx t2, t3]
theorem law_two {ns : List Int} {k : Nat} (hk : k < 100) {o2 o3 o4 o5 o6 : Option D} : ∃ x4 x5 x6, Q_law_2b (Mt 59) [some (.scr ns), some (.int (k : Int)), o2, o3, o4, o5, o6, none, none] = .nx [some (.scr ns), some (.int (k : Int)), o2, o3, x4, x5, x6, none, none] := by
  obtain ⟨c0, e1⟩ := cell_ok 58 ns (k := k) hk
  have e1 : Mt 59 .law_cell [.scr ns, .int (k : Int)] = .ok (.int c0) [] := e1
  obtain ⟨c, hc, hc0⟩ : ∃ a : Int, DM.absD [.int c0] = some (.int a) ∧ 0 ≤ a := by
    refine ⟨_, rfl, ?_⟩
    split <;> omega
  obtain ⟨m, e2⟩ := mixed_ok 58 c (k := 8) (by omega)
  have e2 : Mt 59 .law_mixed [.int c, .int 8] = .ok (.int m) [] := e2
  have a0 : 0 ≤ c % 40 := Int.emod_nonneg _ (by decide)
  have a1 : c % 40 < 40 := Int.emod_lt_of_pos _ (by decide)
  obtain ⟨p, hp⟩ : ∃ p : Nat, 1 + c % 40 = (p : Int) := ⟨(1 + c % 40).toNat, by omega⟩
  have b0 : 0 ≤ c / 40 % 5 := Int.emod_nonneg _ (by decide)
  have b1 : c / 40 % 5 < 5 := Int.emod_lt_of_pos _ (by decide)
  obtain ⟨t, e3, hg, hz, hd⟩ := tree40_ok 58 (by omega) m (p := p) (q := 12) (w := c / 40 % 5) (by omega) (by omega) b0 b1 (by omega)
  have e3 : Mt 59 .law_tree [.int m, .int (p : Int), .int (c / 40 % 5), .int 12] = .ok t.dat [] := e3
  have em : Mt 59 .law_many [t.dat] = .ok (.int (t.size : Int)) [] := many_ok 58 t (by omega) (by omega)
  have hpos : 0 < t.size := by cases t with | node x cs => rw [T.size]; omega
  have j0 : 0 ≤ c / 200 % (t.size : Int) := Int.emod_nonneg _ (by omega)
  have j1 : c / 200 % (t.size : Int) < t.size := Int.emod_lt_of_pos _ (by omega)
  obtain ⟨j, hj⟩ : ∃ j : Nat, c / 200 % (t.size : Int) = (j : Int) := ⟨(c / 200 % (t.size : Int)).toNat, by omega⟩
  obtain ⟨d, eb, hf⟩ := bad_ok 58 t j (c / 8000 + (k : Int)) hg (by omega) (by omega) (by omega)
  have eb : Mt 59 .law_bad [t.dat, .int (j : Int), .int (c / 8000 + (k : Int))] = .ok d [] := eb
  have ek : Mt 59 .law_asked [.int 1, d] = .ok treF [] := asked_exc (n := 57) (tx := false) (.inr ⟨rfl, show_exc 56 (hf 56 (by omega)), rfl⟩)
  have eg : Mt 59 .law_asked [.int 1, t.dat] = .ok (.lst [.bl false, .str (sS t.sgn)]) [] := asked_ok (n := 57) (.inr ⟨rfl, show_ok 56 t hg (by omega) (by omega)⟩)
  have ew : Mt 59 .law_written [t.dat] = .ok (.str (sS t.sgn)) [] := lwritten_ok 58 t (by omega) (by omega)
  have n1 := ne_tre
  have hx : D.lst [.bl true, .str "tree"] = treF := rfl
  have n2 : neD (.lst [.bl false, .str (sS t.sgn)]) (.lst [.bl false, .str (sS t.sgn)]) = some (.bl false) := neD_refl (k := 2) (CmpL.lst (.cons (.bl _ _) (.cons (cmp_sS (sgn_lt t hg) _) (.nil _)))) (by decide)
  have s2 : (2 : Nat) ≤ sizeLine := by decide
  refine ⟨some (.int c), some t.dat, some d, ?_⟩
  have t1 : q_law_2b1 (Mt 59) [some (.scr ns), some (.int (k : Int)), o2, o3, o4, o5, o6, none, none] = .nx [some (.scr ns), some (.int (k : Int)), o2, o3, some (.int c), o5, o6, none, none] := by
    unfold q_law_2b1
    simp [ioOf, e1, hc]
  have t2 : q_law_2b2 (Mt 59) [some (.scr ns), some (.int (k : Int)), o2, o3, some (.int c), o5, o6, none, none] = .nx [some (.scr ns), some (.int (k : Int)), o2, o3, some (.int c), some (t.dat), o6, none, none] := by
    unfold q_law_2b2
    generalize t.dat = TD at e3 ⊢
    simp [ioOf, e2, hp, e3]
  have t3 : q_law_2b3 (Mt 59) [some (.scr ns), some (.int (k : Int)), o2, o3, some (.int c), some (t.dat), o6, none, none] = .nx [some (.scr ns), some (.int (k : Int)), o2, o3, some (.int c), some (t.dat), some (d), none, none] := by
    have hzp : (0 : Int) < (t.size : Int) := by omega
    unfold q_law_2b3
    generalize t.dat = TD at em eb ⊢
    generalize (t.size : Int) = Z at em hj hzp
    simp [ioOf, em, hzp, hj, eb]
  have t4 : q_law_2b4 (Mt 59) [some (.scr ns), some (.int (k : Int)), o2, o3, some (.int c), some (t.dat), some (d), none, none] = .nx [some (.scr ns), some (.int (k : Int)), o2, o3, some (.int c), some (t.dat), some (d), none, none] := by
    unfold q_law_2b4 q_law_2b4t1
    generalize treF = TF at ek n1 hx
    generalize sS t.sgn = SS at eg ew n2
    generalize t.dat = TD at eg ew ⊢
    simp [ioOf, ek, eg, ew, n1, n2, hx, s2]
  unfold Q_law_2b
  rw [seq_nx t1, seq_nx t2, seq_nx t3, t4]
def oddR : List D := [.non, .int 0, .lst [.str "a"], .tup [.str "a", .lst []], .bl true, .dK [] [], .tup [.str "a"]]
theorem read_odd (n : Nat) {d : D} (h : isiD .str d = some (.bl false)) : Mt (n + 1) .read_tree [d] = .exc "NoText" [] := by
  show mkF 4 (ioOf .read_tree) (b_read_tree (Mt n)) [d] = _
  have e0 : List.map some [d] ++ List.replicate 4 none = [some d, none, none, none, none] := rfl
  rw [mkF_e, e_read_tree, e0]
  have t1 : q_read_tree_1 (Mt n) [some d, none, none, none, none] = .exc "NoText" [some d, none, none, none, none] := by
    unfold q_read_tree_1 q_read_tree_1t1
    simp [h]
  rw [mSeq_e, t1]
  rfl
theorem oddR_no : ∀ d ∈ oddR, isiD .str d = some (.bl false) := by
  intro d hd
  unfold oddR at hd
  simp only [List.mem_cons, List.not_mem_nil, or_false] at hd
  rcases hd with rfl | rfl | rfl | rfl | rfl | rfl | rfl <;> rfl
def oddT : List D := [.non, .str "a", .tup [.str "a"], .tup [.str "aa", .lst []], .tup [.str "A", .lst []], .tup [.str "a", .tup []], .tup [.str "a", .lst [.tup [.str "b", .non]]]] ++ [.lst [.str "a", .lst []], .tup [.str "a", .lst [.lst [.str "b", .lst []]]], .tup [.str "", .lst []], .tup [.str "a", .lst [.tup [.str "b", .lst [.tup [.str "c", .lst []], .tup [.str "D", .lst []]]]]]] ++ [.tup [.str "a", .lst [.tup [.str "b", .lst []], .tup [.str "c", .lst [.tup [.str "d", .non]]]]]]
theorem oddT_no : ∀ d ∈ oddT, Tells 9 d false := by
  intro d hd
  unfold oddT at hd
  simp only [List.mem_append, List.mem_cons, List.not_mem_nil, or_false] at hd
  have one : ∀ c : Nat, ∀ C : Fc → Fn, bdOf C .is_letter [.str (sS [c])] = .ok (.bl (isLN c)) [] := fun c C => letter_one C c
  have none1 : ∀ c : Nat, isLN c = true → Tells 1 (.tup [.str (sS [c]), .non]) false := fun c h => tells_pair (ok := true) (fun C => by rw [one, h]) (.inr (.inl rfl))
  have leaf : ∀ c : Nat, 97 ≤ c ∧ c ≤ 122 → Tells 1 (.tup [.str (sS [c]), .lst []]) true := fun c h => by
    have := tells_tree (t := .node c []) (by rw [T.good]; exact ⟨h, by rw [T.goods]; trivial⟩) (by rw [T.size, T.sizes]; omega)
    rw [T.dep, T.deps, T.dat, T.dats] at this
    exact this
  rcases hd with ((rfl | rfl | rfl | rfl | rfl | rfl | rfl) | rfl | rfl | rfl | rfl) | rfl
  · exact (tells_no (.inl rfl)).up (by decide)
  · exact (tells_no (.inr (.inl ⟨_, rfl⟩))).up (by decide)
  · exact (tells_no (.inr (.inr (.inr ⟨_, rfl, by simp⟩)))).up (by decide)
  · exact (tells_pair (fun C => letter_long C (l := [97, 97]) (by simp) (by simp)) (.inl rfl)).up (by decide)
  · exact (tells_pair (one 65) (.inl (by decide))).up (by decide)
  · exact (tells_pair (one 97) (.inr (.inr rfl))).up (by decide)
  · refine (tells_node (x := 97) (m := 1) (ks := [.tup [.str (sS [98]), .non]]) (by decide) (by simp) (fun d hd => ?_) ⟨_, List.mem_singleton.mpr rfl, none1 98 (by decide)⟩).up (by decide)
    rw [List.mem_singleton.mp hd]
    exact ⟨_, none1 98 (by decide)⟩
  · exact (tells_no (.inr (.inr (.inl ⟨_, rfl⟩)))).up (by decide)
  · have h1 : Tells 1 (.lst [.str "b", .lst []]) false := tells_no (.inr (.inr (.inl ⟨_, rfl⟩)))
    refine (tells_node (x := 97) (m := 1) (ks := [.lst [.str "b", .lst []]]) (by decide) (by simp) (fun d hd => ?_) ⟨_, List.mem_singleton.mpr rfl, h1⟩).up (by decide)
    rw [List.mem_singleton.mp hd]
    exact ⟨_, h1⟩
  · exact (tells_pair (fun C => letter_long C (l := []) (by simp) (by simp)) (.inl rfl)).up (by decide)
  · have h1 : Tells 1 (.tup [.str (sS [68]), .lst []]) false := tells_pair (one 68) (.inl (by decide))
    have h2 := tells_node (x := 98) (m := 1) (ks := [.tup [.str (sS [99]), .lst []], .tup [.str (sS [68]), .lst []]]) (by decide) (by simp) (fun d hd => by
      simp only [List.mem_cons, List.not_mem_nil, or_false] at hd
      rcases hd with rfl | rfl
      · exact ⟨_, leaf 99 (by decide)⟩
      · exact ⟨_, h1⟩) ⟨_, by simp, h1⟩
    refine (tells_node (x := 97) (m := 2) (ks := [.tup [.str (sS [98]), .lst [.tup [.str (sS [99]), .lst []], .tup [.str (sS [68]), .lst []]]]]) (by decide) (by simp) (fun d hd => ?_) ⟨_, List.mem_singleton.mpr rfl, h2⟩).up (by decide)
    rw [List.mem_singleton.mp hd]
    exact ⟨_, h2⟩
  · have h2 := tells_node (x := 99) (m := 1) (ks := [.tup [.str (sS [100]), .non]]) (by decide) (by simp) (fun d hd => by
      rw [List.mem_singleton.mp hd]
      exact ⟨_, none1 100 (by decide)⟩) ⟨_, List.mem_singleton.mpr rfl, none1 100 (by decide)⟩
    exact (tells_node (x := 97) (m := 2) (ks := [.tup [.str (sS [98]), .lst []], .tup [.str (sS [99]), .lst [.tup [.str (sS [100]), .non]]]]) (by decide) (by simp) (fun d hd => by
      simp only [List.mem_cons, List.not_mem_nil, or_false] at hd
      rcases hd with rfl | rfl
      · exact ⟨_, (leaf 98 (by decide)).up (by decide)⟩
      · exact ⟨_, h2⟩) ⟨_, by simp, h2⟩).up (by decide)
theorem law_true : ∀ ns : List Int, ns.length ≤ 63 → Mt 60 .law [.scr ns] = .ok (.bl true) [] := by
  intro ns _
  have s2 : (2 : Nat) ≤ sizeLine := by decide
  obtain ⟨N, hN1, hN⟩ : ∃ N : Nat, N ≤ 63 ∧ (if (if (63 : Int) < ns.length then 63 else (ns.length : Int)) > 16 then (if (63 : Int) < ns.length then 63 else (ns.length : Int)) else 16) = (N : Int) := by
    by_cases h : (63 : Int) < ns.length
    · rw [if_pos h]; exact ⟨63, by omega, rfl⟩
    · rw [if_neg h]
      by_cases h2 : (ns.length : Int) > 16
      · rw [if_pos h2]; exact ⟨ns.length, by omega, rfl⟩
      · rw [if_neg h2]; exact ⟨16, by omega, rfl⟩
  have it : ∀ {n i : Nat} {d : D}, (rgItems 0 1 n)[i]? = some d → i < n ∧ d = .int (i : Int) := fun {n i d} h => by
    rw [rg_ints] at h
    unfold intsD at h
    have hi : i < n := by
      have := (List.getElem?_eq_some_iff.mp h).1
      simpa using this
    rw [List.getElem?_map, List.getElem?_range hi] at h
    exact ⟨hi, (Option.some.inj h).symm⟩
  -- the texts
  have src1 : i_law_1 (Mt 59) [some (.scr ns), none, none, none, none, none, none, none, none] = .ok (rgItems 0 1 N, some) [some (.scr ns), none, none, none, none, none, none, none, none] := by
    refine mSrcA_ok (os := [.v (.int (N : Int))]) (δ1 := [some (.scr ns), none, none, none, none, none, none, none, none]) (ds := [.int (N : Int)]) ?_ rfl rfl ?_
    · rw [← hN]
      simp
    · rw [range1_ok _ (by omega) (by omega), Int.toNat_natCast]
  obtain ⟨δ1, ef1, o1, o2, o3, rfl⟩ := dFor_run (tg := tName 1) (body := Q_law_1b (Mt 59)) (fun i δ => ∃ o1 o2 o3, δ = [some (.scr ns), o1, o2, o3, none, none, none, none, none]) (rgItems 0 1 N) 0 [some (.scr ns), none, none, none, none, none, none, none, none]
    ⟨none, none, none, rfl⟩ fun i x δ hx hI => by
      obtain ⟨hi, rfl⟩ := it hx
      obtain ⟨o1, o2, o3, rfl⟩ := hI
      obtain ⟨x2, x3, e⟩ := law_one (ns := ns) (k := i) (by omega) (o1 := o1) (o2 := o2) (o3 := o3)
      exact ⟨_, _, rfl, .inl e, some (.int (i : Int)), x2, x3, rfl⟩
  have t1 : q_law_1 (Mt 59) [some (.scr ns), none, none, none, none, none, none, none, none] = .nx [some (.scr ns), o1, o2, o3, none, none, none, none, none] := by
    unfold q_law_1
    rw [mFor_e, src1, DM.R.thn_ok]
    show finR some (dFor (tName 1) _ (rgItems _ _ _) _) = _
    rw [ef1]
    rfl
  -- the trees
  have src2 : i_law_2 (Mt 59) [some (.scr ns), o1, o2, o3, none, none, none, none, none] = .ok (rgItems 0 1 4, some) [some (.scr ns), o1, o2, o3, none, none, none, none, none] := by
    refine mSrcA_ok (os := [.v (.int 4)]) (δ1 := [some (.scr ns), o1, o2, o3, none, none, none, none, none]) (ds := [.int 4]) ?_ rfl rfl (range1_ok 4 (by omega) (by omega))
    simp
  obtain ⟨δ2, ef2, p1, p4, p5, p6, rfl⟩ := dFor_run (tg := tName 1) (body := Q_law_2b (Mt 59)) (fun i δ => ∃ p1 p4 p5 p6, δ = [some (.scr ns), p1, o2, o3, p4, p5, p6, none, none]) (rgItems 0 1 4) 0 [some (.scr ns), o1, o2, o3, none, none, none, none, none]
    ⟨o1, none, none, none, rfl⟩ fun i x δ hx hI => by
      obtain ⟨hi, rfl⟩ := it hx
      obtain ⟨p1, p4, p5, p6, rfl⟩ := hI
      obtain ⟨x4, x5, x6, e⟩ := law_two (ns := ns) (k := i) (by omega) (o2 := o2) (o3 := o3) (o4 := p4) (o5 := p5) (o6 := p6)
      exact ⟨_, _, rfl, .inl e, some (.int (i : Int)), x4, x5, x6, rfl⟩
  have t2 : q_law_2 (Mt 59) [some (.scr ns), o1, o2, o3, none, none, none, none, none] = .nx [some (.scr ns), p1, o2, o3, p4, p5, p6, none, none] := by
    unfold q_law_2
    rw [mFor_e, src2, DM.R.thn_ok]
    show finR some (dFor (tName 1) _ (rgItems _ _ _) _) = _
    rw [ef2]
    rfl
  -- what is no text
  have ntx := ne_txt
  have hxt : D.lst [.bl true, .str "text"] = txtF := rfl
  have src3 : i_law_3 (Mt 59) [some (.scr ns), p1, o2, o3, p4, p5, p6, none, none] = .ok (oddR, some) [some (.scr ns), p1, o2, o3, p4, p5, p6, none, none] := rfl
  obtain ⟨δ3, ef3, p7, rfl⟩ := dFor_run (tg := tName 7) (body := q_law_3b1 (Mt 59)) (fun i δ => ∃ p7, δ = [some (.scr ns), p1, o2, o3, p4, p5, p6, p7, none]) oddR 0 [some (.scr ns), p1, o2, o3, p4, p5, p6, none, none]
    ⟨none, rfl⟩ fun i d δ hx hI => by
      obtain ⟨p7, rfl⟩ := hI
      have hd := oddR_no d (List.mem_of_getElem? hx)
      have ek : Mt 59 .law_asked [.int 0, d] = .ok txtF [] := asked_exc (n := 57) (tx := true) (.inl ⟨rfl, read_odd 57 hd, rfl⟩)
      refine ⟨_, _, rfl, .inl (?_ : q_law_3b1 (Mt 59) [some (.scr ns), p1, o2, o3, p4, p5, p6, some (d), none] = .nx [some (.scr ns), p1, o2, o3, p4, p5, p6, some (d), none]), some d, rfl⟩
      unfold q_law_3b1 q_law_3b1t1
      generalize txtF = TF at ek ntx hxt
      simp [ioOf, ek, hxt, ntx, s2]
  have t3 : q_law_3 (Mt 59) [some (.scr ns), p1, o2, o3, p4, p5, p6, none, none] = .nx [some (.scr ns), p1, o2, o3, p4, p5, p6, p7, none] := by
    unfold q_law_3
    rw [mFor_e, src3, DM.R.thn_ok]
    show finR some (dFor (tName 7) _ oddR _) = _
    rw [ef3]
    rfl
  -- what is no tree
  have ntr := ne_tre
  have hxr : D.lst [.bl true, .str "tree"] = treF := rfl
  obtain ⟨L8, t45, src6⟩ : ∃ L8, mSeq (q_law_4 (Mt 59)) (q_law_5 (Mt 59)) [some (.scr ns), p1, o2, o3, p4, p5, p6, p7, none] = .nx [some (.scr ns), p1, o2, o3, p4, p5, p6, p7, some (L8)] ∧
      i_law_6 (Mt 59) [some (.scr ns), p1, o2, o3, p4, p5, p6, p7, some (L8)] = .ok (oddT, some) [some (.scr ns), p1, o2, o3, p4, p5, p6, p7, some (L8)] := ⟨_, rfl, rfl⟩
  obtain ⟨δ6, ef6, p8, rfl⟩ := dFor_run (tg := tName 7) (body := q_law_6b1 (Mt 59)) (fun i δ => ∃ p7, δ = [some (.scr ns), p1, o2, o3, p4, p5, p6, p7, some (L8)]) oddT 0 [some (.scr ns), p1, o2, o3, p4, p5, p6, p7, some (L8)]
    ⟨p7, rfl⟩ fun i d δ hx hI => by
      obtain ⟨p7, rfl⟩ := hI
      have hd := oddT_no d (List.mem_of_getElem? hx)
      have ek : Mt 59 .law_asked [.int 1, d] = .ok treF [] := asked_exc (n := 57) (tx := false) (.inr ⟨rfl, show_exc 56 (hd 56 (by omega)), rfl⟩)
      refine ⟨_, _, rfl, .inl (?_ : q_law_6b1 (Mt 59) [some (.scr ns), p1, o2, o3, p4, p5, p6, some (d), some (L8)] = .nx [some (.scr ns), p1, o2, o3, p4, p5, p6, some (d), some (L8)]), some d, rfl⟩
      unfold q_law_6b1 q_law_6b1t1
      generalize treF = TF at ek ntr hxr
      simp [ioOf, ek, hxr, ntr, s2]
  have t6 : q_law_6 (Mt 59) [some (.scr ns), p1, o2, o3, p4, p5, p6, p7, some (L8)] = .nx [some (.scr ns), p1, o2, o3, p4, p5, p6, p8, some (L8)] := by
    unfold q_law_6
    rw [mFor_e, src6, DM.R.thn_ok]
    show finR some (dFor (tName 7) _ oddT _) = _
    rw [ef6]
    rfl
  have ass : ∀ (a b c : DEnv → SR) (δ : DEnv), mSeq a (mSeq b c) δ = mSeq (mSeq a b) c δ := fun a b c δ => by
    rw [mSeq_e, mSeq_e, mSeq_e]
    cases a δ <;> rfl
  show mkF 8 (ioOf .law) (b_law (Mt 59)) [.scr ns] = _
  have e0 : List.map some [D.scr ns] ++ List.replicate 8 none = [some (.scr ns), none, none, none, none, none, none, none, none] := rfl
  rw [mkF_e, e_law, e0, seq_nx t1, seq_nx t2, seq_nx t3, ass, seq_nx t45, seq_nx t6]
  unfold q_law_7
  simp [ioOf]
end K41
set_option maxRecDepth 100000
set_option maxHeartbeats 4000000
open PySem PySem.Spec L2 DM
namespace K41
open PySem PySem.Spec L2 DM
theorem all_mk (hlaw : ∀ ns : List Int, ns.length ≤ 63 → Mt 60 .law [.scr ns] = .ok (.bl true) []) {l : PySem.W.OpenLaw} {w : World} {K : PySem.W.Frag} {h : Heap} {mg : Str → Option Value} {fa : Addr}
    {f0 f1 f2 f3 f4 f5 f6 f7 f8 f9 f10 f11 f12 f13 f14 f15 f16 f17 f18 : Addr} {od18 an18 : Option Addr} {sl18 : Array (Option Value)} {oc18 kV18 dc18 pm18 cd18 ct18 : Value}
    {tk_LETTERS_trees : Tok}
    {tk_LETTERS_texts : Tok}
    {w2 : Addr}
    {w3 : Addr}
    {w4 : Addr}
    {w5 : Addr}
    {w6 : Addr}
    {w7 : Addr}
    {w8 : Addr}
    {w9 : Addr}
    {w10 : Addr}
    {w11 : Addr}
    {w12 : Addr}
    (X : K.In h) (G : h.Ns mainGlobals mg) (hfa : mg "law" = some (.ref fa))
    (r0 : FR0 K "is_letter" s_is_letter f0)
    (r1 : FR0 K "is_tree" s_is_tree f1)
    (r2 : FR0 K "written" s_written f2)
    (r3 : FR0 K "show_tree" s_show_tree f3)
    (r4 : FR0 K "read_tree" s_read_tree f4)
    (r5 : FR0 K "_law_cell" s_law_cell f5)
    (r6 : FR0 K "_law_mixed" s_law_mixed f6)
    (r7 : FR0 K "_law_letter" s_law_letter f7)
    (r8 : FR0 K "_law_tree" s_law_tree f8)
    (r9 : FR0 K "_law_built" s_law_built f9)
    (r10 : FR0 K "_law_written" s_law_written f10)
    (r11 : FR0 K "_law_rest" s_law_rest f11)
    (r12 : FR0 K "_law_odd" s_law_odd f12)
    (r13 : FR0 K "_law_given" s_law_given f13)
    (r14 : FR0 K "_law_asked" s_law_asked f14)
    (r15 : FR0 K "_law_word" s_law_word f15)
    (r16 : FR0 K "_law_bad" s_law_bad f16)
    (r17 : FR0 K "_law_many" s_law_many f17)
    (a18 : PySem.W.nsIn K mainGlobals "law" = some (some (.ref f18))) (l18 : K.lookup f18 = some ⟨oc18, od18, .func (PySem.W.fnOf "law" "law" (defArgs s_law) (defBody s_law) (defScope s_law) .none kV18 dc18 pm18 an18 cd18 ct18), sl18⟩) (c18 : PySem.W.codeIn K cd18 "law" = true) (k18 : PySem.W.keepIn K (.ref f18) = true)
    (z_ValueError : PySem.W.nsIn K mainGlobals "ValueError" = some none)
    (z_abs : PySem.W.nsIn K mainGlobals "abs" = some none)
    (z_enumerate : PySem.W.nsIn K mainGlobals "enumerate" = some none)
    (z_int : PySem.W.nsIn K mainGlobals "int" = some none)
    (z_isinstance : PySem.W.nsIn K mainGlobals "isinstance" = some none)
    (z_len : PySem.W.nsIn K mainGlobals "len" = some none)
    (z_list : PySem.W.nsIn K mainGlobals "list" = some none)
    (z_max : PySem.W.nsIn K mainGlobals "max" = some none)
    (z_min : PySem.W.nsIn K mainGlobals "min" = some none)
    (z_range : PySem.W.nsIn K mainGlobals "range" = some none)
    (z_str : PySem.W.nsIn K mainGlobals "str" = some none)
    (z_sum : PySem.W.nsIn K mainGlobals "sum" = some none)
    (z_tuple : PySem.W.nsIn K mainGlobals "tuple" = some none)
    (g_LETTERS_trees : PySem.W.nsIn K mainGlobals "LETTERS_trees" = some (some (.str "abcdefghijklmnopqrstuvwxyz" tk_LETTERS_trees)))
    (g_LETTERS_texts : PySem.W.nsIn K mainGlobals "LETTERS_texts" = some (some (.str "abcdefghijklmnopqrstuvwxyz" tk_LETTERS_texts)))
    (e_TwigError : PySem.W.nsIn K mainGlobals "TwigError" = some (some (.ref w2))) (q_TwigError : PySem.W.excIn K w2 [.type "ValueError", .type "Exception", .type "BaseException", .type "object"] "ValueError.__new__" = true) (h_TwigError : PySem.W.keepIn K (.ref w2) = true) (b_TwigError : PySem.W.subIn K (.ref w2) (.type "BaseException") = some true) (t_TwigError : PySem.W.typeIn K (.ref w2) = some (.type "type"))
    (e_NoTree : PySem.W.nsIn K mainGlobals "NoTree" = some (some (.ref w3))) (q_NoTree : PySem.W.excIn K w3 [.type "ValueError", .type "Exception", .type "BaseException", .type "object"] "ValueError.__new__" = true) (h_NoTree : PySem.W.keepIn K (.ref w3) = true) (b_NoTree : PySem.W.subIn K (.ref w3) (.type "BaseException") = some true) (t_NoTree : PySem.W.typeIn K (.ref w3) = some (.type "type"))
    (e_NoPart : PySem.W.nsIn K mainGlobals "NoPart" = some (some (.ref w4))) (q_NoPart : PySem.W.excIn K w4 [.type "ValueError", .type "Exception", .type "BaseException", .type "object"] "ValueError.__new__" = true) (h_NoPart : PySem.W.keepIn K (.ref w4) = true) (b_NoPart : PySem.W.subIn K (.ref w4) (.type "BaseException") = some true) (t_NoPart : PySem.W.typeIn K (.ref w4) = some (.type "type"))
    (e_NoWay : PySem.W.nsIn K mainGlobals "NoWay" = some (some (.ref w5))) (q_NoWay : PySem.W.excIn K w5 [.type "ValueError", .type "Exception", .type "BaseException", .type "object"] "ValueError.__new__" = true) (h_NoWay : PySem.W.keepIn K (.ref w5) = true) (b_NoWay : PySem.W.subIn K (.ref w5) (.type "BaseException") = some true) (t_NoWay : PySem.W.typeIn K (.ref w5) = some (.type "type"))
    (e_NoNumber : PySem.W.nsIn K mainGlobals "NoNumber" = some (some (.ref w6))) (q_NoNumber : PySem.W.excIn K w6 [.type "ValueError", .type "Exception", .type "BaseException", .type "object"] "ValueError.__new__" = true) (h_NoNumber : PySem.W.keepIn K (.ref w6) = true) (b_NoNumber : PySem.W.subIn K (.ref w6) (.type "BaseException") = some true) (t_NoNumber : PySem.W.typeIn K (.ref w6) = some (.type "type"))
    (e_NoFinding : PySem.W.nsIn K mainGlobals "NoFinding" = some (some (.ref w7))) (q_NoFinding : PySem.W.excIn K w7 [.type "ValueError", .type "Exception", .type "BaseException", .type "object"] "ValueError.__new__" = true) (h_NoFinding : PySem.W.keepIn K (.ref w7) = true) (b_NoFinding : PySem.W.subIn K (.ref w7) (.type "BaseException") = some true) (t_NoFinding : PySem.W.typeIn K (.ref w7) = some (.type "type"))
    (e_TooMany : PySem.W.nsIn K mainGlobals "TooMany" = some (some (.ref w8))) (q_TooMany : PySem.W.excIn K w8 [.type "ValueError", .type "Exception", .type "BaseException", .type "object"] "ValueError.__new__" = true) (h_TooMany : PySem.W.keepIn K (.ref w8) = true) (b_TooMany : PySem.W.subIn K (.ref w8) (.type "BaseException") = some true) (t_TooMany : PySem.W.typeIn K (.ref w8) = some (.type "type"))
    (e_NoLetter : PySem.W.nsIn K mainGlobals "NoLetter" = some (some (.ref w9))) (q_NoLetter : PySem.W.excIn K w9 [.type "ValueError", .type "Exception", .type "BaseException", .type "object"] "ValueError.__new__" = true) (h_NoLetter : PySem.W.keepIn K (.ref w9) = true) (b_NoLetter : PySem.W.subIn K (.ref w9) (.type "BaseException") = some true) (t_NoLetter : PySem.W.typeIn K (.ref w9) = some (.type "type"))
    (e_NoText : PySem.W.nsIn K mainGlobals "NoText" = some (some (.ref w10))) (q_NoText : PySem.W.excIn K w10 [.type "ValueError", .type "Exception", .type "BaseException", .type "object"] "ValueError.__new__" = true) (h_NoText : PySem.W.keepIn K (.ref w10) = true) (b_NoText : PySem.W.subIn K (.ref w10) (.type "BaseException") = some true) (t_NoText : PySem.W.typeIn K (.ref w10) = some (.type "type"))
    (e_NoName : PySem.W.nsIn K mainGlobals "NoName" = some (some (.ref w11))) (q_NoName : PySem.W.excIn K w11 [.type "ValueError", .type "Exception", .type "BaseException", .type "object"] "ValueError.__new__" = true) (h_NoName : PySem.W.keepIn K (.ref w11) = true) (b_NoName : PySem.W.subIn K (.ref w11) (.type "BaseException") = some true) (t_NoName : PySem.W.typeIn K (.ref w11) = some (.type "type"))
    (e_NoRow : PySem.W.nsIn K mainGlobals "NoRow" = some (some (.ref w12))) (q_NoRow : PySem.W.excIn K w12 [.type "ValueError", .type "Exception", .type "BaseException", .type "object"] "ValueError.__new__" = true) (h_NoRow : PySem.W.keepIn K (.ref w12) = true) (b_NoRow : PySem.W.subIn K (.ref w12) (.type "BaseException") = some true) (t_NoRow : PySem.W.typeIn K (.ref w12) = some (.type "type"))
    (XN : PySem.W.specialIn K (.builtin "object.__class__") "__get__" = some (some (.builtin "getset_descriptor.__get__"))) (XT : PySem.W.takesIn K (.builtin "object.__class__") = some true)
    (xg_NoTree : PySem.W.findIn K (.ref w3) "__getattribute__" = some (some (.builtin "BaseException.__getattribute__"))) (xk_NoTree : PySem.W.findIn K (.ref w3) "__getattr__" = some none) (xd_NoTree : PySem.W.hasDictIn K w3 = true) (xa_NoTree : PySem.W.findIn K (.ref w3) "__class__" = some (some (.builtin "object.__class__"))) (xm_NoTree : PySem.W.mroIn K w3 (.type "object") = some true)
    (xg_NoText : PySem.W.findIn K (.ref w10) "__getattribute__" = some (some (.builtin "BaseException.__getattribute__"))) (xk_NoText : PySem.W.findIn K (.ref w10) "__getattr__" = some none) (xd_NoText : PySem.W.hasDictIn K w10 = true) (xa_NoText : PySem.W.findIn K (.ref w10) "__class__" = some (some (.builtin "object.__class__"))) (xm_NoText : PySem.W.mroIn K w10 (.type "object") = some true)
    (xd_TwigError : PySem.W.hasDictIn K w2 = true)
    (sn_TwigError : PySem.W.subIn K (.type "NoneType") (.ref w2) = some false)
    (sb_NoTree_TwigError : PySem.W.subIn K (.ref w3) (.ref w2) = some true)
    (dn_NoTree_TwigError : (Value.ref w3 == Value.ref w2) = false)
    (sb_NoText_TwigError : PySem.W.subIn K (.ref w10) (.ref w2) = some true)
    (dn_NoText_TwigError : (Value.ref w10 == Value.ref w2) = false)
    (sn_NoTree : PySem.W.subIn K (.type "NoneType") (.ref w3) = some false)
    (sb_NoTree_NoTree : PySem.W.subIn K (.ref w3) (.ref w3) = some true)
    (sb_NoText_NoTree : PySem.W.subIn K (.ref w10) (.ref w3) = some false)
    (dn_NoText_NoTree : (Value.ref w10 == Value.ref w3) = false)
    (xd_NoPart : PySem.W.hasDictIn K w4 = true)
    (sn_NoPart : PySem.W.subIn K (.type "NoneType") (.ref w4) = some false)
    (sb_NoTree_NoPart : PySem.W.subIn K (.ref w3) (.ref w4) = some false)
    (dn_NoTree_NoPart : (Value.ref w3 == Value.ref w4) = false)
    (sb_NoText_NoPart : PySem.W.subIn K (.ref w10) (.ref w4) = some false)
    (dn_NoText_NoPart : (Value.ref w10 == Value.ref w4) = false)
    (xd_NoWay : PySem.W.hasDictIn K w5 = true)
    (sn_NoWay : PySem.W.subIn K (.type "NoneType") (.ref w5) = some false)
    (sb_NoTree_NoWay : PySem.W.subIn K (.ref w3) (.ref w5) = some false)
    (dn_NoTree_NoWay : (Value.ref w3 == Value.ref w5) = false)
    (sb_NoText_NoWay : PySem.W.subIn K (.ref w10) (.ref w5) = some false)
    (dn_NoText_NoWay : (Value.ref w10 == Value.ref w5) = false)
    (xd_NoNumber : PySem.W.hasDictIn K w6 = true)
    (sn_NoNumber : PySem.W.subIn K (.type "NoneType") (.ref w6) = some false)
    (sb_NoTree_NoNumber : PySem.W.subIn K (.ref w3) (.ref w6) = some false)
    (dn_NoTree_NoNumber : (Value.ref w3 == Value.ref w6) = false)
    (sb_NoText_NoNumber : PySem.W.subIn K (.ref w10) (.ref w6) = some false)
    (dn_NoText_NoNumber : (Value.ref w10 == Value.ref w6) = false)
    (xd_NoFinding : PySem.W.hasDictIn K w7 = true)
    (sn_NoFinding : PySem.W.subIn K (.type "NoneType") (.ref w7) = some false)
    (sb_NoTree_NoFinding : PySem.W.subIn K (.ref w3) (.ref w7) = some false)
    (dn_NoTree_NoFinding : (Value.ref w3 == Value.ref w7) = false)
    (sb_NoText_NoFinding : PySem.W.subIn K (.ref w10) (.ref w7) = some false)
    (dn_NoText_NoFinding : (Value.ref w10 == Value.ref w7) = false)
    (xd_TooMany : PySem.W.hasDictIn K w8 = true)
    (sn_TooMany : PySem.W.subIn K (.type "NoneType") (.ref w8) = some false)
    (sb_NoTree_TooMany : PySem.W.subIn K (.ref w3) (.ref w8) = some false)
    (dn_NoTree_TooMany : (Value.ref w3 == Value.ref w8) = false)
    (sb_NoText_TooMany : PySem.W.subIn K (.ref w10) (.ref w8) = some false)
    (dn_NoText_TooMany : (Value.ref w10 == Value.ref w8) = false)
    (xd_NoLetter : PySem.W.hasDictIn K w9 = true)
    (sn_NoLetter : PySem.W.subIn K (.type "NoneType") (.ref w9) = some false)
    (sb_NoTree_NoLetter : PySem.W.subIn K (.ref w3) (.ref w9) = some false)
    (dn_NoTree_NoLetter : (Value.ref w3 == Value.ref w9) = false)
    (sb_NoText_NoLetter : PySem.W.subIn K (.ref w10) (.ref w9) = some false)
    (dn_NoText_NoLetter : (Value.ref w10 == Value.ref w9) = false)
    (sn_NoText : PySem.W.subIn K (.type "NoneType") (.ref w10) = some false)
    (sb_NoTree_NoText : PySem.W.subIn K (.ref w3) (.ref w10) = some false)
    (dn_NoTree_NoText : (Value.ref w3 == Value.ref w10) = false)
    (sb_NoText_NoText : PySem.W.subIn K (.ref w10) (.ref w10) = some true)
    (xd_NoName : PySem.W.hasDictIn K w11 = true)
    (sn_NoName : PySem.W.subIn K (.type "NoneType") (.ref w11) = some false)
    (sb_NoTree_NoName : PySem.W.subIn K (.ref w3) (.ref w11) = some false)
    (dn_NoTree_NoName : (Value.ref w3 == Value.ref w11) = false)
    (sb_NoText_NoName : PySem.W.subIn K (.ref w10) (.ref w11) = some false)
    (dn_NoText_NoName : (Value.ref w10 == Value.ref w11) = false)
    (xd_NoRow : PySem.W.hasDictIn K w12 = true)
    (sn_NoRow : PySem.W.subIn K (.type "NoneType") (.ref w12) = some false)
    (sb_NoTree_NoRow : PySem.W.subIn K (.ref w3) (.ref w12) = some false)
    (dn_NoTree_NoRow : (Value.ref w3 == Value.ref w12) = false)
    (sb_NoText_NoRow : PySem.W.subIn K (.ref w10) (.ref w12) = some false)
    (dn_NoText_NoRow : (Value.ref w10 == Value.ref w12) = false)
    (sv_NoTree : PySem.W.subIn K (.ref w3) (.type "ValueError") = some true)
    (sv_NoText : PySem.W.subIn K (.ref w10) (.type "ValueError") = some true) :
    ∃ fd : FuncData, (∀ (s : Shared) (v : Value), BindsTo s fd ⟨[v], []⟩ [("script", v)]) ∧ ∀ base : Heap, K.In base → base.Ns mainGlobals mg → SysB base → FnOkG l.prog w K mg base (L2.CX l.prog w) 120 fa fd ["script"] (spLaw K) := by
  have e := hfa.symm.trans (PySem.W.mg_of X G a18)
  cases e
  have KX_TwigError : ∀ cn C, cn ∈ (["NoTree", "NoText"] : List Str) → mg cn = some (.ref C) → PySem.W.exmOne K (.ref C) (.ref w2) = some true := fun cn C h g => by
    simp only [List.mem_cons, List.not_mem_nil, or_false] at h
    rcases h with rfl | rfl
    · have z := g.symm.trans (PySem.W.mg_of X G e_NoTree)
      cases z
      exact PySem.W.exm_ref b_TwigError xd_TwigError t_TwigError sb_NoTree_TwigError
    · have z := g.symm.trans (PySem.W.mg_of X G e_NoText)
      cases z
      exact PySem.W.exm_ref b_TwigError xd_TwigError t_TwigError sb_NoText_TwigError

  have KT_NoFinding : ∀ (c : Str) (C : Addr) (b : Bool), tb_NoFinding c = some b → mg c = some (.ref C) → ExcC K C ∧ PySem.W.kitOne K (.ref C) (.ref w7) = some b := fun c C b h g => by
    unfold tb_NoFinding at h
    by_cases h0 : c = "NoTree"
    · subst h0
      rw [if_pos rfl] at h
      have z := g.symm.trans (PySem.W.mg_of X G e_NoTree)
      cases z
      cases h
      exact ⟨⟨xg_NoTree, xk_NoTree, b_NoTree, xd_NoTree, xa_NoTree, XN, XT, xm_NoTree⟩, kit_of dn_NoTree_NoFinding xd_NoFinding t_NoFinding sb_NoTree_NoFinding⟩
    rw [if_neg h0] at h
    by_cases h1 : c = "NoText"
    · subst h1
      rw [if_pos rfl] at h
      have z := g.symm.trans (PySem.W.mg_of X G e_NoText)
      cases z
      cases h
      exact ⟨⟨xg_NoText, xk_NoText, b_NoText, xd_NoText, xa_NoText, XN, XT, xm_NoText⟩, kit_of dn_NoText_NoFinding xd_NoFinding t_NoFinding sb_NoText_NoFinding⟩
    rw [if_neg h1] at h
    cases h
  have KT_NoLetter : ∀ (c : Str) (C : Addr) (b : Bool), tb_NoLetter c = some b → mg c = some (.ref C) → ExcC K C ∧ PySem.W.kitOne K (.ref C) (.ref w9) = some b := fun c C b h g => by
    unfold tb_NoLetter at h
    by_cases h0 : c = "NoTree"
    · subst h0
      rw [if_pos rfl] at h
      have z := g.symm.trans (PySem.W.mg_of X G e_NoTree)
      cases z
      cases h
      exact ⟨⟨xg_NoTree, xk_NoTree, b_NoTree, xd_NoTree, xa_NoTree, XN, XT, xm_NoTree⟩, kit_of dn_NoTree_NoLetter xd_NoLetter t_NoLetter sb_NoTree_NoLetter⟩
    rw [if_neg h0] at h
    by_cases h1 : c = "NoText"
    · subst h1
      rw [if_pos rfl] at h
      have z := g.symm.trans (PySem.W.mg_of X G e_NoText)
      cases z
      cases h
      exact ⟨⟨xg_NoText, xk_NoText, b_NoText, xd_NoText, xa_NoText, XN, XT, xm_NoText⟩, kit_of dn_NoText_NoLetter xd_NoLetter t_NoLetter sb_NoText_NoLetter⟩
    rw [if_neg h1] at h
    cases h
  have KT_NoName : ∀ (c : Str) (C : Addr) (b : Bool), tb_NoName c = some b → mg c = some (.ref C) → ExcC K C ∧ PySem.W.kitOne K (.ref C) (.ref w11) = some b := fun c C b h g => by
    unfold tb_NoName at h
    by_cases h0 : c = "NoTree"
    · subst h0
      rw [if_pos rfl] at h
      have z := g.symm.trans (PySem.W.mg_of X G e_NoTree)
      cases z
      cases h
      exact ⟨⟨xg_NoTree, xk_NoTree, b_NoTree, xd_NoTree, xa_NoTree, XN, XT, xm_NoTree⟩, kit_of dn_NoTree_NoName xd_NoName t_NoName sb_NoTree_NoName⟩
    rw [if_neg h0] at h
    by_cases h1 : c = "NoText"
    · subst h1
      rw [if_pos rfl] at h
      have z := g.symm.trans (PySem.W.mg_of X G e_NoText)
      cases z
      cases h
      exact ⟨⟨xg_NoText, xk_NoText, b_NoText, xd_NoText, xa_NoText, XN, XT, xm_NoText⟩, kit_of dn_NoText_NoName xd_NoName t_NoName sb_NoText_NoName⟩
    rw [if_neg h1] at h
    cases h
  have KT_NoNumber : ∀ (c : Str) (C : Addr) (b : Bool), tb_NoNumber c = some b → mg c = some (.ref C) → ExcC K C ∧ PySem.W.kitOne K (.ref C) (.ref w6) = some b := fun c C b h g => by
    unfold tb_NoNumber at h
    by_cases h0 : c = "NoTree"
    · subst h0
      rw [if_pos rfl] at h
      have z := g.symm.trans (PySem.W.mg_of X G e_NoTree)
      cases z
      cases h
      exact ⟨⟨xg_NoTree, xk_NoTree, b_NoTree, xd_NoTree, xa_NoTree, XN, XT, xm_NoTree⟩, kit_of dn_NoTree_NoNumber xd_NoNumber t_NoNumber sb_NoTree_NoNumber⟩
    rw [if_neg h0] at h
    by_cases h1 : c = "NoText"
    · subst h1
      rw [if_pos rfl] at h
      have z := g.symm.trans (PySem.W.mg_of X G e_NoText)
      cases z
      cases h
      exact ⟨⟨xg_NoText, xk_NoText, b_NoText, xd_NoText, xa_NoText, XN, XT, xm_NoText⟩, kit_of dn_NoText_NoNumber xd_NoNumber t_NoNumber sb_NoText_NoNumber⟩
    rw [if_neg h1] at h
    cases h
  have KT_NoPart : ∀ (c : Str) (C : Addr) (b : Bool), tb_NoPart c = some b → mg c = some (.ref C) → ExcC K C ∧ PySem.W.kitOne K (.ref C) (.ref w4) = some b := fun c C b h g => by
    unfold tb_NoPart at h
    by_cases h0 : c = "NoTree"
    · subst h0
      rw [if_pos rfl] at h
      have z := g.symm.trans (PySem.W.mg_of X G e_NoTree)
      cases z
      cases h
      exact ⟨⟨xg_NoTree, xk_NoTree, b_NoTree, xd_NoTree, xa_NoTree, XN, XT, xm_NoTree⟩, kit_of dn_NoTree_NoPart xd_NoPart t_NoPart sb_NoTree_NoPart⟩
    rw [if_neg h0] at h
    by_cases h1 : c = "NoText"
    · subst h1
      rw [if_pos rfl] at h
      have z := g.symm.trans (PySem.W.mg_of X G e_NoText)
      cases z
      cases h
      exact ⟨⟨xg_NoText, xk_NoText, b_NoText, xd_NoText, xa_NoText, XN, XT, xm_NoText⟩, kit_of dn_NoText_NoPart xd_NoPart t_NoPart sb_NoText_NoPart⟩
    rw [if_neg h1] at h
    cases h
  have KT_NoRow : ∀ (c : Str) (C : Addr) (b : Bool), tb_NoRow c = some b → mg c = some (.ref C) → ExcC K C ∧ PySem.W.kitOne K (.ref C) (.ref w12) = some b := fun c C b h g => by
    unfold tb_NoRow at h
    by_cases h0 : c = "NoTree"
    · subst h0
      rw [if_pos rfl] at h
      have z := g.symm.trans (PySem.W.mg_of X G e_NoTree)
      cases z
      cases h
      exact ⟨⟨xg_NoTree, xk_NoTree, b_NoTree, xd_NoTree, xa_NoTree, XN, XT, xm_NoTree⟩, kit_of dn_NoTree_NoRow xd_NoRow t_NoRow sb_NoTree_NoRow⟩
    rw [if_neg h0] at h
    by_cases h1 : c = "NoText"
    · subst h1
      rw [if_pos rfl] at h
      have z := g.symm.trans (PySem.W.mg_of X G e_NoText)
      cases z
      cases h
      exact ⟨⟨xg_NoText, xk_NoText, b_NoText, xd_NoText, xa_NoText, XN, XT, xm_NoText⟩, kit_of dn_NoText_NoRow xd_NoRow t_NoRow sb_NoText_NoRow⟩
    rw [if_neg h1] at h
    cases h
  have KT_NoWay : ∀ (c : Str) (C : Addr) (b : Bool), tb_NoWay c = some b → mg c = some (.ref C) → ExcC K C ∧ PySem.W.kitOne K (.ref C) (.ref w5) = some b := fun c C b h g => by
    unfold tb_NoWay at h
    by_cases h0 : c = "NoTree"
    · subst h0
      rw [if_pos rfl] at h
      have z := g.symm.trans (PySem.W.mg_of X G e_NoTree)
      cases z
      cases h
      exact ⟨⟨xg_NoTree, xk_NoTree, b_NoTree, xd_NoTree, xa_NoTree, XN, XT, xm_NoTree⟩, kit_of dn_NoTree_NoWay xd_NoWay t_NoWay sb_NoTree_NoWay⟩
    rw [if_neg h0] at h
    by_cases h1 : c = "NoText"
    · subst h1
      rw [if_pos rfl] at h
      have z := g.symm.trans (PySem.W.mg_of X G e_NoText)
      cases z
      cases h
      exact ⟨⟨xg_NoText, xk_NoText, b_NoText, xd_NoText, xa_NoText, XN, XT, xm_NoText⟩, kit_of dn_NoText_NoWay xd_NoWay t_NoWay sb_NoText_NoWay⟩
    rw [if_neg h1] at h
    cases h
  have KT_TooMany : ∀ (c : Str) (C : Addr) (b : Bool), tb_TooMany c = some b → mg c = some (.ref C) → ExcC K C ∧ PySem.W.kitOne K (.ref C) (.ref w8) = some b := fun c C b h g => by
    unfold tb_TooMany at h
    by_cases h0 : c = "NoTree"
    · subst h0
      rw [if_pos rfl] at h
      have z := g.symm.trans (PySem.W.mg_of X G e_NoTree)
      cases z
      cases h
      exact ⟨⟨xg_NoTree, xk_NoTree, b_NoTree, xd_NoTree, xa_NoTree, XN, XT, xm_NoTree⟩, kit_of dn_NoTree_TooMany xd_TooMany t_TooMany sb_NoTree_TooMany⟩
    rw [if_neg h0] at h
    by_cases h1 : c = "NoText"
    · subst h1
      rw [if_pos rfl] at h
      have z := g.symm.trans (PySem.W.mg_of X G e_NoText)
      cases z
      cases h
      exact ⟨⟨xg_NoText, xk_NoText, b_NoText, xd_NoText, xa_NoText, XN, XT, xm_NoText⟩, kit_of dn_NoText_TooMany xd_TooMany t_TooMany sb_NoText_TooMany⟩
    rw [if_neg h1] at h
    cases h
  have KT_NoText : ∀ (c : Str) (C : Addr) (b : Bool), tb_NoText c = some b → mg c = some (.ref C) → ExcC K C ∧ PySem.W.kitOne K (.ref C) (.ref w10) = some b := fun c C b h g => by
    unfold tb_NoText at h
    by_cases h0 : c = "NoTree"
    · subst h0
      rw [if_pos rfl] at h
      have z := g.symm.trans (PySem.W.mg_of X G e_NoTree)
      cases z
      cases h
      exact ⟨⟨xg_NoTree, xk_NoTree, b_NoTree, xd_NoTree, xa_NoTree, XN, XT, xm_NoTree⟩, kit_of dn_NoTree_NoText xd_NoText t_NoText sb_NoTree_NoText⟩
    rw [if_neg h0] at h
    by_cases h1 : c = "NoText"
    · subst h1
      rw [if_pos rfl] at h
      have z := g.symm.trans (PySem.W.mg_of X G e_NoText)
      cases z
      cases h
      exact ⟨⟨xg_NoText, xk_NoText, b_NoText, xd_NoText, xa_NoText, XN, XT, xm_NoText⟩, kit_self⟩
    rw [if_neg h1] at h
    cases h
  have KT_NoTree : ∀ (c : Str) (C : Addr) (b : Bool), tb_NoTree c = some b → mg c = some (.ref C) → ExcC K C ∧ PySem.W.kitOne K (.ref C) (.ref w3) = some b := fun c C b h g => by
    unfold tb_NoTree at h
    by_cases h0 : c = "NoTree"
    · subst h0
      rw [if_pos rfl] at h
      have z := g.symm.trans (PySem.W.mg_of X G e_NoTree)
      cases z
      cases h
      exact ⟨⟨xg_NoTree, xk_NoTree, b_NoTree, xd_NoTree, xa_NoTree, XN, XT, xm_NoTree⟩, kit_self⟩
    rw [if_neg h0] at h
    by_cases h1 : c = "NoText"
    · subst h1
      rw [if_pos rfl] at h
      have z := g.symm.trans (PySem.W.mg_of X G e_NoText)
      cases z
      cases h
      exact ⟨⟨xg_NoText, xk_NoText, b_NoText, xd_NoText, xa_NoText, XN, XT, xm_NoText⟩, kit_of dn_NoText_NoTree xd_NoTree t_NoTree sb_NoText_NoTree⟩
    rw [if_neg h1] at h
    cases h
  have KT_ValueError : ∀ (c : Str) (C : Addr) (b : Bool), tb_ValueError c = some b → mg c = some (.ref C) → ExcC K C ∧ PySem.W.kitOne K (.ref C) (.type "ValueError") = some b := fun c C b h g => by
    unfold tb_ValueError at h
    by_cases h0 : c = "NoTree"
    · subst h0
      rw [if_pos rfl] at h
      have z := g.symm.trans (PySem.W.mg_of X G e_NoTree)
      cases z
      cases h
      exact ⟨⟨xg_NoTree, xk_NoTree, b_NoTree, xd_NoTree, xa_NoTree, XN, XT, xm_NoTree⟩, kit_bi (by decide +kernel) sv_NoTree⟩
    rw [if_neg h0] at h
    by_cases h1 : c = "NoText"
    · subst h1
      rw [if_pos rfl] at h
      have z := g.symm.trans (PySem.W.mg_of X G e_NoText)
      cases z
      cases h
      exact ⟨⟨xg_NoText, xk_NoText, b_NoText, xd_NoText, xa_NoText, XN, XT, xm_NoText⟩, kit_bi (by decide +kernel) sv_NoText⟩
    rw [if_neg h1] at h
    cases h
  have T : Tx0 K mg (.str "abcdefghijklmnopqrstuvwxyz" tk_LETTERS_trees) (.str "abcdefghijklmnopqrstuvwxyz" tk_LETTERS_texts) w2 w3 w4 w5 w6 w7 w8 w9 w10 w11 w12 := { z_ValueError := PySem.W.mg_none_of X G z_ValueError, z_abs := PySem.W.mg_none_of X G z_abs, z_enumerate := PySem.W.mg_none_of X G z_enumerate, z_int := PySem.W.mg_none_of X G z_int, z_isinstance := PySem.W.mg_none_of X G z_isinstance, z_len := PySem.W.mg_none_of X G z_len, z_list := PySem.W.mg_none_of X G z_list, z_max := PySem.W.mg_none_of X G z_max, z_min := PySem.W.mg_none_of X G z_min, z_range := PySem.W.mg_none_of X G z_range, z_str := PySem.W.mg_none_of X G z_str, z_sum := PySem.W.mg_none_of X G z_sum, z_tuple := PySem.W.mg_none_of X G z_tuple, g_LETTERS_trees := ⟨⟨_, rfl⟩, PySem.W.mg_of X G g_LETTERS_trees⟩, g_LETTERS_texts := ⟨⟨_, rfl⟩, PySem.W.mg_of X G g_LETTERS_texts⟩, e_TwigError := ⟨PySem.W.mg_of X G e_TwigError, q_TwigError, h_TwigError, b_TwigError, t_TwigError⟩, e_NoTree := ⟨PySem.W.mg_of X G e_NoTree, q_NoTree, h_NoTree, b_NoTree, t_NoTree⟩, e_NoPart := ⟨PySem.W.mg_of X G e_NoPart, q_NoPart, h_NoPart, b_NoPart, t_NoPart⟩, e_NoWay := ⟨PySem.W.mg_of X G e_NoWay, q_NoWay, h_NoWay, b_NoWay, t_NoWay⟩, e_NoNumber := ⟨PySem.W.mg_of X G e_NoNumber, q_NoNumber, h_NoNumber, b_NoNumber, t_NoNumber⟩, e_NoFinding := ⟨PySem.W.mg_of X G e_NoFinding, q_NoFinding, h_NoFinding, b_NoFinding, t_NoFinding⟩, e_TooMany := ⟨PySem.W.mg_of X G e_TooMany, q_TooMany, h_TooMany, b_TooMany, t_TooMany⟩, e_NoLetter := ⟨PySem.W.mg_of X G e_NoLetter, q_NoLetter, h_NoLetter, b_NoLetter, t_NoLetter⟩, e_NoText := ⟨PySem.W.mg_of X G e_NoText, q_NoText, h_NoText, b_NoText, t_NoText⟩, e_NoName := ⟨PySem.W.mg_of X G e_NoName, q_NoName, h_NoName, b_NoName, t_NoName⟩, e_NoRow := ⟨PySem.W.mg_of X G e_NoRow, q_NoRow, h_NoRow, b_NoRow, t_NoRow⟩, kx_TwigError := KX_TwigError, kn_NoFinding := kit_of rfl xd_NoFinding t_NoFinding sn_NoFinding, kt_NoFinding := KT_NoFinding, kn_NoLetter := kit_of rfl xd_NoLetter t_NoLetter sn_NoLetter, kt_NoLetter := KT_NoLetter, kn_NoName := kit_of rfl xd_NoName t_NoName sn_NoName, kt_NoName := KT_NoName, kn_NoNumber := kit_of rfl xd_NoNumber t_NoNumber sn_NoNumber, kt_NoNumber := KT_NoNumber, kn_NoPart := kit_of rfl xd_NoPart t_NoPart sn_NoPart, kt_NoPart := KT_NoPart, kn_NoRow := kit_of rfl xd_NoRow t_NoRow sn_NoRow, kt_NoRow := KT_NoRow, kn_NoWay := kit_of rfl xd_NoWay t_NoWay sn_NoWay, kt_NoWay := KT_NoWay, kn_TooMany := kit_of rfl xd_TooMany t_TooMany sn_TooMany, kt_TooMany := KT_TooMany, kn_NoText := kit_of rfl xd_NoText t_NoText sn_NoText, kt_NoText := KT_NoText, kn_NoTree := kit_of rfl xd_NoTree t_NoTree sn_NoTree, kt_NoTree := KT_NoTree, kn_ValueError := kit_ty (by decide +kernel), kt_ValueError := KT_ValueError }
  have hF : ∀ x, hfOf K mg x := by
    intro x
    cases x with
    | is_letter => exact r0.hf X G (fun _ F => F.binds (ps := psOf .is_letter) fun _ _ _ _ _ _ us hl => match us, hl with | [_], _ => rfl)
    | is_tree => exact r1.hf X G (fun _ F => F.binds (ps := psOf .is_tree) fun _ _ _ _ _ _ us hl => match us, hl with | [_], _ => rfl)
    | written => exact r2.hf X G (fun _ F => F.binds (ps := psOf .written) fun _ _ _ _ _ _ us hl => match us, hl with | [_], _ => rfl)
    | show_tree => exact r3.hf X G (fun _ F => F.binds (ps := psOf .show_tree) fun _ _ _ _ _ _ us hl => match us, hl with | [_], _ => rfl)
    | read_tree => exact r4.hf X G (fun _ F => F.binds (ps := psOf .read_tree) fun _ _ _ _ _ _ us hl => match us, hl with | [_], _ => rfl)
    | law_cell => exact r5.hf X G (fun _ F => F.binds (ps := psOf .law_cell) fun _ _ _ _ _ _ us hl => match us, hl with | [_, _], _ => rfl)
    | law_mixed => exact r6.hf X G (fun _ F => F.binds (ps := psOf .law_mixed) fun _ _ _ _ _ _ us hl => match us, hl with | [_, _], _ => rfl)
    | law_letter => exact r7.hf X G (fun _ F => F.binds (ps := psOf .law_letter) fun _ _ _ _ _ _ us hl => match us, hl with | [_, _], _ => rfl)
    | law_tree => exact r8.hf X G (fun _ F => F.binds (ps := psOf .law_tree) fun _ _ _ _ _ _ us hl => match us, hl with | [_, _, _, _], _ => rfl)
    | law_built => exact r9.hf X G (fun _ F => F.binds (ps := psOf .law_built) fun _ _ _ _ _ _ us hl => match us, hl with | [_, _, _], _ => rfl)
    | law_written => exact r10.hf X G (fun _ F => F.binds (ps := psOf .law_written) fun _ _ _ _ _ _ us hl => match us, hl with | [_], _ => rfl)
    | law_rest => exact r11.hf X G (fun _ F => F.binds (ps := psOf .law_rest) fun _ _ _ _ _ _ us hl => match us, hl with | [_], _ => rfl)
    | law_odd => exact r12.hf X G (fun _ F => F.binds (ps := psOf .law_odd) fun _ _ _ _ _ _ us hl => match us, hl with | [_], _ => rfl)
    | law_given => exact r13.hf X G (fun _ F => F.binds (ps := psOf .law_given) fun _ _ _ _ _ _ us hl => match us, hl with | [_], _ => rfl)
    | law_asked => exact r14.hf X G (fun _ F => F.binds (ps := psOf .law_asked) fun _ _ _ _ _ _ us hl => match us, hl with | [_, _], _ => rfl)
    | law_word => exact r15.hf X G (fun _ F => F.binds (ps := psOf .law_word) fun _ _ _ _ _ _ us hl => match us, hl with | [_, _], _ => rfl)
    | law_bad => exact r16.hf X G (fun _ F => F.binds (ps := psOf .law_bad) fun _ _ _ _ _ _ us hl => match us, hl with | [_, _, _], _ => rfl)
    | law_many => exact r17.hf X G (fun _ F => F.binds (ps := psOf .law_many) fun _ _ _ _ _ _ us hl => match us, hl with | [_], _ => rfl)
    | law =>
      have F := fun_mk (st := s_law) l18 c18 k18
      exact ⟨fa, _, PySem.W.mg_of X G a18, k18, F.binds (ps := psOf .law) (fun _ _ _ _ _ _ us hl => match us, hl with | [_], _ => rfl), F⟩
  have F := fun_mk (st := s_law) l18 c18 k18
  exact ⟨PySem.W.fnOf "law" "law" (defArgs s_law) (defBody s_law) (defScope s_law) .none kV18 dc18 pm18 an18 cd18 ct18, fun s v => .of_eq rfl, fun base _ _ B => DM.FnOkG.law (fn := Mt 60 .law) (k_law T B (tab (P := l.prog) (w := w) (base := base) T B hF 59) F) hlaw⟩
theorem walk {l : PySem.W.OpenLaw} {q : Program} {loose : List Str} {XP : (Str → Option Value) → Heap → Prop} {YP : World → Heap → Prop} {d : DefRec} {K : Params → PySem.W.Frag} (hi : PyProof.Rows.importsNone q = true) (hn : l.most = some 63) (hdf : d.params.defaults = [])
    (hY : ∀ (w : World) (h : Heap), YP w h → (K w.params).In h)
    (F : ∀ (w : World) (mg : Str → Option Value) (fa : Addr) (h : Heap), (K w.params).In h → h.Ns mainGlobals mg → mg d.name = some (.ref fa) →
      ∃ fd : FuncData, (∀ (s : Shared) (u : Value), BindsTo s fd ⟨[u], []⟩ [("script", u)]) ∧ ∀ base : Heap, (K w.params).In base → base.Ns mainGlobals mg → SysB base → FnOkG l.prog w (K w.params) mg base (L2.CX l.prog w) 120 fa fd ["script"] (spLaw (K w.params))) :
    PySem.W.WalkO q loose XP YP l.row.toRowW d [] (fun f vs => PySem.call f vs) :=
  DM.walk_ofG (n := 63) (k := 120) (x := "script") (CX := fun w => L2.CX l.prog w) (sp := fun w => spLaw (K w.params)) hi hn (by decide) hdf ⟨rfl, by decide, by decide⟩ hY F (fun _ H a ns hl _ hS => ⟨a, ns, rfl, hS, hl, fun _ => rfl⟩) fun _ H s e s' z => noX H s e s' z
end K41
open PySem PySem.W PyProof.Rows
set_option maxRecDepth 100000 in
set_option maxHeartbeats 0 in
theorem PySem.Challenge.cw_twigfinds_k41_texts_that_write_no_tree_holds : PySem.Challenge.rw_twigfinds_k41_texts_that_write_no_tree.Holds := by
  w_on; o_law; k_head; (case hw => w_witness2)
  k_fill
  refine K41.walk (l := PySem.Challenge.rw_twigfinds_k41_texts_that_write_no_tree) (by decide +kernel) rfl rfl (fun w h Y => PySem.W.kIn_of Y) ?F
  case F =>
    intro w mg fa h KX G hmg
    refine' K41.all_mk K41.law_true KX G hmg ?r0 ?r1 ?r2 ?r3 ?r4 ?r5 ?r6 ?r7 ?r8 ?r9 ?r10 ?r11 ?r12 ?r13 ?r14 ?r15 ?r16 ?r17 ?a18 ?l18 ?c18 ?k18 ?z_ValueError ?z_abs ?z_enumerate ?z_int ?z_isinstance ?z_len ?z_list ?z_max ?z_min ?z_range ?z_str ?z_sum ?z_tuple ?g_LETTERS_trees ?g_LETTERS_texts ?e_TwigError ?q_TwigError ?h_TwigError ?b_TwigError ?t_TwigError ?e_NoTree ?q_NoTree ?h_NoTree ?b_NoTree ?t_NoTree ?e_NoPart ?q_NoPart ?h_NoPart ?b_NoPart ?t_NoPart ?e_NoWay ?q_NoWay ?h_NoWay ?b_NoWay ?t_NoWay ?e_NoNumber ?q_NoNumber ?h_NoNumber ?b_NoNumber ?t_NoNumber ?e_NoFinding ?q_NoFinding ?h_NoFinding ?b_NoFinding ?t_NoFinding ?e_TooMany ?q_TooMany ?h_TooMany ?b_TooMany ?t_TooMany ?e_NoLetter ?q_NoLetter ?h_NoLetter ?b_NoLetter ?t_NoLetter ?e_NoText ?q_NoText ?h_NoText ?b_NoText ?t_NoText ?e_NoName ?q_NoName ?h_NoName ?b_NoName ?t_NoName ?e_NoRow ?q_NoRow ?h_NoRow ?b_NoRow ?t_NoRow ?XN ?XT ?xg_NoTree ?xk_NoTree ?xd_NoTree ?xa_NoTree ?xm_NoTree ?xg_NoText ?xk_NoText ?xd_NoText ?xa_NoText ?xm_NoText ?xd_TwigError ?sn_TwigError ?sb_NoTree_TwigError ?dn_NoTree_TwigError ?sb_NoText_TwigError ?dn_NoText_TwigError ?sn_NoTree ?sb_NoTree_NoTree ?sb_NoText_NoTree ?dn_NoText_NoTree ?xd_NoPart ?sn_NoPart ?sb_NoTree_NoPart ?dn_NoTree_NoPart ?sb_NoText_NoPart ?dn_NoText_NoPart ?xd_NoWay ?sn_NoWay ?sb_NoTree_NoWay ?dn_NoTree_NoWay ?sb_NoText_NoWay ?dn_NoText_NoWay ?xd_NoNumber ?sn_NoNumber ?sb_NoTree_NoNumber ?dn_NoTree_NoNumber ?sb_NoText_NoNumber ?dn_NoText_NoNumber ?xd_NoFinding ?sn_NoFinding ?sb_NoTree_NoFinding ?dn_NoTree_NoFinding ?sb_NoText_NoFinding ?dn_NoText_NoFinding ?xd_TooMany ?sn_TooMany ?sb_NoTree_TooMany ?dn_NoTree_TooMany ?sb_NoText_TooMany ?dn_NoText_TooMany ?xd_NoLetter ?sn_NoLetter ?sb_NoTree_NoLetter ?dn_NoTree_NoLetter ?sb_NoText_NoLetter ?dn_NoText_NoLetter ?sn_NoText ?sb_NoTree_NoText ?dn_NoTree_NoText ?sb_NoText_NoText ?xd_NoName ?sn_NoName ?sb_NoTree_NoName ?dn_NoTree_NoName ?sb_NoText_NoName ?dn_NoText_NoName ?xd_NoRow ?sn_NoRow ?sb_NoTree_NoRow ?dn_NoTree_NoRow ?sb_NoText_NoRow ?dn_NoText_NoRow ?sv_NoTree ?sv_NoText
    (case r0 => apply fr0 <;> k_is)
    (case r1 => apply fr0 <;> k_is)
    (case r2 => apply fr0 <;> k_is)
    (case r3 => apply fr0 <;> k_is)
    (case r4 => apply fr0 <;> k_is)
    (case r5 => apply fr0 <;> k_is)
    (case r6 => apply fr0 <;> k_is)
    (case r7 => apply fr0 <;> k_is)
    (case r8 => apply fr0 <;> k_is)
    (case r9 => apply fr0 <;> k_is)
    (case r10 => apply fr0 <;> k_is)
    (case r11 => apply fr0 <;> k_is)
    (case r12 => apply fr0 <;> k_is)
    (case r13 => apply fr0 <;> k_is)
    (case r14 => apply fr0 <;> k_is)
    (case r15 => apply fr0 <;> k_is)
    (case r16 => apply fr0 <;> k_is)
    (case r17 => apply fr0 <;> k_is)
    (case a18 => k_is)
    (case l18 => k_is)
    (case c18 => k_is)
    (case k18 => k_is)
    (case z_ValueError => k_is)
    (case z_abs => k_is)
    (case z_enumerate => k_is)
    (case z_int => k_is)
    (case z_isinstance => k_is)
    (case z_len => k_is)
    (case z_list => k_is)
    (case z_max => k_is)
    (case z_min => k_is)
    (case z_range => k_is)
    (case z_str => k_is)
    (case z_sum => k_is)
    (case z_tuple => k_is)
    (case g_LETTERS_trees => k_is)
    (case g_LETTERS_texts => k_is)
    (case e_TwigError => k_is)
    (case q_TwigError => k_exc)
    (case h_TwigError => k_is)
    (case b_TwigError => k_is)
    (case t_TwigError => k_is)
    (case e_NoTree => k_is)
    (case q_NoTree => k_exc)
    (case h_NoTree => k_is)
    (case b_NoTree => k_is)
    (case t_NoTree => k_is)
    (case e_NoPart => k_is)
    (case q_NoPart => k_exc)
    (case h_NoPart => k_is)
    (case b_NoPart => k_is)
    (case t_NoPart => k_is)
    (case e_NoWay => k_is)
    (case q_NoWay => k_exc)
    (case h_NoWay => k_is)
    (case b_NoWay => k_is)
    (case t_NoWay => k_is)
    (case e_NoNumber => k_is)
    (case q_NoNumber => k_exc)
    (case h_NoNumber => k_is)
    (case b_NoNumber => k_is)
    (case t_NoNumber => k_is)
    (case e_NoFinding => k_is)
    (case q_NoFinding => k_exc)
    (case h_NoFinding => k_is)
    (case b_NoFinding => k_is)
    (case t_NoFinding => k_is)
    (case e_TooMany => k_is)
    (case q_TooMany => k_exc)
    (case h_TooMany => k_is)
    (case b_TooMany => k_is)
    (case t_TooMany => k_is)
    (case e_NoLetter => k_is)
    (case q_NoLetter => k_exc)
    (case h_NoLetter => k_is)
    (case b_NoLetter => k_is)
    (case t_NoLetter => k_is)
    (case e_NoText => k_is)
    (case q_NoText => k_exc)
    (case h_NoText => k_is)
    (case b_NoText => k_is)
    (case t_NoText => k_is)
    (case e_NoName => k_is)
    (case q_NoName => k_exc)
    (case h_NoName => k_is)
    (case b_NoName => k_is)
    (case t_NoName => k_is)
    (case e_NoRow => k_is)
    (case q_NoRow => k_exc)
    (case h_NoRow => k_is)
    (case b_NoRow => k_is)
    (case t_NoRow => k_is)
    (case XN => k_is)
    (case XT => k_is)
    (case xg_NoTree => k_is)
    (case xk_NoTree => k_is)
    (case xd_NoTree => k_is)
    (case xa_NoTree => k_is)
    (case xm_NoTree => k_is)
    (case xg_NoText => k_is)
    (case xk_NoText => k_is)
    (case xd_NoText => k_is)
    (case xa_NoText => k_is)
    (case xm_NoText => k_is)
    (case xd_TwigError => k_is)
    (case sn_TwigError => k_is)
    (case sb_NoTree_TwigError => k_is)
    (case dn_NoTree_TwigError => exact rfl)
    (case sb_NoText_TwigError => k_is)
    (case dn_NoText_TwigError => exact rfl)
    (case sn_NoTree => k_is)
    (case sb_NoTree_NoTree => k_is)
    (case sb_NoText_NoTree => k_is)
    (case dn_NoText_NoTree => exact rfl)
    (case xd_NoPart => k_is)
    (case sn_NoPart => k_is)
    (case sb_NoTree_NoPart => k_is)
    (case dn_NoTree_NoPart => exact rfl)
    (case sb_NoText_NoPart => k_is)
    (case dn_NoText_NoPart => exact rfl)
    (case xd_NoWay => k_is)
    (case sn_NoWay => k_is)
    (case sb_NoTree_NoWay => k_is)
    (case dn_NoTree_NoWay => exact rfl)
    (case sb_NoText_NoWay => k_is)
    (case dn_NoText_NoWay => exact rfl)
    (case xd_NoNumber => k_is)
    (case sn_NoNumber => k_is)
    (case sb_NoTree_NoNumber => k_is)
    (case dn_NoTree_NoNumber => exact rfl)
    (case sb_NoText_NoNumber => k_is)
    (case dn_NoText_NoNumber => exact rfl)
    (case xd_NoFinding => k_is)
    (case sn_NoFinding => k_is)
    (case sb_NoTree_NoFinding => k_is)
    (case dn_NoTree_NoFinding => exact rfl)
    (case sb_NoText_NoFinding => k_is)
    (case dn_NoText_NoFinding => exact rfl)
    (case xd_TooMany => k_is)
    (case sn_TooMany => k_is)
    (case sb_NoTree_TooMany => k_is)
    (case dn_NoTree_TooMany => exact rfl)
    (case sb_NoText_TooMany => k_is)
    (case dn_NoText_TooMany => exact rfl)
    (case xd_NoLetter => k_is)
    (case sn_NoLetter => k_is)
    (case sb_NoTree_NoLetter => k_is)
    (case dn_NoTree_NoLetter => exact rfl)
    (case sb_NoText_NoLetter => k_is)
    (case dn_NoText_NoLetter => exact rfl)
    (case sn_NoText => k_is)
    (case sb_NoTree_NoText => k_is)
    (case dn_NoTree_NoText => exact rfl)
    (case sb_NoText_NoText => k_is)
    (case xd_NoName => k_is)
    (case sn_NoName => k_is)
    (case sb_NoTree_NoName => k_is)
    (case dn_NoTree_NoName => exact rfl)
    (case sb_NoText_NoName => k_is)
    (case dn_NoText_NoName => exact rfl)
    (case xd_NoRow => k_is)
    (case sn_NoRow => k_is)
    (case sb_NoTree_NoRow => k_is)
    (case dn_NoTree_NoRow => exact rfl)
    (case sb_NoText_NoRow => k_is)
    (case dn_NoText_NoRow => exact rfl)
    (case sv_NoTree => k_is)
    (case sv_NoText => k_is)
