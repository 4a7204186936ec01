import PyProof.Rows.All
import Wide.All
import OpenK.AllK
import Wide.FinOn
import HandS.ForMost
import HandS.ForExc
import HandS.Ends
import HandS.Wide
import HandS.WideBits
import HandS.Style
import HandS.StrMore
import KE.KEqDict
import HandS.IsInst
import HandS.More
import HandS.Conv
import PyProof.AssignAttr
import HandS.ExcIs
import PyProof.ReprRoads
import PyProof.RowDictHeap
import KE.KDictZip
import PyProof.EnumMake
import PyProof.FitsInt
import PyProof.Rows.ReprOcc
import PyProof.ReprLen
import PySem.Challenge.RW_twigfinds_k01_what_is_a_tree
set_option Elab.async false
set_option linter.all false
set_option maxRecDepth 100000
/-! Data mirror, ahead of all: promises of defs where nothing is being shown (so that repr may be asked). -/
namespace DM
open PySem PySem.Spec PyProof.Rows L2
/-- room for k calls more, and no repr under way -/
structure RoomG (k : Nat) (A : Around) : Prop where
  r : Room k A
  g : A.guards = some []
theorem RoomG.mono {k l : Nat} {A : Around} (h : RoomG l A) (e : k ≤ l) : RoomG k A := ⟨h.r.mono e, h.g⟩
theorem RoomG.deeper {k : Nat} {A : Around} (h : RoomG (k + 1) A) (env : PySem.Env) : RoomG k (A.deeper env) := ⟨h.r.deeper env, h.g⟩
theorem RoomG.units {k : Nat} {A : Around} (h : RoomG k A) : A.units + 64 < cLine := h.r.units
theorem hu_ofG {k : Nat} {A : Around} (h : RoomG k A) : A.units + 1 < cLine := hu_of h.r
structure FnOkG (P : Program) (w : World) (K : PySem.W.Frag) (mg : Str → Option Value) (base : Heap) (CX : CXT) (k : Nat) (f : Addr) (fd : FuncData) (ps : List Str) (sp : Sp) : Prop where
  len : ∀ vs H Q E, sp vs H Q E → vs.length = ps.length
  run : ∀ (A : Around) (outer : List PySem.Env) (s : Shared) (H : Hp) (args : Args) (us : List Value) (vs : List V) (Q : VK) (E : XK), RoomG k A → Env0 P w K mg base A outer s H → BindsTo s fd args (ps.zip us) → Vals vs us → sp vs H Q E →
    codeAny (model P w) A (.call (.ref f) args) (CR CX outer P w H s Q E) s
section
variable {P : Program} {w : World} {K : PySem.W.Frag} {mg : Str → Option Value} {base : Heap}
/-- a def's promise from its body's -/
theorem okG {x qual : Str} {st : Stmt} {f : Addr} {fd : FuncData} {N ps : List Str} {k : Nat} {sp : Sp} (F : Fun K x qual st f fd) (S : FnScope N ps (defScope st)) (len : ∀ vs H Q E, sp vs H Q E → vs.length = ps.length)
    (hbody : ∀ (cdv : Value) (A : Around) (outer : List PySem.Env) (s : Shared) (H : Hp) (vs : List V) (Q : VK) (E : XK), RoomG k (A.deeper (envOfC qual (defScope st) s.heap.objs.size f cdv)) → sp vs H Q E →
      ∃ t, PSs (cxOf (L2.CX P w) P w K mg base N qual (defScope st) f cdv A outer s H E) (defBody st) t ∧ t { nx := fun _ H' => Q .non H', rt := Q } (start N vs) H) : FnOkG P w K mg base (L2.CX P w) (k + 1) f fd ps sp := by
  obtain ⟨oc, od, kV, doc, pm, an, cdv, ct, osl, rfl, lk, hcd⟩ := F.ex
  refine ⟨len, fun A outer s H args us vs Q E hr e0 hb r hsp => ?_⟩
  have hl := len _ _ _ _ hsp
  have kin : K.In s.heap := e0.mod.kin.keeps fun b o e => (e0.bs b o e).1
  have lim : s.heap.NoLimit := e0.mod.nolimit.keeps fun b o e => (e0.bs b o e).1
  refine codeAny_call_function hr.r.depth (kin _ _ lk) rfl S.co S.gen rfl (PySem.W.codeRec_of kin hcd) (hb _ _ _ _ ?_)
  refine wpAny_newFunctionEnv_cells S.kind (fun ⟨n, v⟩ hy => ?_) fun env he s1 x => ?_
  · rcases S.par n (List.of_mem_zip hy).1 with q | q
    · exact .inl q
    · exact .inr ⟨q, PySem.W.cellsFrom_some _ _ _ (.inl q)⟩
  · subst he
    refine ⟨lim.keeps x.toInCall.keep, codeAny_func ?_⟩
    obtain ⟨t, ht, hq⟩ := hbody cdv A outer s H vs Q E (hr.deeper _) hsp
    have I : Inv (cxOf (L2.CX P w) P w K mg base N qual (defScope st) f cdv A outer s H E) [] (start N vs) H s1 := inv_start S hr.r.hd e0 hl r x
    refine wpAny_mono (ht.run [] s1 (start N vs) H _ I hq) (fun fl s' hs => ?_) fun e s' hs => hs
    cases fl with
    | ret u =>
      obtain ⟨v, σ', H', J, rv, q⟩ := hs
      exact ⟨v, H', J.os, J.bare, J.base, J.hok, rv, q⟩
    | next =>
      obtain ⟨σ', H', J, q⟩ := hs
      exact ⟨V.non, H', J.os, J.bare, J.base, J.hok, rfl, q⟩
    | brk =>
      obtain ⟨_, _, _, q⟩ := hs
      exact False.elim q
    | cont =>
      obtain ⟨_, _, _, q⟩ := hs
      exact False.elim q
end
section
variable {X : Cx} {CX : CXT} {k : Nat} {f : Addr} {fd : FuncData} {ps : List Str} {sp : Sp} {E : L2.St → XK} {x : Str} {q pos : Pos} {e : Expr} {es : List Expr} {t : TA}
theorem run_fnG {pins : List (Addr × Obj)} {σ : L2.St} {H : Hp} {s : Shared} {Q : VK} {us : List Value} {vs : List V} (F : FnOkG X.prog X.w X.K X.mg X.base CX k f fd ps sp) (hr : RoomG k X.A) (hb : Binds X.K fd ps []) (hx : PassesAt CX X σ (E σ))
    (I : Inv X pins σ H s) (r : Vals vs us) (h : sp vs H Q (E σ)) : wpAny (model X.prog X.w) X.A (call (.ref f) us) (EP X pins σ Q) X.xe s := by
  have b := hb s us I.kIn (by rw [List.append_nil, ← r.length]; exact F.len _ _ _ _ h)
  rw [List.append_nil] at b
  refine wpAny_call (codeAny_mono (F.run X.A X.stack s H ⟨us, []⟩ us vs Q (E σ) hr I.env0 b r h) fun r s' hq => ?_)
  cases r with
  | error e => exact hx pins H s e s' I hq
  | ok fl => cases fl <;> first | exact I.after hq | exact False.elim hq
theorem pe_callG (F : FnOkG X.prog X.w X.K X.mg X.base CX k f fd ps sp) (hr : RoomG k X.A) (hg : Gl X x) (hm : X.mg x = some (.ref f)) (hk : PySem.W.keepIn X.K (.ref f) = true) (hb : Binds X.K fd ps []) (hx : ∀ σ, PassesAt CX X σ (E σ))
    (ha : PA X (e :: es) t) (hdb : (x == ("__debug__" : Str)) = false := by decide) (he : starEach (e :: es) X.env = (false, eval e X.env) :: starEach es X.env := by rfl) (hpl : (backTo pos (starEach es X.env)).any (·.1) = false := by rfl) :
    PE X (.Call (.Name x q) (e :: es) [] pos) (tCallS sp E t) := by
  refine ⟨fun pins s σ H Q I h => ?_⟩
  refine wpAny_Call_Name_kw (ld_glob I hg hm ?_ hdb)
  exact PySem.W.callWith_K (h₀ := X.base) I.ok.mod.kin hk (thn (ha.run pos pins s σ H _ I h) fun us s1 ⟨vs, H1, I1, r, q⟩ => ⟨I1.kIn, run_fnG F hr hb (hx σ) I1 r q⟩) he hpl
end
/-- the promise of law, at the caller's place alone -/
theorem FnOkG.at {P : Program} {w : World} {K : PySem.W.Frag} {mg : Str → Option Value} {base : Heap} {CX : CXT} {k : Nat} {f : Addr} {fd : FuncData} {ps : List Str} {sp : Sp} (F : FnOkG P w K mg base CX k f fd ps sp) (hr : Room k callerA) :
    ∀ (outer : List PySem.Env) (s : Shared) (H : Hp) (args : Args) (us : List Value) (vs : List V) (Q : VK) (E : XK), Env0 P w K mg base callerA outer s H → BindsTo s fd args (ps.zip us) → Vals vs us → sp vs H Q E →
    codeAny (model P w) callerA (.call (.ref f) args) (CR CX outer P w H s Q E) s := fun outer s H args us vs Q E e0 b r h => F.run callerA outer s H args us vs Q E ⟨hr, rfl⟩ e0 b r h
end DM
set_option maxRecDepth 100000
/-! Data mirror, ahead of all, part 2: the law's call, where nothing is being shown. -/
namespace DM
open PySem PySem.Spec PyProof.Rows L2
/-- no list stands where sys.modules does -/
def SysB (h : Heap) : Prop := ∃ mm, h.Ns sysModules mm
section
variable {P : Program} {w : World} {K : PySem.W.Frag} {mg mb : Str → Option Value} {CX : CXT} {k : Nat} {fa a : Addr} {fd : FuncData} {x : Str} {sp : Sp} {s₁ : Shared} {vs : List Value} {ns : List Int}
theorem law_callG (KX : K.In s₁.heap) (hns : s₁.heap.Ns mainGlobals mg) (hb : s₁.heap.Ns builtinsNs mb) (hbb : ∀ x : Str, x ≠ "__name__" → mb x = bootBuiltins x) (hlim : s₁.heap.NoLimit) (hg : s₁.gens = #[])
    (ha : s₁.heap.get? a = some { cls := .type "list", data := .seq vs.toArray }) (hi : IntsAre vs ns) (hl : ns.length ≤ sizeLine) (hr : Room k callerA)
    (hsm : SysB s₁.heap) (F : ∀ base : Heap, K.In base → base.Ns mainGlobals mg → SysB base → FnOkG P w K mg base CX k fa fd [x] sp) (hbind : ∀ (s : Shared) (u : Value), BindsTo s fd ⟨[u], []⟩ [(x, u)])
    (hsp : ∀ H : Hp, Only H → SqL K H a (ns.map V.int) → sp [.ref a] H (fun v _ => v = .bl true) fun _ _ _ => False)
    (hCX : ∀ H e s', CX [] H s₁ (fun _ _ _ => False) e s' → False) :
    codeAny (model P w) callerA (.call (.ref fa) ⟨[.ref a], []⟩) (fun r s' => r = .ok (.ret (.bool true)) ∧ OldK s₁.heap s'.heap ∧ s'.os = s₁.os ∧ AllBare s'.gens) s₁ := by
  have rv := vals_ints hi
  have lenV := hi.length
  have core : ∀ H : Hp, Only H → SqL K H a (ns.map V.int) → HOk P w H s₁.heap → (∀ b, H b ≠ none → b = a) → (H a ≠ none → K.lookup a = none) →
      codeAny (model P w) callerA (.call (.ref fa) ⟨[.ref a], []⟩) (fun r s' => r = .ok (.ret (.bool true)) ∧ OldK s₁.heap s'.heap ∧ s'.os = s₁.os ∧ AllBare s'.gens) s₁ := by
    intro H hO hS hok hA hK
    have free : ∀ {b : Addr} {o : Obj}, s₁.heap.get? b = some o → (∀ v n, o.data ≠ Data.seq v n) → H b = none := fun {b o} e d => by
      cases q : H b with
      | none => rfl
      | some u =>
        obtain rfl : b = a := hA b (by rw [q]; simp)
        rw [ha] at e
        cases e
        exact absurd rfl (d _ _)
    have nsK : ∀ {b : Addr} {m : Str → Option Value}, s₁.heap.Ns b m → (hidT s₁.heap H).Ns b m := fun {b m} ⟨o, es, ep, e, d, r⟩ => ⟨o, es, ep, hidT_get e (free e fun v n z => by rw [d] at z; cases z), d, r⟩
    have hKb : K.In (hidT s₁.heap H) := fun b o e => hidT_get (KX b o e) (by
      cases q : H b with
      | none => rfl
      | some u =>
        obtain rfl : b = a := hA b (by rw [q]; simp)
        have := hK (by rw [q]; simp)
        rw [this] at e
        cases e)
    have hM : Mod K mg (hidT s₁.heap H) := ⟨hKb, nsK hns, ⟨mb, nsK hb, hbb⟩, let ⟨mc, h1, h2⟩ := hlim; ⟨mc, nsK h1, h2⟩⟩
    have e0 : Env0 P w K mg (hidT s₁.heap H) callerA [] s₁ H := ⟨rfl, hM, fun b o e => of_hidT e, Nat.le_of_eq (hidT_size _ _), trivial, fun b hb => absurd (show b ∈ ([] : List Addr) from hb) (by simp), hok, .of_eq hg⟩
    refine codeAny_mono ((F _ hKb (nsK hns) (let ⟨mm, z⟩ := hsm; ⟨mm, nsK z⟩)).at hr [] s₁ H ⟨[.ref a], []⟩ [.ref a] [.ref a] _ _ e0 (hbind s₁ (.ref a)) (.cons rfl .nil) (hsp H hO hS)) fun r s' h => ?_
    cases r with
    | error e => exact (hCX H e s' h).elim
    | ok fl =>
      cases fl with
      | next => exact False.elim h
      | brk => exact False.elim h
      | cont => exact False.elim h
      | ret u =>
        obtain ⟨v, H', os, bare, un, hok', r', q⟩ := h
        have q' : v = .bl true := q
        subst q'
        obtain rfl : u = Value.bool true := r'
        refine ⟨rfl, OldK.of_keep fun b o e => ?_, os, bare⟩
        cases q : H b with
        | none => exact un.keep b o e q (by intro z; exact absurd (show b ∈ ([] : List Addr) from z) (by simp)) (by simp)
        | some u =>
          rcases hO b with z | ⟨ob, xs, z⟩
          · rw [q] at z; cases z
          · obtain ⟨e1, _⟩ := hok b _ z
            obtain ⟨e2, _⟩ := hok' b _ (un.frzs b ob _ z)
            rw [e] at e1; cases e1
            exact e2
  cases hk : K.lookup a with
  | some o =>
    have e := KX a o hk
    rw [ha] at e
    cases e
    exact core (fun _ => none) (fun _ => .inl rfl) (.inr ⟨_, vs.toArray, _, hk, rfl, rfl, rfl, by rw [List.size_toArray, lenV]; exact hl, by simpa using rv⟩) (fun b u z => by cases z) (fun b z => absurd rfl z) fun z => absurd rfl z
  | none =>
    refine core (fun b => if b = a then some (.frz { cls := .type "list", data := .seq vs.toArray } (.lst (ns.map V.int))) else none) (fun b => ?_) (.inl (.inr ⟨{ cls := .type "list", data := .seq vs.toArray }, if_pos rfl⟩)) (fun b u z => ?_) (fun b z => ?_) fun _ => hk
    · by_cases hb : b = a
      · exact .inr ⟨_, _, if_pos hb⟩
      · exact .inl (if_neg hb)
    · by_cases hb : b = a
      · have z' := (if_pos hb).symm.trans z
        cases z'
        subst hb
        exact ⟨ha, by rw [List.length_map]; exact hl, vs, _, rv, ha⟩
      · have z' := (if_neg hb).symm.trans z
        cases z'
    · by_cases hb : b = a
      · exact hb
      · exact absurd (if_neg hb) z
end
theorem walk_ofG {l : PySem.W.OpenLaw} {n k : Nat} {q : Program} {loose : List Str} {XP : (Str → Option Value) → Heap → Prop} {YP : World → Heap → Prop} {d : DefRec} {K : Params → PySem.W.Frag} {CX : World → CXT} {sp : World → Sp} {x : Str}
    (hi : importsNone q = true) (hn : l.most = some n) (hn2 : n ≤ sizeLine) (hdf : d.params.defaults = []) (hr : Room k callerA)
    (hY : ∀ (w : World) (h : Heap), YP w h → (K w.params).In h)
    (F : ∀ (w : World) (mg : Str → Option Value) (fa : Addr) (h : Heap), (K w.params).In h → h.Ns mainGlobals mg → mg d.name = some (.ref fa) →
      ∃ fd : FuncData, (∀ (s : Shared) (u : Value), BindsTo s fd ⟨[u], []⟩ [(x, u)]) ∧
        ∀ base : Heap, (K w.params).In base → base.Ns mainGlobals mg → SysB base → FnOkG l.prog w (K w.params) mg base (CX w) k fa fd [x] (sp w))
    (hsp : ∀ (w : World) (H : Hp) (a : Addr) (ns : List Int), ns.length ≤ n → Only H → SqL (K w.params) H a (ns.map V.int) → sp w [.ref a] H (fun v _ => v = .bl true) fun _ _ _ => False)
    (hCX : ∀ (w : World) (H : Hp) (s : Shared) (e : Value) (s' : Shared), CX w [] H s (fun _ _ _ => False) e s' → False) :
    PySem.W.WalkO q loose XP YP l.row.toRowW d [] (fun f vs => PySem.call f vs) := by
  refine Att.attach_call hn hdf fun w s₀ s₁ mg mb fa o pm cd doc a vs ns G Y ho hd hcd hmg hobj hints hlen hg => ?_
  obtain ⟨fd, hb, hF⟩ := F w mg fa _ (hY w _ Y) G.T.g hmg
  exact law_callG (hY w _ Y) G.T.g G.T.b G.T.builtins G.T.nolimit hg hobj hints (Nat.le_trans hlen hn2) hr (let ⟨mm, z, _⟩ := (G.T.seer hi).mods; ⟨mm, z⟩) hF hb (fun H hO hS => hsp w H a ns hlen hO hS) fun H e s' => hCX w H s₁ e s'
end DM
set_option maxRecDepth 100000
/-! Data mirror, part 1: data, what stands for them in the heap, owned pieces. -/
namespace DM
open PySem PySem.Spec PyProof.Rows L2

/-- plain data -/
inductive D where
  | non | bl (b : Bool) | int (i : Int) | str (x : Str)
  | lst (xs : List D) | tup (xs : List D)
  | dK (ks : List Key) (vs : List D) | dT (ks : List (List Key)) (vs : List D)
  | obj (c : Str) (ns : List Str) (vs : List D)
  | exn (c : Str)
  /-- the law's script -/
  | scr (ns : List Int)

/-- an exception object: its class at C -/
def ExcAt (a C : Addr) (h : Heap) : Prop := ∃ o vs, h.get? a = some o ∧ o.cls = .ref C ∧ o.dict = none ∧ o.data = .fields vs

/-- the module: its fragment, its globals -/
structure Mdl where
  K : PySem.W.Frag
  mg : Str → Option Value

mutual
/-- v stands for d, by what S tells -/
inductive Rep (M : Mdl) (S : Hp) : V → D → Prop
  | non : Rep M S .non .non
  | bl (b : Bool) : Rep M S (.bl b) (.bl b)
  | int (i : Int) : Rep M S (.int i) (.int i)
  | str (x : Str) : Rep M S (.str x) (.str x)
  | lst {a : Addr} {xs : List V} {ds : List D} : S a = some (.lst xs) → RepL M S xs ds → Rep M S (.ref a) (.lst ds)
  | tup {a : Addr} {xs : List V} {ds : List D} : SqT M.K S a xs → RepL M S xs ds → Rep M S (.ref a) (.tup ds)
  | dK {a : Addr} {kvs : List (Key × V)} {ks : List Key} {ds : List D} : S a = some (.dK kvs) → kvs.map (·.1) = ks → RepL M S (kvs.map (·.2)) ds → Rep M S (.ref a) (.dK ks ds)
  | dT {a : Addr} {kvs : List (List Key × V)} {ks : List (List Key)} {ds : List D} : S a = some (.dT kvs) → kvs.map (·.1) = ks → RepL M S (kvs.map (·.2)) ds → Rep M S (.ref a) (.dT ks ds)
  | obj {a C dx : Addr} {c : Str} {fs : List (Str × V)} {ns : List Str} {ds : List D} : S a = some (.ins C dx fs) → M.mg c = some (.ref C) → fs.map (·.1) = ns → RepL M S (fs.map (·.2)) ds → Rep M S (.ref a) (.obj c ns ds)
  | exn {a C : Addr} {c : Str} : S a = some (.ext (ExcAt a C)) → M.mg c = some (.ref C) → Rep M S (.ref a) (.exn c)
  | scr {a : Addr} {ns : List Int} : SqL M.K S a (ns.map V.int) → Rep M S (.ref a) (.scr ns)
inductive RepL (M : Mdl) (S : Hp) : List V → List D → Prop
  | nil : RepL M S [] []
  | cons {v : V} {vs : List V} {d : D} {ds : List D} : Rep M S v d → RepL M S vs ds → RepL M S (v :: vs) (d :: ds)
end

/-- all that S tells, H tells -/
def Ex (S H : Hp) : Prop := ∀ a o, S a = some o → H a = some o
theorem Ex.refl (H : Hp) : Ex H H := fun _ _ h => h
theorem Ex.trans {H H1 H2 : Hp} (a : Ex H H1) (b : Ex H1 H2) : Ex H H2 := fun x o h => b x o (a x o h)
theorem Ex.new {H : Hp} {p : Addr} {o : HO} (h : H p = none) : Ex H (upd H p o) := fun a u e => by
  rw [upd_ne (ne_of_none e h)]
  exact e
theorem Ex.rd {S H : Hp} (e : Ex S H) {a : Addr} {u : HO} (h : Rd S a u) : Rd H a u := by
  rcases h with h | ⟨o, h⟩
  · exact .inl (e _ _ h)
  · exact .inr ⟨o, e _ _ h⟩
theorem Ex.l {S H : Hp} (e : Ex S H) {K : PySem.W.Frag} {a : Addr} {xs : List V} (h : SqL K S a xs) : SqL K H a xs := by
  rcases h with h | h
  · exact .inl (e.rd h)
  · exact .inr h
theorem Ex.t {S H : Hp} (e : Ex S H) {K : PySem.W.Frag} {a : Addr} {xs : List V} (h : SqT K S a xs) : SqT K H a xs := by
  rcases h with h | h
  · exact .inl (e.rd h)
  · exact .inr h
theorem Ex.free {S H : Hp} (e : Ex S H) {p : Addr} (h : H p = none) : S p = none := by
  cases q : S p with
  | none => rfl
  | some o => rw [e p o q] at h; cases h

mutual
theorem Rep.mono {M : Mdl} {S S' : Hp} (e : Ex S S') : ∀ {v : V} {d : D}, Rep M S v d → Rep M S' v d
  | _, _, .non => .non
  | _, _, .bl b => .bl b
  | _, _, .int i => .int i
  | _, _, .str x => .str x
  | _, _, .lst h r => .lst (e _ _ h) (RepL.mono e r)
  | _, _, .tup h r => .tup (e.t h) (RepL.mono e r)
  | _, _, .dK h k r => .dK (e _ _ h) k (RepL.mono e r)
  | _, _, .dT h k r => .dT (e _ _ h) k (RepL.mono e r)
  | _, _, .obj h g k r => .obj (e _ _ h) g k (RepL.mono e r)
  | _, _, .exn h g => .exn (e _ _ h) g
  | _, _, .scr h => .scr (e.l h)
theorem RepL.mono {M : Mdl} {S S' : Hp} (e : Ex S S') : ∀ {vs : List V} {ds : List D}, RepL M S vs ds → RepL M S' vs ds
  | _, _, .nil => .nil
  | _, _, .cons h t => .cons (Rep.mono e h) (RepL.mono e t)
end
theorem RepL.length {M : Mdl} {S : Hp} : ∀ {vs : List V} {ds : List D}, RepL M S vs ds → vs.length = ds.length
  | _, _, .nil => rfl
  | _, _, .cons _ t => by rw [List.length_cons, List.length_cons, RepL.length t]
theorem RepL.append {M : Mdl} {S : Hp} : ∀ {vs ws : List V} {ds es : List D}, RepL M S vs ds → RepL M S ws es → RepL M S (vs ++ ws) (ds ++ es)
  | _, _, _, _, .nil, h => h
  | _, _, _, _, .cons r t, h => .cons r (RepL.append t h)
theorem RepL.get {M : Mdl} {S : Hp} : ∀ {vs : List V} {ds : List D} {i : Nat} {d : D}, RepL M S vs ds → ds[i]? = some d → ∃ v, vs[i]? = some v ∧ Rep M S v d
  | _, _, _, _, .nil, e => by simp at e
  | _, _, 0, _, .cons r _, e => by simp at e; subst e; exact ⟨_, rfl, r⟩
  | _, _, i + 1, d, .cons _ t, e => by
    obtain ⟨v, h1, h2⟩ := RepL.get (i := i) (d := d) t (by simpa using e)
    exact ⟨v, by simpa using h1, h2⟩
theorem RepL.getV {M : Mdl} {S : Hp} : ∀ {vs : List V} {ds : List D} {i : Nat} {v : V}, RepL M S vs ds → vs[i]? = some v → ∃ d, ds[i]? = some d ∧ Rep M S v d
  | _, _, _, _, .nil, e => by simp at e
  | _, _, 0, _, .cons r _, e => by simp at e; subst e; exact ⟨_, rfl, r⟩
  | _, _, i + 1, d, .cons _ t, e => by
    obtain ⟨v, h1, h2⟩ := RepL.getV (i := i) (v := d) t (by simpa using e)
    exact ⟨v, by simpa using h1, h2⟩
theorem RepL.take {M : Mdl} {S : Hp} : ∀ {vs : List V} {ds : List D} (n : Nat), RepL M S vs ds → RepL M S (vs.take n) (ds.take n)
  | _, _, 0, _ => .nil
  | _, _, _ + 1, .nil => .nil
  | _, _, n + 1, .cons r t => .cons r (RepL.take n t)
theorem RepL.drop {M : Mdl} {S : Hp} : ∀ {vs : List V} {ds : List D} (n : Nat), RepL M S vs ds → RepL M S (vs.drop n) (ds.drop n)
  | _, _, 0, r => r
  | _, _, _ + 1, .nil => .nil
  | _, _, n + 1, .cons _ t => RepL.drop n t
theorem RepL.set {M : Mdl} {S : Hp} {v : V} {d : D} (r : Rep M S v d) : ∀ {vs : List V} {ds : List D} (i : Nat), RepL M S vs ds → RepL M S (vs.set i v) (ds.set i d)
  | _, _, _, .nil => .nil
  | _, _, 0, .cons _ t => .cons r t
  | _, _, i + 1, .cons q t => .cons q (RepL.set r i t)
theorem RepL.reverse {M : Mdl} {S : Hp} : ∀ {vs : List V} {ds : List D}, RepL M S vs ds → RepL M S vs.reverse ds.reverse
  | _, _, .nil => .nil
  | _, _, .cons r t => by rw [List.reverse_cons, List.reverse_cons]; exact RepL.append (RepL.reverse t) (.cons r .nil)
theorem RepL.eraseIdx {M : Mdl} {S : Hp} : ∀ {vs : List V} {ds : List D} (i : Nat), RepL M S vs ds → RepL M S (vs.eraseIdx i) (ds.eraseIdx i)
  | _, _, _, .nil => .nil
  | _, _, 0, .cons _ t => t
  | _, _, i + 1, .cons r t => .cons r (RepL.eraseIdx i t)
theorem RepL.dropLast {M : Mdl} {S : Hp} : ∀ {vs : List V} {ds : List D}, RepL M S vs ds → RepL M S vs.dropLast ds.dropLast
  | _, _, .nil => .nil
  | _, _, .cons _ .nil => .nil
  | _, _, .cons r (.cons q t) => .cons r (RepL.dropLast (.cons q t))
theorem RepL.rep {M : Mdl} {S : Hp} {vs : List V} {ds : List D} (h : RepL M S vs ds) : ∀ k : Nat, RepL M S (List.replicate k vs).flatten (List.replicate k ds).flatten
  | 0 => .nil
  | k + 1 => by
    rw [List.replicate_succ, List.replicate_succ, List.flatten_cons, List.flatten_cons]
    exact RepL.append h (RepL.rep h k)
theorem RepL.ints {M : Mdl} {S : Hp} : ∀ {vs : List V} {ns : List Int}, RepL M S vs (ns.map D.int) → vs = ns.map V.int
  | _, [], .nil => rfl
  | _, _ :: _, .cons (.int _) t => by rw [List.map_cons, RepL.ints t]
theorem RepL.strs {M : Mdl} {S : Hp} : ∀ {vs : List V} {ns : List Str}, RepL M S vs (ns.map D.str) → vs = ns.map V.str
  | _, [], .nil => rfl
  | _, _ :: _, .cons (.str _) t => by rw [List.map_cons, RepL.strs t]
theorem RepL.ofInts {M : Mdl} {S : Hp} : ∀ (ns : List Int), RepL M S (ns.map V.int) (ns.map D.int)
  | [] => .nil
  | _ :: r => .cons (.int _) (RepL.ofInts r)
theorem RepL.ofStrs {M : Mdl} {S : Hp} : ∀ (ns : List Str), RepL M S (ns.map V.str) (ns.map D.str)
  | [] => .nil
  | _ :: r => .cons (.str _) (RepL.ofStrs r)

/-! ### pieces: what is true of the shared part S and the heap H, with the addresses that it owns -/
abbrev Foot := Addr → Prop
abbrev Pc := Hp → Hp → Foot → Prop
/-- it leans on S and on what it owns alone -/
def Stb (P : Pc) : Prop := ∀ S S' H H' F, P S H F → Ex S S' → (∀ a, F a → H' a = H a) → P S' H' F

inductive Sep (S H : Hp) : List Pc → Foot → Prop
  | nil {F : Foot} : (∀ a, ¬ F a) → Sep S H [] F
  | cons {P : Pc} {Γ : List Pc} {F G U : Foot} : Stb P → P S H F → Sep S H Γ G → (∀ a, F a → ¬ G a) → (∀ a, U a ↔ F a ∨ G a) → Sep S H (P :: Γ) U

structure Holds (S H : Hp) (Γ : List Pc) : Prop where
  ex : Ex S H
  own : ∃ F, Sep S H Γ F ∧ (∀ a, F a → S a = none) ∧ ∀ a, F a → H a ≠ none

theorem Sep.iff {S H : Hp} {Γ : List Pc} {F G : Foot} (h : Sep S H Γ F) (e : ∀ a, G a ↔ F a) : Sep S H Γ G := by
  cases h with
  | nil h => exact .nil fun a q => h a ((e a).mp q)
  | cons s p t d u => exact .cons s p t d fun a => (e a).trans (u a)
theorem Sep.stay {S S' H H' : Hp} : ∀ {Γ : List Pc} {F : Foot}, Sep S H Γ F → Ex S S' → (∀ a, F a → H' a = H a) → Sep S' H' Γ F
  | _, _, .nil h, _, _ => .nil h
  | _, _, .cons s p t d u, e, k => .cons s (s _ _ _ _ _ p e fun a q => k a ((u a).mpr (.inl q))) (t.stay e fun a q => k a ((u a).mpr (.inr q))) d u
theorem Sep.swap {S H : Hp} {P Q : Pc} {Γ : List Pc} {F : Foot} (h : Sep S H (P :: Q :: Γ) F) : Sep S H (Q :: P :: Γ) F := by
  cases h with
  | cons s p t d u =>
    cases t with
    | cons s' p' t' d' u' =>
      rename_i F1 U1 F2 G
      refine .cons s' p' (.cons (U := fun a => F1 a ∨ G a) s p t' (fun a x y => d a x ((u' a).mpr (.inr y))) fun a => Iff.rfl) (fun a x y => ?_) fun a => ?_
      · rcases y with y | y
        · exact d a y ((u' a).mpr (.inl x))
        · exact d' a x y
      · rw [u a, u' a]
        constructor
        · rintro (x | x | x)
          · exact .inr (.inl x)
          · exact .inl x
          · exact .inr (.inr x)
        · rintro (x | x | x)
          · exact .inr (.inl x)
          · exact .inl x
          · exact .inr (.inr x)
theorem Sep.perm {S H : Hp} {Γ Γ' : List Pc} (e : Γ.Perm Γ') : ∀ {F : Foot}, Sep S H Γ F → Sep S H Γ' F := by
  induction e with
  | nil => exact fun h => h
  | cons x _ ih => intro F h; cases h with | cons s p t d u => exact .cons s p (ih t) d u
  | swap x y l => intro F h; exact h.swap
  | trans _ _ a b => exact fun h => b (a h)
theorem Sep.stb {S H : Hp} : ∀ {Γ : List Pc} {F : Foot}, Sep S H Γ F → ∀ P ∈ Γ, Stb P
  | _, _, .nil _, _, h => absurd h (by simp)
  | _, _, .cons s _ t _ _, P, h => by
    rcases List.mem_cons.mp h with rfl | h
    · exact s
    · exact t.stb P h
theorem Sep.mem {S H : Hp} : ∀ {Γ : List Pc} {F : Foot}, Sep S H Γ F → ∀ P ∈ Γ, ∃ G, P S H G ∧ ∀ a, G a → F a
  | _, _, .nil _, _, h => absurd h (by simp)
  | _, _, .cons _ p t _ u, P, h => by
    rcases List.mem_cons.mp h with rfl | h
    · exact ⟨_, p, fun a q => (u a).mpr (.inl q)⟩
    · obtain ⟨G, x, y⟩ := t.mem P h
      exact ⟨G, x, fun a q => (u a).mpr (.inr (y a q))⟩
theorem Sep.append {S H : Hp} : ∀ {Γ Δ : List Pc} {F G U : Foot}, Sep S H Γ F → Sep S H Δ G → (∀ a, F a → ¬ G a) → (∀ a, U a ↔ F a ∨ G a) → Sep S H (Γ ++ Δ) U
  | _, _, _, _, _, .nil h, t, _, u => t.iff fun a => (u a).trans ⟨fun x => x.elim (fun y => (h a y).elim) id, .inr⟩
  | _, _, _, _, _, .cons s p t d v, t', d', u => by
    rename_i F1 G1
    refine .cons s p (Sep.append (U := fun a => G1 a ∨ _) t t' (fun a x y => d' a ((v a).mpr (.inr x)) y) fun a => Iff.rfl) (fun a x y => ?_) fun a => ?_
    · rcases y with y | y
      · exact d a x y
      · exact d' a ((v a).mpr (.inl x)) y
    · rw [u a, v a, or_assoc]
theorem Sep.split {S H : Hp} : ∀ (Γ : List Pc) {Δ : List Pc} {U : Foot}, Sep S H (Γ ++ Δ) U → ∃ F G, Sep S H Γ F ∧ Sep S H Δ G ∧ (∀ a, F a → ¬ G a) ∧ ∀ a, U a ↔ F a ∨ G a
  | [], _, U, h => ⟨fun _ => False, U, .nil fun _ q => q, h, fun _ q => q.elim, fun _ => ⟨.inr, fun x => x.elim False.elim id⟩⟩
  | P :: Γ, Δ, U, h => by
    cases h with
    | cons s p t d u =>
      rename_i F1 G1
      obtain ⟨F, G, a, b, c, e⟩ := Sep.split Γ t
      refine ⟨fun x => F1 x ∨ F x, G, .cons s p a (fun x y z => d x y ((e x).mpr (.inl z))) fun _ => Iff.rfl, b, fun x y z => ?_, fun x => ?_⟩
      · rcases y with y | y
        · exact d x y ((e x).mpr (.inr z))
        · exact c x y z
      · rw [u x, e x, or_assoc]

section
variable {S S' H H' : Hp} {Γ Δ : List Pc} {P Q : Pc}
theorem Holds.perm (h : Holds S H Γ) (e : Γ.Perm Δ) : Holds S H Δ := ⟨h.ex, let ⟨F, a, b, c⟩ := h.own; ⟨F, a.perm e, b, c⟩⟩
theorem Holds.drop (h : Holds S H (P :: Γ)) : Holds S H Γ := ⟨h.ex, by
  obtain ⟨F, a, b, c⟩ := h.own
  cases a with
  | cons s p t d u => exact ⟨_, t, fun a q => b a ((u a).mpr (.inr q)), fun a q => c a ((u a).mpr (.inr q))⟩⟩
theorem Holds.mem (h : Holds S H Γ) (m : P ∈ Γ) : ∃ F, P S H F := by
  obtain ⟨F, a, _, _⟩ := h.own
  obtain ⟨G, x, _⟩ := a.mem P m
  exact ⟨G, x⟩
theorem Holds.nil (h : Holds S H Γ) : Holds S H [] := ⟨h.ex, fun _ => False, .nil fun _ q => q, fun _ q => q.elim, fun _ q => q.elim⟩
/-- a piece that owns nothing -/
theorem Holds.pure (h : Holds S H Γ) (s : Stb P) (p : ∀ F : Foot, (∀ a, ¬ F a) → P S H F) : Holds S H (P :: Γ) := by
  obtain ⟨F, a, b, c⟩ := h.own
  exact ⟨h.ex, F, .cons s (p (fun _ => False) fun _ q => q) a (fun _ q => q.elim) fun a => ⟨.inr, fun x => x.elim False.elim id⟩, b, c⟩
/-- the heap grows, the shared part with it (or not) -/
theorem Holds.grow (h : Holds S H Γ) (e : Ex S S') (e1 : Ex S' H') (e2 : ∀ a, H a ≠ none → H' a = H a) (n : ∀ a, S' a ≠ none → S a = none → H a = none) : Holds S' H' Γ := by
  obtain ⟨F, a, b, c⟩ := h.own
  refine ⟨e1, F, a.stay e fun x q => e2 x (c x q), fun x q => ?_, fun x q => by rw [e2 x (c x q)]; exact c x q⟩
  cases z : S' x with
  | none => rfl
  | some o => exact absurd (n x (by rw [z]; simp) (b x q)) (c x q)
/-- a new shared object -/
theorem Holds.newS (h : Holds S H Γ) {p : Addr} {o : HO} (hp : H p = none) : Holds (upd S p o) (upd H p o) Γ := by
  refine h.grow (Ex.new (h.ex.free hp)) (fun a u e => ?_) (fun a q => ?_) fun a x y => ?_
  · by_cases z : a = p
    · subst z; rw [upd_same] at e ⊢; exact e
    · rw [upd_ne z] at e ⊢; exact h.ex a u e
  · exact upd_ne fun z => q (z ▸ hp)
  · by_cases z : a = p
    · rw [z]; exact hp
    · rw [upd_ne z] at x; exact absurd y x
/-- a new object of one's own -/
theorem Holds.newO (h : Holds S H Γ) {p : Addr} {o : HO} (hp : H p = none) (s : Stb P) (q : ∀ F : Foot, (∀ a, F a ↔ a = p) → P S (upd H p o) F) : Holds S (upd H p o) (P :: Γ) := by
  have h1 : Holds S (upd H p o) Γ := h.grow (Ex.refl S) (fun a u e => by rw [upd_ne (fun z => by subst z; rw [h.ex a u e] at hp; cases hp)]; exact h.ex a u e) (fun a q => upd_ne fun z => q (z ▸ hp)) fun a x y => absurd y x
  obtain ⟨F, a, b, c⟩ := h.own
  obtain ⟨F', a', b', c'⟩ := h1.own
  have ne : ∀ x, F x → x ≠ p := fun x q z => c x q (z ▸ hp)
  have a1 : Sep S (upd H p o) Γ F := a.stay (Ex.refl S) fun x q => upd_ne (ne x q)
  refine ⟨h1.ex, fun x => x = p ∨ F x, .cons s (q (fun x => x = p) fun _ => Iff.rfl) a1 (fun x y z => ne x z y) fun _ => Iff.rfl, fun x y => ?_, fun x y => ?_⟩
  · rcases y with y | y
    · rw [y]; exact h.ex.free hp
    · exact b x y
  · rcases y with y | y
    · rw [y, upd_same]; simp
    · rw [upd_ne (ne x y)]; exact c x y
/-- the front piece is changed within what it owns (and new objects) -/
theorem Holds.change (h : Holds S H (P :: Γ)) (s : Stb Q) (k : ∀ F, P S H F → (∀ a, F a → S a = none) → (∀ a, F a → H a ≠ none) → ∃ G, Q S H' G ∧ (∀ a, G a → F a ∨ H a = none) ∧ (∀ a, G a → H' a ≠ none) ∧ ∀ a, ¬ F a → H a ≠ none → H' a = H a) : Holds S H' (Q :: Γ) := by
  obtain ⟨U, a, b, c⟩ := h.own
  cases a with
  | cons s0 p t d u =>
    rename_i F G
    obtain ⟨F', q, k1, k2, k3⟩ := k F p (fun x y => b x ((u x).mpr (.inl y))) (fun x y => c x ((u x).mpr (.inl y)))
    have keep : ∀ x, G x → H' x = H x := fun x y => k3 x (fun z => d x z y) (c x ((u x).mpr (.inr y)))
    refine ⟨fun x o e => ?_, fun x => F' x ∨ G x, .cons s q (t.stay (Ex.refl S) keep) (fun x y z => ?_) fun _ => Iff.rfl, fun x y => ?_, fun x y => ?_⟩
    · have e' := h.ex x o e
      rw [k3 x (fun y => by rw [b x ((u x).mpr (.inl y))] at e; cases e) (by rw [e']; simp)]
      exact e'
    · rcases k1 x y with y | y
      · exact d x y z
      · exact c x ((u x).mpr (.inr z)) y
    · rcases y with y | y
      · rcases k1 x y with y | y
        · exact b x ((u x).mpr (.inl y))
        · exact h.ex.free y
      · exact b x ((u x).mpr (.inr y))
    · rcases y with y | y
      · exact k2 x y
      · rw [keep x y]; exact c x ((u x).mpr (.inr y))
/-- the front piece told otherwise, the heap as it is -/
theorem Holds.imp (h : Holds S H (P :: Γ)) (s : Stb Q) (k : ∀ F, P S H F → Q S H F) : Holds S H (Q :: Γ) :=
  h.change s fun F p _ c => ⟨F, k F p, fun _ q => .inl q, c, fun _ _ _ => rfl⟩
/-- what the front piece owns is shared from now on -/
theorem Holds.share (h : Holds S H (P :: Γ)) (k : ∀ F, P S H F → (∀ a, F a → S a = none) → (∀ a, F a → H a ≠ none) → ∃ S', Ex S S' ∧ Ex S' H ∧ (∀ a, S' a ≠ none → S a ≠ none ∨ F a) ∧ ∀ G : Foot, (∀ a, ¬ G a) → Q S' H G) (s : Stb Q) : ∃ S', Ex S S' ∧ Holds S' H (Q :: Γ) := by
  obtain ⟨U, a, b, c⟩ := h.own
  cases a with
  | cons s0 p t d u =>
    rename_i F G
    obtain ⟨S', e1, e2, n, q⟩ := k F p (fun x y => b x ((u x).mpr (.inl y))) (fun x y => c x ((u x).mpr (.inl y)))
    refine ⟨S', e1, e2, G, .cons s (q (fun _ => False) fun _ z => z) (t.stay e1 fun _ _ => rfl) (fun _ z => z.elim) fun x => ⟨.inr, fun z => z.elim False.elim id⟩, fun x y => ?_, fun x y => c x ((u x).mpr (.inr y))⟩
    cases z : S' x with
    | none => rfl
    | some o =>
      rcases n x (by rw [z]; simp) with w | w
      · exact absurd (b x ((u x).mpr (.inr y))) w
      · exact absurd y (d x w)
end
end DM
set_option maxRecDepth 100000
/-! Data mirror, part 2: modes (how a value is held), lists, dicts, objects of one's own. -/
namespace DM
open PySem PySem.Spec PyProof.Rows L2

def D.isSc : D → Bool
  | .non => true
  | .bl _ => true
  | .int _ => true
  | .str _ => true
  | _ => false
structure Mode (M : Mdl) where
  fam : V → D → Pc
  stb : ∀ v d, Stb (fam v d)
  rd : ∀ {v d S H F}, fam v d S H F → Ex S H → Rep M H v d
  sh : ∀ {v d S H F}, fam v d S H F → Ex S H → (∀ a, F a → S a = none) → (∀ a, F a → H a ≠ none) →
    ∃ S', Ex S S' ∧ Ex S' H ∧ (∀ a, S' a ≠ none → S a ≠ none ∨ F a) ∧ Rep M S' v d
  sc : ∀ {v d S H F}, d.isSc = true → Rep M S v d → (∀ a, ¬ F a) → fam v d S H F

section
variable {M : Mdl}
/-- shared, never changed -/
def fz : Mode M where
  fam := fun v d S _ F => Rep M S v d ∧ ∀ a, ¬ F a
  stb := fun v d S S' H H' F p e _ => ⟨p.1.mono e, p.2⟩
  rd := fun p e => p.1.mono e
  sh := fun p e _ _ => ⟨_, Ex.refl _, e, fun _ q => .inl q, p.1⟩
  sc := fun _ r n => ⟨r, n⟩

/-! ### items of one kind -/
inductive Els (P : V → D → Pc) (S H : Hp) : List V → List D → Foot → Prop
  | nil {F : Foot} : (∀ a, ¬ F a) → Els P S H [] [] F
  | cons {v : V} {d : D} {vs : List V} {ds : List D} {F G U : Foot} : P v d S H F → Els P S H vs ds G → (∀ a, F a → ¬ G a) → (∀ a, U a ↔ F a ∨ G a) → Els P S H (v :: vs) (d :: ds) U
theorem Els.iff {P : V → D → Pc} {S H : Hp} {vs : List V} {ds : List D} {F G : Foot} (h : Els P S H vs ds F) (e : ∀ a, G a ↔ F a) : Els P S H vs ds G := by
  cases h with
  | nil h => exact .nil fun a q => h a ((e a).mp q)
  | cons p t d u => exact .cons p t d fun a => (e a).trans (u a)
theorem Els.stay {P : V → D → Pc} (sb : ∀ v d, Stb (P v d)) {S S' H H' : Hp} : ∀ {vs : List V} {ds : List D} {F : Foot}, Els P S H vs ds F → Ex S S' → (∀ a, F a → H' a = H a) → Els P S' H' vs ds F
  | _, _, _, .nil h, _, _ => .nil h
  | _, _, _, .cons p t d u, e, k => .cons (sb _ _ _ _ _ _ _ p e fun a q => k a ((u a).mpr (.inl q))) (t.stay sb e fun a q => k a ((u a).mpr (.inr q))) d u
theorem Els.length {P : V → D → Pc} {S H : Hp} : ∀ {vs : List V} {ds : List D} {F : Foot}, Els P S H vs ds F → vs.length = ds.length
  | _, _, _, .nil _ => rfl
  | _, _, _, .cons _ t _ _ => by rw [List.length_cons, List.length_cons, t.length]
theorem Els.rd {P : V → D → Pc} {S H : Hp} (r : ∀ v d F, P v d S H F → Rep M H v d) : ∀ {vs : List V} {ds : List D} {F : Foot}, Els P S H vs ds F → RepL M H vs ds
  | _, _, _, .nil _ => .nil
  | _, _, _, .cons p t _ _ => .cons (r _ _ _ p) (t.rd r)
theorem Els.append {P : V → D → Pc} {S H : Hp} : ∀ {vs ws : List V} {ds es : List D} {F G U : Foot}, Els P S H vs ds F → Els P S H ws es G → (∀ a, F a → ¬ G a) → (∀ a, U a ↔ F a ∨ G a) → Els P S H (vs ++ ws) (ds ++ es) U
  | _, _, _, _, _, _, _, .nil h, t, _, u => t.iff fun a => (u a).trans ⟨fun x => x.elim (fun y => (h a y).elim) id, .inr⟩
  | _, _, _, _, _, _, _, .cons p t d v, t', d', u => by
    rename_i F1 G1
    refine .cons p (Els.append (U := fun a => G1 a ∨ _) t t' (fun a x y => d' a ((v a).mpr (.inr x)) y) fun a => Iff.rfl) (fun a x y => ?_) fun a => ?_
    · rcases y with y | y
      · exact d a x y
      · exact d' a ((v a).mpr (.inl x)) y
    · rw [u a, v a, or_assoc]
/-- one item taken out, and what the rest makes of another at its place -/
theorem Els.focus {P : V → D → Pc} {S H : Hp} : ∀ {vs : List V} {ds : List D} {U : Foot} {j : Nat} {d : D}, Els P S H vs ds U → ds[j]? = some d →
    ∃ v F G, vs[j]? = some v ∧ P v d S H F ∧ (∀ a, F a → ¬ G a) ∧ (∀ a, U a ↔ F a ∨ G a) ∧ (∀ (S' H' : Hp) v' d' F' U', (∀ v d, Stb (P v d)) → Ex S S' → (∀ a, G a → H' a = H a) → P v' d' S' H' F' → (∀ a, F' a → ¬ G a) → (∀ a, U' a ↔ F' a ∨ G a) → Els P S' H' (vs.set j v') (ds.set j d') U') ∧
      ∀ (S' H' : Hp), (∀ v d, Stb (P v d)) → Ex S S' → (∀ a, G a → H' a = H a) → Els P S' H' (vs.eraseIdx j) (ds.eraseIdx j) G
  | _, _, _, _, _, .nil _, e => by simp at e
  | _, _, U, 0, _, .cons (F := F) (G := G) p t dj u, e => by
    simp at e; subst e
    exact ⟨_, F, G, rfl, p, dj, u, fun S' H' v' d' F' U' sb ex k p' dj' u' => .cons p' (t.stay sb ex k) dj' u', fun S' H' sb ex k => t.stay sb ex k⟩
  | _, _, U, j + 1, _, .cons (F := F) (G := G) p t dj u, e => by
    obtain ⟨v, F1, G1, e1, p1, d1, u1, k1, k2⟩ := Els.focus (j := j) t (by simpa using e)
    refine ⟨v, F1, fun a => F a ∨ G1 a, by simpa using e1, p1, fun a x y => ?_, fun a => ?_, fun S' H' v' d' F' U' sb ex k p' dj' u' => ?_, fun S' H' sb ex k => ?_⟩
    · rcases y with y | y
      · exact dj a y ((u1 a).mpr (.inl x))
      · exact d1 a x y
    · rw [u a, u1 a]
      exact ⟨fun x => x.elim (fun y => .inr (.inl y)) fun y => y.elim .inl fun z => .inr (.inr z), fun x => x.elim (fun y => .inr (.inl y)) fun y => y.elim .inl fun z => .inr (.inr z)⟩
    · refine .cons (sb _ _ _ _ _ _ _ p ex fun a q => k a (.inl q)) (k1 S' H' v' d' F' (fun a => F' a ∨ G1 a) sb ex (fun a q => k a (.inr q)) p' (fun a x y => dj' a x (.inr y)) fun _ => Iff.rfl) (fun a x y => ?_) fun a => ?_
      · rcases y with y | y
        · exact dj' a y (.inl x)
        · exact dj a x ((u1 a).mpr (.inr y))
      · rw [u' a]
        exact ⟨fun x => x.elim (fun y => .inr (.inl y)) fun y => y.elim .inl fun z => .inr (.inr z), fun x => x.elim (fun y => .inr (.inl y)) fun y => y.elim .inl fun z => .inr (.inr z)⟩
    · exact .cons (sb _ _ _ _ _ _ _ p ex fun a q => k a (.inl q)) (k2 S' H' sb ex fun a q => k a (.inr q)) (fun a x y => dj a x ((u1 a).mpr (.inr y))) fun _ => Iff.rfl
/-- all shared -/
theorem Els.sh {m : Mode M} {H : Hp} : ∀ {vs : List V} {ds : List D} {F : Foot} {S : Hp}, Els m.fam S H vs ds F → Ex S H → (∀ a, F a → S a = none) → (∀ a, F a → H a ≠ none) →
    ∃ S', Ex S S' ∧ Ex S' H ∧ (∀ a, S' a ≠ none → S a ≠ none ∨ F a) ∧ RepL M S' vs ds
  | _, _, _, S, .nil _, e, _, _ => ⟨S, Ex.refl _, e, fun _ q => .inl q, .nil⟩
  | _, _, U, S, .cons (F := F) (G := G) p t d u, e, n, s => by
    obtain ⟨S1, a1, a2, a3, a4⟩ := m.sh p e (fun a q => n a ((u a).mpr (.inl q))) (fun a q => s a ((u a).mpr (.inl q)))
    have t1 := t.stay m.stb a1 (H' := H) fun _ _ => rfl
    obtain ⟨S2, b1, b2, b3, b4⟩ := Els.sh t1 a2 (fun a q => by
      cases z : S1 a with
      | none => rfl
      | some o =>
        rcases a3 a (by rw [z]; simp) with w | w
        · exact absurd (n a ((u a).mpr (.inr q))) w
        · exact absurd q (d a w)) (fun a q => s a ((u a).mpr (.inr q)))
    refine ⟨S2, a1.trans b1, b2, fun a q => ?_, .cons (a4.mono b1) b4⟩
    rcases b3 a q with w | w
    · rcases a3 a w with w | w
      · exact .inl w
      · exact .inr ((u a).mpr (.inl w))
    · exact .inr ((u a).mpr (.inr w))
theorem Els.ofRep {S H : Hp} : ∀ {vs : List V} {ds : List D} {F : Foot}, RepL M S vs ds → (∀ a, ¬ F a) → Els (fz (M := M)).fam S H vs ds F
  | _, _, _, .nil, n => .nil n
  | _, _, F, .cons r t, n => .cons (F := fun _ => False) (G := fun _ => False) ⟨r, fun _ q => q⟩ (Els.ofRep t fun _ q => q) (fun _ q => q.elim) fun a => ⟨fun q => (n a q).elim, fun q => q.elim False.elim False.elim⟩
theorem Els.toRep {S H : Hp} : ∀ {vs : List V} {ds : List D} {F : Foot}, Els (fz (M := M)).fam S H vs ds F → RepL M S vs ds ∧ ∀ a, ¬ F a
  | _, _, _, .nil n => ⟨.nil, n⟩
  | _, _, _, .cons p t _ u => let ⟨a, b⟩ := t.toRep; ⟨.cons p.1 a, fun x q => ((u x).mp q).elim (p.2 x) (b x)⟩

/-! ### items by keys -/
inductive ElsF {κ : Type} (f : κ → V → D → Pc) (S H : Hp) : List κ → List V → List D → Foot → Prop
  | nil {F : Foot} : (∀ a, ¬ F a) → ElsF f S H [] [] [] F
  | cons {k : κ} {v : V} {d : D} {ks : List κ} {vs : List V} {ds : List D} {F G U : Foot} : f k v d S H F → ElsF f S H ks vs ds G → (∀ a, F a → ¬ G a) → (∀ a, U a ↔ F a ∨ G a) → ElsF f S H (k :: ks) (v :: vs) (d :: ds) U
section
variable {κ : Type} {f : κ → V → D → Pc}
theorem ElsF.iff {S H : Hp} {ks : List κ} {vs : List V} {ds : List D} {F G : Foot} (h : ElsF f S H ks vs ds F) (e : ∀ a, G a ↔ F a) : ElsF f S H ks vs ds G := by
  cases h with
  | nil h => exact .nil fun a q => h a ((e a).mp q)
  | cons p t d u => exact .cons p t d fun a => (e a).trans (u a)
theorem ElsF.stay (sb : ∀ k v d, Stb (f k v d)) {S S' H H' : Hp} : ∀ {ks : List κ} {vs : List V} {ds : List D} {F : Foot}, ElsF f S H ks vs ds F → Ex S S' → (∀ a, F a → H' a = H a) → ElsF f S' H' ks vs ds F
  | _, _, _, _, .nil h, _, _ => .nil h
  | _, _, _, _, .cons p t d u, e, k => .cons (sb _ _ _ _ _ _ _ _ p e fun a q => k a ((u a).mpr (.inl q))) (t.stay sb e fun a q => k a ((u a).mpr (.inr q))) d u
theorem ElsF.length {S H : Hp} : ∀ {ks : List κ} {vs : List V} {ds : List D} {F : Foot}, ElsF f S H ks vs ds F → vs.length = ds.length ∧ ks.length = ds.length
  | _, _, _, _, .nil _ => ⟨rfl, rfl⟩
  | _, _, _, _, .cons _ t _ _ => by simp [t.length.1, t.length.2]
theorem ElsF.rd {S H : Hp} (r : ∀ k v d F, f k v d S H F → Rep M H v d) : ∀ {ks : List κ} {vs : List V} {ds : List D} {F : Foot}, ElsF f S H ks vs ds F → RepL M H vs ds
  | _, _, _, _, .nil _ => .nil
  | _, _, _, _, .cons p t _ _ => .cons (r _ _ _ _ p) (t.rd r)
theorem ElsF.append {S H : Hp} : ∀ {ks ls : List κ} {vs ws : List V} {ds es : List D} {F G U : Foot}, ElsF f S H ks vs ds F → ElsF f S H ls ws es G → (∀ a, F a → ¬ G a) → (∀ a, U a ↔ F a ∨ G a) → ElsF f S H (ks ++ ls) (vs ++ ws) (ds ++ es) U
  | _, _, _, _, _, _, _, _, _, .nil h, t, _, u => t.iff fun a => (u a).trans ⟨fun x => x.elim (fun y => (h a y).elim) id, .inr⟩
  | _, _, _, _, _, _, _, _, _, .cons p t d v, t', d', u => by
    rename_i F1 G1
    refine .cons p (ElsF.append (U := fun a => G1 a ∨ _) t t' (fun a x y => d' a ((v a).mpr (.inr x)) y) fun a => Iff.rfl) (fun a x y => ?_) fun a => ?_
    · rcases y with y | y
      · exact d a x y
      · exact d' a ((v a).mpr (.inl x)) y
    · rw [u a, v a, or_assoc]
theorem ElsF.focus {S H : Hp} : ∀ {ks : List κ} {vs : List V} {ds : List D} {U : Foot} {j : Nat} {k : κ}, ElsF f S H ks vs ds U → ks[j]? = some k →
    ∃ (v : V) (d : D) (F G : Foot), vs[j]? = some v ∧ ds[j]? = some d ∧ f k v d S H F ∧ (∀ a, F a → ¬ G a) ∧ (∀ a, U a ↔ F a ∨ G a) ∧ (∀ (S' H' : Hp) (v' : V) (d' : D) (F' U' : Foot), (∀ k v d, Stb (f k v d)) → Ex S S' → (∀ a, G a → H' a = H a) → f k v' d' S' H' F' → (∀ a, F' a → ¬ G a) → (∀ a, U' a ↔ F' a ∨ G a) → ElsF f S' H' ks (vs.set j v') (ds.set j d') U')
  | _, _, _, _, _, _, .nil _, e => by simp at e
  | _, _, _, U, 0, _, .cons (F := F) (G := G) p t dj u, e => by
    simp at e; subst e
    exact ⟨_, _, F, G, rfl, rfl, p, dj, u, fun S' H' v' d' F' U' sb ex k p' dj' u' => .cons p' (t.stay sb ex k) dj' u'⟩
  | _, _, _, U, j + 1, _, .cons (F := F) (G := G) p t dj u, e => by
    obtain ⟨v, d, F1, G1, e1, e2, p1, d1, u1, k1⟩ := ElsF.focus (j := j) t (by simpa using e)
    refine ⟨v, d, F1, fun a => F a ∨ G1 a, by simpa using e1, by simpa using e2, p1, fun a x y => ?_, fun a => ?_, fun S' H' v' d' F' U' sb ex k p' dj' u' => ?_⟩
    · rcases y with y | y
      · exact dj a y ((u1 a).mpr (.inl x))
      · exact d1 a x y
    · rw [u a, u1 a]
      exact ⟨fun x => x.elim (fun y => .inr (.inl y)) fun y => y.elim .inl fun z => .inr (.inr z), fun x => x.elim (fun y => .inr (.inl y)) fun y => y.elim .inl fun z => .inr (.inr z)⟩
    · refine .cons (sb _ _ _ _ _ _ _ _ p ex fun a q => k a (.inl q)) (k1 S' H' v' d' F' (fun a => F' a ∨ G1 a) sb ex (fun a q => k a (.inr q)) p' (fun a x y => dj' a x (.inr y)) fun _ => Iff.rfl) (fun a x y => ?_) fun a => ?_
      · rcases y with y | y
        · exact dj' a y (.inl x)
        · exact dj a x ((u1 a).mpr (.inr y))
      · rw [u' a]
        exact ⟨fun x => x.elim (fun y => .inr (.inl y)) fun y => y.elim .inl fun z => .inr (.inr z), fun x => x.elim (fun y => .inr (.inl y)) fun y => y.elim .inl fun z => .inr (.inr z)⟩
theorem ElsF.sh {m : κ → Mode M} {H : Hp} : ∀ {ks : List κ} {vs : List V} {ds : List D} {F : Foot} {S : Hp}, ElsF (fun k => (m k).fam) S H ks vs ds F → Ex S H → (∀ a, F a → S a = none) → (∀ a, F a → H a ≠ none) →
    ∃ S', Ex S S' ∧ Ex S' H ∧ (∀ a, S' a ≠ none → S a ≠ none ∨ F a) ∧ RepL M S' vs ds
  | _, _, _, _, S, .nil _, e, _, _ => ⟨S, Ex.refl _, e, fun _ q => .inl q, .nil⟩
  | _, _, _, U, S, .cons (k := k) (F := F) (G := G) p t d u, e, n, s => by
    obtain ⟨S1, a1, a2, a3, a4⟩ := (m k).sh p e (fun a q => n a ((u a).mpr (.inl q))) (fun a q => s a ((u a).mpr (.inl q)))
    have t1 := t.stay (fun k => (m k).stb) a1 (H' := H) fun _ _ => rfl
    obtain ⟨S2, b1, b2, b3, b4⟩ := ElsF.sh t1 a2 (fun a q => by
      cases z : S1 a with
      | none => rfl
      | some o =>
        rcases a3 a (by rw [z]; simp) with w | w
        · exact absurd (n a ((u a).mpr (.inr q))) w
        · exact absurd q (d a w)) (fun a q => s a ((u a).mpr (.inr q)))
    refine ⟨S2, a1.trans b1, b2, fun a q => ?_, .cons (a4.mono b1) b4⟩
    rcases b3 a q with w | w
    · rcases a3 a w with w | w
      · exact .inl w
      · exact .inr ((u a).mpr (.inl w))
    · exact .inr ((u a).mpr (.inr w))
end

/-! ### the modes -/
def D.isLst : D → Bool
  | .lst _ => true
  | _ => false
def D.isDK : D → Bool
  | .dK _ _ => true
  | _ => false
def D.isDT : D → Bool
  | .dT _ _ => true
  | _ => false
def D.isObj : D → Bool
  | .obj _ _ _ => true
  | _ => false
/-- one object at p and what hangs on it: shared now -/
theorem share_one {S H : Hp} {p : Addr} {o : HO} {F G : Foot} {R : Hp → Prop} (hp : H p = some o) (nG : ¬ G p) (u : ∀ a, F a ↔ a = p ∨ G a) (n : ∀ a, F a → S a = none) (k : ∃ S', Ex S S' ∧ Ex S' H ∧ (∀ a, S' a ≠ none → S a ≠ none ∨ G a) ∧ R S') :
    ∃ S', Ex S S' ∧ Ex S' H ∧ (∀ a, S' a ≠ none → S a ≠ none ∨ F a) ∧ S' p = some o ∧ ∃ S1, Ex S1 S' ∧ R S1 := by
  obtain ⟨S1, a1, a2, a3, a4⟩ := k
  have h1 : S1 p = none := by
    cases z : S1 p with
    | none => rfl
    | some o' =>
      rcases a3 p (by rw [z]; simp) with w | w
      · exact absurd (n p ((u p).mpr (.inl rfl))) w
      · exact absurd w nG
  refine ⟨upd S1 p o, a1.trans (Ex.new h1), fun a q e => ?_, fun a q => ?_, upd_same, S1, Ex.new h1, a4⟩
  · by_cases z : a = p
    · subst z; rw [upd_same] at e; cases e; exact hp
    · rw [upd_ne z] at e; exact a2 a q e
  · by_cases z : a = p
    · exact .inr ((u a).mpr (.inl z))
    · rw [upd_ne z] at q
      rcases a3 a q with w | w
      · exact .inl w
      · exact .inr ((u a).mpr (.inr w))
/-- a list of one's own, its items held by m -/
def Lof (m : Mode M) : Mode M where
  fam := fun v d S H F => (d.isLst = false ∧ Rep M S v d ∧ ∀ a, ¬ F a) ∨ ∃ p vs ds G, v = .ref p ∧ d = .lst ds ∧ H p = some (.lst vs) ∧ Els m.fam S H vs ds G ∧ ¬ G p ∧ ∀ a, F a ↔ a = p ∨ G a
  stb := by
    rintro v d S S' H H' F (⟨a, b, c⟩ | ⟨p, vs, ds, G, a, b, c, e, f, g⟩) x y
    · exact .inl ⟨a, b.mono x, c⟩
    · exact .inr ⟨p, vs, ds, G, a, b, (y p ((g p).mpr (.inl rfl))).trans c, e.stay m.stb x fun a q => y a ((g a).mpr (.inr q)), f, g⟩
  rd := by
    rintro v d S H F (⟨a, b, c⟩ | ⟨p, vs, ds, G, rfl, rfl, c, e, f, g⟩) x
    · exact b.mono x
    · exact .lst c (e.rd fun _ _ _ q => m.rd q x)
  sh := by
    rintro v d S H F (⟨a, b, c⟩ | ⟨p, vs, ds, G, rfl, rfl, c, e, f, g⟩) x n s
    · exact ⟨S, Ex.refl _, x, fun _ q => .inl q, b⟩
    · obtain ⟨S', a1, a2, a3, a4, S1, a5, a6⟩ := share_one c f g n (e.sh x (fun a q => n a ((g a).mpr (.inr q))) (fun a q => s a ((g a).mpr (.inr q))))
      exact ⟨S', a1, a2, a3, .lst a4 (a6.mono a5)⟩
  sc := fun {v d S H F} h r n => .inl ⟨(by cases d <;> first | rfl | cases h), r, n⟩
/-- a dict of one's own -/
def Kof (m : Key → Mode M) : Mode M where
  fam := fun v d S H F => (d.isDK = false ∧ Rep M S v d ∧ ∀ a, ¬ F a) ∨ ∃ p kvs ks ds G, v = .ref p ∧ d = .dK ks ds ∧ H p = some (.dK kvs) ∧ (kvs.map (·.1) = ks ∧ ks.Nodup) ∧ ElsF (fun k => (m k).fam) S H ks (kvs.map (·.2)) ds G ∧ ¬ G p ∧ ∀ a, F a ↔ a = p ∨ G a
  stb := by
    rintro v d S S' H H' F (⟨a, b, c⟩ | ⟨p, kvs, ks, ds, G, a, b, c, k, e, f, g⟩) x y
    · exact .inl ⟨a, b.mono x, c⟩
    · exact .inr ⟨p, kvs, ks, ds, G, a, b, (y p ((g p).mpr (.inl rfl))).trans c, k, e.stay (fun k => (m k).stb) x fun a q => y a ((g a).mpr (.inr q)), f, g⟩
  rd := by
    rintro v d S H F (⟨a, b, c⟩ | ⟨p, kvs, ks, ds, G, rfl, rfl, c, k, e, f, g⟩) x
    · exact b.mono x
    · exact .dK c k.1 (e.rd fun k _ _ _ q => (m k).rd q x)
  sh := by
    rintro v d S H F (⟨a, b, c⟩ | ⟨p, kvs, ks, ds, G, rfl, rfl, c, k, e, f, g⟩) x n s
    · exact ⟨S, Ex.refl _, x, fun _ q => .inl q, b⟩
    · obtain ⟨S', a1, a2, a3, a4, S1, a5, a6⟩ := share_one c f g n (e.sh x (fun a q => n a ((g a).mpr (.inr q))) (fun a q => s a ((g a).mpr (.inr q))))
      exact ⟨S', a1, a2, a3, .dK a4 k.1 (a6.mono a5)⟩
  sc := fun {v d S H F} h r n => .inl ⟨(by cases d <;> first | rfl | cases h), r, n⟩
/-- .. with keys that are tuples -/
def Tof (m : Mode M) : Mode M where
  fam := fun v d S H F => (d.isDT = false ∧ Rep M S v d ∧ ∀ a, ¬ F a) ∨ ∃ p kvs ks ds G, v = .ref p ∧ d = .dT ks ds ∧ H p = some (.dT kvs) ∧ (kvs.map (·.1) = ks ∧ ks.Nodup) ∧ ElsF (fun _ => m.fam) S H ks (kvs.map (·.2)) ds G ∧ ¬ G p ∧ ∀ a, F a ↔ a = p ∨ G a
  stb := by
    rintro v d S S' H H' F (⟨a, b, c⟩ | ⟨p, kvs, ks, ds, G, a, b, c, k, e, f, g⟩) x y
    · exact .inl ⟨a, b.mono x, c⟩
    · exact .inr ⟨p, kvs, ks, ds, G, a, b, (y p ((g p).mpr (.inl rfl))).trans c, k, e.stay (fun _ => m.stb) x fun a q => y a ((g a).mpr (.inr q)), f, g⟩
  rd := by
    rintro v d S H F (⟨a, b, c⟩ | ⟨p, kvs, ks, ds, G, rfl, rfl, c, k, e, f, g⟩) x
    · exact b.mono x
    · exact .dT c k.1 (e.rd fun _ _ _ _ q => m.rd q x)
  sh := by
    rintro v d S H F (⟨a, b, c⟩ | ⟨p, kvs, ks, ds, G, rfl, rfl, c, k, e, f, g⟩) x n s
    · exact ⟨S, Ex.refl _, x, fun _ q => .inl q, b⟩
    · obtain ⟨S', a1, a2, a3, a4, S1, a5, a6⟩ := share_one c f g n (ElsF.sh (m := fun _ => m) e x (fun a q => n a ((g a).mpr (.inr q))) (fun a q => s a ((g a).mpr (.inr q))))
      exact ⟨S', a1, a2, a3, .dT a4 k.1 (a6.mono a5)⟩
  sc := fun {v d S H F} h r n => .inl ⟨(by cases d <;> first | rfl | cases h), r, n⟩
/-- an object of one's own class, its attributes held by m -/
def Iof (m : Str → Mode M) : Mode M where
  fam := fun v d S H F => (d.isObj = false ∧ Rep M S v d ∧ ∀ a, ¬ F a) ∨ ∃ p C dx c fs ns ds G, v = .ref p ∧ d = .obj c ns ds ∧ H p = some (.ins C dx fs) ∧ M.mg c = some (.ref C) ∧ fs.map (·.1) = ns ∧ ElsF (fun k => (m k).fam) S H ns (fs.map (·.2)) ds G ∧ ¬ G p ∧ ∀ a, F a ↔ a = p ∨ G a
  stb := by
    rintro v d S S' H H' F (⟨a, b, c⟩ | ⟨p, C, dx, c, fs, ns, ds, G, a, b, h, gC, k, e, f, g⟩) x y
    · exact .inl ⟨a, b.mono x, c⟩
    · exact .inr ⟨p, C, dx, c, fs, ns, ds, G, a, b, (y p ((g p).mpr (.inl rfl))).trans h, gC, k, e.stay (fun k => (m k).stb) x fun a q => y a ((g a).mpr (.inr q)), f, g⟩
  rd := by
    rintro v d S H F (⟨a, b, c⟩ | ⟨p, C, dx, c, fs, ns, ds, G, rfl, rfl, h, gC, k, e, f, g⟩) x
    · exact b.mono x
    · exact .obj h gC k (e.rd fun k _ _ _ q => (m k).rd q x)
  sh := by
    rintro v d S H F (⟨a, b, c⟩ | ⟨p, C, dx, c, fs, ns, ds, G, rfl, rfl, h, gC, k, e, f, g⟩) x n s
    · exact ⟨S, Ex.refl _, x, fun _ q => .inl q, b⟩
    · obtain ⟨S', a1, a2, a3, a4, S1, a5, a6⟩ := share_one h f g n (e.sh x (fun a q => n a ((g a).mpr (.inr q))) (fun a q => s a ((g a).mpr (.inr q))))
      exact ⟨S', a1, a2, a3, .obj a4 gC k (a6.mono a5)⟩
  sc := fun {v d S H F} h r n => .inl ⟨(by cases d <;> first | rfl | cases h), r, n⟩

/-! ### pieces of modes -/
variable {S H : Hp} {Γ : List Pc} {m : Mode M} {v : V} {d : D}
theorem Holds.addFz (h : Holds S H Γ) (r : Rep M S v d) : Holds S H ((fz (M := M)).fam v d :: Γ) := h.pure (fz.stb v d) fun F n => ⟨r, n⟩
theorem Holds.shareM (h : Holds S H (m.fam v d :: Γ)) : ∃ S', Ex S S' ∧ Holds S' H ((DM.fz (M := M)).fam v d :: Γ) :=
  h.share (fun F p a b => by
    obtain ⟨S', e1, e2, n, r⟩ := m.sh p h.ex a b
    exact ⟨S', e1, e2, n, fun G nG => ⟨r, nG⟩⟩) (DM.fz.stb v d)
theorem Holds.scM (h : Holds S H Γ) (sc : d.isSc = true) (r : Rep M S v d) : Holds S H (m.fam v d :: Γ) := h.pure (m.stb v d) fun F n => m.sc sc r n
theorem Holds.rd (h : Holds S H (m.fam v d :: Γ)) : Rep M H v d := by
  obtain ⟨F, p⟩ := h.mem (List.mem_cons_self ..)
  exact m.rd p h.ex
theorem Holds.rdM {P : Pc} (h : Holds S H Γ) (hm : m.fam v d ∈ Γ) : Rep M H v d := by
  obtain ⟨F, p⟩ := h.mem hm
  exact m.rd p h.ex
end
end DM
set_option maxRecDepth 100000
/-! Data mirror, part 3: slots, what an expression, a test, an argument list is worth. -/
namespace DM
open PySem PySem.Spec L2

abbrev DEnv := List (Option D)
inductive R (α : Type) where
  | ok (a : α) (δ : DEnv)
  | exc (c : Str) (δ : DEnv)
  | stuck
def R.bind {α β : Type} (r : R α) (f : α → DEnv → R β) : R β := match r with
  | .ok a δ => f a δ
  | .exc c δ => .exc c δ
  | .stuck => .stuck
@[simp] theorem R.bind_ok {α β : Type} (a : α) (δ : DEnv) (f : α → DEnv → R β) : (R.ok a δ).bind f = f a δ := rfl
@[simp] theorem R.bind_exc {α β : Type} (c : Str) (δ : DEnv) (f : α → DEnv → R β) : (R.exc c δ).bind f = .exc c δ := rfl
@[simp] theorem R.bind_stuck {α β : Type} (f : α → DEnv → R β) : (R.stuck).bind f = .stuck := rfl
def R.of {α : Type} (o : Option α) (δ : DEnv) : R α := match o with
  | some a => .ok a δ
  | none => .stuck
@[simp] theorem R.of_some {α : Type} (a : α) (δ : DEnv) : R.of (some a) δ = .ok a δ := rfl
@[simp] theorem R.of_none {α : Type} (δ : DEnv) : R.of (none : Option α) δ = .stuck := rfl

/-- the module's facts as a body sees them -/
abbrev mdl (X : Cx) : Mdl := ⟨X.K, X.mg⟩

/-- slots: how each is held, its value, its data, the pieces -/
inductive Sl {M : Mdl} : List (Mode M) → St → DEnv → List Pc → Prop
  | nil : Sl [] [] [] []
  | no {ms : List (Mode M)} {σ : St} {δ : DEnv} {Γ : List Pc} {m : Mode M} {v : Option V} : Sl ms σ δ Γ → Sl (m :: ms) (v :: σ) (none :: δ) Γ
  | yes {ms : List (Mode M)} {σ : St} {δ : DEnv} {Γ : List Pc} {m : Mode M} {v : V} {d : D} : Sl ms σ δ Γ → Sl (m :: ms) (some v :: σ) (some d :: δ) (m.fam v d :: Γ)
section
variable {M : Mdl} {ms : List (Mode M)} {σ : St} {δ : DEnv} {Γ : List Pc}
theorem Sl.len (h : Sl ms σ δ Γ) : σ.length = ms.length ∧ δ.length = ms.length := by
  induction h with
  | nil => exact ⟨rfl, rfl⟩
  | no _ ih => simp [ih.1, ih.2]
  | yes _ ih => simp [ih.1, ih.2]
theorem Sl.mem (h : Sl ms σ δ Γ) : ∀ {i : Nat} {d : D}, δ[i]? = some (some d) → ∃ v m, σ[i]? = some (some v) ∧ ms[i]? = some m ∧ m.fam v d ∈ Γ := by
  induction h with
  | nil => intro i d e; simp at e
  | no _ ih =>
    intro i d e
    cases i with
    | zero => simp at e
    | succ i =>
      obtain ⟨v, m, a, b, c⟩ := ih (i := i) (by simpa using e)
      exact ⟨v, m, by simpa using a, by simpa using b, c⟩
  | yes _ ih =>
    intro i d e
    cases i with
    | zero => simp at e; subst e; exact ⟨_, _, rfl, rfl, List.mem_cons_self ..⟩
    | succ i =>
      obtain ⟨v, m, a, b, c⟩ := ih (i := i) (by simpa using e)
      exact ⟨v, m, by simpa using a, by simpa using b, List.mem_cons_of_mem _ c⟩
/-- a slot's piece taken out -/
theorem Sl.take (h : Sl ms σ δ Γ) : ∀ {i : Nat} {d : D}, δ[i]? = some (some d) → ∃ v m Γ', σ[i]? = some (some v) ∧ ms[i]? = some m ∧ Γ.Perm (m.fam v d :: Γ') ∧ Sl ms σ (δ.set i none) Γ' := by
  induction h with
  | nil => intro i d e; simp at e
  | no _ ih =>
    intro i d e
    cases i with
    | zero => simp at e
    | succ i =>
      obtain ⟨v, m, Γ', a, b, c, k⟩ := ih (i := i) (by simpa using e)
      exact ⟨v, m, Γ', by simpa using a, by simpa using b, c, .no k⟩
  | @yes ms σ δ Γ m0 v0 d0 t ih =>
    intro i d e
    cases i with
    | zero => simp at e; subst e; exact ⟨_, _, _, rfl, rfl, List.Perm.refl _, .no t⟩
    | succ i =>
      obtain ⟨v, m, Γ', a, b, c, k⟩ := ih (i := i) (by simpa using e)
      exact ⟨v, m, m0.fam v0 d0 :: Γ', by simpa using a, by simpa using b, (c.cons _).trans (.swap ..), .yes k⟩
/-- a piece put into an empty slot, the value stored there -/
theorem Sl.putV (h : Sl ms σ δ Γ) : ∀ {i : Nat} {m : Mode M} (v : V) (d : D), ms[i]? = some m → δ[i]? = some none → ∃ Γ', Γ'.Perm (m.fam v d :: Γ) ∧ Sl ms (σ.set i (some v)) (δ.set i (some d)) Γ' := by
  induction h with
  | nil => intro i m v d e; simp at e
  | no t ih =>
    intro i m v d e1 e2
    cases i with
    | zero => simp at e1; subst e1; exact ⟨_, List.Perm.refl _, .yes t⟩
    | succ i =>
      obtain ⟨Γ', a, b⟩ := ih (i := i) v d (by simpa using e1) (by simpa using e2)
      exact ⟨Γ', a, .no b⟩
  | @yes ms σ δ Γ m0 v0 d0 t ih =>
    intro i m v d e1 e2
    cases i with
    | zero => simp at e2
    | succ i =>
      obtain ⟨Γ', a, b⟩ := ih (i := i) v d (by simpa using e1) (by simpa using e2)
      exact ⟨_, (a.cons _).trans (.swap ..), .yes b⟩
/-- the value is there already -/
theorem Sl.put (h : Sl ms σ δ Γ) {i : Nat} {m : Mode M} {v : V} (d : D) (e1 : ms[i]? = some m) (e2 : δ[i]? = some none) (e3 : σ[i]? = some (some v)) : ∃ Γ', Γ'.Perm (m.fam v d :: Γ) ∧ Sl ms σ (δ.set i (some d)) Γ' := by
  obtain ⟨Γ', a, b⟩ := h.putV v d e1 e2
  have e : σ.set i (some v) = σ := by
    obtain ⟨h1, h2⟩ := List.getElem?_eq_some_iff.mp e3
    rw [← h2]
    exact List.set_getElem_self h1
  rw [e] at b
  exact ⟨Γ', a, b⟩
/-- a slot forgotten, whatever its value -/
theorem Sl.clear (h : Sl ms σ δ Γ) : ∀ (i : Nat) (w : Option V), ∃ Γ' Δ, Γ.Perm (Δ ++ Γ') ∧ Sl ms (σ.set i w) (δ.set i none) Γ' := by
  induction h with
  | nil => intro i w; exact ⟨[], [], List.Perm.refl _, by simpa using Sl.nil⟩
  | no t ih =>
    intro i w
    cases i with
    | zero => exact ⟨_, [], List.Perm.refl _, .no t⟩
    | succ i =>
      obtain ⟨Γ', Δ, a, b⟩ := ih i w
      exact ⟨Γ', Δ, a, .no b⟩
  | @yes ms σ δ Γ m0 v0 d0 t ih =>
    intro i w
    cases i with
    | zero => exact ⟨_, [m0.fam v0 d0], List.Perm.refl _, .no t⟩
    | succ i =>
      obtain ⟨Γ', Δ, a, b⟩ := ih i w
      refine ⟨m0.fam v0 d0 :: Γ', Δ, ((a.cons _).trans ?_), .yes b⟩
      exact (List.perm_middle).symm
end

section
variable {S H : Hp} {Γ Δ : List Pc}
theorem Holds.dropL (h : Holds S H (Δ ++ Γ)) : Holds S H Γ := by
  induction Δ with
  | nil => exact h
  | cons P Δ ih => exact ih h.drop
theorem Holds.dropR (h : Holds S H (Δ ++ Γ)) : Holds S H Δ := (h.perm List.perm_append_comm).dropL
end

/-- the slots and what stands beside them -/
def StO {M : Mdl} (ms : List (Mode M)) (σ : St) (δ : DEnv) (H : Hp) (τ : List Pc) : Prop := ∃ S Γ, Sl ms σ δ Γ ∧ Holds S H (τ ++ Γ)
section
variable {M : Mdl} {ms : List (Mode M)} {σ : St} {δ : DEnv} {H : Hp} {τ τ' : List Pc} {P Q : Pc}
theorem StO.perm (h : StO ms σ δ H τ) (e : τ.Perm τ') : StO ms σ δ H τ' := let ⟨S, Γ, a, b⟩ := h; ⟨S, Γ, a, b.perm (e.append_right _)⟩
theorem StO.drop (h : StO ms σ δ H (P :: τ)) : StO ms σ δ H τ := let ⟨S, Γ, a, b⟩ := h; ⟨S, Γ, a, b.drop⟩
theorem StO.dropL {τ₀ : List Pc} (h : StO ms σ δ H (τ₀ ++ τ)) : StO ms σ δ H τ := let ⟨S, Γ, a, b⟩ := h; ⟨S, Γ, a, by rw [List.append_assoc] at b; exact b.dropL⟩
theorem StO.swap (h : StO ms σ δ H (P :: Q :: τ)) : StO ms σ δ H (Q :: P :: τ) := h.perm (.swap ..)
theorem StO.share {m : Mode M} {v : V} {d : D} (h : StO ms σ δ H (m.fam v d :: τ)) : StO ms σ δ H ((fz (M := M)).fam v d :: τ) := let ⟨S, Γ, a, b⟩ := h; let ⟨S', _, c⟩ := Holds.shareM (m := m) b; ⟨S', Γ, a, c⟩
theorem StO.rd {m : Mode M} {v : V} {d : D} (h : StO ms σ δ H (m.fam v d :: τ)) : Rep M H v d := let ⟨_, _, _, b⟩ := h; b.rd
/-- shared data once more -/
theorem StO.dup {v : V} {d : D} (h : StO ms σ δ H ((fz (M := M)).fam v d :: τ)) : StO ms σ δ H ((fz (M := M)).fam v d :: (fz (M := M)).fam v d :: τ) := by
  obtain ⟨S, Γ, a, b⟩ := h
  obtain ⟨F, p⟩ := b.mem (List.mem_cons_self ..)
  exact ⟨S, Γ, a, b.addFz p.1⟩
/-- scalars are held anyhow -/
theorem StO.fzOf {v : V} {d : D} (h : StO ms σ δ H τ) (r : ∀ S, Rep M S v d) : StO ms σ δ H ((fz (M := M)).fam v d :: τ) := let ⟨S, Γ, a, b⟩ := h; ⟨S, Γ, a, b.addFz (r S)⟩
end

/-! ### what an expression is worth -/
/-- an operand: a value's data; a slot; a place within a slot and what the slot is with other data there -/
inductive Opd where
  | v (d : D)
  | s (i : Nat)
  | p (i : Nat) (d : D) (g : D → D)
def Opd.get (o : Opd) (δ : DEnv) : Option D := match o with
  | .v d => some d
  | .s i => (δ[i]?).join
  | .p _ d _ => some d
/-- behind its reading -/
def Opd.fin (o : Opd) (δ : DEnv) : Option DEnv := match o with
  | .p i d g => match δ[i]? with
    | some none => some (δ.set i (some (g d)))
    | _ => none
  | _ => some δ
/-- how an operand is held -/
inductive Kd (M : Mdl) where
  | v (m : Mode M)
  | s (i : Nat)
  | p (i : Nat) (m : Mode M)

/-- whatever A is worth at these places, B is worth with it -/
def Wnd (A B : D → Pc) : Pc := fun S H F => ∀ S' H' G U d, Ex S S' → (∀ a, F a → H' a = H a) → A d S' H' G → (∀ a, G a → ¬ F a) → (∀ a, U a ↔ G a ∨ F a) → B d S' H' U
theorem Wnd.stb (A B : D → Pc) : Stb (Wnd A B) := fun S S1 H H1 F p e k S' H' G U d e' k' a n u => p S' H' G U d (e.trans e') (fun x q => (k' x q).trans (k x q)) a n u
theorem Holds.wnd {S H : Hp} {A B : D → Pc} {d : D} {Γ : List Pc} (h : Holds S H (A d :: Wnd A B :: Γ)) (s : Stb (B d)) : Holds S H (B d :: Γ) := by
  obtain ⟨U, a, b, c⟩ := h.own
  cases a with
  | cons s1 p t n u =>
    cases t with
    | cons s2 w t' n' u' =>
      rename_i F1 G1 F2 G2
      refine ⟨h.ex, U, .cons s (w S H F1 (fun a => F1 a ∨ F2 a) d (Ex.refl _) (fun _ _ => rfl) p (fun a x y => n a x ((u' a).mpr (.inl y))) fun _ => Iff.rfl) t' (fun a x y => ?_) (fun a => ?_), b, c⟩
      · rcases x with x | x
        · exact n a x ((u' a).mpr (.inr y))
        · exact n' a x y
      · rw [u a, u' a, or_assoc]

section
variable {X : Cx}
/-- the pieces of an operand that was come to -/
inductive OpP (M : Mdl) (ms : List (Mode M)) (σ : St) : Kd M → V → Opd → List Pc → Prop
  | v {m : Mode M} {v : V} {d : D} : OpP M ms σ (.v m) v (.v d) [m.fam v d]
  | s {i : Nat} {v : V} : σ[i]? = some (some v) → OpP M ms σ (.s i) v (.s i) []
  | p {i : Nat} {m m0 : Mode M} {v v0 : V} {d : D} {g : D → D} : σ[i]? = some (some v0) → ms[i]? = some m0 → OpP M ms σ (.p i m) v (.p i d g) [m.fam v d, Wnd (m.fam v) fun d => m0.fam v0 (g d)]

/-- what is wished of an exception: the slots as they are -/
def Wx (W : WX) (ms : List (Mode (mdl X))) (τ : List Pc) (σ : St) (c : Str) (δ : DEnv) : Prop := ∀ H' C, StO ms σ δ H' τ → X.mg c = some (.ref C) → W (.ref C) none σ H'
def PostO (W : WX) (ms : List (Mode (mdl X))) (k : Kd (mdl X)) (σ : St) (τ : List Pc) (Q : VK) : R Opd → Prop
  | .ok o δ' => ∀ v H' Γa, OpP (mdl X) ms σ k v o Γa → StO ms σ δ' H' (Γa ++ τ) → Q v H'
  | .exc c δ' => Wx (X := X) W ms τ σ c δ'
  | .stuck => False
/-- an operand -/
structure DO (X : Cx) (W : WX) (ms : List (Mode (mdl X))) (e : Expr) (k : Kd (mdl X)) (m : DEnv → R Opd) : Prop where
  run : ∃ t, PE X e t ∧ ∀ σ δ H τ (Q : VK), StO ms σ δ H τ → PostO W ms k σ τ Q (m δ) → t σ H Q
def PostE (W : WX) (ms : List (Mode (mdl X))) (md : Mode (mdl X)) (σ : St) (τ : List Pc) (Q : VK) : R D → Prop
  | .ok d δ' => ∀ v H', StO ms σ δ' H' (md.fam v d :: τ) → Q v H'
  | .exc c δ' => Wx (X := X) W ms τ σ c δ'
  | .stuck => False
/-- an expression -/
structure DE (X : Cx) (W : WX) (ms : List (Mode (mdl X))) (e : Expr) (md : Mode (mdl X)) (m : DEnv → R D) : Prop where
  run : ∃ t, PE X e t ∧ ∀ σ δ H τ (Q : VK), StO ms σ δ H τ → PostE W ms md σ τ Q (m δ) → t σ H Q
def PostT (W : WX) (ms : List (Mode (mdl X))) (σ : St) (τ : List Pc) (Q : Bool → Hp → Prop) : R Bool → Prop
  | .ok b δ' => ∀ H', StO ms σ δ' H' τ → Q b H'
  | .exc c δ' => Wx (X := X) W ms τ σ c δ'
  | .stuck => False
/-- a test -/
structure DT (X : Cx) (W : WX) (ms : List (Mode (mdl X))) (e : Expr) (m : DEnv → R Bool) : Prop where
  run : ∃ t, PT X e t ∧ ∀ σ δ H τ (Q : Bool → Hp → Prop), StO ms σ δ H τ → PostT W ms σ τ Q (m δ) → t σ H Q
/-- an argument list's pieces -/
inductive OpPs (M : Mdl) (ms : List (Mode M)) (σ : St) : List (Kd M) → List V → List Opd → List Pc → Prop
  | nil : OpPs M ms σ [] [] [] []
  | cons {k : Kd M} {v : V} {o : Opd} {Γ Δ : List Pc} {ks : List (Kd M)} {vs : List V} {os : List Opd} : OpP M ms σ k v o Γ → OpPs M ms σ ks vs os Δ → OpPs M ms σ (k :: ks) (v :: vs) (o :: os) (Γ ++ Δ)
def PostA (W : WX) (ms : List (Mode (mdl X))) (ks : List (Kd (mdl X))) (σ : St) (τ : List Pc) (Q : List V → Hp → Prop) : R (List Opd) → Prop
  | .ok os δ' => ∀ vs H' Γa, OpPs (mdl X) ms σ ks vs os Γa → StO ms σ δ' H' (Γa ++ τ) → Q vs H'
  | .exc c δ' => Wx (X := X) W ms τ σ c δ'
  | .stuck => False
def RelA (W : WX) (ms : List (Mode (mdl X))) (ks : List (Kd (mdl X))) (t : TA) (m : DEnv → R (List Opd)) : Prop := ∀ σ δ H τ (Q : List V → Hp → Prop), StO ms σ δ H τ → PostA W ms ks σ τ Q (m δ) → t σ H Q
def RelO (W : WX) (ms : List (Mode (mdl X))) (k : Kd (mdl X)) (t : TE) (m : DEnv → R Opd) : Prop := ∀ σ δ H τ (Q : VK), StO ms σ δ H τ → PostO W ms k σ τ Q (m δ) → t σ H Q
/-- an argument list -/
structure DA (X : Cx) (W : WX) (ms : List (Mode (mdl X))) (es : List Expr) (ks : List (Kd (mdl X))) (m : DEnv → R (List Opd)) : Prop where
  run : ∃ t, PA X es t ∧ RelA W ms ks t m
end

section
variable {X : Cx} {W : WX} {ms : List (Mode (mdl X))} {e : Expr} {md : Mode (mdl X)}
/-- pieces more beside an exception: they are dropped -/
theorem Wx.drop {τ Δ : List Pc} {σ : St} {c : Str} {δ : DEnv} (h : Wx (X := X) W ms τ σ c δ) : Wx (X := X) W ms (Δ ++ τ) σ c δ := fun H' C st g => h H' C st.dropL g
/-- the end of one step from the end of another -/
def oV (m : DEnv → R D) : DEnv → R Opd := fun δ => (m δ).bind fun d δ' => .ok (.v d) δ'
theorem DE.op {m : DEnv → R D} (h : DE X W ms e md m) : DO X W ms e (.v md) (oV m) := by
  obtain ⟨t, pe, k⟩ := h.run
  refine ⟨t, pe, fun σ δ H τ Q st q => k σ δ H τ Q st ?_⟩
  unfold oV at q
  cases z : m δ with
  | ok d δ' =>
    rw [z] at q
    exact fun v H' st' => q v H' _ .v st'
  | exc c δ' => rw [z] at q; exact q
  | stuck => rw [z] at q; exact q
theorem DE.share {m : DEnv → R D} (h : DE X W ms e md m) : DE X W ms e fz m := by
  obtain ⟨t, pe, k⟩ := h.run
  refine ⟨t, pe, fun σ δ H τ Q st q => k σ δ H τ Q st ?_⟩
  cases z : m δ with
  | ok d δ' =>
    rw [z] at q
    exact fun v H' st' => q v H' st'.share
  | exc c δ' => rw [z] at q; exact q
  | stuck => rw [z] at q; exact q

/-! ### names and constants -/
def mC (d : D) : DEnv → R D := fun δ => .ok d δ
theorem de_c {v : V} {d : D} (p : PE X e (tC v)) (r : ∀ S, Rep (mdl X) S v d) : DE X W ms e fz (mC d) := ⟨_, p, fun σ δ H τ Q st q => q v H (st.fzOf r)⟩
/-- a shared slot's value -/
def mVar (i : Nat) : DEnv → R D := fun δ => .of (δ[i]?).join δ
theorem de_var {i : Nat} (p : PE X e (tVar i)) (hm : ms[i]? = some fz) : DE X W ms e fz (mVar i) := by
  refine ⟨_, p, fun σ δ H τ Q st q => ?_⟩
  unfold mVar at q
  cases z : δ[i]? with
  | none => rw [z] at q; exact False.elim q
  | some o =>
    cases o with
    | none => rw [z] at q; exact False.elim q
    | some d =>
      rw [z] at q
      obtain ⟨S, Γ, sl, ho⟩ := st
      obtain ⟨v, m, e1, e2, e3⟩ := sl.mem z
      rw [hm] at e2; cases e2
      obtain ⟨F, r, _⟩ := ho.mem (List.mem_append_right τ e3)
      exact ⟨v, e1, q v H ⟨S, Γ, sl, ho.addFz r⟩⟩
/-- a slot's value, taken out of the slot -/
def mMove (i : Nat) : DEnv → R D := fun δ => match (δ[i]?).join with
  | some d => .ok d (δ.set i none)
  | none => .stuck
theorem de_move {i : Nat} (p : PE X e (tVar i)) (hm : ms[i]? = some md) : DE X W ms e md (mMove i) := by
  refine ⟨_, p, fun σ δ H τ Q st q => ?_⟩
  unfold mMove at q
  cases z : δ[i]? with
  | none => rw [z] at q; exact False.elim q
  | some o =>
    cases o with
    | none => rw [z] at q; exact False.elim q
    | some d =>
      rw [z] at q
      obtain ⟨S, Γ, sl, ho⟩ := st
      obtain ⟨v, m, Γ', e1, e2, e3, sl'⟩ := sl.take z
      rw [hm] at e2; cases e2
      exact ⟨v, e1, q v H ⟨S, Γ', sl', (ho.perm ((e3.append_left τ).trans List.perm_middle))⟩⟩
/-- a slot as it stands -/
def oS (i : Nat) : DEnv → R Opd := fun δ => match (δ[i]?).join with
  | some _ => .ok (.s i) δ
  | none => .stuck
theorem do_s {i : Nat} (p : PE X e (tVar i)) : DO X W ms e (.s i) (oS i) := by
  refine ⟨_, p, fun σ δ H τ Q st q => ?_⟩
  unfold oS at q
  cases z : δ[i]? with
  | none => rw [z] at q; exact False.elim q
  | some o =>
    cases o with
    | none => rw [z] at q; exact False.elim q
    | some d =>
      rw [z] at q
      obtain ⟨S, Γ, sl, ho⟩ := id st
      obtain ⟨v, m, e1, e2, e3⟩ := sl.mem z
      exact ⟨v, e1, q v H _ (.s e1) st⟩

/-! ### argument lists -/
def mNil : DEnv → R (List Opd) := fun δ => .ok [] δ
def mCons (a : DEnv → R Opd) (r : DEnv → R (List Opd)) : DEnv → R (List Opd) := fun δ => (a δ).bind fun o δ1 => (r δ1).bind fun os δ2 => .ok (o :: os) δ2
theorem relA_nil : RelA (X := X) W ms [] tNil mNil := fun σ δ H τ Q st q => q [] H [] .nil st
theorem relA_cons {k : Kd (mdl X)} {ks : List (Kd (mdl X))} {a : DEnv → R Opd} {r : DEnv → R (List Opd)} {t : TE} {u : TA} (h : RelO W ms k t a) (hr : RelA W ms ks u r) : RelA W ms (k :: ks) (tCons t u) (mCons a r) := by
  intro σ δ H τ Q st q
  refine h σ δ H τ _ st ?_
  unfold mCons at q
  cases z : a δ with
  | exc c δ' => rw [z] at q; exact q
  | stuck => rw [z] at q; exact q
  | ok o δ1 =>
    rw [z] at q
    intro v H1 Γa op st1
    refine hr σ δ1 H1 _ _ st1 ?_
    cases z2 : r δ1 with
    | exc c δ' => rw [R.bind_ok, z2] at q; exact Wx.drop q
    | stuck => rw [R.bind_ok, z2] at q; exact q
    | ok os δ2 =>
      rw [R.bind_ok, z2] at q
      intro vs H2 Γb ops st2
      refine q (v :: vs) H2 (Γa ++ Γb) (.cons op ops) (st2.perm ?_)
      rw [← List.append_assoc]
      exact List.perm_append_comm.append_right _
theorem da_nil : DA X W ms [] [] mNil := ⟨_, pa_nil, relA_nil⟩
theorem da_cons {es : List Expr} {k : Kd (mdl X)} {ks : List (Kd (mdl X))} {a : DEnv → R Opd} {r : DEnv → R (List Opd)} (h : DO X W ms e k a) (hr : DA X W ms es ks r) (hs : starEach (e :: es) X.env = (false, eval e X.env) :: starEach es X.env := by rfl) : DA X W ms (e :: es) (k :: ks) (mCons a r) := by
  obtain ⟨t, pe, h⟩ := h.run
  obtain ⟨u, pa, hr⟩ := hr.run
  exact ⟨_, pa_cons pe pa hs, relA_cons h hr⟩
end

/-! ### reading operations: the operands stay, a value comes -/
/-- an operand's data as they are when it is read -/
def gets (os : List Opd) (δ : DEnv) : Option (List D) := match os with
  | [] => some []
  | o :: r => match o.get δ, gets r δ with
    | some d, some ds => some (d :: ds)
    | _, _ => none
def fins (os : List Opd) (δ : DEnv) : Option DEnv := match os with
  | [] => some δ
  | o :: r => match o.fin δ with
    | some δ' => fins r δ'
    | none => none
section
variable {M : Mdl} {ms : List (Mode M)} {σ : St}
def Kd.mode (ms : List (Mode M)) : Kd M → Mode M
  | .v m => m
  | .s i => ms.getD i fz
  | .p _ m => m
/-- seen: held somehow -/
def Seen (S H : Hp) (m : Mode M) (v : V) (d : D) : Prop := ∃ F, m.fam v d S H F
theorem OpP.seen {S H : Hp} {k : Kd M} {v : V} {o : Opd} {Γa Γ τ : List Pc} {δ : DEnv} {d : D} (h : OpP M ms σ k v o Γa) (sl : Sl ms σ δ Γ) (ho : Holds S H (Γa ++ τ ++ Γ)) (e : o.get δ = some d) : Seen S H (k.mode ms) v d := by
  cases h with
  | v => cases e; exact ho.mem (List.mem_cons_self ..)
  | @s i v es =>
    have e' : (δ[i]?).join = some d := e
    obtain ⟨o, e1, e2⟩ : ∃ o, δ[i]? = some o ∧ o = some d := by
      cases z : δ[i]? with
      | none => rw [z] at e'; cases e'
      | some o => rw [z] at e'; exact ⟨o, rfl, e'⟩
    subst e2
    obtain ⟨v', m, a, b, c⟩ := sl.mem e1
    rw [es] at a; cases a
    have hm : (Kd.s i : Kd M).mode ms = m := by
      show ms.getD i fz = m
      rw [List.getD_eq_getElem?_getD, b]; rfl
    rw [hm]
    exact ho.mem (List.mem_append_right _ c)
  | p _ _ => cases e; exact ho.mem (List.mem_cons_self ..)
/-- behind the reading: an operand's own piece is dropped, a place is given back -/
theorem OpP.fin {H : Hp} {k : Kd M} {v : V} {o : Opd} {Γa τ : List Pc} {δ δ' : DEnv} (h : OpP M ms σ k v o Γa) (st : StO ms σ δ H (Γa ++ τ)) (e : o.fin δ = some δ') : StO ms σ δ' H τ := by
  cases h with
  | v => cases e; exact st.drop
  | s _ => cases e; exact st
  | @p i m m0 v v0 d g e1 e2 =>
    obtain ⟨S, Γ, sl, ho⟩ := st
    unfold Opd.fin at e
    dsimp only at e
    split at e
    · rename_i z
      cases e
      have ho' : Holds S H (m0.fam v0 (g d) :: (τ ++ Γ)) := Holds.wnd (A := m.fam v) (B := fun d => m0.fam v0 (g d)) ho (m0.stb _ _)
      obtain ⟨Γ', p, sl'⟩ := sl.put (g d) e2 z e1
      refine ⟨S, Γ', sl', ho'.perm ?_⟩
      exact (List.perm_middle.symm).trans (p.symm.append_left τ)
    · cases e
theorem OpPs.fins {H : Hp} : ∀ {ks : List (Kd M)} {vs : List V} {os : List Opd} {Γa τ : List Pc} {δ δ' : DEnv}, OpPs M ms σ ks vs os Γa → StO ms σ δ H (Γa ++ τ) → DM.fins os δ = some δ' → StO ms σ δ' H τ
  | _, _, _, _, _, _, _, .nil, st, e => by cases e; exact st
  | _, _, _, _, τ, δ, δ', .cons (Γ := Γ) (Δ := Δ) (o := o) h t, st, e => by
    unfold DM.fins at e
    split at e
    · rename_i δ1 z
      rw [List.append_assoc] at st
      exact t.fins (h.fin st z) e
    · cases e
inductive Seens (S H : Hp) : List (Mode M) → List V → List D → Prop
  | nil : Seens S H [] [] []
  | cons {m : Mode M} {v : V} {d : D} {qs : List (Mode M)} {vs : List V} {ds : List D} : Seen S H m v d → Seens S H qs vs ds → Seens S H (m :: qs) (v :: vs) (d :: ds)
theorem OpPs.seen {S H : Hp} : ∀ {ks : List (Kd M)} {vs : List V} {os : List Opd} {Γa Γ τ : List Pc} {δ : DEnv} {ds : List D}, OpPs M ms σ ks vs os Γa → Sl ms σ δ Γ → Holds S H (Γa ++ τ ++ Γ) → gets os δ = some ds → Seens S H (ks.map (Kd.mode ms)) vs ds
  | _, _, _, _, _, _, _, _, .nil, _, _, e => by cases e; exact .nil
  | _, _, _, _, Γ, τ, δ, ds, .cons (Γ := Γ1) (Δ := Δ) (o := o) h t, sl, ho, e => by
    unfold gets at e
    split at e
    · rename_i d ds' z1 z2
      cases e
      rw [List.append_assoc] at ho
      refine .cons (h.seen (τ := Δ ++ τ) sl (by simpa using ho) z1) (t.seen (τ := τ) sl ?_ z2)
      have ho2 : Holds S H (Γ1 ++ (Δ ++ τ ++ Γ)) := by simpa using ho
      exact ho2.dropL
    · cases e
end
end DM
set_option maxRecDepth 100000
/-! Data mirror, part 4: reading operations, by their operands. -/
namespace DM
open PySem PySem.Spec L2
section
variable {X : Cx} {W : WX} {ms : List (Mode (mdl X))}

/-- an operation on values that reads its operands -/
def OpN (M : Mdl) (r : List V → Hp → VK → Prop) (qs : List (Mode M)) (md : Mode M) (f : List D → Option D) : Prop :=
  ∀ (S H : Hp) (Γ : List Pc) (vs : List V) (ds : List D) (d : D) (Q : VK), Holds S H Γ → Seens S H qs vs ds → f ds = some d → (∀ v S' H', Holds S' H' (md.fam v d :: Γ) → Q v H') → r vs H Q
def mOpN (a : DEnv → R (List Opd)) (f : List D → Option D) : DEnv → R D := fun δ => (a δ).bind fun os δ1 => match gets os δ1, fins os δ1 with
  | some ds, some δ2 => .of (f ds) δ2
  | _, _ => .stuck
theorem relN {ks : List (Kd (mdl X))} {t : TA} {a : DEnv → R (List Opd)} {r : List V → Hp → VK → Prop} {md : Mode (mdl X)} {f : List D → Option D} (h : RelA W ms ks t a) (op : OpN (mdl X) r (ks.map (Kd.mode ms)) md f) :
    ∀ σ δ H τ (Q : VK), StO ms σ δ H τ → PostE W ms md σ τ Q (mOpN a f δ) → t σ H fun vs H1 => r vs H1 Q := by
  intro σ δ H τ Q st q
  refine h σ δ H τ _ st ?_
  unfold mOpN at q
  cases z : a δ with
  | exc c δ' => rw [z] at q; exact q
  | stuck => rw [z] at q; exact q
  | ok os δ1 =>
    rw [z, R.bind_ok] at q
    intro vs H1 Γa ops st1
    split at q
    · rename_i ds δ2 z1 z2
      obtain ⟨S, Γ, sl, ho⟩ := id st1
      have sn := ops.seen sl ho z1
      cases zf : f ds with
      | none => rw [zf] at q; exact q.elim
      | some d =>
        rw [zf] at q
        refine op S H1 _ vs ds d Q ho sn zf fun v S' H' ho' => q v H' ?_
        have st2 : StO ms σ δ1 H' (md.fam v d :: (Γa ++ τ)) := ⟨S', Γ, sl, ho'⟩
        have st3 : StO ms σ δ1 H' (Γa ++ (md.fam v d :: τ)) := st2.perm List.perm_middle.symm
        exact ops.fins st3 z2
    · exact q.elim

/-! ### one operand, two -/
def Op1 (M : Mdl) (r : V → Hp → VK → Prop) (m1 md : Mode M) (f : D → Option D) : Prop :=
  ∀ (S H : Hp) (Γ : List Pc) (x : V) (a d : D) (Q : VK), Holds S H Γ → Seen S H m1 x a → f a = some d → (∀ v S' H', Holds S' H' (md.fam v d :: Γ) → Q v H') → r x H Q
def Op2 (M : Mdl) (r : R2) (m1 m2 md : Mode M) (f : D → D → Option D) : Prop :=
  ∀ (S H : Hp) (Γ : List Pc) (x y : V) (a b d : D) (Q : VK), Holds S H Γ → Seen S H m1 x a → Seen S H m2 y b → f a b = some d → (∀ v S' H', Holds S' H' (md.fam v d :: Γ) → Q v H') → r x y H Q
def un1 (f : D → Option D) : List D → Option D
  | [a] => f a
  | _ => none
def un2 (f : D → D → Option D) : List D → Option D
  | [a, b] => f a b
  | _ => none
def of1 (r : V → Hp → VK → Prop) (vs : List V) (H : Hp) (Q : VK) : Prop := match vs with
  | [x] => r x H Q
  | _ => False
def of2 (r : R2) (vs : List V) (H : Hp) (Q : VK) : Prop := match vs with
  | [x, y] => r x y H Q
  | _ => False
theorem Op1.n {M : Mdl} {r : V → Hp → VK → Prop} {m1 md : Mode M} {f : D → Option D} (h : Op1 M r m1 md f) : OpN M (of1 r) [m1] md (un1 f) := by
  intro S H Γ vs ds d Q ho sn e k
  cases sn with
  | cons s1 t => cases t with | nil => exact h S H Γ _ _ d Q ho s1 e k
theorem Op2.n {M : Mdl} {r : R2} {m1 m2 md : Mode M} {f : D → D → Option D} (h : Op2 M r m1 m2 md f) : OpN M (of2 r) [m1, m2] md (un2 f) := by
  intro S H Γ vs ds d Q ho sn e k
  cases sn with
  | cons s1 t => cases t with | cons s2 t => cases t with | nil => exact h S H Γ _ _ _ _ d Q ho s1 s2 e k
/-- the general forms -/
def mOp2 (a b : DEnv → R Opd) (f : D → D → Option D) : DEnv → R D := mOpN (mCons a (mCons b mNil)) (un2 f)
def mOp1 (a : DEnv → R Opd) (f : D → Option D) : DEnv → R D := mOpN (mCons a mNil) (un1 f)
theorem relE2 {k1 k2 : Kd (mdl X)} {ta tb : TE} {a b : DEnv → R Opd} {r : R2} {md : Mode (mdl X)} {f : D → D → Option D} (ha : RelO W ms k1 ta a) (hb : RelO W ms k2 tb b) (op : Op2 (mdl X) r (k1.mode ms) (k2.mode ms) md f) :
    ∀ σ δ H τ (Q : VK), StO ms σ δ H τ → PostE W ms md σ τ Q (mOp2 a b f δ) → tOp r ta tb σ H Q := fun σ δ H τ Q st q =>
  relN (relA_cons ha (relA_cons hb relA_nil)) op.n σ δ H τ Q st q
theorem relE1 {k1 : Kd (mdl X)} {ta : TE} {a : DEnv → R Opd} {r : V → Hp → VK → Prop} {md : Mode (mdl X)} {f : D → Option D} (ha : RelO W ms k1 ta a) (op : Op1 (mdl X) r (k1.mode ms) md f) :
    ∀ σ δ H τ (Q : VK), StO ms σ δ H τ → PostE W ms md σ τ Q (mOp1 a f δ) → tUn r ta σ H Q := fun σ δ H τ Q st q =>
  relN (relA_cons ha relA_nil) op.n σ δ H τ Q st q

/-! ### values as operands: the plain forms -/
def mBin (a b : DEnv → R D) (f : D → D → Option D) : DEnv → R D := fun δ => (a δ).bind fun x δ1 => (b δ1).bind fun y δ2 => .of (f x y) δ2
def mUn (a : DEnv → R D) (f : D → Option D) : DEnv → R D := fun δ => (a δ).bind fun x δ1 => .of (f x) δ1
theorem mOp2_v (a b : DEnv → R D) (f : D → D → Option D) : mOp2 (oV a) (oV b) f = mBin a b f := by
  funext δ
  unfold mOp2 mBin mOpN mCons mNil oV
  cases a δ with
  | ok x δ1 =>
    simp only [R.bind_ok]
    cases b δ1 with
    | ok y δ2 => rfl
    | exc c δ2 => rfl
    | stuck => rfl
  | exc c δ1 => rfl
  | stuck => rfl
theorem mOp1_v (a : DEnv → R D) (f : D → Option D) : mOp1 (oV a) f = mUn a f := by
  funext δ
  unfold mOp1 mUn mOpN mCons mNil oV
  cases a δ with
  | ok x δ1 => rfl
  | exc c δ1 => rfl
  | stuck => rfl

/-! ### the expressions -/
variable {a b : Expr} {pos : Pos}
theorem DO.rel {e : Expr} {k : Kd (mdl X)} {m : DEnv → R Opd} (h : DO X W ms e k m) : ∃ t, PE X e t ∧ RelO W ms k t m := h.run
theorem de_op {op : Operator} {r : R2} {k1 k2 : Kd (mdl X)} {ma mb : DEnv → R Opd} {md : Mode (mdl X)} {f : D → D → Option D} (ho : OpR X (binaryOp op) r) (ha : DO X W ms a k1 ma) (hb : DO X W ms b k2 mb) (h : Op2 (mdl X) r (k1.mode ms) (k2.mode ms) md f) :
    DE X W ms (.BinOp a op b pos) md (mOp2 ma mb f) := by
  obtain ⟨ta, pa, ra⟩ := ha.rel
  obtain ⟨tb, pb, rb⟩ := hb.rel
  exact ⟨_, pe_op ho pa pb, relE2 ra rb h⟩
theorem de_un {op : UnaryOp} {r : V → Hp → VK → Prop} {k1 : Kd (mdl X)} {ma : DEnv → R Opd} {md : Mode (mdl X)} {f : D → Option D} (ho : UnR X (unaryOp op) r) (ha : DO X W ms a k1 ma) (h : Op1 (mdl X) r (k1.mode ms) md f) :
    DE X W ms (.UnaryOp op a pos) md (mOp1 ma f) := by
  obtain ⟨ta, pa, ra⟩ := ha.rel
  exact ⟨_, pe_un ho pa, relE1 ra h⟩
theorem de_cmp {op : CmpOp} {r : R2} {k1 k2 : Kd (mdl X)} {ma mb : DEnv → R Opd} {md : Mode (mdl X)} {f : D → D → Option D} (ho : OpR X (compareOp op) r) (ha : DO X W ms a k1 ma) (hb : DO X W ms b k2 mb) (h : Op2 (mdl X) r (k1.mode ms) (k2.mode ms) md f)
    (hm : behindInMarks op b = false := by first | exact nomark _ | rfl) : DE X W ms (.Compare a [op] [b] pos) md (mOp2 ma mb f) := by
  obtain ⟨ta, pa, ra⟩ := ha.rel
  obtain ⟨tb, pb, rb⟩ := hb.rel
  exact ⟨_, pe_cmpR ho pa pb hm, relE2 ra rb h⟩
/-- a[b] of lists, tuples, texts -/
theorem de_ix {r : R2} {k1 k2 : Kd (mdl X)} {ma mb : DEnv → R Opd} {md : Mode (mdl X)} {f : D → D → Option D} (ho : IxR X r) (ha : DO X W ms a k1 ma) (hb : DO X W ms b k2 mb) (h : Op2 (mdl X) r (k1.mode ms) (k2.mode ms) md f) (hs : PlainIx b := by exact fun _ _ => rfl) :
    DE X W ms (.Subscript a b pos) md (mOp2 ma mb f) := by
  obtain ⟨ta, pa, ra⟩ := ha.rel
  obtain ⟨tb, pb, rb⟩ := hb.rel
  exact ⟨_, pe_ix ho pa pb hs, relE2 ra rb h⟩
/-- f(..), f a built-in function -/
theorem de_callB {x : Str} {p : Pos} {e : Expr} {es : List Expr} {id : String} {r : List V → Hp → VK → Prop} {ks : List (Kd (mdl X))} {m : DEnv → R (List Opd)} {md : Mode (mdl X)} {f : List D → Option D} (hc : CallR X (.builtin id) r) (hg : Gl X x) (hm : X.mg x = none) (hv : bootBuiltins x = some (.builtin id))
    (ha : DA X W ms (e :: es) ks m) (h : OpN (mdl X) r (ks.map (Kd.mode ms)) md f) (hn : x ≠ "__name__" := by decide) (hdb : (x == ("__debug__" : Str)) = false := by decide)
    (he : starEach (e :: es) X.env = (false, eval e X.env) :: starEach es X.env := by rfl) (hpl : (backTo pos (starEach es X.env)).any (·.1) = false := by rfl) : DE X W ms (.Call (.Name x p) (e :: es) [] pos) md (mOpN m f) := by
  obtain ⟨t, pa, ra⟩ := ha.run
  exact ⟨_, pe_callB hc hg hm hv pa hn hdb he hpl, relN ra h⟩
/-- T(..), T a built-in type -/
theorem de_callTy {x : Str} {p : Pos} {e : Expr} {es : List Expr} {T : String} {r : List V → Hp → VK → Prop} {ks : List (Kd (mdl X))} {m : DEnv → R (List Opd)} {md : Mode (mdl X)} {f : List D → Option D} (hc : CallR X (.type T) r) (hg : Gl X x) (hm : X.mg x = none) (hv : bootBuiltins x = some (.type T))
    (ha : DA X W ms (e :: es) ks m) (h : OpN (mdl X) r (ks.map (Kd.mode ms)) md f) (hn : x ≠ "__name__" := by decide) (hdb : (x == ("__debug__" : Str)) = false := by decide)
    (he : starEach (e :: es) X.env = (false, eval e X.env) :: starEach es X.env := by rfl) (hpl : (backTo pos (starEach es X.env)).any (·.1) = false := by rfl) : DE X W ms (.Call (.Name x p) (e :: es) [] pos) md (mOpN m f) := by
  obtain ⟨t, pa, ra⟩ := ha.run
  exact ⟨_, pe_callTy hc hg hm hv pa hn hdb he hpl, relN ra h⟩
/-- (a, b, ..): shared items, a shared tuple -/
def mTup (m : DEnv → R (List Opd)) : DEnv → R D := mOpN m fun ds => if ds.length ≤ sizeLine then some (.tup ds) else none
def mLst (m : DEnv → R (List Opd)) : DEnv → R D := mOpN m fun ds => if ds.length ≤ sizeLine then some (.lst ds) else none
theorem Seens.repFz {M : Mdl} {S H : Hp} : ∀ {qs : List (Mode M)} {vs : List V} {ds : List D}, Seens S H qs vs ds → (∀ q ∈ qs, q = fz) → RepL M S vs ds
  | _, _, _, .nil, _ => .nil
  | _, _, _, .cons (m := m) ⟨F, s⟩ t, h => by
    have e := h m (List.mem_cons_self ..)
    subst e
    exact .cons s.1 (t.repFz fun q hq => h q (List.mem_cons_of_mem _ hq))
theorem Seens.length {M : Mdl} {S H : Hp} : ∀ {qs : List (Mode M)} {vs : List V} {ds : List D}, Seens S H qs vs ds → vs.length = ds.length
  | _, _, _, .nil => rfl
  | _, _, _, .cons _ t => by rw [List.length_cons, List.length_cons, t.length]
theorem de_tup {es : List Expr} {x1 : Nat} {ks : List (Kd (mdl X))} {m : DEnv → R (List Opd)} (h : DA X W ms es ks m) (hk : ∀ q ∈ ks.map (Kd.mode ms), q = fz) : DE X W ms (.Tuple es x1 pos) fz (mTup m) := by
  obtain ⟨t, pa, ra⟩ := h.run
  refine ⟨_, pe_tup pa, relN (r := fun xs H1 Q => xs.length ≤ sizeLine ∧ ∀ p, H1 p = none → Q (.ref p) (upd H1 p (.tup xs))) ra ?_⟩
  intro S H Γ vs ds d Q ho sn e k
  have rp := sn.repFz hk
  dsimp only at e
  split at e
  · rename_i hl
    cases e
    refine ⟨by rw [sn.length]; exact hl, fun p hp => k (.ref p) _ _ ((ho.newS hp).addFz (.tup (.inl (.inl upd_same)) (rp.mono (Ex.new (ho.ex.free hp)))))⟩
  · cases e
/-- [a, b, ..] -/
theorem de_lst {es : List Expr} {ks : List (Kd (mdl X))} {m : DEnv → R (List Opd)} (h : DA X W ms es ks m) (hk : ∀ q ∈ ks.map (Kd.mode ms), q = fz) : DE X W ms (.List es pos) (Lof fz) (mLst m) := by
  obtain ⟨t, pa, ra⟩ := h.run
  refine ⟨_, pe_lst pa, relN (r := fun xs H1 Q => xs.length ≤ sizeLine ∧ ∀ p, H1 p = none → Q (.ref p) (upd H1 p (.lst xs))) ra ?_⟩
  intro S H Γ vs ds d Q ho sn e k
  have rp := sn.repFz hk
  dsimp only at e
  split at e
  · rename_i hl
    cases e
    refine ⟨by rw [sn.length]; exact hl, fun p hp => k (.ref p) S _ (ho.newO hp ((Lof fz).stb _ _) fun F hF => .inr ⟨p, vs, ds, fun _ => False, rfl, rfl, upd_same, Els.ofRep rp fun _ q => q, fun q => q, fun a => ?_⟩)⟩
    rw [hF a]
    exact ⟨.inl, fun x => x.elim id False.elim⟩
  · cases e
/-- pieces of one mode, side by side -/
theorem Sep.els {M : Mdl} {m : Mode M} {S H : Hp} {ms : List (Mode M)} {σ : L2.St} {Γ : List Pc} {ks : List (Kd M)} {vs : List V} {os : List Opd} {Γa : List Pc} (h : OpPs M ms σ ks vs os Γa) : ∀ {U : Foot} {δ : DEnv} {ds : List D}, (∀ k ∈ ks, k = .v m) → gets os δ = some ds → Sep S H (Γa ++ Γ) U →
    ∃ F G, Els m.fam S H vs ds F ∧ Sep S H Γ G ∧ (∀ a, F a → ¬ G a) ∧ (∀ a, U a ↔ F a ∨ G a) ∧ fins os δ = some δ := by
  induction h with
  | nil =>
    intro U δ ds hk e h
    cases e
    exact ⟨fun _ => False, U, .nil fun _ q => q, h, fun _ q => q.elim, fun _ => ⟨.inr, fun x => x.elim False.elim id⟩, rfl⟩
  | @cons k v o Γ1 Δ ks vs os h1 t ih =>
    intro U δ ds hk e h
    have ek := hk k (List.mem_cons_self ..)
    subst ek
    cases h1 with
    | v =>
      cases h with
      | @cons _ _ F0 G0 _ sb p tt dj u =>
        unfold gets at e
        split at e
        · rename_i d' ds' z1 z2
          cases z1
          cases e
          obtain ⟨F, G, a1, a2, a3, a4, a5⟩ := ih (fun k hk' => hk k (List.mem_cons_of_mem _ hk')) z2 tt
          refine ⟨fun a => F0 a ∨ F a, G, .cons p a1 (fun a x y => dj a x ((a4 a).mpr (.inl y))) fun _ => Iff.rfl, a2, fun a x y => ?_, fun a => ?_, a5⟩
          · rcases x with x | x
            · exact dj a x ((a4 a).mpr (.inr y))
            · exact a3 a x y
          · rw [u a, a4 a, or_assoc]
        · cases e
/-- [a, b, ..] of items of one's own -/
theorem de_lstO {m0 : Mode (mdl X)} {es : List Expr} {ks : List (Kd (mdl X))} {m : DEnv → R (List Opd)} (h : DA X W ms es ks m) (hk : ∀ k ∈ ks, k = .v m0) : DE X W ms (.List es pos) (Lof m0) (mLst m) := by
  obtain ⟨t, pa, ra⟩ := h.run
  refine ⟨_, pe_lst pa, fun σ δ H τ Q st q => ra σ δ H τ (fun xs H1 => xs.length ≤ sizeLine ∧ ∀ p, H1 p = none → Q (.ref p) (upd H1 p (.lst xs))) st ?_⟩
  unfold mLst mOpN at q
  cases z : m δ with
  | exc c δ' => rw [z] at q; exact q
  | stuck => rw [z] at q; exact q
  | ok os δ1 =>
    rw [z, R.bind_ok] at q
    intro vs H1 Γa ops st1
    split at q
    · rename_i ds δ2 z1 z2
      obtain ⟨S, Γ, sl, ho⟩ := id st1
      obtain ⟨U, sp, b, c⟩ := ho.own
      rw [List.append_assoc] at sp
      obtain ⟨F, G, a1, a2, a3, a4, a5⟩ := Sep.els ops hk z1 sp
      rw [a5] at z2
      cases z2
      dsimp only at q
      split at q
      · rename_i hl
        refine ⟨by rw [a1.length]; exact hl, fun p hp => q (.ref p) _ ⟨S, Γ, sl, ?_⟩⟩
        have nU : ∀ x, U x → x ≠ p := fun x y z => c x y (z ▸ hp)
        have keep : ∀ x, U x → upd H1 p (.lst vs) x = H1 x := fun x y => upd_ne (nU x y)
        have hS : S p = none := ho.ex.free hp
        refine ⟨fun x o e => ?_, fun x => (x = p ∨ F x) ∨ G x, .cons ((Lof m0).stb _ _) (F := fun x => x = p ∨ F x) (.inr ⟨p, vs, ds, F, rfl, rfl, upd_same, a1.stay m0.stb (Ex.refl S) fun x y => keep x ((a4 x).mpr (.inl y)), fun y => nU p ((a4 p).mpr (.inl y)) rfl, fun _ => Iff.rfl⟩) (a2.stay (Ex.refl S) fun x y => keep x ((a4 x).mpr (.inr y))) (fun x y z => ?_) fun _ => Iff.rfl, fun x y => ?_, fun x y => ?_⟩
        · rw [upd_ne (fun y => by subst y; rw [hS] at e; cases e)]
          exact ho.ex x o e
        · rcases y with y | y
          · exact nU x ((a4 x).mpr (.inr z)) y
          · exact a3 x y z
        · rcases y with (y | y) | y
          · rw [y]; exact hS
          · exact b x ((a4 x).mpr (.inl y))
          · exact b x ((a4 x).mpr (.inr y))
        · rcases y with (y | y) | y
          · rw [y, upd_same]; simp
          · rw [keep x ((a4 x).mpr (.inl y))]; exact c x ((a4 x).mpr (.inl y))
          · rw [keep x ((a4 x).mpr (.inr y))]; exact c x ((a4 x).mpr (.inr y))
      · exact q.elim
    · exact q.elim
/-- what is no list is held as well as a list's items of one's own -/
def mNoL (m : DEnv → R D) : DEnv → R D := fun δ => (m δ).bind fun d δ' => if d.isLst = false then .ok d δ' else .stuck
theorem DE.noL {e : Expr} {m0 : Mode (mdl X)} {m : DEnv → R D} (h : DE X W ms e fz m) : DE X W ms e (Lof m0) (mNoL m) := by
  obtain ⟨t, pe, k⟩ := h.run
  refine ⟨t, pe, fun σ δ H τ Q st q => k σ δ H τ Q st ?_⟩
  unfold mNoL at q
  cases z : m δ with
  | ok d δ' =>
    rw [z, R.bind_ok] at q
    split at q
    · rename_i hd
      intro v H' st'
      refine q v H' ?_
      obtain ⟨S, Γ, sl, ho⟩ := st'
      exact ⟨S, Γ, sl, Holds.imp (P := fz.fam v d) ho ((Lof m0).stb _ _) fun F p => .inl ⟨hd, p.1, p.2⟩⟩
    · exact q.elim
  | exc c δ' => rw [z] at q; exact q
  | stuck => rw [z] at q; exact q
end
end DM
set_option maxRecDepth 100000
/-! Data mirror, part 5: operations on data. -/
namespace PySem.SeqAt
open AutoSeq1 (wpAny_loadPart')
open MeetsSeq MeetsSeq2 MeetsSeq3 SeqRoads2
theorem int_eq_declines_dict (b : Int) (u : Tok) (l : Addr) (c : Value) (es : Array DictEntry) (n : Nat) (dd : Option Addr) (sl : Array (Option Value)) :
    Meets (Builtin.«int.__eq__» ⟨[.int b u, .ref l], []⟩) (fun _ R s => s.heap.get? l = some { cls := c, dict := dd, data := .dict es n, slots := sl } ∧ R (.ok (.ret .notImplemented)) s) :=
  .of_wp fun prog w A R s h => by obtain ⟨hp, g, d, tk, os⟩ := s; obtain ⟨hl, h⟩ := h; wp_walk using wpAny_loadPart' hl, wpAny_load hl; exact ⟨_, rfl, h⟩
theorem dict_eq_declines_int {K : Type} [DecidableEq K] {prog : Program} {w : World} {knd : KeyKind prog w K} {A : Around} {E : Value → Shared → Prop} {s : Shared} {a : Addr} {ka : List (K × Value)} {Q : Value → Shared → Prop} (da : s.heap.DictOf knd a ka) (b : Int) (u : Tok) (h : Q .notImplemented s) :
    wpAny (model prog w) A (call (.builtin "dict.__eq__") [.ref a, .int b u]) Q E s := by
  refine wpAny_call_entry PySem.F.slot_dict_eq da.typeIs PySem.F.entry_dict_eq ?_ (PySem.F.args_dict_eq_2 _ _)
  show wpAny _ _ (Builtin.Dict.dictSlotArgs "__eq__" ⟨[.ref a, .int b u], []⟩ >>= _) _ _ s
  refine wpAny_bind ?_
  unfold Builtin.Dict.dictSlotArgs
  refine wpAny_bind (wpAny_notOrdered_dict da.typeIs ?_)
  show wpAny _ _ (pure (Value.ref a, Value.int b u)) _ _ s
  refine wpAny_pure ?_
  refine wpAny_bind (wpAny_isInstance (T := "int") (typeIs_int s b u) PySem.F.sub_int_dict ?_)
  simp only [Bool.not_false, if_true]
  refine wpAny_bind ?_
  refine wpAny_rule ?_
  exact wpAny_pure ⟨_, rfl, h⟩
end PySem.SeqAt
namespace DM
open PySem PySem.Spec L2
section
variable {M : Mdl} {S H : Hp} {m : Mode M} {x : V}
theorem Seen.rep {d : D} (h : Seen S H m x d) (e : Ex S H) : Rep M H x d := let ⟨_, p⟩ := h; m.rd p e
theorem Seen.int {i : Int} (h : Seen S H m x (.int i)) (e : Ex S H) : x = .int i := by cases h.rep e; rfl
theorem Seen.str {i : Str} (h : Seen S H m x (.str i)) (e : Ex S H) : x = .str i := by cases h.rep e; rfl
theorem Seen.bl {i : Bool} (h : Seen S H m x (.bl i)) (e : Ex S H) : x = .bl i := by cases h.rep e; rfl
theorem Seen.non (h : Seen S H m x .non) (e : Ex S H) : x = .non := by cases h.rep e; rfl
theorem Seen.scr {ns : List Int} (h : Seen S H m x (.scr ns)) (e : Ex S H) : ∃ a, x = .ref a ∧ SqL M.K H a (ns.map V.int) := by cases h.rep e with | scr q => exact ⟨_, rfl, q⟩
theorem Seen.tup {ds : List D} (h : Seen S H m x (.tup ds)) (e : Ex S H) : ∃ a vs, x = .ref a ∧ SqT M.K H a vs ∧ RepL M H vs ds := by cases h.rep e with | tup q r => exact ⟨_, _, rfl, q, r⟩
theorem Seen.lst {ds : List D} (h : Seen S H m x (.lst ds)) (e : Ex S H) : ∃ a vs, x = .ref a ∧ H a = some (.lst vs) ∧ RepL M H vs ds := by cases h.rep e with | lst q r => exact ⟨_, _, rfl, q, r⟩

/-- its own items are shared -/
def Own1 (M : Mdl) (S H : Hp) (v : V) : D → Prop
  | .lst ds => ∃ p vs, v = .ref p ∧ H p = some (.lst vs) ∧ RepL M S vs ds
  | .dK ks ds => ∃ p kvs, v = .ref p ∧ H p = some (.dK kvs) ∧ kvs.map (·.1) = ks ∧ RepL M S (kvs.map (·.2)) ds
  | .dT ks ds => ∃ p kvs, v = .ref p ∧ H p = some (.dT kvs) ∧ kvs.map (·.1) = ks ∧ RepL M S (kvs.map (·.2)) ds
  | _ => False
structure Flat (m : Mode M) : Prop where
  get : ∀ {v : V} {d : D} {S H : Hp} {F : Foot}, m.fam v d S H F → Rep M S v d ∨ Own1 M S H v d
theorem ElsF.toRep {κ : Type} {S H : Hp} : ∀ {ks : List κ} {vs : List V} {ds : List D} {F : Foot}, ElsF (fun _ => (fz (M := M)).fam) S H ks vs ds F → RepL M S vs ds
  | _, _, _, _, .nil n => .nil
  | _, _, _, _, .cons p t _ _ => .cons p.1 t.toRep
theorem flat_fz : Flat (fz (M := M)) := ⟨fun p => .inl p.1⟩
theorem flat_L : Flat (Lof (fz (M := M))) := ⟨fun p => by
  rcases p with ⟨_, b, _⟩ | ⟨p, vs, ds, G, rfl, rfl, c, e, _, _⟩
  · exact .inl b
  · exact .inr ⟨p, vs, rfl, c, e.toRep.1⟩⟩
theorem flat_K : Flat (Kof fun _ => (fz (M := M))) := ⟨fun p => by
  rcases p with ⟨_, b, _⟩ | ⟨p, kvs, ks, ds, G, rfl, rfl, c, k, e, _, _⟩
  · exact .inl b
  · exact .inr ⟨p, kvs, rfl, c, k.1, e.toRep⟩⟩
theorem flat_T : Flat (Tof (fz (M := M))) := ⟨fun p => by
  rcases p with ⟨_, b, _⟩ | ⟨p, kvs, ks, ds, G, rfl, rfl, c, k, e, _, _⟩
  · exact .inl b
  · exact .inr ⟨p, kvs, rfl, c, k.1, e.toRep⟩⟩
theorem Seen.lstF {ds : List D} (h : Seen S H m x (.lst ds)) (f : Flat m) (e : Ex S H) : ∃ a vs, x = .ref a ∧ H a = some (.lst vs) ∧ RepL M S vs ds := by
  obtain ⟨F, p⟩ := h
  rcases f.get p with r | ⟨p, vs, a, b, c⟩
  · cases r with | lst q r => exact ⟨_, _, rfl, e _ _ q, r⟩
  · exact ⟨p, vs, a, b, c⟩
theorem Seen.tupF {ds : List D} (h : Seen S H m x (.tup ds)) (f : Flat m) (e : Ex S H) : ∃ a vs, x = .ref a ∧ SqT M.K H a vs ∧ RepL M S vs ds := by
  obtain ⟨F, p⟩ := h
  rcases f.get p with r | r
  · cases r with | tup q r => exact ⟨_, _, rfl, e.t q, r⟩
  · exact r.elim
theorem Seen.dKF {ks : List Key} {ds : List D} (h : Seen S H m x (.dK ks ds)) (f : Flat m) (e : Ex S H) : ∃ a kvs, x = .ref a ∧ H a = some (.dK kvs) ∧ kvs.map (·.1) = ks ∧ RepL M S (kvs.map (·.2)) ds := by
  obtain ⟨F, p⟩ := h
  rcases f.get p with r | ⟨p, vs, a, b, c⟩
  · cases r with | dK q k r => exact ⟨_, _, rfl, e _ _ q, k, r⟩
  · exact ⟨p, vs, a, b, c⟩
theorem Seen.dTF {ks : List (List Key)} {ds : List D} (h : Seen S H m x (.dT ks ds)) (f : Flat m) (e : Ex S H) : ∃ a kvs, x = .ref a ∧ H a = some (.dT kvs) ∧ kvs.map (·.1) = ks ∧ RepL M S (kvs.map (·.2)) ds := by
  obtain ⟨F, p⟩ := h
  rcases f.get p with r | ⟨p, vs, a, b, c⟩
  · cases r with | dT q k r => exact ⟨_, _, rfl, e _ _ q, k, r⟩
  · exact ⟨p, vs, a, b, c⟩

/-! ### results -/
variable {Γ : List Pc}
/-- a scalar comes, whatever its mode is taken for -/
theorem Holds.sc {v : V} {d : D} (h : Holds S H Γ) (r : ∀ S, Rep M S v d) : Holds S H ((fz (M := M)).fam v d :: Γ) := h.addFz (r S)
/-- a new list of shared items -/
theorem Holds.newL {p : Addr} {vs : List V} {ds : List D} (h : Holds S H Γ) (hp : H p = none) (r : RepL M S vs ds) : Holds S (upd H p (.lst vs)) ((Lof (fz (M := M))).fam (.ref p) (.lst ds) :: Γ) :=
  h.newO hp ((Lof fz).stb _ _) fun F hF => .inr ⟨p, vs, ds, fun _ => False, rfl, rfl, upd_same, Els.ofRep r fun _ q => q, fun q => q, fun a => (hF a).trans ⟨.inl, fun x => x.elim id False.elim⟩⟩
theorem Holds.notL {v : V} {d : D} (h : Holds S H Γ) (r : Rep M S v d) (n : d.isLst = false) : Holds S H ((Lof (fz (M := M))).fam v d :: Γ) :=
  (h.addFz r).imp ((Lof fz).stb _ _) fun F p => .inl ⟨n, p.1, p.2⟩
/-- a new shared tuple -/
theorem Holds.newT {p : Addr} {vs : List V} {ds : List D} (h : Holds S H Γ) (hp : H p = none) (r : RepL M S vs ds) : Holds (upd S p (.tup vs)) (upd H p (.tup vs)) ((fz (M := M)).fam (.ref p) (.tup ds) :: Γ) :=
  (h.newS hp).addFz (.tup (.inl (.inl upd_same)) (r.mono (Ex.new (h.ex.free hp))))
end

section
variable {X : Cx} {m1 m2 : Mode (mdl X)}
/-! ### + - * // % ** & | << >> -/
def addD : D → D → Option D
  | .int i, .int j => some (.int (i + j))
  | .str x, .str y => if x.length + y.length ≤ sizeLine then some (.str (x ++ y)) else none
  | .lst xs, .lst ys => if xs.length + ys.length ≤ sizeLine then some (.lst (xs ++ ys)) else none
  | _, _ => none
def rAddA : R2 := fun x y H Q => rI0 (fun i j => .int (i + j)) x y H Q ∨ (∃ i j, x = .str i ∧ y = .str j ∧ i.length + j.length ≤ sizeLine ∧ Q (.str (i ++ j)) H) ∨ rCat x y H Q
theorem opr_add : OpR X (binaryOp .Add) rAddA := op_add.or (op_add_str.or op_cat)
theorem op2_add (f1 : Flat m1) (f2 : Flat m2) : Op2 (mdl X) rAddA m1 m2 (Lof fz) addD := by
  intro S H Γ x y a b d Q ho s1 s2 e k
  unfold addD at e
  split at e
  · cases e
    cases s1.int ho.ex; cases s2.int ho.ex
    exact .inl ⟨_, _, rfl, rfl, k _ S H (ho.notL (.int _) rfl)⟩
  · split at e
    · rename_i hl
      cases e
      cases s1.str ho.ex; cases s2.str ho.ex
      exact .inr (.inl ⟨_, _, rfl, rfl, hl, k _ S H (ho.notL (.str _) rfl)⟩)
    · cases e
  · split at e
    · rename_i hl
      cases e
      obtain ⟨p, vs, rfl, h1, r1⟩ := s1.lstF f1 ho.ex
      obtain ⟨q, ws, rfl, h2, r2⟩ := s2.lstF f2 ho.ex
      exact .inr (.inr ⟨p, q, vs, ws, rfl, rfl, h1, h2, by rw [r1.length, r2.length]; exact hl, fun n hn => k _ S _ (ho.newL hn (r1.append r2))⟩)
    · cases e
  · cases e
/-- two ints -/
def ii (f : Int → Int → Option Int) : D → D → Option D
  | .int i, .int j => (f i j).map D.int
  | _, _ => none
theorem op2_ii {r : R2} {f : Int → Int → Option Int} (h : ∀ i j n (H : Hp) (Q : VK), f i j = some n → Q (.int n) H → r (.int i) (.int j) H Q) : Op2 (mdl X) r m1 m2 fz (ii f) := by
  intro S H Γ x y a b d Q ho s1 s2 e k
  unfold ii at e
  split at e
  · rename_i i j
    cases s1.int ho.ex; cases s2.int ho.ex
    cases z : f i j with
    | none => rw [z] at e; cases e
    | some n => rw [z] at e; cases e; exact h i j n H Q z (k _ S H (ho.sc fun _ => .int _))
  · cases e
def ib (f : Int → Int → Bool) : D → D → Option D
  | .int i, .int j => some (.bl (f i j))
  | _, _ => none
theorem op2_ib {r : R2} {f : Int → Int → Bool} (h : ∀ i j (H : Hp) (Q : VK), Q (.bl (f i j)) H → r (.int i) (.int j) H Q) : Op2 (mdl X) r m1 m2 fz (ib f) := by
  intro S H Γ x y a b d Q ho s1 s2 e k
  unfold ib at e
  split at e
  · cases e
    cases s1.int ho.ex; cases s2.int ho.ex
    exact h _ _ H Q (k _ S H (ho.sc fun _ => .bl _))
  · cases e
def subD : D → D → Option D := ii fun i j => some (i - j)
theorem op2_sub : Op2 (mdl X) (rI0 fun i j => .int (i - j)) m1 m2 fz subD := op2_ii fun i j n H Q e q => by cases e; exact ⟨_, _, rfl, rfl, q⟩
/-- within n either way: a look that the kernel takes at its ease -/
def nb (i : Int) (n : Nat) : Bool := Nat.ble i.natAbs n
theorem nb_iff {i : Int} {n : Nat} : nb i n = true ↔ -(n : Int) ≤ i ∧ i ≤ n := by
  unfold nb
  rw [Nat.ble_eq]
  omega
def mulOk (i j : Int) : Bool := nb i 18446744073709551615 || nb j 18446744073709551615 || Nat.ble (Builtin.Int.intBits i + Builtin.Int.intBits j) 134217728
def mulD : D → D → Option D
  | .int i, .int j => if mulOk i j = true then some (.int (i * j)) else none
  | .lst xs, .int k => if xs.length * k.toNat ≤ sizeLine ∧ nb k 9223372036854775807 = true then some (.lst (List.replicate k.toNat xs).flatten) else none
  | _, _ => none
def rMulA : R2 := fun x y H Q => rI CMul (fun i j => .int (i * j)) x y H Q ∨ rI CMulX (fun i j => .int (i * j)) x y H Q ∨ rRep x y H Q
theorem opr_mul : OpR X (binaryOp .Mult) rMulA := op_mul.or (op_mulX.or op_rep)
theorem op2_mul (f1 : Flat m1) : Op2 (mdl X) rMulA m1 m2 (Lof fz) mulD := by
  intro S H Γ x y a b d Q ho s1 s2 e k
  unfold mulD at e
  split at e
  · rename_i i j
    split at e
    · rename_i hm
      cases e
      cases s1.int ho.ex; cases s2.int ho.ex
      have q := k _ S H (ho.notL (.int (i * j)) rfl)
      unfold mulOk at hm
      simp only [Bool.or_eq_true, nb_iff, Nat.ble_eq] at hm
      rcases hm with (hm | hm) | hm
      · exact .inl ⟨_, _, rfl, rfl, .inl ⟨by omega, by omega⟩, q⟩
      · exact .inl ⟨_, _, rfl, rfl, .inr ⟨by omega, by omega⟩, q⟩
      · refine .inr (.inl ⟨_, _, rfl, rfl, ?_, q⟩)
        show (Builtin.Int.intBits i : Int) + (Builtin.Int.intBits j : Int) ≤ 134217728
        omega
    · cases e
  · split at e
    · rename_i hl
      cases e
      obtain ⟨p, vs, rfl, h1, r1⟩ := s1.lstF f1 ho.ex
      cases s2.int ho.ex
      have hb := nb_iff.mp hl.2
      exact .inr (.inr ⟨p, _, vs, rfl, rfl, h1, by omega, by omega, by rw [r1.length]; exact hl.1, fun n hn => k _ S _ (ho.newL hn (r1.rep _))⟩)
    · cases e
  · cases e
def fdivD : D → D → Option D := ii fun i j => if 0 < j ∧ nb j 1073741823 = true then some (i / j) else none
theorem op2_fdiv : Op2 (mdl X) (rI CDiv fun i j => .int (i / j)) m1 m2 fz fdivD := op2_ii fun i j n H Q e q => by
  split at e
  · rename_i h; cases e; have hb := nb_iff.mp h.2; exact ⟨_, _, rfl, rfl, ⟨h.1, by omega⟩, q⟩
  · cases e
def modD : D → D → Option D := ii fun i j => if 0 < j then some (i % j) else none
theorem op2_mod : Op2 (mdl X) (rI (fun _ j => 0 < j) fun i j => .int (i % j)) m1 m2 fz modD := op2_ii fun i j n H Q e q => by
  split at e
  · rename_i h; cases e; exact ⟨_, _, rfl, rfl, h, q⟩
  · cases e
def powD : D → D → Option D := ii fun i j => if 0 ≤ j ∧ nb j 1000000 = true ∧ nb i 18446744073709551615 = true then some (i ^ j.toNat) else none
theorem op2_pow : Op2 (mdl X) (rI CPow fun i j => .int (i ^ j.toNat)) m1 m2 fz powD := op2_ii fun i j n H Q e q => by
  split at e
  · rename_i h; cases e; have h1 := nb_iff.mp h.2.1; have h2 := nb_iff.mp h.2.2; exact ⟨_, _, rfl, rfl, ⟨h.1, by omega, by omega⟩, q⟩
  · cases e
def shlD : D → D → Option D := ii fun i j => if 0 ≤ j ∧ nb j 1000000 = true ∧ nb i 18446744073709551615 = true then some (i * 2 ^ j.toNat) else none
theorem op2_shl : Op2 (mdl X) (rI CPow fun i j => .int (i * 2 ^ j.toNat)) m1 m2 fz shlD := op2_ii fun i j n H Q e q => by
  split at e
  · rename_i h; cases e; have h1 := nb_iff.mp h.2.1; have h2 := nb_iff.mp h.2.2; exact ⟨_, _, rfl, rfl, ⟨h.1, by omega, by omega⟩, q⟩
  · cases e
def shrD : D → D → Option D := ii fun i j => if 0 ≤ j then some (i / 2 ^ j.toNat) else none
theorem op2_shr : Op2 (mdl X) (rI (fun _ j => 0 ≤ j) fun i j => .int (i / 2 ^ j.toNat)) m1 m2 fz shrD := op2_ii fun i j n H Q e q => by
  split at e
  · rename_i h; cases e; exact ⟨_, _, rfl, rfl, h, q⟩
  · cases e
def andD : D → D → Option D := ii fun i j => some (Builtin.bitAnd i j)
theorem op2_and : Op2 (mdl X) (rI0 fun i j => .int (Builtin.bitAnd i j)) m1 m2 fz andD := op2_ii fun i j n H Q e q => by cases e; exact ⟨_, _, rfl, rfl, q⟩
def orD : D → D → Option D := ii fun i j => some (Builtin.bitOr i j)
theorem op2_or : Op2 (mdl X) (rI0 fun i j => .int (Builtin.bitOr i j)) m1 m2 fz orD := op2_ii fun i j n H Q e q => by cases e; exact ⟨_, _, rfl, rfl, q⟩
def negD : D → Option D
  | .int i => some (.int (-i))
  | _ => none
theorem op1_neg : Op1 (mdl X) (rU fun i => .int (-i)) m1 fz negD := by
  intro S H Γ x a d Q ho s1 e k
  unfold negD at e
  split at e
  · cases e; cases s1.int ho.ex; exact ⟨_, rfl, k _ S H (ho.sc fun _ => .int _)⟩
  · cases e

/-! ### < <= > >= of ints, of texts -/
def ltD : D → D → Option D
  | .int i, .int j => some (.bl (decide (i < j)))
  | .str i, .str j => some (.bl (decide (i.cps.toList < j.cps.toList)))
  | _, _ => none
def leD : D → D → Option D
  | .int i, .int j => some (.bl (decide (i ≤ j)))
  | .str i, .str j => some (.bl (!decide (j.cps.toList < i.cps.toList)))
  | _, _ => none
def gtD : D → D → Option D
  | .int i, .int j => some (.bl (decide (j < i)))
  | .str i, .str j => some (.bl (decide (j.cps.toList < i.cps.toList)))
  | _, _ => none
def geD : D → D → Option D
  | .int i, .int j => some (.bl (decide (j ≤ i)))
  | .str i, .str j => some (.bl (!decide (i.cps.toList < j.cps.toList)))
  | _, _ => none
def rIS (f : Int → Int → Bool) (g : Str → Str → Bool) : R2 := fun x y H Q => rI0 (fun i j => .bl (f i j)) x y H Q ∨ ∃ i j, x = .str i ∧ y = .str j ∧ Q (.bl (g i j)) H
def isD (f : Int → Int → Bool) (g : Str → Str → Bool) : D → D → Option D
  | .int i, .int j => some (.bl (f i j))
  | .str i, .str j => some (.bl (g i j))
  | _, _ => none
theorem op2_is {f : Int → Int → Bool} {g : Str → Str → Bool} : Op2 (mdl X) (rIS f g) m1 m2 fz (isD f g) := by
  intro S H Γ x y a b d Q ho s1 s2 e k
  unfold isD at e
  split at e
  · cases e; cases s1.int ho.ex; cases s2.int ho.ex
    exact .inl ⟨_, _, rfl, rfl, k _ S H (ho.sc fun _ => .bl _)⟩
  · cases e; cases s1.str ho.ex; cases s2.str ho.ex
    exact .inr ⟨_, _, rfl, rfl, k _ S H (ho.sc fun _ => .bl _)⟩
  · cases e
abbrev rLtA : R2 := rIS (fun i j => decide (i < j)) fun i j => decide (i.cps.toList < j.cps.toList)
abbrev rLeA : R2 := rIS (fun i j => decide (i ≤ j)) fun i j => !decide (j.cps.toList < i.cps.toList)
abbrev rGtA : R2 := rIS (fun i j => decide (j < i)) fun i j => decide (j.cps.toList < i.cps.toList)
abbrev rGeA : R2 := rIS (fun i j => decide (j ≤ i)) fun i j => !decide (i.cps.toList < j.cps.toList)
theorem opr_lt : OpR X (compareOp .Lt) rLtA := op_lt.or op_lt_str
theorem opr_le : OpR X (compareOp .LtE) rLeA := op_le.or op_le_str
theorem opr_gt : OpR X (compareOp .Gt) rGtA := op_gt.or op_gt_str
theorem opr_ge : OpR X (compareOp .GtE) rGeA := op_ge.or op_ge_str
theorem op2_lt : Op2 (mdl X) rLtA m1 m2 fz ltD := op2_is
theorem op2_le : Op2 (mdl X) rLeA m1 m2 fz leD := op2_is
theorem op2_gt : Op2 (mdl X) rGtA m1 m2 fz gtD := op2_is
theorem op2_ge : Op2 (mdl X) rGeA m1 m2 fz geD := op2_is

/-! ### is None, is not None -/
def D.isNon : D → Bool
  | .non => true
  | _ => false
def isND : D → D → Option D
  | a, .non => some (.bl a.isNon)
  | _, _ => none
def notND : D → D → Option D
  | a, .non => some (.bl (!a.isNon))
  | _, _ => none
theorem Rep.isNon {M : Mdl} {S : Hp} {v : V} {d : D} (r : Rep M S v d) : decide (v = V.non) = d.isNon := by
  cases r <;> rfl
theorem op2_isN : Op2 (mdl X) (fun x y H Q => y = .non ∧ Q (.bl (decide (x = .non))) H) m1 m2 fz isND := by
  intro S H Γ x y a b d Q ho s1 s2 e k
  unfold isND at e
  split at e
  · cases e; cases s2.non ho.ex
    refine ⟨rfl, ?_⟩
    rw [(s1.rep ho.ex).isNon]
    exact k _ S H (ho.sc fun _ => .bl _)
  · cases e
theorem op2_notN : Op2 (mdl X) (fun x y H Q => y = .non ∧ Q (.bl (!decide (x = .non))) H) m1 m2 fz notND := by
  intro S H Γ x y a b d Q ho s1 s2 e k
  unfold notND at e
  split at e
  · cases e; cases s2.non ho.ex
    refine ⟨rfl, ?_⟩
    rw [(s1.rep ho.ex).isNon]
    exact k _ S H (ho.sc fun _ => .bl _)
  · cases e

/-! ### == and != of data -/
mutual
/-- as the library's data -/
def D.py : D → Option PyData
  | .non => some .none
  | .bl b => some (.bool b)
  | .int i => some (.int i)
  | .str x => some (.str x)
  | .lst ds => (D.pyAll ds).map PyData.list
  | .tup ds => (D.pyAll ds).map PyData.tuple
  | _ => none
def D.pyAll : List D → Option (List PyData)
  | [] => some []
  | d :: ds => match D.py d, D.pyAll ds with
    | some p, some ps => some (p :: ps)
    | _, _ => none
end
mutual
theorem Rep.dp {M : Mdl} {S : Hp} : ∀ {v : V} {d : D} {p : PyData}, Rep M S v d → d.py = some p → Dp M.K S v p
  | _, _, _, .non, e => by cases e; exact .non
  | _, _, _, .bl b, e => by cases e; exact .bl b
  | _, _, _, .int b, e => by cases e; exact .int b
  | _, _, _, .str b, e => by cases e; exact .str b
  | _, _, _, .lst h r, e => by
    rw [D.py] at e
    obtain ⟨ps, e1, e2⟩ := Option.map_eq_some_iff.mp e
    subst e2
    exact .lst (SqL.of h) (RepL.dp r e1)
  | _, _, _, .tup h r, e => by
    rw [D.py] at e
    obtain ⟨ps, e1, e2⟩ := Option.map_eq_some_iff.mp e
    subst e2
    exact .tup h (RepL.dp r e1)
  | _, _, _, .dK .., e => by cases e
  | _, _, _, .dT .., e => by cases e
  | _, _, _, .obj .., e => by cases e
  | _, _, _, .exn .., e => by cases e
  | _, _, _, .scr .., e => by cases e
theorem RepL.dp {M : Mdl} {S : Hp} : ∀ {vs : List V} {ds : List D} {ps : List PyData}, RepL M S vs ds → D.pyAll ds = some ps → DpAll M.K S vs ps
  | _, _, _, .nil, e => by cases e; exact .nil
  | _, _, _, .cons (d := d) (ds := ds) r t, e => by
    unfold D.pyAll at e
    cases z1 : D.py d with
    | none => rw [z1] at e; cases e
    | some p =>
      cases z2 : D.pyAll ds with
      | none => rw [z1, z2] at e; cases e
      | some ps => rw [z1, z2] at e; cases e; exact .cons (Rep.dp r z1) (RepL.dp t z2)
end
/-- Python's == -/
def eqvD (a b : D) : Option Bool := match a.py, b.py with
  | some p, some q => if SeqAt.shaped p = true ∧ SeqAt.shaped q = true then some (PyData.eqv p q) else none
  | _, _ => none
def eqD0 (a b : D) : Option D := (eqvD a b).map D.bl
def neD0 (a b : D) : Option D := (eqvD a b).map fun k => D.bl (!k)
/-- Python's ==: ints, texts and truths, lists of unlike lengths, and what is shaped -/
def eqD : D → D → Option D
  | .int i, .int j => some (.bl (decide (i = j)))
  | .str x, .str y => some (.bl (decide (x = y)))
  | .bl x, .bl y => some (.bl (decide (x = y)))
  | .lst xs, .lst ys => if xs.length = ys.length then eqD0 (.lst xs) (.lst ys) else some (.bl false)
  | .dK _ _, .int _ => some (.bl false)
  | a, b => eqD0 a b
def neD : D → D → Option D
  | .int i, .int j => some (.bl (!decide (i = j)))
  | .str x, .str y => some (.bl (!decide (x = y)))
  | .bl x, .bl y => some (.bl (!decide (x = y)))
  | .lst xs, .lst ys => if xs.length = ys.length then neD0 (.lst xs) (.lst ys) else some (.bl true)
  | a, b => neD0 a b
theorem eqvD_some {a b : D} {k : Bool} (h : eqvD a b = some k) : ∃ p q, a.py = some p ∧ b.py = some q ∧ SeqAt.shaped p = true ∧ SeqAt.shaped q = true ∧ PyData.eqv p q = k := by
  unfold eqvD at h
  split at h
  · rename_i p q z1 z2
    split at h
    · rename_i hs; cases h; exact ⟨p, q, z1, z2, hs.1, hs.2, rfl⟩
    · cases h
  · cases h
def rEqLen : R2 := fun x y H Q => ∃ a b xs ys, x = .ref a ∧ y = .ref b ∧ H a = some (.lst xs) ∧ H b = some (.lst ys) ∧ xs.length ≠ ys.length ∧ Q (.bl false) H
def rNeLen : R2 := fun x y H Q => ∃ a b xs ys, x = .ref a ∧ y = .ref b ∧ H a = some (.lst xs) ∧ H b = some (.lst ys) ∧ xs.length ≠ ys.length ∧ Q (.bl true) H
theorem lst_isList {pins : List (Addr × Obj)} {σ : L2.St} {H : Hp} {s : Shared} {a : Addr} {xs : List V} (I : Inv X pins σ H s) (h : H a = some (.lst xs)) : ∃ items : Array Value, s.heap.IsList a items ∧ items.size = xs.length := by
  obtain ⟨its, rv, ⟨o, n, ho, hc, _, hd⟩, _⟩ := I.list (.inl (.inl h))
  exact ⟨_, ⟨o, ho, hc, n, hd⟩, by rw [rv.length]; simp⟩
theorem op_eqLen (hu : X.A.units < cLine) : OpR X (compareOp .Eq) rEqLen := by
  intro pins s σ H x y v u Q I rx ry h
  obtain ⟨a, b, xs, ys, rfl, rfl, h1, h2, hn, q⟩ := h
  cases rx; cases ry
  obtain ⟨i1, l1, z1⟩ := lst_isList I h1
  obtain ⟨i2, l2, z2⟩ := lst_isList I h2
  exact SeqAt.eq_list_lengthsAt l1 l2 (by rw [z1, z2]; simpa using hn) hu ⟨.bl _, H, I, rfl, q⟩
theorem op_neLen (hu : X.A.units < cLine) : OpR X (compareOp .NotEq) rNeLen := by
  intro pins s σ H x y v u Q I rx ry h
  obtain ⟨a, b, xs, ys, rfl, rfl, h1, h2, hn, q⟩ := h
  cases rx; cases ry
  obtain ⟨i1, l1, z1⟩ := lst_isList I h1
  obtain ⟨i2, l2, z2⟩ := lst_isList I h2
  exact SeqAt.RcNeAt.lists_lengths l1 l2 (by rw [z1, z2]; simpa using hn) hu _ _ _ _ ⟨.bl _, H, I, rfl, q⟩
def rEqDI : R2 := fun x y H Q => ∃ a kvs i, x = .ref a ∧ y = .int i ∧ H a = some (.dK kvs) ∧ Q (.bl false) H
theorem op_eqDI (hu : X.A.units < cLine) : OpR X (compareOp .Eq) rEqDI := by
  intro pins s σ H x y v u Q I rx ry h
  obtain ⟨a, kvs, i, rfl, rfl, h1, q⟩ := h
  cases rx
  obtain ⟨t, rfl⟩ := ry
  obtain ⟨_, _, vs, _, dd⟩ := dk_of I.hok h1
  obtain ⟨⟨cls, dct, data, sl⟩, es, ep, ho, hx, hdat, _⟩ := id dd
  simp only at hdat
  subst hdat
  refine SeqAt.rc_eq_decline_or (k := false) dd.typeIs (typeIs_int s i t) (by decide) PySem.F.sub_int_dict PySem.F.slot_dict_eq PySem.F.slot_int_eq_refl
    (fun _ hq => SeqAt.dict_eq_declines_int dd i t hq)
    (fun _ hq => call_meets PySem.F.slot_int_eq_refl (typeIs_int s i t) PySem.F.entry_int_eq (PySem.F.args_int_eq_2 _ _) (SeqAt.int_eq_declines_dict i t a cls es ep dct sl) ⟨ho, hq⟩)
    (fun _ hq => PySem.wpAny_of_eq (rfl : isSame (.ref a) (.int i t) = pure false) hq) (.inr hu) ⟨.bl _, H, I, rfl, q⟩
def rEqE (K : PySem.W.Frag) : R2 := fun x y H Q => rEq x y H Q ∨ rEqLen x y H Q ∨ rEqDI x y H Q ∨ rEqD K x y H Q
def rNeE (K : PySem.W.Frag) : R2 := fun x y H Q => rNe x y H Q ∨ rNeLen x y H Q ∨ rNeD K x y H Q
theorem opr_eqE (hu : X.A.units + 64 < cLine) : OpR X (compareOp .Eq) (rEqE X.K) := op_eq.or ((op_eqLen (by omega)).or ((op_eqDI (by omega)).or (op_eqD hu)))
theorem opr_neE (hu : X.A.units + 64 < cLine) : OpR X (compareOp .NotEq) (rNeE X.K) := op_ne.or ((op_neLen (by omega)).or (op_neD hu))
theorem op2_eq0 : Op2 (mdl X) (rEqD X.K) m1 m2 fz eqD0 := by
  intro S H Γ x y a b d Q ho s1 s2 e k
  obtain ⟨c, e1, e2⟩ := Option.map_eq_some_iff.mp (show (eqvD a b).map D.bl = some d from e)
  obtain ⟨p, q, z1, z2, z3, z4, z5⟩ := eqvD_some e1
  subst e2 z5
  exact ⟨p, q, (s1.rep ho.ex).dp z1, (s2.rep ho.ex).dp z2, z3, z4, k _ S H (ho.sc fun _ => .bl _)⟩
theorem op2_ne0 : Op2 (mdl X) (rNeD X.K) m1 m2 fz neD0 := by
  intro S H Γ x y a b d Q ho s1 s2 e k
  obtain ⟨c, e1, e2⟩ := Option.map_eq_some_iff.mp (show (eqvD a b).map (fun k => D.bl (!k)) = some d from e)
  obtain ⟨p, q, z1, z2, z3, z4, z5⟩ := eqvD_some e1
  subst e2 z5
  exact ⟨p, q, (s1.rep ho.ex).dp z1, (s2.rep ho.ex).dp z2, z3, z4, k _ S H (ho.sc fun _ => .bl _)⟩
theorem op2_eq : Op2 (mdl X) (rEqE X.K) m1 m2 fz eqD := by
  intro S H Γ x y a b d Q ho s1 s2 e k
  unfold eqD at e
  split at e
  · cases e
    rename_i i j
    cases s1.int ho.ex; cases s2.int ho.ex
    exact .inl ⟨rfl, by simpa using k _ S H (ho.sc fun _ => .bl _)⟩
  · cases e
    cases s1.str ho.ex; cases s2.str ho.ex
    exact .inl ⟨rfl, by simpa using k _ S H (ho.sc fun _ => .bl _)⟩
  · cases e
    cases s1.bl ho.ex; cases s2.bl ho.ex
    exact .inl ⟨rfl, by simpa using k _ S H (ho.sc fun _ => .bl _)⟩
  · split at e
    · exact .inr (.inr (.inr (op2_eq0 S H Γ x y _ _ d Q ho s1 s2 e k)))
    · rename_i hl
      cases e
      obtain ⟨p, vs, rfl, h1, r1⟩ := s1.lst ho.ex
      obtain ⟨q, ws, rfl, h2, r2⟩ := s2.lst ho.ex
      exact .inr (.inl ⟨p, q, vs, ws, rfl, rfl, h1, h2, by rw [r1.length, r2.length]; exact hl, k _ S H (ho.sc fun _ => .bl _)⟩)
  · cases e
    cases s2.int ho.ex
    cases s1.rep ho.ex with
    | dK h1 _ _ => exact .inr (.inr (.inl ⟨_, _, _, rfl, rfl, h1, k _ S H (ho.sc fun _ => .bl _)⟩))
  · exact .inr (.inr (.inr (op2_eq0 S H Γ x y _ _ d Q ho s1 s2 e k)))
theorem op2_ne : Op2 (mdl X) (rNeE X.K) m1 m2 fz neD := by
  intro S H Γ x y a b d Q ho s1 s2 e k
  unfold neD at e
  split at e
  · cases e
    rename_i i j
    cases s1.int ho.ex; cases s2.int ho.ex
    exact .inl ⟨rfl, by simpa using k _ S H (ho.sc fun _ => .bl _)⟩
  · cases e
    cases s1.str ho.ex; cases s2.str ho.ex
    exact .inl ⟨rfl, by simpa using k _ S H (ho.sc fun _ => .bl _)⟩
  · cases e
    cases s1.bl ho.ex; cases s2.bl ho.ex
    exact .inl ⟨rfl, by simpa using k _ S H (ho.sc fun _ => .bl _)⟩
  · split at e
    · exact .inr (.inr (op2_ne0 S H Γ x y _ _ d Q ho s1 s2 e k))
    · rename_i hl
      cases e
      obtain ⟨p, vs, rfl, h1, r1⟩ := s1.lst ho.ex
      obtain ⟨q, ws, rfl, h2, r2⟩ := s2.lst ho.ex
      exact .inr (.inl ⟨p, q, vs, ws, rfl, rfl, h1, h2, by rw [r1.length, r2.length]; exact hl, k _ S H (ho.sc fun _ => .bl _)⟩)
  · exact .inr (.inr (op2_ne0 S H Γ x y _ _ d Q ho s1 s2 e k))

/-! ### a[b] -/
def ixD : D → D → Option D
  | .lst ds, .int i => atI ds i
  | .tup ds, .int i => atI ds i
  | .str z, .int i => if z.length ≤ sizeLine then (atI z.cps.toList i).map fun c => D.str ⟨#[c]⟩ else none
  | .scr ns, .int i => (atI ns i).map D.int
  | _, _ => none
theorem RepL.at {M : Mdl} {S : Hp} {vs : List V} {ds : List D} {i : Int} {d : D} (r : RepL M S vs ds) (e : atI ds i = some d) : ∃ v, atI vs i = some v ∧ Rep M S v d := by
  unfold atI at e ⊢
  rw [r.length]
  cases z : ixN ds.length i with
  | none => rw [z] at e; cases e
  | some j => rw [z] at e; exact r.get e
theorem op2_ix (f1 : Flat m1) : Op2 (mdl X) (rIx X.K) m1 m2 fz ixD := by
  intro S H Γ x y a b d Q ho s1 s2 e k
  unfold ixD at e
  split at e
  · cases s2.int ho.ex
    obtain ⟨p, vs, rfl, h1, r1⟩ := s1.lstF f1 ho.ex
    obtain ⟨v, e1, r2⟩ := r1.at e
    exact .inl ⟨p, vs, _, v, rfl, rfl, SqL.of h1, e1, k v S H (ho.addFz r2)⟩
  · cases s2.int ho.ex
    obtain ⟨p, vs, rfl, h1, r1⟩ := s1.tupF f1 ho.ex
    obtain ⟨v, e1, r2⟩ := r1.at e
    exact .inr (.inl ⟨p, vs, _, v, rfl, rfl, h1, e1, k v S H (ho.addFz r2)⟩)
  · split at e
    · rename_i z i hl
      cases s1.str ho.ex; cases s2.int ho.ex
      obtain ⟨c, e1, e2⟩ := Option.map_eq_some_iff.mp e
      subst e2
      exact .inr (.inr ⟨z, i, c, rfl, rfl, hl, e1, k _ S H (ho.sc fun _ => .str _)⟩)
    · cases e
  · rename_i ns i
    cases s2.int ho.ex
    obtain ⟨p, rfl, h1⟩ := s1.scr ho.ex
    obtain ⟨c, e1, e2⟩ := Option.map_eq_some_iff.mp e
    subst e2
    refine .inl ⟨p, _, _, .int c, rfl, rfl, h1, ?_, k _ S H (ho.sc fun _ => .int _)⟩
    unfold atI at e1 ⊢
    rw [List.length_map]
    cases z : ixN ns.length i with
    | none => rw [z] at e1; cases e1
    | some j =>
      rw [z] at e1
      show (ns.map V.int)[j]? = some (.int c)
      have e2 : ns[j]? = some c := e1
      rw [List.getElem?_map, e2]
      rfl
  · cases e
end
end DM
set_option maxRecDepth 100000
/-! Data mirror, part 6: tests, statements, defs and their calls. -/
namespace DM
open PySem PySem.Spec L2

section
variable {M : Mdl} {ms : List (Mode M)} {σ : St} {δ : DEnv} {H : Hp} {τ : List Pc}
/-- a value stored in a slot -/
theorem StO.setM {m : Mode M} {i : Nat} {v : V} {d : D} (h : StO ms σ δ H (m.fam v d :: τ)) (hm : ms[i]? = some m) : StO ms (σ.set i (some v)) (δ.set i (some d)) H τ := by
  obtain ⟨S, Γ, sl, ho⟩ := h
  obtain ⟨Γ', Δ, p, sl'⟩ := sl.clear i none
  have hlt : i < ms.length := (List.getElem?_eq_some_iff.mp hm).1
  have e2 : (δ.set i none)[i]? = some none := List.getElem?_set_self (by rw [sl.len.2]; exact hlt)
  obtain ⟨Γ2, p2, sl2⟩ := sl'.putV v d hm e2
  rw [List.set_set, List.set_set] at sl2
  refine ⟨S, Γ2, sl2, ?_⟩
  have h1 : Holds S H (Δ ++ (m.fam v d :: τ ++ Γ')) := ho.perm ((p.append_left _).trans (List.perm_append_comm_assoc _ _ _))
  exact h1.dropL.perm ((List.perm_middle (a := m.fam v d) (l₁ := τ) (l₂ := Γ')).symm.trans (p2.symm.append_left τ))
end

section
variable {X : Cx} {W : WX} {ms : List (Mode (mdl X))}
def RelE (W : WX) (ms : List (Mode (mdl X))) (md : Mode (mdl X)) (t : TE) (m : DEnv → R D) : Prop := ∀ σ δ H τ (Q : VK), StO ms σ δ H τ → PostE W ms md σ τ Q (m δ) → t σ H Q
def RelT (W : WX) (ms : List (Mode (mdl X))) (t : TT) (m : DEnv → R Bool) : Prop := ∀ σ δ H τ (Q : Bool → Hp → Prop), StO ms σ δ H τ → PostT W ms σ τ Q (m δ) → t σ H Q

/-! ### tests -/
def mTest (m : DEnv → R D) : DEnv → R Bool := fun δ => (m δ).bind fun d δ' => match d with
  | .bl b => .ok b δ'
  | _ => .stuck
theorem relTest {md : Mode (mdl X)} {t : TE} {m : DEnv → R D} (h : RelE W ms md t m) : RelT W ms (tTest t) (mTest m) := by
  intro σ δ H τ Q st q
  refine h σ δ H τ _ st ?_
  unfold mTest at q
  cases z : m δ with
  | exc c δ' => rw [z] at q; exact q
  | stuck => rw [z] at q; exact q
  | ok d δ' =>
    rw [z, R.bind_ok] at q
    intro v H' st'
    split at q
    · cases st'.rd
      exact ⟨_, rfl, q H' st'.drop⟩
    · exact q.elim
variable {a b c e : Expr} {pos : Pos}
theorem dt_cmp {op : CmpOp} {r : R2} {k1 k2 : Kd (mdl X)} {ma mb : DEnv → R Opd} {md : Mode (mdl X)} {f : D → D → Option D} (ho : OpR X (compareOp op) r) (ha : DO X W ms a k1 ma) (hb : DO X W ms b k2 mb) (h : Op2 (mdl X) r (k1.mode ms) (k2.mode ms) md f)
    (hm : behindInMarks op b = false := by first | exact nomark _ | rfl) : DT X W ms (.Compare a [op] [b] pos) (mTest (mOp2 ma mb f)) := by
  obtain ⟨ta, pa, ra⟩ := ha.rel
  obtain ⟨tb, pb, rb⟩ := hb.rel
  exact ⟨_, pt_cmpR ho pa pb hm, relTest (relE2 ra rb h)⟩
theorem dt_val {md : Mode (mdl X)} {m : DEnv → R D} (h : DE X W ms e md m) (he : ∀ whole, isTrue e X.env whole = (do let v ← whole; standAt e.pos; holding [v] (truthy v)) := by exact fun _ => rfl) : DT X W ms e (mTest m) := by
  obtain ⟨t, pe, k⟩ := h.run
  exact ⟨_, pt_val pe he, relTest k⟩
def mNot (m : DEnv → R Bool) : DEnv → R Bool := fun δ => (m δ).bind fun b δ' => .ok (!b) δ'
theorem dt_not {m : DEnv → R Bool} (h : DT X W ms e m) : DT X W ms (.UnaryOp .Not e pos) (mNot m) := by
  obtain ⟨t, pe, k⟩ := h.run
  refine ⟨_, pt_not pe, fun σ δ H τ Q st q => k σ δ H τ _ st ?_⟩
  unfold mNot at q
  cases z : m δ with
  | exc c δ' => rw [z] at q; exact q
  | stuck => rw [z] at q; exact q
  | ok d δ' => rw [z] at q; exact q
/-- and, or of tests -/
structure DW (X : Cx) (W : WX) (ms : List (Mode (mdl X))) (e : Expr) (m : DEnv → R Bool) : Prop where
  run : ∃ t, PW X e t ∧ RelT W ms t m
theorem DW.dt {m : DEnv → R Bool} (h : DW X W ms e m) : DT X W ms e m := by
  obtain ⟨t, p, k⟩ := h.run
  exact ⟨t, p.pt, k⟩
def mAnd (a b : DEnv → R Bool) : DEnv → R Bool := fun δ => (a δ).bind fun c δ' => if c = true then b δ' else .ok false δ'
def mOr (a b : DEnv → R Bool) : DEnv → R Bool := fun δ => (a δ).bind fun c δ' => if c = true then .ok true δ' else b δ'
theorem dw_and1 {m : DEnv → R Bool} (h : DT X W ms a m) : DW X W ms (.BoolOp .And [a] pos) m := by
  obtain ⟨t, p, k⟩ := h.run
  exact ⟨t, pw_and1 p, k⟩
theorem dw_or1 {m : DEnv → R Bool} (h : DT X W ms a m) : DW X W ms (.BoolOp .Or [a] pos) m := by
  obtain ⟨t, p, k⟩ := h.run
  exact ⟨t, pw_or1 p, k⟩
theorem dw_and {ma mb : DEnv → R Bool} {rest : List Expr} (h : DT X W ms a ma) (hb : DW X W ms (.BoolOp .And (b :: rest) pos) mb) : DW X W ms (.BoolOp .And (a :: b :: rest) pos) (mAnd ma mb) := by
  obtain ⟨t, p, k⟩ := h.run
  obtain ⟨u, p2, k2⟩ := hb.run
  refine ⟨_, pw_and p p2, fun σ δ H τ Q st q => k σ δ H τ _ st ?_⟩
  unfold mAnd at q
  cases z : ma δ with
  | exc c δ' => rw [z] at q; exact q
  | stuck => rw [z] at q; exact q
  | ok d δ' =>
    rw [z, R.bind_ok] at q
    intro H' st'
    cases d with
    | true => rw [if_pos rfl] at q ⊢; exact k2 σ δ' H' τ Q st' q
    | false => rw [if_neg (by decide)] at q ⊢; exact q H' st'
theorem dw_or {ma mb : DEnv → R Bool} {rest : List Expr} (h : DT X W ms a ma) (hb : DW X W ms (.BoolOp .Or (b :: rest) pos) mb) : DW X W ms (.BoolOp .Or (a :: b :: rest) pos) (mOr ma mb) := by
  obtain ⟨t, p, k⟩ := h.run
  obtain ⟨u, p2, k2⟩ := hb.run
  refine ⟨_, pw_or p p2, fun σ δ H τ Q st q => k σ δ H τ _ st ?_⟩
  unfold mOr at q
  cases z : ma δ with
  | exc c δ' => rw [z] at q; exact q
  | stuck => rw [z] at q; exact q
  | ok d δ' =>
    rw [z, R.bind_ok] at q
    intro H' st'
    cases d with
    | true => rw [if_pos rfl] at q ⊢; exact q H' st'
    | false => rw [if_neg (by decide)] at q ⊢; exact k2 σ δ' H' τ Q st' q
/-- .. as values -/
def mNotV (m : DEnv → R D) : DEnv → R D := fun δ => (m δ).bind fun d δ' => match d with
  | .bl b => .ok (.bl (!b)) δ'
  | _ => .stuck
theorem de_not {md : Mode (mdl X)} {m : DEnv → R D} (h : DE X W ms e md m) : DE X W ms (.UnaryOp .Not e pos) fz (mNotV m) := by
  obtain ⟨t, pe, k⟩ := h.run
  refine ⟨_, pe_not pe, fun σ δ H τ Q st q => k σ δ H τ _ st ?_⟩
  unfold mNotV at q
  cases z : m δ with
  | exc c δ' => rw [z] at q; exact q
  | stuck => rw [z] at q; exact q
  | ok d δ' =>
    rw [z, R.bind_ok] at q
    intro v H' st'
    split at q
    · cases st'.rd
      exact ⟨_, rfl, q _ H' (st'.drop.fzOf fun _ => .bl _)⟩
    · exact q.elim
def mAndV (a b : DEnv → R D) : DEnv → R D := fun δ => (a δ).bind fun d δ' => match d with
  | .bl true => b δ'
  | .bl false => .ok (.bl false) δ'
  | _ => .stuck
def mOrV (a b : DEnv → R D) : DEnv → R D := fun δ => (a δ).bind fun d δ' => match d with
  | .bl true => .ok (.bl true) δ'
  | .bl false => b δ'
  | _ => .stuck
theorem de_one {op : BoolOp} {md : Mode (mdl X)} {m : DEnv → R D} (h : DE X W ms a md m) : DE X W ms (.BoolOp op [a] pos) md m := by
  obtain ⟨t, p, k⟩ := h.run
  exact ⟨t, pe_one p, k⟩
theorem de_and {md : Mode (mdl X)} {ma mb : DEnv → R D} {rest : List Expr} (h : DE X W ms a md ma) (hb : DE X W ms (.BoolOp .And (b :: rest) pos) fz mb) : DE X W ms (.BoolOp .And (a :: b :: rest) pos) fz (mAndV ma mb) := by
  obtain ⟨t, p, k⟩ := h.run
  obtain ⟨u, p2, k2⟩ := hb.run
  refine ⟨_, pe_and p p2, fun σ δ H τ Q st q => k σ δ H τ _ st ?_⟩
  unfold mAndV at q
  cases z : ma δ with
  | exc c δ' => rw [z] at q; exact q
  | stuck => rw [z] at q; exact q
  | ok d δ' =>
    rw [z, R.bind_ok] at q
    intro v H' st'
    split at q
    · cases st'.rd
      exact ⟨_, rfl, by rw [if_pos rfl]; exact k2 σ δ' H' τ Q st'.drop q⟩
    · cases st'.rd
      exact ⟨_, rfl, by rw [if_neg (by decide)]; exact q _ H' (st'.drop.fzOf fun _ => .bl _)⟩
    · exact q.elim
theorem de_or {md : Mode (mdl X)} {ma mb : DEnv → R D} {rest : List Expr} (h : DE X W ms a md ma) (hb : DE X W ms (.BoolOp .Or (b :: rest) pos) fz mb) : DE X W ms (.BoolOp .Or (a :: b :: rest) pos) fz (mOrV ma mb) := by
  obtain ⟨t, p, k⟩ := h.run
  obtain ⟨u, p2, k2⟩ := hb.run
  refine ⟨_, pe_or p p2, fun σ δ H τ Q st q => k σ δ H τ _ st ?_⟩
  unfold mOrV at q
  cases z : ma δ with
  | exc c δ' => rw [z] at q; exact q
  | stuck => rw [z] at q; exact q
  | ok d δ' =>
    rw [z, R.bind_ok] at q
    intro v H' st'
    split at q
    · cases st'.rd
      exact ⟨_, rfl, by rw [if_pos rfl]; exact q _ H' (st'.drop.fzOf fun _ => .bl _)⟩
    · cases st'.rd
      exact ⟨_, rfl, by rw [if_neg (by decide)]; exact k2 σ δ' H' τ Q st'.drop q⟩
    · exact q.elim
/-- a < b <= c -/
def mChain (a b c : DEnv → R D) (f g : D → D → Option D) : DEnv → R D := fun δ => (a δ).bind fun x δ1 => (b δ1).bind fun y δ2 => match f x y with
  | some (.bl true) => (c δ2).bind fun z δ3 => .of (g y z) δ3
  | some (.bl false) => .ok (.bl false) δ2
  | _ => .stuck
theorem relChain {ta tb tc : TE} {r r' : R2} {ma mb mc : DEnv → R D} {f g : D → D → Option D} (ra : RelE (X := X) W ms fz ta ma) (rb : RelE (X := X) W ms fz tb mb) (rc : RelE (X := X) W ms fz tc mc) (h : Op2 (mdl X) r fz fz fz f) (h' : Op2 (mdl X) r' fz fz fz g) :
    RelE (X := X) W ms fz (tChain r r' ta tb tc) (mChain ma mb mc f g) := by
  intro σ δ H τ Q st q
  refine ra σ δ H τ _ st ?_
  unfold mChain at q
  cases z : ma δ with
  | exc c δ' => rw [z] at q; exact q
  | stuck => rw [z] at q; exact q
  | ok x δ1 =>
    rw [z, R.bind_ok] at q
    intro v1 H1 st1
    refine rb σ δ1 H1 _ _ st1 ?_
    cases z2 : mb δ1 with
    | exc c δ' => rw [z2] at q; exact Wx.drop (Δ := [_]) q
    | stuck => rw [z2] at q; exact q
    | ok y δ2 =>
      rw [z2, R.bind_ok] at q
      intro v2 H2 st2
      cases zf : f x y with
      | none => rw [zf] at q; exact q.elim
      | some d =>
        rw [zf] at q
        obtain ⟨S, Γ, sl, ho⟩ := st2
        refine h S H2 _ v1 v2 x y d _ ho (ho.mem (List.mem_cons_of_mem _ (List.mem_cons_self ..))) (ho.mem (List.mem_cons_self ..)) zf fun v3 S3 H3 ho3 => ?_
        have st3 : StO ms σ δ2 H3 (fz.fam v3 d :: fz.fam v2 y :: fz.fam v1 x :: τ) := ⟨S3, Γ, sl, ho3⟩
        split at q
        · rename_i e3
          cases e3
          cases st3.rd
          refine ⟨_, rfl, ?_⟩
          rw [if_pos rfl]
          refine rc σ δ2 H3 (fz.fam v2 y :: τ) _ (st3.drop.swap.drop) ?_
          cases z3 : mc δ2 with
          | exc c δ' => rw [z3] at q; exact Wx.drop (Δ := [_]) q
          | stuck => rw [z3] at q; exact q
          | ok w δ3 =>
            rw [z3, R.bind_ok] at q
            intro v4 H4 st4
            cases zg : g y w with
            | none => rw [zg] at q; exact q.elim
            | some d' =>
              rw [zg] at q
              obtain ⟨S4, Γ4, sl4, ho4⟩ := st4
              exact h' S4 H4 _ v2 v4 y w d' _ ho4 (ho4.mem (List.mem_cons_of_mem _ (List.mem_cons_self ..))) (ho4.mem (List.mem_cons_self ..)) zg fun v5 S5 H5 ho5 => q v5 H5 (StO.drop (StO.swap (StO.drop (StO.swap ⟨S5, Γ4, sl4, ho5⟩))))
        · rename_i e3
          cases e3
          cases st3.rd
          refine ⟨_, rfl, ?_⟩
          rw [if_neg (by decide)]
          exact q _ H3 (st3.drop.drop.drop.fzOf fun _ => .bl _)
        · exact q.elim
theorem de_chain {op op' : CmpOp} {r r' : R2} {ma mb mc : DEnv → R D} {f g : D → D → Option D} (ho : OpR X (compareOp op) r) (ho' : OpR X (compareOp op') r') (ha : DE X W ms a fz ma) (hb : DE X W ms b fz mb) (hc : DE X W ms c fz mc) (h : Op2 (mdl X) r fz fz fz f) (h' : Op2 (mdl X) r' fz fz fz g)
    (hm : lastMarks [op, op'] [b, c] = false := by with_unfolding_all rfl) : DE X W ms (.Compare a [op, op'] [b, c] pos) fz (mChain ma mb mc f g) := by
  obtain ⟨ta, pa, ra⟩ := ha.run
  obtain ⟨tb, pb, rb⟩ := hb.run
  obtain ⟨tc, pc, rc⟩ := hc.run
  exact ⟨_, pe_chain ho ho' pa pb pc hm, relChain ra rb rc h h'⟩
theorem dt_chain {op op' : CmpOp} {r r' : R2} {ma mb mc : DEnv → R D} {f g : D → D → Option D} (ho : OpR X (compareOp op) r) (ho' : OpR X (compareOp op') r') (ha : DE X W ms a fz ma) (hb : DE X W ms b fz mb) (hc : DE X W ms c fz mc) (h : Op2 (mdl X) r fz fz fz f) (h' : Op2 (mdl X) r' fz fz fz g)
    (hm : lastMarks [op, op'] [b, c] = false := by with_unfolding_all rfl) : DT X W ms (.Compare a [op, op'] [b, c] pos) (mTest (mChain ma mb mc f g)) := by
  obtain ⟨ta, pa, ra⟩ := ha.run
  obtain ⟨tb, pb, rb⟩ := hb.run
  obtain ⟨tc, pc, rc⟩ := hc.run
  exact ⟨_, pt_chain ho ho' pa pb pc hm, relTest (relChain ra rb rc h h')⟩
end

/-! ### statements -/
inductive SR where
  | nx (δ : DEnv)
  | rt (d : D) (δ : DEnv)
  | bk (δ : DEnv)
  | ct (δ : DEnv)
  | exc (c : Str) (δ : DEnv)
  | stuck
def SR.seq (r : SR) (f : DEnv → SR) : SR := match r with
  | .nx δ => f δ
  | r => r
@[simp] theorem SR.seq_nx (δ : DEnv) (f : DEnv → SR) : (SR.nx δ).seq f = f δ := rfl
@[simp] theorem SR.seq_rt (d : D) (δ : DEnv) (f : DEnv → SR) : (SR.rt d δ).seq f = .rt d δ := rfl
@[simp] theorem SR.seq_bk (δ : DEnv) (f : DEnv → SR) : (SR.bk δ).seq f = .bk δ := rfl
@[simp] theorem SR.seq_ct (δ : DEnv) (f : DEnv → SR) : (SR.ct δ).seq f = .ct δ := rfl
@[simp] theorem SR.seq_exc (c : Str) (δ : DEnv) (f : DEnv → SR) : (SR.exc c δ).seq f = .exc c δ := rfl
@[simp] theorem SR.seq_stuck (f : DEnv → SR) : (SR.stuck).seq f = .stuck := rfl
/-- an expression's end, then .. -/
def R.thn {α : Type} (r : R α) (f : α → DEnv → SR) : SR := match r with
  | .ok a δ => f a δ
  | .exc c δ => .exc c δ
  | .stuck => .stuck
@[simp] theorem R.thn_ok {α : Type} (a : α) (δ : DEnv) (f : α → DEnv → SR) : (R.ok a δ).thn f = f a δ := rfl
@[simp] theorem R.thn_exc {α : Type} (c : Str) (δ : DEnv) (f : α → DEnv → SR) : (R.exc c δ).thn f = .exc c δ := rfl
@[simp] theorem R.thn_stuck {α : Type} (f : α → DEnv → SR) : (R.stuck).thn f = .stuck := rfl

def Keep (pn : List Nat) (σ σ' : St) : Prop := ∀ i ∈ pn, σ'[i]? = σ[i]?
theorem Keep.refl (pn : List Nat) (σ : St) : Keep pn σ σ := fun _ _ => rfl
theorem Keep.trans {pn : List Nat} {a b c : St} (h : Keep pn a b) (h' : Keep pn b c) : Keep pn a c := fun i hi => (h' i hi).trans (h i hi)
theorem Keep.set {pn : List Nat} {σ : St} {i : Nat} {v : Option V} (h : i ∉ pn) : Keep pn σ (σ.set i v) := fun j hj => List.getElem?_set_ne (fun e => h (by rw [e]; exact hj))

section
variable {X : Cx} {W : WX} {ms : List (Mode (mdl X))} {mr : Mode (mdl X)} {pn : List Nat}
def PostS (W : WX) (ms : List (Mode (mdl X))) (mr : Mode (mdl X)) (pn : List Nat) (σ : St) (τ : List Pc) (D : Ends) : SR → Prop
  | .nx δ' => ∀ σ' H', Keep pn σ σ' → StO ms σ' δ' H' τ → D.nx σ' H'
  | .rt d δ' => ∀ v σ' H', Keep pn σ σ' → StO ms σ' δ' H' (mr.fam v d :: τ) → D.rt v H'
  | .bk δ' => ∀ σ' H', Keep pn σ σ' → StO ms σ' δ' H' τ → D.bk σ' H'
  | .ct δ' => ∀ σ' H', Keep pn σ σ' → StO ms σ' δ' H' τ → D.ct σ' H'
  | .exc c δ' => ∀ σ', Keep pn σ σ' → Wx (X := X) W ms τ σ' c δ'
  | .stuck => False
def RelS (W : WX) (ms : List (Mode (mdl X))) (mr : Mode (mdl X)) (pn : List Nat) (t : TS) (m : DEnv → SR) : Prop := ∀ σ δ H τ (D : Ends), StO ms σ δ H τ → PostS W ms mr pn σ τ D (m δ) → t D σ H
structure DS (X : Cx) (W : WX) (ms : List (Mode (mdl X))) (mr : Mode (mdl X)) (pn : List Nat) (st : Stmt) (m : DEnv → SR) : Prop where
  run : ∃ t, PS X st t ∧ RelS W ms mr pn t m
structure DSs (X : Cx) (W : WX) (ms : List (Mode (mdl X))) (mr : Mode (mdl X)) (pn : List Nat) (st : List Stmt) (m : DEnv → SR) : Prop where
  run : ∃ t, PSs X st t ∧ RelS W ms mr pn t m
theorem PostS.keep {σ σ1 : St} {τ : List Pc} {D : Ends} (k : Keep pn σ σ1) : ∀ {r : SR}, PostS (X := X) W ms mr pn σ τ D r → PostS (X := X) W ms mr pn σ1 τ D r
  | .nx _, h => fun σ' H' k' => h σ' H' (k.trans k')
  | .rt _ _, h => fun v σ' H' k' => h v σ' H' (k.trans k')
  | .bk _, h => fun σ' H' k' => h σ' H' (k.trans k')
  | .ct _, h => fun σ' H' k' => h σ' H' (k.trans k')
  | .exc _ _, h => fun σ' k' => h σ' (k.trans k')
  | .stuck, h => h
def mNext : DEnv → SR := fun δ => .nx δ
def mSeq (a b : DEnv → SR) : DEnv → SR := fun δ => (a δ).seq b
variable {st : Stmt} {rest : List Stmt} {e : Expr} {pos : Pos}
theorem ds_nil : DSs X W ms mr pn [] mNext := ⟨_, pss_nil, fun σ δ H τ D st q => q σ H (Keep.refl _ _) st⟩
theorem ds_one {m : DEnv → SR} (h : DS X W ms mr pn st m) : DSs X W ms mr pn [st] m := by
  obtain ⟨t, p, k⟩ := h.run
  exact ⟨t, pss_one p, k⟩
theorem ds_cons {m m' : DEnv → SR} (h : DS X W ms mr pn st m) (h' : DSs X W ms mr pn rest m') : DSs X W ms mr pn (st :: rest) (mSeq m m') := by
  obtain ⟨t, p, k⟩ := h.run
  obtain ⟨u, p', k'⟩ := h'.run
  refine ⟨_, pss_cons p p', fun σ δ H τ D st q => k σ δ H τ _ st ?_⟩
  unfold mSeq at q
  cases z : m δ with
  | nx δ1 =>
    rw [z] at q
    exact fun σ1 H1 kp st1 => k' σ1 δ1 H1 τ D st1 (PostS.keep kp q)
  | rt d δ1 => rw [z] at q; exact q
  | bk δ1 => rw [z] at q; exact q
  | ct δ1 => rw [z] at q; exact q
  | exc c δ1 => rw [z] at q; exact q
  | stuck => rw [z] at q; exact q
def mBrk : DEnv → SR := fun δ => .bk δ
def mCnt : DEnv → SR := fun δ => .ct δ
theorem ds_pass : DS X W ms mr pn (.Pass pos) mNext := ⟨_, ps_pass, fun σ δ H τ D st q => q σ H (Keep.refl _ _) st⟩
theorem ds_brk : DS X W ms mr pn (.Break pos) mBrk := ⟨_, ps_break, fun σ δ H τ D st q => q σ H (Keep.refl _ _) st⟩
theorem ds_cnt : DS X W ms mr pn (.Continue pos) mCnt := ⟨_, ps_continue, fun σ δ H τ D st q => q σ H (Keep.refl _ _) st⟩
/-- code that is not come to -/
def mNever : DEnv → SR := fun _ => .stuck
theorem ds_never : DS X W ms mr pn st mNever := ⟨_, ps_never, fun σ δ H τ D st q => q.elim⟩
def mDrop (m : DEnv → R D) : DEnv → SR := fun δ => (m δ).thn fun _ δ' => .nx δ'
theorem ds_expr {md : Mode (mdl X)} {m : DEnv → R D} (h : DE X W ms e md m) (hs : swapsWith e none pos.line X.env = pure false := by rfl) : DS X W ms mr pn (.Expr e pos) (mDrop m) := by
  obtain ⟨t, p, k⟩ := h.run
  refine ⟨_, ps_expr p hs, fun σ δ H τ D st q => k σ δ H τ _ st ?_⟩
  unfold mDrop at q
  cases z : m δ with
  | ok d δ1 => rw [z] at q; exact fun v H' st' => q σ H' (Keep.refl _ _) st'.drop
  | exc c δ1 => rw [z] at q; exact q σ (Keep.refl _ _)
  | stuck => rw [z] at q; exact q
def mRet (m : DEnv → R D) : DEnv → SR := fun δ => (m δ).thn fun d δ' => .rt d δ'
theorem ds_ret {m : DEnv → R D} (h : DE X W ms e mr m) : DS X W ms mr pn (.Return (some e) pos) (mRet m) := by
  obtain ⟨t, p, k⟩ := h.run
  refine ⟨_, ps_ret p, fun σ δ H τ D st q => k σ δ H τ _ st ?_⟩
  unfold mRet at q
  cases z : m δ with
  | ok d δ1 => rw [z] at q; exact fun v H' st' => q v σ H' (Keep.refl _ _) st'
  | exc c δ1 => rw [z] at q; exact q σ (Keep.refl _ _)
  | stuck => rw [z] at q; exact q
def mAsg (i : Nat) (m : DEnv → R D) : DEnv → SR := fun δ => (m δ).thn fun d δ' => .nx (δ'.set i (some d))
theorem relAsg {i : Nat} {md : Mode (mdl X)} {t : TE} {m : DEnv → R D} (k : RelE (X := X) W ms md t m) (hm : ms[i]? = some md) (hp : i ∉ pn) : RelS (X := X) W ms mr pn (tAsg t (gName i)) (mAsg i m) := by
  intro σ δ H τ D st q
  refine k σ δ H τ _ st ?_
  unfold mAsg at q
  cases z : m δ with
  | ok d δ1 => rw [z] at q; exact fun v H' st' => q _ H' (Keep.set hp) (st'.setM hm)
  | exc c δ1 => rw [z] at q; exact q σ (Keep.refl _ _)
  | stuck => rw [z] at q; exact q
theorem ds_set {i : Nat} {x : Str} {pos' : Pos} {md : Mode (mdl X)} {m : DEnv → R D} (hN : X.N.Nodup) (h : DE X W ms e md m) (hi : X.N[i]? = some x := by rfl) (hx : Loc X.env.scope x := by first | exact .inl rfl | exact .inr rfl) (hm : ms[i]? = some md := by rfl) (hp : i ∉ pn := by exact of_decide_eq_true (by rfl))
    (hs : swapsWith e (some (.Name x pos')) pos.line X.env = pure false := by rfl) (hf : X.fn x = true ∨ X.env.scope.names.lookup x = some .local := by first | exact .inl rfl | exact .inr rfl) : DS X W ms mr pn (.Assign [.Name x pos'] e pos) (mAsg i m) := by
  obtain ⟨t, p, k⟩ := h.run
  exact ⟨_, ps_set hN hi hx p hs hf, relAsg k hm hp⟩
def mIf (c : DEnv → R Bool) (a b : DEnv → SR) : DEnv → SR := fun δ => (c δ).thn fun t δ' => if t = true then a δ' else b δ'
theorem ds_if {c : Expr} {a b : List Stmt} {mc : DEnv → R Bool} {ma mb : DEnv → SR} (hc : DT X W ms c mc) (ha : DSs X W ms mr pn a ma) (hb : DSs X W ms mr pn b mb) : DS X W ms mr pn (.If c a b pos) (mIf mc ma mb) := by
  obtain ⟨t, p, k⟩ := hc.run
  obtain ⟨ta, pa, ra⟩ := ha.run
  obtain ⟨tb, pb, rb⟩ := hb.run
  refine ⟨_, ps_if p pa pb, fun σ δ H τ D st q => k σ δ H τ _ st ?_⟩
  unfold mIf at q
  cases z : mc δ with
  | exc c δ1 => rw [z] at q; exact q σ (Keep.refl _ _)
  | stuck => rw [z] at q; exact q
  | ok d δ1 =>
    rw [z, R.thn_ok] at q
    intro H' st'
    cases d with
    | true => rw [if_pos rfl] at q ⊢; exact ra σ δ1 H' τ D st' q
    | false => rw [if_neg (by decide)] at q ⊢; exact rb σ δ1 H' τ D st' q
/-- x op= e, a shared slot -/
def mAug (i : Nat) (m : DEnv → R D) (f : D → D → Option D) : DEnv → SR := fun δ => match (δ[i]?).join with
  | some a => (m δ).thn fun b δ' => match f a b with
    | some d => .nx (δ'.set i (some d))
    | none => .stuck
  | none => .stuck
theorem ds_aug {i : Nat} {x : Str} {op : Operator} {ti : TIp} {pos' : Pos} {m : DEnv → R D} {f : D → D → Option D} (hN : X.N.Nodup) (h : DE X W ms e fz m) (ho : PIp X op ti) (hop : Op2 (mdl X) ti fz fz fz f) (hi : X.N[i]? = some x := by rfl) (hx : Loc X.env.scope x := by first | exact .inl rfl | exact .inr rfl) (hm : ms[i]? = some fz := by rfl) (hp : i ∉ pn := by exact of_decide_eq_true (by rfl))
    (hf : X.fn x = true ∨ X.env.scope.names.lookup x = some .local := by first | exact .inl rfl | exact .inr rfl) : DS X W ms mr pn (.AugAssign (.Name x pos') op e pos) (mAug i m f) := by
  obtain ⟨t, p, k⟩ := h.run
  refine ⟨_, ps_aug hN hi hx p ho hf, fun σ δ H τ D st q => ?_⟩
  unfold mAug at q
  cases z : δ[i]? with
  | none => rw [z] at q; exact q.elim
  | some o =>
    cases o with
    | none => rw [z] at q; exact q.elim
    | some a =>
      rw [z] at q
      obtain ⟨S, Γ, sl, ho⟩ := id st
      obtain ⟨v, m', e1, e2, e3⟩ := sl.mem z
      rw [hm] at e2; cases e2
      obtain ⟨F, r, _⟩ := ho.mem (List.mem_append_right τ e3)
      have st0 : StO ms σ δ H (fz.fam v a :: τ) := ⟨S, Γ, sl, ho.addFz r⟩
      refine ⟨v, e1, k σ δ H _ _ st0 ?_⟩
      dsimp only [Option.join] at q
      cases z2 : m δ with
      | exc c δ1 => rw [z2] at q; exact Wx.drop (Δ := [_]) (q σ (Keep.refl _ _))
      | stuck => rw [z2] at q; exact q
      | ok b δ1 =>
        rw [z2] at q
        intro w H1 st1
        obtain ⟨S1, Γ1, sl1, ho1⟩ := st1
        have q : PostS W ms mr pn σ τ D (match f a b with
          | some d => .nx (δ1.set i (some d))
          | none => .stuck) := q
        cases zf : f a b with
        | none => rw [zf] at q; exact q.elim
        | some d =>
          rw [zf] at q
          refine hop S1 H1 _ v w a b d _ ho1 (ho1.mem (List.mem_cons_of_mem _ (List.mem_cons_self ..))) (ho1.mem (List.mem_cons_self ..)) zf fun v3 S3 H3 ho3 => ?_
          have st3 : StO ms σ δ1 H3 (fz.fam v3 d :: fz.fam w b :: fz.fam v a :: τ) := ⟨S3, Γ1, sl1, ho3⟩
          exact q _ H3 (Keep.set hp) ((st3.swap.drop.swap.drop).setM hm)
theorem op2_ipI {f : Int → Int → Int} : Op2 (mdl X) (ipI f) fz fz fz (ii fun i j => some (f i j)) := op2_ii fun i j n H Q e q => by cases e; exact ⟨_, _, rfl, rfl, q⟩
theorem ipr_addS : PIp X .Add (fun x y H Q => ∃ i j, x = .str i ∧ y = .str j ∧ i.length + j.length ≤ sizeLine ∧ Q (.str (i ++ j)) H) := fun pins s σ H x y v u Q I rx ry h => iop_add_str pins s σ H x y v u Q I rx ry h
end
end DM
set_option maxRecDepth 100000
/-! Data mirror, part 7: defs and their calls. -/
namespace DM
open PySem PySem.Spec L2

structure Sig (M : Mdl) where
  ps : List (Mode M)
  io : List Bool
  rm : Mode M
inductive FR where
  | ok (d : D) (es : List D)
  | exc (c : Str) (es : List D)
  | stuck
abbrev Fn := List D → FR
def fams {M : Mdl} : List (Mode M) → List V → List D → List Pc
  | p :: ps, v :: vs, d :: ds => p.fam v d :: fams ps vs ds
  | _, _, _ => []
def famsIO {M : Mdl} : List Bool → List (Mode M) → List V → List D → List Pc
  | true :: io, p :: ps, v :: vs, e :: es => p.fam v e :: famsIO io ps vs es
  | false :: io, _ :: ps, _ :: vs, es => famsIO io ps vs es
  | _, _, _, _ => []
def outs : List Bool → DEnv → Option (List D)
  | true :: io, some d :: δ => match outs io δ with
    | some ds => some (d :: ds)
    | none => none
  | false :: io, _ :: δ => outs io δ
  | [], _ => some []
  | _, _ => none
def mkF (n : Nat) (io : List Bool) (body : DEnv → SR) : Fn := fun ds => match body (ds.map some ++ List.replicate n none) with
  | .rt d δ => match outs io δ with
    | some es => .ok d es
    | none => .stuck
  | .nx δ => match outs io δ with
    | some es => .ok .non es
    | none => .stuck
  | .exc c δ => match outs io δ with
    | some es => .exc c es
    | none => .stuck
  | _ => .stuck
def PostF {M : Mdl} (sg : Sig M) (vs : List V) (τ : List Pc) (Q : VK) (E : XK) : FR → Prop
  | .ok d es => ∀ v S' H', Holds S' H' (sg.rm.fam v d :: (famsIO sg.io sg.ps vs es ++ τ)) → Q v H'
  | .exc c es => ∀ S' H' C, Holds S' H' (famsIO sg.io sg.ps vs es ++ τ) → M.mg c = some (.ref C) → E (.ref C) none H'
  | .stuck => False
/-- the promise of a def by its mirror -/
def spD {M : Mdl} (sg : Sig M) (f : Fn) : Sp := fun vs H Q E => ∃ S ds τ, vs.length = sg.ps.length ∧ ds.length = sg.ps.length ∧ Holds S H (fams sg.ps vs ds ++ τ) ∧ PostF sg vs τ Q E (f ds)

/-! ### a def's entry and end -/
theorem Sl.start {M : Mdl} : ∀ {ps : List (Mode M)} {vs : List V} {ds : List D} (ext : List (Mode M)), vs.length = ps.length → ds.length = ps.length →
    Sl (ps ++ ext) (vs.map some ++ List.replicate ext.length none) (ds.map some ++ List.replicate ext.length none) (fams ps vs ds)
  | [], [], [], ext, _, _ => by
    simp only [List.nil_append, List.map_nil]
    induction ext with
    | nil => exact .nil
    | cons m r ih => exact .no ih
  | p :: ps, v :: vs, d :: ds, ext, h1, h2 => .yes (Sl.start ext (by simpa using h1) (by simpa using h2))
  | [], _ :: _, _, _, h, _ => by simp at h
  | [], [], _ :: _, _, _, h => by simp at h
  | _ :: _, [], _, _, h, _ => by simp at h
  | _ :: _, _ :: _, [], _, _, h => by simp at h
/-- the slots that are handed back -/
theorem Sl.outs {M : Mdl} {ext : List (Mode M)} : ∀ {io : List Bool} {ps : List (Mode M)} {vs : List V} {σ : St} {δ : DEnv} {Γ : List Pc} {es : List D}, Sl (ps ++ ext) σ δ Γ → DM.outs io δ = some es → io.length = ps.length → vs.length = ps.length →
    (∀ i : Nat, io[i]? = some true → σ[i]? = (vs.map some)[i]?) → ∃ Γ2, Γ.Perm (famsIO io ps vs es ++ Γ2)
  | [], _, _, _, _, Γ, _, _, e, _, _, _ => by cases e; exact ⟨Γ, List.Perm.refl _⟩
  | true :: io, p :: ps, v :: vs, _, _, _, es, h, e, h1, h2, k => by
    cases h with
    | no t => simp [DM.outs] at e
    | yes t =>
      unfold DM.outs at e
      split at e
      · rename_i ds z
        cases e
        obtain ⟨Γ2, q⟩ := Sl.outs (io := io) (vs := vs) t z (by simpa using h1) (by simpa using h2) fun i hi => by simpa using k (i + 1) (by simpa using hi)
        have e0 := k 0 rfl
        simp at e0
        subst e0
        exact ⟨Γ2, q.cons _⟩
      · cases e
  | false :: io, p :: ps, v :: vs, _, _, _, es, h, e, h1, h2, k => by
    cases h with
    | no t =>
      unfold DM.outs at e
      exact Sl.outs (io := io) (vs := vs) t e (by simpa using h1) (by simpa using h2) fun i hi => by simpa using k (i + 1) (by simpa using hi)
    | yes t =>
      unfold DM.outs at e
      obtain ⟨Γ2, q⟩ := Sl.outs (io := io) (vs := vs) t e (by simpa using h1) (by simpa using h2) fun i hi => by simpa using k (i + 1) (by simpa using hi)
      exact ⟨_, (q.cons _).trans List.perm_middle.symm⟩
  | _ :: _, [], _, _, _, _, _, _, _, h, _, _ => by simp at h
  | _ :: _, _ :: _, [], _, _, _, _, _, _, _, h, _ => by simp at h

def pnOf : Nat → List Bool → List Nat
  | _, [] => []
  | n, true :: r => n :: pnOf (n + 1) r
  | n, false :: r => pnOf (n + 1) r
theorem mem_pnOf : ∀ {io : List Bool} {n i : Nat}, io[i]? = some true → (n + i) ∈ pnOf n io
  | [], _, _, h => by simp at h
  | b :: r, n, 0, h => by
    simp at h; subst h
    exact List.mem_cons_self ..
  | b :: r, n, i + 1, h => by
    have := mem_pnOf (io := r) (n := n + 1) (i := i) (by simpa using h)
    have e : n + 1 + i = n + (i + 1) := by omega
    rw [e] at this
    cases b with
    | true => exact List.mem_cons_of_mem _ this
    | false => exact this

section
variable {P : Program} {w : World} {K : PySem.W.Frag} {mg : Str → Option Value} {base : Heap}
/-- a def keeps the promise by its mirror: its body does what the mirror's body does -/
theorem fn_ok {x qual : Str} {st : Stmt} {f : Addr} {fd : FuncData} {N ps : List Str} {k : Nat} (sg : Sig ⟨K, mg⟩) (ext : List (Mode ⟨K, mg⟩)) {body : DEnv → SR} (F : Fun K x qual st f fd) (S : FnScope N ps (defScope st))
    (hl : ps.length = sg.ps.length) (hio : sg.io.length = sg.ps.length) (hN : N.length = ps.length + ext.length)
    (hb : ∀ (cdv : Value) (A : Around) (outer : List PySem.Env) (s : Shared) (H : Hp) (E : XK), RoomG k (A.deeper (PyProof.Rows.envOfC qual (defScope st) s.heap.objs.size f cdv)) → Takes (cxOf (L2.CX P w) P w K mg base N qual (defScope st) f cdv A outer s H E) (fun cls d _ H => E cls d H) →
      PassesOwn (model P w) (cxOf (L2.CX P w) P w K mg base N qual (defScope st) f cdv A outer s H E).A (cxOf (L2.CX P w) P w K mg base N qual (defScope st) f cdv A outer s H E).env (cxOf (L2.CX P w) P w K mg base N qual (defScope st) f cdv A outer s H E).xe →
      DSs (cxOf (L2.CX P w) P w K mg base N qual (defScope st) f cdv A outer s H E) (fun cls d _ H => E cls d H) (sg.ps ++ ext) sg.rm (pnOf 0 sg.io) (defBody st) body) :
    FnOkG P w K mg base (L2.CX P w) (k + 1) f fd ps (spD sg (mkF ext.length sg.io body)) := by
  refine okG F S (fun vs H Q E h => ?_) fun cdv A outer s H vs Q E hr h => ?_
  · obtain ⟨_, _, _, e, _⟩ := h
    rw [e, hl]
  · obtain ⟨S0, ds, τ, e1, e2, ho, q⟩ := h
    obtain ⟨t, p, rel⟩ := (hb cdv A outer s H E hr (takes_of rfl rfl rfl rfl) (passes_of rfl)).run
    refine ⟨t, p, rel _ (ds.map some ++ List.replicate ext.length none) H τ _ ⟨S0, _, ?_, ho.perm List.perm_append_comm⟩ ?_⟩
    · have e3 : L2.start N vs = vs.map some ++ List.replicate ext.length none := by
        unfold L2.start
        rw [show N.length - vs.length = ext.length by omega]
      rw [e3]
      exact Sl.start ext e1 e2
    · unfold mkF at q
      have key : ∀ {σ' : St} {δ' : DEnv} {Γ : List Pc} {es : List D}, Keep (pnOf 0 sg.io) (L2.start N vs) σ' → Sl (sg.ps ++ ext) σ' δ' Γ → outs sg.io δ' = some es → ∃ Γ2, Γ.Perm (famsIO sg.io sg.ps vs es ++ Γ2) := fun {σ' δ' Γ es} kp sl ho => by
        refine sl.outs ho hio e1 fun i hi => ?_
        have e := kp i (by simpa using mem_pnOf (n := 0) hi)
        rw [e]
        unfold L2.start
        have hlt : i < sg.ps.length := by
          have := (List.getElem?_eq_some_iff.mp hi).1
          omega
        rw [List.getElem?_append_left (by simp; omega)]
      cases z : body (ds.map some ++ List.replicate ext.length none) with
      | rt d δ' =>
        rw [z] at q
        intro v σ' H' kp st'
        obtain ⟨S1, Γ, sl, ho1⟩ := st'
        dsimp only at q
        split at q
        · rename_i es zo
          obtain ⟨Γ2, pp⟩ := key kp sl zo
          refine q v S1 H' ?_
          have h1 : Holds S1 H' (Γ2 ++ (sg.rm.fam v d :: (famsIO sg.io sg.ps vs es ++ τ))) := ho1.perm ((pp.append_left _).trans (by
            refine (List.perm_append_comm_assoc _ _ _).trans ?_
            refine List.Perm.trans ?_ List.perm_append_comm
            show (famsIO sg.io sg.ps vs es ++ ((sg.rm.fam v d :: τ) ++ Γ2)).Perm ((sg.rm.fam v d :: (famsIO sg.io sg.ps vs es ++ τ)) ++ Γ2)
            rw [← List.append_assoc]
            exact List.perm_middle.append_right _))
          exact h1.dropL
        · exact q.elim
      | nx δ' =>
        rw [z] at q
        intro σ' H' kp st'
        obtain ⟨S1, Γ, sl, ho1⟩ := st'
        dsimp only at q
        split at q
        · rename_i es zo
          obtain ⟨Γ2, pp⟩ := key kp sl zo
          have h1 : Holds S1 H' (Γ2 ++ (famsIO sg.io sg.ps vs es ++ τ)) := ho1.perm ((pp.append_left _).trans ((List.perm_append_comm_assoc _ _ _).trans (by
            rw [← List.append_assoc]
            exact List.perm_append_comm)))
          exact q .non S1 H' (h1.dropL.scM rfl .non)
        · exact q.elim
      | exc c δ' =>
        rw [z] at q
        intro σ' kp H' C st' gC
        obtain ⟨S1, Γ, sl, ho1⟩ := st'
        dsimp only at q
        split at q
        · rename_i es zo
          obtain ⟨Γ2, pp⟩ := key kp sl zo
          have h1 : Holds S1 H' (Γ2 ++ (famsIO sg.io sg.ps vs es ++ τ)) := ho1.perm ((pp.append_left _).trans ((List.perm_append_comm_assoc _ _ _).trans (by
            rw [← List.append_assoc]
            exact List.perm_append_comm)))
          exact q S1 H' C h1.dropL gC
        · exact q.elim
      | bk δ' => rw [z] at q; exact q.elim
      | ct δ' => rw [z] at q; exact q.elim
      | stuck => rw [z] at q; exact q.elim
theorem fn_okL {x qual : Str} {st : Stmt} {f : Addr} {fd : FuncData} {N ps : List Str} {k : Nat} (sg : Sig ⟨K, mg⟩) (ext ms : List (Mode ⟨K, mg⟩)) (mr : Mode ⟨K, mg⟩) (pn : List Nat) (n : Nat) {io : List Bool} {body : DEnv → SR} (F : Fun K x qual st f fd) (S : FnScope N ps (defScope st))
    (hl : ps.length = sg.ps.length) (hio : sg.io.length = sg.ps.length) (hN : N.length = ps.length + ext.length) (hms : sg.ps ++ ext = ms) (hmr : sg.rm = mr) (hpn : pnOf 0 sg.io = pn) (hn : ext.length = n) (hi : sg.io = io)
    (hb : ∀ (cdv : Value) (A : Around) (outer : List PySem.Env) (s : Shared) (H : Hp) (E : XK), RoomG k (A.deeper (PyProof.Rows.envOfC qual (defScope st) s.heap.objs.size f cdv)) → Takes (cxOf (L2.CX P w) P w K mg base N qual (defScope st) f cdv A outer s H E) (fun cls d _ H => E cls d H) →
      PassesOwn (model P w) (cxOf (L2.CX P w) P w K mg base N qual (defScope st) f cdv A outer s H E).A (cxOf (L2.CX P w) P w K mg base N qual (defScope st) f cdv A outer s H E).env (cxOf (L2.CX P w) P w K mg base N qual (defScope st) f cdv A outer s H E).xe →
      DSs (cxOf (L2.CX P w) P w K mg base N qual (defScope st) f cdv A outer s H E) (fun cls d _ H => E cls d H) ms mr pn (defBody st) body) :
    FnOkG P w K mg base (L2.CX P w) (k + 1) f fd ps (spD sg (mkF n io body)) := by
  subst hms hmr hpn hn hi
  exact fn_ok sg ext F S hl hio hN hb
end

/-! ### a call -/
/-- the operands' data, the slots emptied -/
def takeO : List Opd → DEnv → Option (List D × DEnv)
  | [], δ => some ([], δ)
  | .v d :: r, δ => match takeO r δ with
    | some (ds, δ') => some (d :: ds, δ')
    | none => none
  | .s i :: r, δ => match δ[i]? with
    | some (some d) => match takeO r (δ.set i none) with
      | some (ds, δ') => some (d :: ds, δ')
      | none => none
    | _ => none
  | .p _ _ _ :: _, _ => none
/-- what is handed back, into the slots -/
def putO : List Bool → List Opd → List D → DEnv → Option DEnv
  | true :: io, .s i :: os, e :: es, δ => match δ[i]? with
    | some none => putO io os es (δ.set i (some e))
    | _ => none
  | true :: io, _ :: os, _ :: es, δ => putO io os es δ
  | false :: io, _ :: os, es, δ => putO io os es δ
  | _, _, _, δ => some δ
def mCall (f : Fn) (io : List Bool) (m : DEnv → R (List Opd)) : DEnv → R D := fun δ => (m δ).bind fun os δ1 => match takeO os δ1 with
  | some (ds, δ2) => match f ds with
    | .ok d es => match putO io os es δ2 with
      | some δ3 => .ok d δ3
      | none => .stuck
    | .exc c es => match putO io os es δ2 with
      | some δ3 => .exc c δ3
      | none => .stuck
    | .stuck => .stuck
  | none => .stuck

section
variable {M : Mdl} {ms : List (Mode M)} {σ : L2.St}
/-- the arguments' pieces side by side -/
theorem OpPs.gather {S H : Hp} {ks : List (Kd M)} {vs : List V} {os : List Opd} {Γa : List Pc} (h : OpPs M ms σ ks vs os Γa) : ∀ {δ δ' : DEnv} {ds : List D} {Γ τ : List Pc}, takeO os δ = some (ds, δ') → Sl ms σ δ Γ → Holds S H (Γa ++ (τ ++ Γ)) →
    ∃ Γ', Sl ms σ δ' Γ' ∧ Holds S H (fams (ks.map (Kd.mode ms)) vs ds ++ (τ ++ Γ')) ∧ vs.length = ds.length ∧ ks.length = ds.length := by
  induction h with
  | nil =>
    intro δ δ' ds Γ τ e sl ho
    cases e
    exact ⟨Γ, sl, ho, rfl, rfl⟩
  | @cons k v o Γ1 Δ ks vs os h1 t ih =>
    intro δ δ' ds Γ τ e sl ho
    cases h1 with
    | @v m v d =>
      unfold takeO at e
      split at e
      · rename_i ds' δ1 z
        cases e
        obtain ⟨Γ', sl', ho', e1, e2⟩ := ih (τ := m.fam v d :: τ) z sl (ho.perm (by
          show (m.fam v d :: (Δ ++ (τ ++ Γ))).Perm (Δ ++ (m.fam v d :: (τ ++ Γ)))
          exact List.perm_middle.symm))
        exact ⟨Γ', sl', ho'.perm List.perm_middle, by simp [e1], by simp [e2]⟩
      · cases e
    | @s i v ei =>
      unfold takeO at e
      split at e
      · rename_i d zi
        split at e
        · rename_i ds' δ1 z
          cases e
          obtain ⟨v', m, Γ2, f1, f2, f3, sl2⟩ := sl.take zi
          rw [ei] at f1; cases f1
          have hm : (Kd.s i : Kd M).mode ms = m := by
            show ms.getD i fz = m
            rw [List.getD_eq_getElem?_getD, f2]; rfl
          obtain ⟨Γ', sl', ho', e1, e2⟩ := ih (τ := m.fam v d :: τ) z sl2 (ho.perm (by
            show (Δ ++ (τ ++ Γ)).Perm (Δ ++ (m.fam v d :: (τ ++ Γ2)))
            exact ((f3.append_left τ).trans List.perm_middle).append_left Δ))
          refine ⟨Γ', sl', ?_, by simp [e1], by simp [e2]⟩
          rw [List.map_cons, hm]
          exact ho'.perm List.perm_middle
        · cases e
      · cases e
    | p _ _ => cases e
/-- .. handed back -/
theorem OpPs.back {S H : Hp} {ks : List (Kd M)} {vs : List V} {os : List Opd} {Γa : List Pc} (h : OpPs M ms σ ks vs os Γa) : ∀ {io : List Bool} {es : List D} {δ δ' : DEnv} {Γ τ : List Pc}, putO io os es δ = some δ' → Sl ms σ δ Γ → Holds S H (famsIO io (ks.map (Kd.mode ms)) vs es ++ (τ ++ Γ)) → StO ms σ δ' H τ := by
  induction h with
  | nil =>
    intro io es δ δ' Γ τ e sl ho
    have e' : δ = δ' := by
      cases io with
      | nil => exact Option.some.inj e
      | cons b io => cases b <;> exact Option.some.inj e
    subst e'
    have ho' : Holds S H (τ ++ Γ) := ho.dropL
    exact ⟨S, Γ, sl, ho'⟩
  | @cons k v o Γ1 Δ ks vs os h1 t ih =>
    intro io es δ δ' Γ τ e sl ho
    cases io with
    | nil =>
      cases e
      exact ⟨S, Γ, sl, ho.dropL⟩
    | cons b io =>
      cases b with
      | false =>
        have e' : putO io os es δ = some δ' := by cases h1 <;> exact e
        exact ih e' sl ho
      | true =>
        cases es with
        | nil =>
          have e' : δ = δ' := by cases h1 <;> exact Option.some.inj e
          subst e'
          exact ⟨S, Γ, sl, ho.dropL⟩
        | cons x es =>
          cases h1 with
          | @v m v d => exact ih (show putO io os es δ = some δ' from e) sl (Holds.drop (P := m.fam v x) ho)
          | @s i v ei =>
            unfold putO at e
            split at e
            · rename_i zi
              by_cases hlt : i < ms.length
              · have f2 : ms[i]? = some (ms[i]) := List.getElem?_eq_getElem hlt
                have hm : (Kd.s i : Kd M).mode ms = ms[i] := by
                  show ms.getD i fz = _
                  rw [List.getD_eq_getElem?_getD, f2]; rfl
                obtain ⟨Γ', pp, sl'⟩ := sl.put x f2 zi ei
                refine ih e sl' (ho.perm ?_)
                rw [List.map_cons, hm]
                show (ms[i].fam v x :: (famsIO io (ks.map (Kd.mode ms)) vs es ++ (τ ++ Γ))).Perm (famsIO io (ks.map (Kd.mode ms)) vs es ++ (τ ++ Γ'))
                refine List.perm_middle.symm.trans (List.Perm.append_left _ ?_)
                exact (List.perm_middle.symm).trans (pp.symm.append_left τ)
              · have := (List.getElem?_eq_some_iff.mp zi).1
                rw [sl.len.2] at this
                exact absurd this hlt
            · cases e
          | @p i m m0 v v0 d g e1 e2 => exact ih (show putO io os es δ = some δ' from e) sl (Holds.drop (P := m.fam v x) ho)
end

section
variable {X : Cx} {W : WX} {ms : List (Mode (mdl X))}
/-- a def of the module, at a level, by its mirror -/
def Cal (P : Program) (w : World) (M : Mdl) (base : Heap) (k : Nat) (x : Str) (ps : List Str) (sg : Sig M) (fn : Fn) : Prop :=
  ∃ f fd, M.mg x = some (.ref f) ∧ PySem.W.keepIn M.K (.ref f) = true ∧ Binds M.K fd ps [] ∧ FnOkG P w M.K M.mg base (L2.CX P w) k f fd ps (spD sg fn)
theorem spD_of {sg : Sig (mdl X)} {fn : Fn} {ks : List (Kd (mdl X))} {vs : List V} {os : List Opd} {Γa τ : List Pc} {σ : L2.St} {δ : DEnv} {H : Hp} {Q : VK} (ops : OpPs (mdl X) ms σ ks vs os Γa) (st : StO ms σ δ H (Γa ++ τ)) (hk : ks.map (Kd.mode ms) = sg.ps) (hn : ks.length = sg.ps.length)
    (q : PostE W ms sg.rm σ τ Q (match takeO os δ with
      | some (ds, δ2) => match fn ds with
        | .ok d es => match putO sg.io os es δ2 with
          | some δ3 => .ok d δ3
          | none => .stuck
        | .exc c es => match putO sg.io os es δ2 with
          | some δ3 => .exc c δ3
          | none => .stuck
        | .stuck => .stuck
      | none => .stuck)) : spD sg fn vs H Q (WE W σ) := by
  cases z : takeO os δ with
  | none => rw [z] at q; exact q.elim
  | some x =>
    obtain ⟨ds, δ2⟩ := x
    rw [z] at q
    dsimp only at q
    obtain ⟨S, Γ, sl, ho⟩ := st
    rw [List.append_assoc] at ho
    obtain ⟨Γ', sl', ho', e1, e2⟩ := ops.gather z sl ho
    rw [hk] at ho'
    refine ⟨S, ds, τ ++ Γ', by rw [e1, ← e2, hn], by rw [← e2, hn], ho', ?_⟩
    cases zf : fn ds with
    | ok d es =>
      rw [zf] at q
      dsimp only at q
      intro v S1 H1 h1
      cases zp : putO sg.io os es δ2 with
      | none => rw [zp] at q; exact q.elim
      | some δ3 =>
        rw [zp] at q
        refine q v H1 (ops.back zp sl' (τ := sg.rm.fam v d :: τ) (h1.perm ?_))
        rw [hk]
        exact List.perm_middle.symm
    | exc c es =>
      rw [zf] at q
      dsimp only at q
      intro S1 H1 C h1 gC
      cases zp : putO sg.io os es δ2 with
      | none => rw [zp] at q; exact q.elim
      | some δ3 =>
        rw [zp] at q
        refine q H1 C (ops.back zp sl' (τ := τ) (h1.perm ?_)) gC
        rw [hk]
    | stuck => rw [zf] at q; exact q.elim
/-- f(e, ..) -/
theorem de_call {rm : Mode (mdl X)} {io : List Bool} {x : Str} {ps : List Str} {sg : Sig (mdl X)} {fn : Fn} {k : Nat} {ks : List (Kd (mdl X))} {m : DEnv → R (List Opd)} {p pos : Pos} {e : Expr} {es : List Expr} (hc : Cal X.prog X.w (mdl X) X.base k x ps sg fn) (hr : RoomG k X.A) (tk : Takes X W) (ha : DA X W ms (e :: es) ks m)
    (hg : Gl X x := by rfl) (hk : ks.map (Kd.mode ms) = sg.ps := by rfl) (hn : ks.length = sg.ps.length := by rfl) (hdb : (x == ("__debug__" : Str)) = false := by decide) (he : starEach (e :: es) X.env = (false, eval e X.env) :: starEach es X.env := by rfl) (hpl : (backTo pos (starEach es X.env)).any (·.1) = false := by rfl) (hrm : sg.rm = rm := by rfl) (hio : sg.io = io := by rfl) :
    DE X W ms (.Call (.Name x p) (e :: es) [] pos) rm (mCall fn io m) := by
  subst hrm hio
  obtain ⟨f, fd, gf, kp, bd, F⟩ := hc
  obtain ⟨t, pa, ra⟩ := ha.run
  refine ⟨_, pe_callG F hr hg gf kp bd (fun σ => passAt tk σ) pa hdb he hpl, fun σ δ H τ Q st q => ra σ δ H τ _ st ?_⟩
  unfold mCall at q
  cases z : m δ with
  | exc c δ' => rw [z] at q; exact q
  | stuck => rw [z] at q; exact q
  | ok os δ1 =>
    rw [z, R.bind_ok] at q
    exact fun vs H1 Γa ops st1 => spD_of ops st1 hk hn q
end
end DM
set_option maxRecDepth 100000
/-! Data mirror, part 8: targets, what is walked, for, while, comprehensions. -/
namespace DM
open PySem PySem.Spec L2

/-! ### targets -/
abbrev Tg := D → DEnv → Option DEnv
section
variable {X : Cx} {W : WX} {ms : List (Mode (mdl X))} {pn : List Nat} {pos : Pos}
structure DG (X : Cx) (ms : List (Mode (mdl X))) (pn : List Nat) (tg : Expr) (f : Tg) : Prop where
  run : ∃ g, PG X tg g ∧ ∀ v d σ δ δ' H τ (Q : L2.St → Hp → Prop), StO ms σ δ H ((fz (M := mdl X)).fam v d :: τ) → f d δ = some δ' → (∀ σ', Keep pn σ σ' → σ'.length = σ.length → StO ms σ' δ' H τ → Q σ' H) → g v σ H Q
structure DGs (X : Cx) (ms : List (Mode (mdl X))) (pn : List Nat) (tgs : List Expr) (f : List D → DEnv → Option DEnv) : Prop where
  run : ∃ g, PGs X tgs g ∧ ∀ vs ds σ δ δ' H τ (Q : L2.St → Hp → Prop), vs.length = ds.length → StO ms σ δ H (fams (ds.map fun _ => (fz (M := mdl X))) vs ds ++ τ) → f ds δ = some δ' → (∀ σ', Keep pn σ σ' → σ'.length = σ.length → StO ms σ' δ' H τ → Q σ' H) → g vs σ H Q
def tName (i : Nat) : Tg := fun d δ => some (δ.set i (some d))
theorem dg_name {i : Nat} {x : Str} (hN : X.N.Nodup) (hi : X.N[i]? = some x := by rfl) (hx : Loc X.env.scope x := by first | exact .inl rfl | exact .inr rfl) (hm : ms[i]? = some fz := by rfl) (hp : i ∉ pn := by exact of_decide_eq_true (by rfl))
    (hf : X.fn x = true ∨ X.env.scope.names.lookup x = some .local := by first | exact .inl rfl | exact .inr rfl) : DG X ms pn (.Name x pos) (tName i) := by
  refine ⟨_, pg_name hN hi hx hf, fun v d σ δ δ' H τ Q st e k => ?_⟩
  cases e
  exact k _ (Keep.set hp) (by simp) (st.setM hm)
def uNil : List D → DEnv → Option DEnv
  | [], δ => some δ
  | _ :: _, _ => none
def uCons (a : Tg) (r : List D → DEnv → Option DEnv) : List D → DEnv → Option DEnv
  | d :: ds, δ => match a d δ with
    | some δ' => r ds δ'
    | none => none
  | [], _ => none
theorem dgs_nil : DGs X ms pn [] uNil := by
  refine ⟨_, pgs_nil, fun vs ds σ δ δ' H τ Q hl st e k => ?_⟩
  cases ds with
  | nil =>
    cases vs with
    | nil => cases e; exact ⟨rfl, k σ (Keep.refl _ _) rfl st⟩
    | cons _ _ => simp at hl
  | cons _ _ => cases e
theorem dgs_cons {e : Expr} {es : List Expr} {a : Tg} {r : List D → DEnv → Option DEnv} (h : DG X ms pn e a) (h' : DGs X ms pn es r) (hs : (assignEach (e :: es) X.env).map (·.2) = assign e X.env :: (assignEach es X.env).map (·.2) := by rfl) : DGs X ms pn (e :: es) (uCons a r) := by
  obtain ⟨g, pg, k1⟩ := h.run
  obtain ⟨gs, pgs, k2⟩ := h'.run
  refine ⟨_, pgs_cons pg pgs hs, fun vs ds σ δ δ' H τ Q hl st e k => ?_⟩
  cases ds with
  | nil => cases e
  | cons d ds =>
    cases vs with
    | nil => simp at hl
    | cons v vs =>
      unfold uCons at e
      dsimp only at e
      split at e
      · rename_i δ1 z
        refine ⟨v, vs, rfl, k1 v d σ δ δ1 H (fams (ds.map fun _ => fz) vs ds ++ τ) _ st z fun σ' kp hl' st' => ?_⟩
        exact k2 vs ds σ' δ1 δ' H τ Q (by simpa using hl) st' e fun σ2 kp2 hl2 st2 => k σ2 (kp.trans kp2) (hl2.trans hl') st2
      · cases e
theorem PG.or {tg : Expr} {t u : TG} (h : PG X tg t) (h' : PG X tg u) : PG X tg (fun v σ H Q => t v σ H Q ∨ u v σ H Q) := by
  refine ⟨fun pins s σ H v w Q I r q => ?_⟩
  rcases q with q | q
  · exact h.run pins s σ H v w Q I r q
  · exact h'.run pins s σ H v w Q I r q
theorem fams_fz {M : Mdl} {S : Hp} : ∀ {vs : List V} {ds : List D}, RepL M S vs ds → ∀ P ∈ fams (ds.map fun _ => (fz (M := M))) vs ds, Stb P ∧ ∀ (H : Hp) (F : Foot), (∀ a, ¬ F a) → P S H F
  | _, _, .nil, P, h => absurd h (by simp [fams])
  | _, _, .cons (v := v) (d := d) r t, P, h => by
    rcases List.mem_cons.mp (show P ∈ fz.fam v d :: fams _ _ _ from h) with rfl | h
    · exact ⟨fz.stb _ _, fun H F n => ⟨r, n⟩⟩
    · exact fams_fz t P h
theorem Holds.pures {S H : Hp} {Γ : List Pc} : ∀ {Δ : List Pc}, Holds S H Γ → (∀ P ∈ Δ, Stb P ∧ ∀ (H : Hp) (F : Foot), (∀ a, ¬ F a) → P S H F) → Holds S H (Δ ++ Γ)
  | [], h, _ => h
  | P :: Δ, h, k => (Holds.pures h fun Q hq => k Q (List.mem_cons_of_mem _ hq)).pure (k P (List.mem_cons_self ..)).1 fun F n => (k P (List.mem_cons_self ..)).2 H F n
def tUnp (n : Nat) (r : List D → DEnv → Option DEnv) : Tg := fun d δ => match d with
  | .tup ds => if ds.length = n then r ds δ else none
  | .lst ds => if ds.length = n then r ds δ else none
  | _ => none
theorem dg_tup {es : List Expr} {k n : Nat} {r : List D → DEnv → Option DEnv} (hc : X.calm = true) (h : DGs X ms pn es r) (hn : (assignEach es X.env).length = n := by rfl) (hst : (assignEach es X.env).findIdx? (·.1) = none := by rfl) : DG X ms pn (.Tuple es k pos) (tUnp n r) := by
  obtain ⟨g, pg, kk⟩ := h.run
  refine ⟨_, PG.or (pg_tup hc pg hn hst) (pg_lst hc pg hn hst), fun v d σ δ δ' H τ Q st e q => ?_⟩
  obtain ⟨S, Γ, sl, ho⟩ := id st
  obtain ⟨F, rp, _⟩ := ho.mem (List.mem_cons_self ..)
  unfold tUnp at e
  split at e
  · rename_i ds
    split at e
    · rename_i hl
      cases rp with
      | tup h1 r1 =>
        refine .inl ⟨_, _, rfl, ho.ex.t h1, by rw [r1.length]; exact hl, kk _ ds σ δ δ' H τ Q r1.length ⟨S, Γ, sl, ?_⟩ e q⟩
        rw [List.append_assoc]
        exact ho.drop.pures (fams_fz r1)
    · cases e
  · rename_i ds
    split at e
    · rename_i hl
      cases rp with
      | lst h1 r1 =>
        refine .inr ⟨_, _, rfl, SqL.of (ho.ex _ _ h1), by rw [r1.length]; exact hl, kk _ ds σ δ δ' H τ Q r1.length ⟨S, Γ, sl, ?_⟩ e q⟩
        rw [List.append_assoc]
        exact ho.drop.pures (fams_fz r1)
    · cases e
  · cases e
/-- a, b = e -/
def mAsgT (f : Tg) (m : DEnv → R D) : DEnv → SR := fun δ => (m δ).thn fun d δ' => match f d δ' with
  | some δ2 => .nx δ2
  | none => .stuck
theorem ds_asgT {mr : Mode (mdl X)} {tg e : Expr} {f : Tg} {m : DEnv → R D} (hg : DG X ms pn tg f) (he : DE X W ms e fz m) (hs : swapsWithSole [tg] e pos.line X.env = pure false := by rfl) (hw : swappedStores [tg] e X.env = pure none := by rfl)
    (h1 : (assignEach [tg] X.env).map (·.2) = [assign tg X.env] := by rfl) : DS X W ms mr pn (.Assign [tg] e pos) (mAsgT f m) := by
  obtain ⟨t, p, k⟩ := he.run
  obtain ⟨g, pg, kg⟩ := hg.run
  refine ⟨_, ps_asg p pg hs hw h1, fun σ δ H τ D st q => k σ δ H τ _ st ?_⟩
  unfold mAsgT at q
  cases z : m δ with
  | exc c δ1 => rw [z] at q; exact q σ (Keep.refl _ _)
  | stuck => rw [z] at q; exact q
  | ok d δ1 =>
    rw [z, R.thn_ok] at q
    intro v H' st'
    split at q
    · rename_i δ2 z2
      exact kg v d σ δ1 δ2 H' τ _ st' z2 fun σ' kp _ st2 => q σ' H' kp st2
    · exact q.elim

/-! ### what is walked -/
structure Walks (M : Mdl) (J : It) (P : Pc) (items : List D) : Prop where
  go : ∀ (i : Nat) (d : D), items[i]? = some d → ∀ (S H : Hp) (Γ : List Pc), Holds S H (P :: Γ) → J.go i H ∧ ∀ x H', J.yld i H x H' → ∃ S', Holds S' H' ((fz (M := M)).fam x d :: P :: Γ)
  stop : ∀ (i : Nat), items.length ≤ i → ∀ (S H : Hp) (Γ : List Pc), Holds S H (P :: Γ) → J.stop i H
abbrev Fin := DEnv → Option DEnv
abbrev Src := DEnv → R (List D × Fin)
def PostI (W : WX) (ms : List (Mode (mdl X))) (kp : List Nat) (σ : L2.St) (τ : List Pc) (T : It → Hp → Prop) : R (List D × Fin) → Prop
  | .ok x δ1 => ∀ (J : It) (H' : Hp) (P : Pc) (Δ : List Pc), Walks (mdl X) J P x.1 → StO ms σ δ1 H' (P :: (Δ ++ τ)) → (∀ σ' δ2 δ3 H2 τ2, Keep kp σ σ' → StO ms σ' δ2 H2 (P :: (Δ ++ τ2)) → x.2 δ2 = some δ3 → StO ms σ' δ3 H2 τ2) → T J H'
  | .exc c δ' => Wx (X := X) W ms τ σ c δ'
  | .stuck => False
structure DI (X : Cx) (W : WX) (ms : List (Mode (mdl X))) (kp : List Nat) (tg iter : Expr) (m : Src) : Prop where
  run : ∃ wi, PI X tg iter wi ∧ ∀ σ δ H τ (T : It → Hp → Prop), StO ms σ δ H τ → PostI (X := X) W ms kp σ τ T (m δ) → wi σ H T
/-- the slots that an operand leans on -/
def Kd.kp {M : Mdl} : Kd M → List Nat
  | .p i _ => [i]
  | _ => []
def Opd.data : Opd → D
  | .v d => d
  | .p _ d _ => d
  | .s _ => .non
def srcOf (f : D → Option (List D)) (δ1 : DEnv) (o : Opd) : R (List D × Fin) := match o with
  | .v d => match f d with
    | some ds => .ok (ds, some) δ1
    | none => .stuck
  | .p i d g => match f d with
    | some ds => .ok (ds, fun δ2 => (Opd.p i d g).fin δ2) δ1
    | none => .stuck
  | .s _ => .stuck
def mSrc (o : DEnv → R Opd) (f : D → Option (List D)) : Src := fun δ => (o δ).bind fun o δ1 => srcOf f δ1 o
/-- from an operand: what it is held by, walked by J -/
theorem post_src {kd : Kd (mdl X)} {σ : L2.St} {δ1 : DEnv} {H' : Hp} {τ : List Pc} {T : It → Hp → Prop} {f : D → Option (List D)} {v : V} {o : Opd} {Γa : List Pc} (op : OpP (mdl X) ms σ kd v o Γa) (st : StO ms σ δ1 H' (Γa ++ τ)) (hk : ∀ i, kd ≠ .s i)
    (q : PostI (X := X) W ms kd.kp σ τ T (srcOf f δ1 o)) : ∃ ds, f o.data = some ds ∧ (∃ S Γ', Holds S H' ((kd.mode ms).fam v o.data :: Γ') ) ∧ ∀ J, Walks (mdl X) J ((kd.mode ms).fam v o.data) ds → T J H' := by
  unfold srcOf at q
  cases op with
  | @v m v d =>
    dsimp only at q
    cases z : f d with
    | none => rw [z] at q; exact q.elim
    | some ds =>
      rw [z] at q
      refine ⟨ds, z, let ⟨S, Γ, _, ho⟩ := st; ⟨S, _, ho⟩, fun J w => q J H' _ [] w st fun σ' δ2 δ3 H2 τ2 _ st2 e => ?_⟩
      cases e
      exact st2.drop
  | s _ => exact absurd rfl (hk _)
  | @p i m m0 v v0 d g e1 e2 =>
    dsimp only at q
    cases z : f d with
    | none => rw [z] at q; exact q.elim
    | some ds =>
      rw [z] at q
      refine ⟨ds, z, let ⟨S, Γ, _, ho⟩ := st; ⟨S, _, ho⟩, fun J w => q J H' _ [Wnd (m.fam v) fun d => m0.fam v0 (g d)] w st fun σ' δ2 δ3 H2 τ2 kp st2 e => ?_⟩
      have e1' : σ'[i]? = some (some v0) := (kp i (List.mem_cons_self ..)).trans e1
      exact (OpP.p (M := mdl X) (ms := ms) (σ := σ') (m := m) e1' e2).fin st2 e
def seqD : D → Option (List D)
  | .lst ds => some ds
  | .tup ds => some ds
  | .str z => some (z.cps.toList.map fun c => D.str ⟨#[c]⟩)
  | .scr ns => some (ns.map D.int)
  | _ => none
theorem PI.or {tg e : Expr} {t u : TI} (h : PI X tg e t) (h' : PI X tg e u) : PI X tg e (fun σ H R => t σ H R ∨ u σ H R) := by
  refine ⟨fun pins s σ H R I q => ?_⟩
  rcases q with q | q
  · exact h.run pins s σ H R I q
  · exact h'.run pins s σ H R I q
theorem walks_list {K : PySem.W.Frag} {m : Mode (mdl X)} {a : Addr} {ds : List D} (fm : Flat m) (hK : K = X.K) : Walks (mdl X) (Itl K a) (m.fam (.ref a) (.lst ds)) ds := by
  subst hK
  constructor
  · intro i d e S H Γ ho
    have sn : Seen S H m (.ref a) (.lst ds) := ho.mem (List.mem_cons_self ..)
    obtain ⟨a', vs, ea, h1, r1⟩ := sn.lstF fm ho.ex
    cases ea
    obtain ⟨x, e1, r2⟩ := r1.get e
    refine ⟨⟨vs, x, SqL.of h1, e1⟩, fun y H' hy => ?_⟩
    obtain ⟨rfl, hy⟩ := hy
    have := hy vs (SqL.of h1)
    rw [e1] at this; cases this
    exact ⟨S, ho.addFz r2⟩
  · intro i hi S H Γ ho
    have sn : Seen S H m (.ref a) (.lst ds) := ho.mem (List.mem_cons_self ..)
    obtain ⟨a', vs, ea, h1, r1⟩ := sn.lstF fm ho.ex
    cases ea
    exact ⟨vs, SqL.of h1, by rw [r1.length]; exact hi⟩
theorem walks_tup {K : PySem.W.Frag} {m : Mode (mdl X)} {a : Addr} {ds : List D} (fm : Flat m) (hK : K = X.K) : Walks (mdl X) (Itt K a) (m.fam (.ref a) (.tup ds)) ds := by
  subst hK
  have key : ∀ (S H : Hp) (Γ : List Pc), Holds S H (m.fam (.ref a) (.tup ds) :: Γ) → ∃ vs, SqT X.K H a vs ∧ RepL (mdl X) S vs ds ∧ SqT X.K S a vs := fun S H Γ ho => by
    obtain ⟨F, p⟩ := ho.mem (List.mem_cons_self ..)
    rcases fm.get p with r | r
    · cases r with | tup h1 r1 => exact ⟨_, ho.ex.t h1, r1, h1⟩
    · exact r.elim
  constructor
  · intro i d e S H Γ ho
    obtain ⟨vs, h1, r1, _⟩ := key S H Γ ho
    obtain ⟨x, e1, r2⟩ := r1.get e
    refine ⟨⟨vs, x, h1, e1⟩, fun y H' hy => ?_⟩
    obtain ⟨rfl, hy⟩ := hy
    have := hy vs h1
    rw [e1] at this; cases this
    exact ⟨S, ho.addFz r2⟩
  · intro i hi S H Γ ho
    obtain ⟨vs, h1, r1, _⟩ := key S H Γ ho
    exact ⟨vs, h1, by rw [r1.length]; exact hi⟩
theorem walks_str {P : Pc} {z : Str} : Walks (mdl X) (Its z) P (z.cps.toList.map fun c => D.str ⟨#[c]⟩) := by
  constructor
  · intro i d e S H Γ ho
    rw [List.getElem?_map] at e
    obtain ⟨c, e1, e2⟩ := Option.map_eq_some_iff.mp e
    have e3 : z.cps[i]? = some c := by simpa using e1
    refine ⟨(Array.getElem?_eq_some_iff.mp e3).1, fun y H' hy => ?_⟩
    obtain ⟨rfl, c', e4, rfl⟩ := hy
    rw [e3] at e4; cases e4
    subst e2
    exact ⟨S, ho.addFz (.str _)⟩
  · intro i hi S H Γ ho
    exact (show z.cps.size ≤ i by simpa using hi)
theorem walks_scr {K : PySem.W.Frag} {m : Mode (mdl X)} {a : Addr} {ns : List Int} (hK : K = X.K) : Walks (mdl X) (Itl K a) (m.fam (.ref a) (.scr ns)) (ns.map D.int) := by
  subst hK
  have key : ∀ (S H : Hp) (Γ : List Pc), Holds S H (m.fam (.ref a) (.scr ns) :: Γ) → SqL X.K H a (ns.map V.int) := fun S H Γ ho => by
    have sn : Seen S H m (.ref a) (.scr ns) := ho.mem (List.mem_cons_self ..)
    obtain ⟨a', e, h⟩ := sn.scr ho.ex
    cases e
    exact h
  constructor
  · intro i d e S H Γ ho
    have h1 := key S H Γ ho
    rw [List.getElem?_map] at e
    obtain ⟨n, e1, e2⟩ := Option.map_eq_some_iff.mp e
    subst e2
    have e3 : (ns.map V.int)[i]? = some (.int n) := by rw [List.getElem?_map, e1]; rfl
    refine ⟨⟨_, _, h1, e3⟩, fun y H' hy => ?_⟩
    obtain ⟨rfl, hy⟩ := hy
    have := hy _ h1
    rw [e3] at this; cases this
    exact ⟨S, ho.addFz (.int _)⟩
  · intro i hi S H Γ ho
    exact ⟨_, key S H Γ ho, by simpa using hi⟩
/-- one operand, walked as its shape asks -/
theorem rel_src {kd : Kd (mdl X)} {m : DEnv → R Opd} {t : TE} {f : D → Option (List D)} (k : RelO W ms kd t m) (hk : ∀ i, kd ≠ .s i) {σ : L2.St} {δ : DEnv} {H : Hp} {τ : List Pc} {T : It → Hp → Prop} (st : StO ms σ δ H τ) (q : PostI (X := X) W ms kd.kp σ τ T (mSrc m f δ)) (Q : VK)
    (go : ∀ o δ1 v H' ds, m δ = .ok o δ1 → f o.data = some ds → (∃ S Γ', Holds S H' ((kd.mode ms).fam v o.data :: Γ')) → (∀ J, Walks (mdl X) J ((kd.mode ms).fam v o.data) ds → T J H') → Q v H') : t σ H Q := by
  refine k σ δ H τ Q st ?_
  unfold mSrc at q
  cases z : m δ with
  | exc c δ' => rw [z] at q; exact q
  | stuck => rw [z] at q; exact q
  | ok o δ1 =>
    rw [z, R.bind_ok] at q
    intro v H' Γa op st'
    obtain ⟨ds, e1, e2, e3⟩ := post_src op st' hk q
    exact go o δ1 v H' ds z e1 e2 e3
/-- a list, a tuple, a text, the script -/
theorem di_seq {tg e : Expr} {kd : Kd (mdl X)} {m : DEnv → R Opd} (h : DO X W ms e kd m) (hf : Flat (kd.mode ms)) (hk : ∀ i, kd ≠ .s i := by intro i z; cases z) : DI X W ms kd.kp tg e (mSrc m seqD) := by
  obtain ⟨t, pe, k⟩ := h.run
  refine ⟨_, PI.or (pi_list pe) (PI.or (pi_tup pe) (pi_str pe)), fun σ δ H τ T st q => ?_⟩
  cases z : m δ with
  | exc c δ' => exact .inl (rel_src k hk st q _ fun o δ1 v H' ds e => by rw [z] at e; cases e)
  | stuck => exact .inl (rel_src k hk st q _ fun o δ1 v H' ds e => by rw [z] at e; cases e)
  | ok o δ1 =>
    cases zd : o.data with
    | lst xs =>
      refine .inl (rel_src k hk st q _ fun o' δ' v H' ds e f ho w => ?_)
      rw [z] at e; cases e
      rw [zd] at f ho w
      cases f
      obtain ⟨S, Γ', ho⟩ := ho
      obtain ⟨a, vs, rfl, h1, r1⟩ := Seen.lst (ho.mem (List.mem_cons_self ..)) ho.ex
      exact ⟨a, rfl, ⟨vs, SqL.of h1⟩, w _ (walks_list hf rfl)⟩
    | scr xs =>
      refine .inl (rel_src k hk st q _ fun o' δ' v H' ds e f ho w => ?_)
      rw [z] at e; cases e
      rw [zd] at f ho w
      cases f
      obtain ⟨S, Γ', ho⟩ := ho
      obtain ⟨a, rfl, h1⟩ := Seen.scr (ho.mem (List.mem_cons_self ..)) ho.ex
      exact ⟨a, rfl, ⟨_, h1⟩, w _ (walks_scr rfl)⟩
    | tup xs =>
      refine .inr (.inl (rel_src k hk st q _ fun o' δ' v H' ds e f ho w => ?_))
      rw [z] at e; cases e
      rw [zd] at f ho w
      cases f
      obtain ⟨S, Γ', ho⟩ := ho
      obtain ⟨a, vs, rfl, h1, r1⟩ := Seen.tup (ho.mem (List.mem_cons_self ..)) ho.ex
      exact ⟨a, rfl, ⟨vs, h1⟩, w _ (walks_tup hf rfl)⟩
    | str x =>
      refine .inr (.inr (rel_src k hk st q _ fun o' δ' v H' ds e f ho w => ?_))
      rw [z] at e; cases e
      rw [zd] at f ho w
      cases f
      obtain ⟨S, Γ', ho⟩ := ho
      cases Seen.str (ho.mem (List.mem_cons_self ..)) ho.ex
      exact ⟨x, rfl, w _ walks_str⟩
    | _ => exact .inl (rel_src k hk st q _ fun o' δ' v H' ds e f ho w => by
        rw [z] at e; cases e
        rw [zd] at f; cases f)
/-- a slot taken out for the while -/
def oT (i : Nat) : DEnv → R Opd := fun δ => match δ[i]? with
  | some (some d) => .ok (.p i d id) (δ.set i none)
  | _ => .stuck
theorem do_t {i : Nat} {e : Expr} {md : Mode (mdl X)} (p : PE X e (tVar i)) (hm : ms[i]? = some md) : DO X W ms e (.p i md) (oT i) := by
  refine ⟨_, p, fun σ δ H τ Q st q => ?_⟩
  unfold oT at q
  split at q
  · rename_i d z
    obtain ⟨S, Γ, sl, ho⟩ := st
    obtain ⟨v, m, Γ', e1, e2, e3, sl'⟩ := sl.take z
    rw [hm] at e2; cases e2
    refine ⟨v, e1, q v H _ (.p e1 hm) ⟨S, Γ', sl', ?_⟩⟩
    have h1 : Holds S H (md.fam v d :: (τ ++ Γ')) := ho.perm ((e3.append_left τ).trans List.perm_middle)
    have h2 : Holds S H (Wnd (md.fam v) (fun d => md.fam v (id d)) :: md.fam v d :: (τ ++ Γ')) := h1.pure (Wnd.stb _ _) fun F n S' H' G U d e k a n' u => by
      refine md.stb v d S' S' H' H' U ?_ (Ex.refl _) fun _ _ => rfl
      have eU : U = G := by
        funext x
        exact propext ((u x).trans ⟨fun y => y.elim id fun z => (n x z).elim, .inl⟩)
      rw [eU]
      exact a
    exact h2.perm (.swap ..)
  · exact q.elim

/-! ### range, enumerate, reversed, zip -/
def Emp : Pc := fun _ _ F => ∀ a, ¬ F a
theorem Emp.stb : Stb Emp := fun _ _ _ _ _ p _ _ => p
theorem StO.emp {σ : L2.St} {δ : DEnv} {H : Hp} {τ : List Pc} (h : StO ms σ δ H τ) : StO ms σ δ H (Emp :: τ) := let ⟨S, Γ, a, b⟩ := h; ⟨S, Γ, a, b.pure Emp.stb fun _ n => n⟩
/-- from argument values, walked without them -/
def mSrcA (m : DEnv → R (List Opd)) (f : List D → Option (List D)) : Src := fun δ => (m δ).bind fun os δ1 => match gets os δ1, fins os δ1 with
  | some ds, some δ2 => match f ds with
    | some xs => .ok (xs, some) δ2
    | none => .stuck
  | _, _ => .stuck
theorem rel_srcA {ks : List (Kd (mdl X))} {m : DEnv → R (List Opd)} {t : TA} {f : List D → Option (List D)} (k : RelA W ms ks t m) {σ : L2.St} {δ : DEnv} {H : Hp} {τ : List Pc} {T : It → Hp → Prop} (st : StO ms σ δ H τ) (q : PostI (X := X) W ms [] σ τ T (mSrcA m f δ)) (Q : List V → Hp → Prop)
    (go : ∀ vs ds xs S H', Seens S H' (ks.map (Kd.mode ms)) vs ds → Ex S H' → f ds = some xs → (∀ J, Walks (mdl X) J Emp xs → T J H') → Q vs H') : t σ H Q := by
  refine k σ δ H τ Q st ?_
  unfold mSrcA at q
  cases z : m δ with
  | exc c δ' => rw [z] at q; exact q
  | stuck => rw [z] at q; exact q
  | ok os δ1 =>
    rw [z, R.bind_ok] at q
    intro vs H' Γa op st'
    split at q
    · rename_i ds δ2 z1 z2
      cases zf : f ds with
      | none => rw [zf] at q; exact q.elim
      | some xs =>
        rw [zf] at q
        obtain ⟨S, Γ, sl, ho⟩ := id st'
        refine go vs ds xs S H' (op.seen sl ho z1) ho.ex zf fun J w => q J H' Emp [] w (op.fins st' z2).emp fun σ' δ2 δ3 H2 τ2 _ st2 e => ?_
        cases e
        exact st2.drop
    · exact q.elim
def rgItems (lo : Int) (c : Int) (n : Nat) : List D := (List.range n).map fun i => D.int (lo + (i : Nat) * c)
theorem walks_rng {lo : Int} {n : Nat} : Walks (mdl X) (Itr lo n) Emp (rgItems lo 1 n) := by
  constructor
  · intro i d e S H Γ ho
    unfold rgItems at e
    rw [List.getElem?_map] at e
    obtain ⟨j, e1, e2⟩ := Option.map_eq_some_iff.mp e
    obtain ⟨h1, h2⟩ := List.getElem?_eq_some_iff.mp e1
    have h3 : i < n := by simpa using h1
    rw [List.getElem_range] at h2
    subst h2 e2
    refine ⟨h3, fun y H' hy => ?_⟩
    obtain ⟨rfl, rfl⟩ := hy
    rw [Int.mul_one]
    exact ⟨S, ho.addFz (.int _)⟩
  · intro i hi S H Γ ho
    exact (show n ≤ i by simpa [rgItems] using hi)
theorem walks_rngC {lo c : Int} {n : Nat} : Walks (mdl X) (Itc lo c n) Emp (rgItems lo c n) := by
  constructor
  · intro i d e S H Γ ho
    unfold rgItems at e
    rw [List.getElem?_map] at e
    obtain ⟨j, e1, e2⟩ := Option.map_eq_some_iff.mp e
    obtain ⟨h1, h2⟩ := List.getElem?_eq_some_iff.mp e1
    have h3 : i < n := by simpa using h1
    rw [List.getElem_range] at h2
    subst h2 e2
    refine ⟨h3, fun y H' hy => ?_⟩
    obtain ⟨rfl, rfl⟩ := hy
    exact ⟨S, ho.addFz (.int _)⟩
  · intro i hi S H Γ ho
    exact (show n ≤ i by simpa [rgItems] using hi)
def range1D : List D → Option (List D)
  | [.int j] => if nb j 4611686018427387903 = true then some (rgItems 0 1 j.toNat) else none
  | _ => none
def range2D : List D → Option (List D)
  | [.int i, .int j] => if nb i 4611686018427387903 = true ∧ nb j 4611686018427387903 = true then some (rgItems i 1 (j - i).toNat) else none
  | _ => none
def range3D : List D → Option (List D)
  | [.int i, .int j, .int c] => if c = -1 ∧ nb i 4611686018427387903 = true ∧ nb j 4611686018427387903 = true then some (rgItems i (-1) (i - j).toNat)
    else if 0 < c ∧ nb c 1073741823 = true ∧ Builtin.Range.small i j c = true ∧ 0 ≤ Builtin.Range.rangeSize i j c then some (rgItems i c (Builtin.Range.rangeSize i j c).toNat) else none
  | _ => none
variable {p : Pos} {tg : Expr}
theorem seens1 {S H : Hp} {qs : List (Mode (mdl X))} {vs : List V} {a : D} (h : Seens S H qs vs [a]) : ∃ v m, vs = [v] ∧ qs = [m] ∧ Seen S H m v a := by
  cases h with
  | cons s1 t => cases t with | nil => exact ⟨_, _, rfl, rfl, s1⟩
theorem seens2 {S H : Hp} {qs : List (Mode (mdl X))} {vs : List V} {a b : D} (h : Seens S H qs vs [a, b]) : ∃ v m w n, vs = [v, w] ∧ qs = [m, n] ∧ Seen S H m v a ∧ Seen S H n w b := by
  cases h with
  | cons s1 t => obtain ⟨w, n, rfl, rfl, s2⟩ := seens1 t; exact ⟨_, _, w, n, rfl, rfl, s1, s2⟩
theorem seens3 {S H : Hp} {qs : List (Mode (mdl X))} {vs : List V} {a b c : D} (h : Seens S H qs vs [a, b, c]) : ∃ v m w n u k, vs = [v, w, u] ∧ qs = [m, n, k] ∧ Seen S H m v a ∧ Seen S H n w b ∧ Seen S H k u c := by
  cases h with
  | cons s1 t => obtain ⟨w, n, u, k, rfl, rfl, s2, s3⟩ := seens2 t; exact ⟨_, _, w, n, u, k, rfl, rfl, s1, s2, s3⟩
theorem di_range1 {a : Expr} {ks : List (Kd (mdl X))} {m : DEnv → R (List Opd)} (hm : X.mg "range" = none) (h : DA X W ms [a] ks m) (hg : Gl X "range" := by rfl) (hs : starEach [a] X.env = [(false, eval a X.env)] := by rfl) : DI X W ms [] tg (.Call (.Name "range" p) [a] [] pos) (mSrcA m range1D) := by
  obtain ⟨t, pa, k⟩ := h.run
  refine ⟨_, pi_range1 hg hm pa hs, fun σ δ H τ T st q => rel_srcA k st q _ fun vs ds xs S H' sn ex e w => ?_⟩
  unfold range1D at e
  split at e
  · split at e
    · rename_i j hb
      cases e
      obtain ⟨v, m, rfl, _, s1⟩ := seens1 sn
      cases s1.int ex
      have hb := nb_iff.mp hb
      exact ⟨j, rfl, by omega, by omega, w _ walks_rng⟩
    · cases e
  · cases e
theorem di_range2 {a b : Expr} {ks : List (Kd (mdl X))} {m : DEnv → R (List Opd)} (hm : X.mg "range" = none) (h : DA X W ms [a, b] ks m) (hg : Gl X "range" := by rfl) (hs : starEach [a, b] X.env = [(false, eval a X.env), (false, eval b X.env)] := by rfl) (hs2 : starEach [b] X.env = [(false, eval b X.env)] := by rfl) :
    DI X W ms [] tg (.Call (.Name "range" p) [a, b] [] pos) (mSrcA m range2D) := by
  obtain ⟨t, pa, k⟩ := h.run
  refine ⟨_, pi_range2 hg hm pa hs hs2, fun σ δ H τ T st q => rel_srcA k st q _ fun vs ds xs S H' sn ex e w => ?_⟩
  unfold range2D at e
  split at e
  · split at e
    · rename_i i j hb
      cases e
      obtain ⟨v, m, u, n, rfl, _, s1, s2⟩ := seens2 sn
      cases s1.int ex
      cases s2.int ex
      have h1 := nb_iff.mp hb.1
      have h2 := nb_iff.mp hb.2
      exact ⟨i, j, rfl, ⟨by omega, by omega, by omega, by omega⟩, w _ walks_rng⟩
    · cases e
  · cases e
theorem di_range3 {a b c : Expr} {ks : List (Kd (mdl X))} {m : DEnv → R (List Opd)} (hm : X.mg "range" = none) (h : DA X W ms [a, b, c] ks m) (hg : Gl X "range" := by rfl) (hs : starEach [a, b, c] X.env = (false, eval a X.env) :: starEach [b, c] X.env := by rfl) (hpl : (backTo pos (starEach [b, c] X.env)).any (·.1) = false := by rfl) :
    DI X W ms [] tg (.Call (.Name "range" p) [a, b, c] [] pos) (mSrcA m range3D) := by
  obtain ⟨t, pa, k⟩ := h.run
  refine ⟨_, pi_range3 hg hm pa hs hpl, fun σ δ H τ T st q => rel_srcA k st q _ fun vs ds xs S H' sn ex e w => ?_⟩
  unfold range3D at e
  split at e
  · split at e
    · rename_i i j c hb
      cases e
      obtain ⟨v, m, u, n, u3, n3, rfl, _, s1, s2, s3⟩ := seens3 sn
      cases s1.int ex
      cases s2.int ex
      cases s3.int ex
      obtain ⟨rfl, h1, h3⟩ := hb
      have h1 := nb_iff.mp h1
      have h3 := nb_iff.mp h3
      exact ⟨i, j, -1, _, rfl, RgC.neg (by omega) (by omega) (by omega) (by omega), w _ walks_rngC⟩
    · split at e
      · rename_i i j c hb' hb
        cases e
        obtain ⟨v, m, u, n, u3, n3, rfl, _, s1, s2, s3⟩ := seens3 sn
        cases s1.int ex
        cases s2.int ex
        cases s3.int ex
        obtain ⟨h1, h2, h3, h4⟩ := hb
        have h2 := nb_iff.mp h2
        exact ⟨i, j, c, (Builtin.Range.rangeSize i j c).toNat, rfl, ⟨by omega, by omega, h3, by omega⟩, w _ walks_rngC⟩
      · cases e
  · cases e
/-- enumerate, reversed of a list -/
def enumFrom : Nat → List D → List D
  | _, [] => []
  | k, d :: ds => .tup [.int (k : Nat), d] :: enumFrom (k + 1) ds
theorem enumFrom_get : ∀ {ds : List D} {k i : Nat} {e : D}, (enumFrom k ds)[i]? = some e → ∃ d, ds[i]? = some d ∧ e = .tup [.int ((k + i : Nat) : Int), d]
  | [], _, _, _, h => by simp [enumFrom] at h
  | d :: ds, k, 0, e, h => by simp [enumFrom] at h; exact ⟨d, rfl, h.symm⟩
  | d :: ds, k, i + 1, e, h => by
    obtain ⟨d', a, b⟩ := enumFrom_get (ds := ds) (k := k + 1) (i := i) (by simpa [enumFrom] using h)
    exact ⟨d', by simpa using a, by rw [b, show k + 1 + i = k + (i + 1) by omega]⟩
theorem enumFrom_length : ∀ (ds : List D) (k : Nat), (enumFrom k ds).length = ds.length
  | [], _ => rfl
  | d :: ds, k => by simp [enumFrom, enumFrom_length ds]
def enumD : D → Option (List D)
  | .lst ds => some (enumFrom 0 ds)
  | .scr ns => some (enumFrom 0 (ns.map D.int))
  | _ => none
def revD : D → Option (List D)
  | .lst ds => some ds.reverse
  | _ => none
theorem walks_enum {K : PySem.W.Frag} {m : Mode (mdl X)} {a : Addr} {ds : List D} (fm : Flat m) (hK : K = X.K) : Walks (mdl X) (Ite K a) (m.fam (.ref a) (.lst ds)) (enumFrom 0 ds) := by
  subst hK
  constructor
  · intro i d e S H Γ ho
    have sn : Seen S H m (.ref a) (.lst ds) := ho.mem (List.mem_cons_self ..)
    obtain ⟨a', vs, ea, h1, r1⟩ := sn.lstF fm ho.ex
    cases ea
    obtain ⟨d0, e0, rfl⟩ := enumFrom_get e
    obtain ⟨x, e1, r2⟩ := r1.get e0
    refine ⟨⟨vs, x, SqL.of h1, e1⟩, fun y H' hy => ?_⟩
    obtain ⟨T, x', rfl, hT, rfl, hy⟩ := hy
    have := hy vs (SqL.of h1)
    rw [e1] at this; cases this
    refine ⟨_, ho.newT hT (.cons ?_ (.cons r2 .nil))⟩
    rw [Nat.zero_add]
    exact .int _
  · intro i hi S H Γ ho
    have sn : Seen S H m (.ref a) (.lst ds) := ho.mem (List.mem_cons_self ..)
    obtain ⟨a', vs, ea, h1, r1⟩ := sn.lstF fm ho.ex
    cases ea
    exact ⟨vs, SqL.of h1, by rw [r1.length]; rw [enumFrom_length] at hi; exact hi⟩
theorem walks_enumS {K : PySem.W.Frag} {m : Mode (mdl X)} {a : Addr} {ns : List Int} (hK : K = X.K) : Walks (mdl X) (Ite K a) (m.fam (.ref a) (.scr ns)) (enumFrom 0 (ns.map D.int)) := by
  subst hK
  have key : ∀ (S H : Hp) (Γ : List Pc), Holds S H (m.fam (.ref a) (.scr ns) :: Γ) → SqL X.K H a (ns.map V.int) := fun S H Γ ho => by
    have sn : Seen S H m (.ref a) (.scr ns) := ho.mem (List.mem_cons_self ..)
    obtain ⟨a', e, h⟩ := sn.scr ho.ex
    cases e
    exact h
  constructor
  · intro i d e S H Γ ho
    have h1 := key S H Γ ho
    obtain ⟨d0, e0, rfl⟩ := enumFrom_get e
    rw [List.getElem?_map] at e0
    obtain ⟨n, e1, e2⟩ := Option.map_eq_some_iff.mp e0
    subst e2
    have e3 : (ns.map V.int)[i]? = some (.int n) := by rw [List.getElem?_map, e1]; rfl
    refine ⟨⟨_, _, h1, e3⟩, fun y H' hy => ?_⟩
    obtain ⟨T, x', rfl, hT, rfl, hy⟩ := hy
    have := hy _ h1
    rw [e3] at this; cases this
    refine ⟨_, ho.newT hT (.cons ?_ (.cons (.int _) .nil))⟩
    rw [Nat.zero_add]
    exact .int _
  · intro i hi S H Γ ho
    exact ⟨_, key S H Γ ho, by rw [enumFrom_length] at hi; simpa using hi⟩
theorem walks_rev {K : PySem.W.Frag} {m : Mode (mdl X)} {a : Addr} {ds : List D} (fm : Flat m) (hK : K = X.K) : Walks (mdl X) (Itv K a ds.length) (m.fam (.ref a) (.lst ds)) ds.reverse := by
  subst hK
  constructor
  · intro i d e S H Γ ho
    have sn : Seen S H m (.ref a) (.lst ds) := ho.mem (List.mem_cons_self ..)
    obtain ⟨a', vs, ea, h1, r1⟩ := sn.lstF fm ho.ex
    cases ea
    have hi : i < ds.length := by simpa using (List.getElem?_eq_some_iff.mp e).1
    rw [List.getElem?_reverse hi] at e
    obtain ⟨x, e1, r2⟩ := r1.get e
    refine ⟨⟨hi, vs, x, SqL.of h1, e1⟩, fun y H' hy => ?_⟩
    obtain ⟨rfl, hy⟩ := hy
    have := hy vs (SqL.of h1)
    rw [e1] at this; cases this
    exact ⟨S, ho.addFz r2⟩
  · intro i hi S H Γ ho
    exact (show ds.length ≤ i by simpa using hi)
/-- one argument, walked by it -/
theorem rel_src1 {kd : Kd (mdl X)} {m : DEnv → R Opd} {t : TE} {f : D → Option (List D)} (k : RelO W ms kd t m) (hk : ∀ i, kd ≠ .s i) {σ : L2.St} {δ : DEnv} {H : Hp} {τ : List Pc} {T : It → Hp → Prop} (st : StO ms σ δ H τ) (q : PostI (X := X) W ms kd.kp σ τ T (mSrc m f δ)) (Q : List V → Hp → Prop)
    (go : ∀ o v H' ds, f o = some ds → (∃ S Γ', Holds S H' ((kd.mode ms).fam v o :: Γ')) → (∀ J, Walks (mdl X) J ((kd.mode ms).fam v o) ds → T J H') → Q [v] H') : L2.tCons t L2.tNil σ H Q :=
  rel_src k hk st q _ fun o δ1 v H' ds _ e ho w => go o.data v H' ds e ho w
theorem di_enum {e : Expr} {elts : List Expr} {kk : Nat} {tpos : Pos} {kd : Kd (mdl X)} {m : DEnv → R Opd} (hm : X.mg "enumerate" = none) (h : DO X W ms e kd m) (hf : Flat (kd.mode ms)) (hk : ∀ i, kd ≠ .s i := by intro i z; cases z) (hg : Gl X "enumerate" := by rfl) (hs : starEach [e] X.env = [(false, eval e X.env)] := by rfl) :
    DI X W ms kd.kp (.Tuple elts kk tpos) (.Call (.Name "enumerate" p) [e] [] pos) (mSrc m enumD) := by
  obtain ⟨t, pe, k⟩ := h.run
  refine ⟨_, pi_enum hg hm (pa_cons pe pa_nil (hs.trans rfl)) hs, fun σ δ H τ T st q => rel_src1 k hk st q _ fun d v H' ds e ho w => ?_⟩
  obtain ⟨S, Γ', ho⟩ := ho
  unfold enumD at e
  split at e
  · cases e
    obtain ⟨a, vs, rfl, h1, r1⟩ := Seen.lst (ho.mem (List.mem_cons_self ..)) ho.ex
    exact ⟨a, vs, rfl, SqL.of h1, w _ (walks_enum hf rfl)⟩
  · cases e
    obtain ⟨a, rfl, h1⟩ := Seen.scr (ho.mem (List.mem_cons_self ..)) ho.ex
    exact ⟨a, _, rfl, h1, w _ (walks_enumS rfl)⟩
  · cases e
theorem di_rev {e : Expr} {kd : Kd (mdl X)} {m : DEnv → R Opd} (hm : X.mg "reversed" = none) (h : DO X W ms e kd m) (hf : Flat (kd.mode ms)) (hk : ∀ i, kd ≠ .s i := by intro i z; cases z) (hg : Gl X "reversed" := by rfl) (hs : starEach [e] X.env = [(false, eval e X.env)] := by rfl) :
    DI X W ms kd.kp tg (.Call (.Name "reversed" p) [e] [] pos) (mSrc m revD) := by
  obtain ⟨t, pe, k⟩ := h.run
  refine ⟨_, pi_reversed hg hm (pa_cons pe pa_nil (hs.trans rfl)) hs, fun σ δ H τ T st q => rel_src1 k hk st q _ fun d v H' ds e ho w => ?_⟩
  obtain ⟨S, Γ', ho⟩ := ho
  unfold revD at e
  split at e
  · cases e
    obtain ⟨a, vs, rfl, h1, r1⟩ := Seen.lst (ho.mem (List.mem_cons_self ..)) ho.ex
    refine ⟨a, vs, rfl, SqL.of h1, w _ ?_⟩
    rw [r1.length]
    exact walks_rev hf rfl
  · cases e
end
end DM
set_option maxRecDepth 100000
/-! Data mirror, part 9: for, while, comprehensions. -/
namespace DM
open PySem PySem.Spec L2

def dFor (tg : Tg) (body : DEnv → SR) : List D → DEnv → SR
  | [], δ => .nx δ
  | d :: ds, δ => match tg d δ with
    | some δ1 => match body δ1 with
      | .nx δ2 => dFor tg body ds δ2
      | .ct δ2 => dFor tg body ds δ2
      | .bk δ2 => .nx δ2
      | .rt x δ2 => .rt x δ2
      | .exc c δ2 => .exc c δ2
      | .stuck => .stuck
    | none => .stuck
def finR (f : Fin) : SR → SR
  | .nx δ => match f δ with
    | some δ' => .nx δ'
    | none => .stuck
  | r => r
def mFor (src : Src) (tg : Tg) (body : DEnv → SR) : DEnv → SR := fun δ => (src δ).thn fun x δ1 => finR x.2 (dFor tg body x.1 δ1)
def dWhile (c : DEnv → R Bool) (body : DEnv → SR) : Nat → DEnv → SR
  | 0, _ => .stuck
  | n + 1, δ => (c δ).thn fun b δ1 => if b = true then match body δ1 with
      | .nx δ2 => dWhile c body n δ2
      | .ct δ2 => dWhile c body n δ2
      | .bk δ2 => .nx δ2
      | .rt x δ2 => .rt x δ2
      | .exc e δ2 => .exc e δ2
      | .stuck => .stuck
    else .nx δ1

section
variable {X : Cx} {W : WX} {ms : List (Mode (mdl X))} {mr : Mode (mdl X)} {pn : List Nat} {pos : Pos}
theorem Keep.mono {a b : List Nat} {σ σ' : L2.St} (h : Keep b σ σ') (k : ∀ i ∈ a, i ∈ b) : Keep a σ σ' := fun i hi => h i (k i hi)
/-- a body's end within a loop, from the loop's own -/
theorem post_body {kp : List Nat} {σ σ1 : L2.St} {τ Δ : List Pc} {P : Pc} {D : Ends} {N : L2.St → Hp → Prop} {fin : Fin} {r : SR} {k : DEnv → SR} (kk : Keep (kp ++ pn) σ σ1)
    (fn : ∀ σ' δ2 δ3 H2 τ2, Keep kp σ σ' → StO ms σ' δ2 H2 (P :: (Δ ++ τ2)) → fin δ2 = some δ3 → StO ms σ' δ3 H2 τ2)
    (q : PostS (X := X) W ms mr pn σ τ D (finR fin (match r with
      | .nx δ2 => k δ2
      | .ct δ2 => k δ2
      | .bk δ2 => .nx δ2
      | .rt x δ2 => .rt x δ2
      | .exc e δ2 => .exc e δ2
      | .stuck => .stuck)))
    (hN : ∀ δ2 σ' H', Keep (kp ++ pn) σ1 σ' → StO ms σ' δ2 H' (P :: (Δ ++ τ)) → PostS (X := X) W ms mr pn σ τ D (finR fin (k δ2)) → N σ' H') : PostS (X := X) W ms mr (kp ++ pn) σ1 (P :: (Δ ++ τ)) { D with nx := N, ct := N, bk := D.nx } r := by
  have ext : ∀ {σ'}, Keep (kp ++ pn) σ1 σ' → Keep pn σ σ' := fun {σ'} k1 => (kk.trans k1).mono fun i hi => List.mem_append_right _ hi
  cases r with
  | nx δ2 => exact fun σ' H' k1 st => hN δ2 σ' H' k1 st q
  | ct δ2 => exact fun σ' H' k1 st => hN δ2 σ' H' k1 st q
  | bk δ2 =>
    intro σ' H' k1 st
    have q' : PostS (X := X) W ms mr pn σ τ D (match fin δ2 with
      | some δ' => .nx δ'
      | none => .stuck) := q
    cases z : fin δ2 with
    | none => rw [z] at q'; exact q'.elim
    | some δ3 =>
      rw [z] at q'
      exact q' σ' H' (ext k1) (fn σ' δ2 δ3 H' τ ((kk.trans k1).mono fun i hi => List.mem_append_left _ hi) st z)
  | rt x δ2 =>
    intro v σ' H' k1 st
    refine q v σ' H' (ext k1) ?_
    have st2 : StO ms σ' δ2 H' ((P :: Δ) ++ (mr.fam v x :: τ)) := st.perm (by
      show (mr.fam v x :: (P :: (Δ ++ τ))).Perm ((P :: Δ) ++ (mr.fam v x :: τ))
      exact (List.perm_middle (a := mr.fam v x) (l₁ := P :: Δ) (l₂ := τ)).symm)
    exact st2.dropL
  | exc c δ2 => exact fun σ' k1 => Wx.drop (Δ := P :: Δ) (q σ' (ext k1))
  | stuck => exact q
theorem ds_for {kp : List Nat} {tg iter : Expr} {body : List Stmt} {src : Src} {f : Tg} {mb : DEnv → SR} (hp : PassesOwn (model X.prog X.w) X.A X.env X.xe) (hc : X.calm = true) (hi : DI X W ms kp tg iter src) (hg : DG X ms (kp ++ pn) tg f) (hb : DSs X W ms mr (kp ++ pn) body mb)
    (hs : ∀ x, foldedSetIterable iter X.env x = pure x := by intro _; rfl) : DS X W ms mr pn (.For tg iter body [] pos) (mFor src f mb) := by
  obtain ⟨wi, pi, ki⟩ := hi.run
  obtain ⟨g, pg, kg⟩ := hg.run
  obtain ⟨tb, pb, kb⟩ := hb.run
  refine ⟨_, ps_for hp hc pi pg pb hs, fun σ δ H τ D st q => ki σ δ H τ _ st ?_⟩
  unfold mFor at q
  cases z : src δ with
  | exc c δ1 => rw [z] at q; exact q σ (Keep.refl _ _)
  | stuck => rw [z] at q; exact q
  | ok x δ1 =>
    rw [z, R.thn_ok] at q
    intro J H1 P Δ wk st1 fn
    refine ⟨fun i m σ' H' => ∃ δ', i + m = x.1.length ∧ Keep (kp ++ pn) σ σ' ∧ StO ms σ' δ' H' (P :: (Δ ++ τ)) ∧ PostS W ms mr pn σ τ D (finR x.2 (dFor f mb (x.1.drop i) δ')), ⟨x.1.length, δ1, by simp, Keep.refl _ _, st1, q⟩, ?_⟩
    rintro i m σ1 H2 ⟨δ2, em, kp1, st2, q2⟩
    by_cases hi : i < x.1.length
    · obtain ⟨S2, Γ2, sl2, ho2⟩ := id st2
      have eg : x.1[i]? = some x.1[i] := List.getElem?_eq_getElem hi
      obtain ⟨g1, g2⟩ := wk.go i _ eg S2 H2 _ ho2
      rw [List.drop_eq_getElem_cons hi] at q2
      refine .inr ⟨g1, fun σ' H' => ∃ m', m' < m ∧ ∃ δ', i + 1 + m' = x.1.length ∧ Keep (kp ++ pn) σ σ' ∧ StO ms σ' δ' H' (P :: (Δ ++ τ)) ∧ PostS W ms mr pn σ τ D (finR x.2 (dFor f mb (x.1.drop (i + 1)) δ')), fun σ' H' h => h, fun y H3 hy => ?_⟩
      obtain ⟨S3, ho3⟩ := g2 y H3 hy
      unfold dFor at q2
      cases zt : f x.1[i] δ2 with
      | none => rw [zt] at q2; exact q2.elim
      | some δ3 =>
        rw [zt] at q2
        refine kg y _ σ1 δ2 δ3 H3 (P :: (Δ ++ τ)) _ ⟨S3, Γ2, sl2, ho3⟩ zt fun σ2 kp2 _ st3 => ?_
        refine kb σ2 δ3 H3 _ _ st3 (post_body (kk := kp1.trans kp2) (fin := x.2) (k := dFor f mb (x.1.drop (i + 1))) fn q2 fun δ4 σ' H' k4 st4 q4 => ?_)
        exact ⟨m - 1, by omega, δ4, by omega, (kp1.trans kp2).trans k4, st4, q4⟩
    · have e0 : x.1.drop i = [] := List.drop_of_length_le (by omega)
      rw [e0] at q2
      obtain ⟨S2, Γ2, sl2, ho2⟩ := id st2
      refine .inl ⟨wk.stop i (by omega) S2 H2 _ ho2, ?_⟩
      have q' : PostS (X := X) W ms mr pn σ τ D (match x.2 δ2 with
        | some δ' => .nx δ'
        | none => .stuck) := q2
      cases z : x.2 δ2 with
      | none => rw [z] at q'; exact q'.elim
      | some δ3 =>
        rw [z] at q'
        exact q' σ1 H2 (kp1.mono fun i hi => List.mem_append_right _ hi) (fn σ1 δ2 δ3 H2 τ (kp1.mono fun i hi => List.mem_append_left _ hi) st2 z)
theorem ds_while {c : Expr} {body : List Stmt} {mc : DEnv → R Bool} {mb : DEnv → SR} (fuel : Nat) (hp : PassesOwn (model X.prog X.w) X.A X.env X.xe) (hc : DT X W ms c mc) (hb : DSs X W ms mr pn body mb) : DS X W ms mr pn (.While c body [] pos) (dWhile mc mb fuel) := by
  obtain ⟨tc, pc, kc⟩ := hc.run
  obtain ⟨tb, pb, kb⟩ := hb.run
  refine ⟨_, ps_while hp pc pb, fun σ δ H τ D st q => ?_⟩
  refine ⟨fun m σ' H' => ∃ δ', Keep pn σ σ' ∧ StO ms σ' δ' H' τ ∧ PostS W ms mr pn σ τ D (dWhile mc mb m δ'), ⟨fuel, δ, Keep.refl _ _, st, q⟩, ?_⟩
  rintro m σ1 H1 ⟨δ1, kp1, st1, q1⟩
  cases m with
  | zero => exact q1.elim
  | succ m =>
    refine kc σ1 δ1 H1 τ _ st1 ?_
    unfold dWhile at q1
    cases z : mc δ1 with
    | exc e δ2 => rw [z] at q1; exact q1 σ1 kp1
    | stuck => rw [z] at q1; exact q1
    | ok b δ2 =>
      rw [z, R.thn_ok] at q1
      intro H2 st2
      cases b with
      | false => rw [if_neg (by decide)] at q1 ⊢; exact q1 σ1 H2 kp1 st2
      | true =>
        rw [if_pos rfl] at q1 ⊢
        refine ⟨fun σ' H' => ∃ δ', Keep pn σ σ' ∧ StO ms σ' δ' H' τ ∧ PostS W ms mr pn σ τ D (dWhile mc mb m δ'), fun σ' H' h => ⟨m, Nat.lt_succ_self _, h⟩, kb σ1 δ2 H2 τ _ st2 ?_⟩
        cases zb : mb δ2 with
        | nx δ3 => rw [zb] at q1; exact fun σ' H' k st3 => ⟨δ3, kp1.trans k, st3, q1⟩
        | ct δ3 => rw [zb] at q1; exact fun σ' H' k st3 => ⟨δ3, kp1.trans k, st3, q1⟩
        | bk δ3 => rw [zb] at q1; exact fun σ' H' k st3 => q1 σ' H' (kp1.trans k) st3
        | rt d δ3 => rw [zb] at q1; exact fun v σ' H' k st3 => q1 v σ' H' (kp1.trans k) st3
        | exc e δ3 => rw [zb] at q1; exact fun σ' k => q1 σ' (kp1.trans k)
        | stuck => rw [zb] at q1; exact q1
end

/-! ### comprehensions -/
def wipeD (δ : DEnv) : List Nat → DEnv
  | [] => δ
  | v :: vs => (wipeD δ vs).set v none
def restD (δ0 : DEnv) : List Nat → DEnv → DEnv
  | [], δ => δ
  | v :: vs, δ => (restD δ0 vs δ).set v ((δ0[v]?).join)
/-- an error within a comprehension is not followed -/
def R.noX {α : Type} : R α → R α
  | .exc _ _ => .stuck
  | r => r
def dLc (tg : Tg) (cond : DEnv → R Bool) (elt : DEnv → R D) (own : List Nat) : List D → DEnv → R (List D)
  | [], δ => .ok [] δ
  | d :: ds, δ => match tg d δ with
    | some δ1 => ((cond δ1).noX).bind fun b δ2 => if b = true then ((elt δ2).noX).bind fun x δ3 => (dLc tg cond elt own ds (wipeD δ3 own)).bind fun xs δ4 => .ok (x :: xs) δ4
      else dLc tg cond elt own ds (wipeD δ2 own)
    | none => .stuck
def finLc (fin : Fin) (δ1 : DEnv) (own : List Nat) (xs : List D) (δ2 : DEnv) : R D := match fin (restD δ1 own δ2) with
  | some δ3 => .ok (.lst xs) δ3
  | none => .stuck
def mLc (src : Src) (tg : Tg) (cond : DEnv → R Bool) (elt : DEnv → R D) (own : List Nat) : DEnv → R D := fun δ => (src δ).bind fun x δ1 => if x.1.length ≤ sizeLine then (dLc tg cond elt own x.1 (wipeD δ1 own)).bind (finLc x.2 δ1 own)
  else .stuck
def mYes : DEnv → R Bool := fun δ => .ok true δ
section
variable {M : Mdl} {ms : List (Mode M)}
theorem Sl.reval {σ : L2.St} {δ : DEnv} {Γ : List Pc} (h : Sl ms σ δ Γ) : ∀ {i : Nat} (w : Option V), (∀ d, δ[i]? ≠ some (some d)) → Sl ms (σ.set i w) δ Γ := by
  induction h with
  | nil => intro i w _; exact .nil
  | no t ih =>
    intro i w n
    cases i with
    | zero => exact .no t
    | succ i => exact .no (ih w fun d => by simpa using n d)
  | yes t ih =>
    intro i w n
    cases i with
    | zero => exact absurd rfl (n _)
    | succ i => exact .yes (ih w fun d => by simpa using n d)
theorem Sl.noVal {σ : L2.St} {δ : DEnv} {Γ : List Pc} (h : Sl ms σ δ Γ) {i : Nat} (e : σ[i]? = some none ∨ σ[i]? = none) : ∀ d, δ[i]? ≠ some (some d) := fun d z => by
  obtain ⟨v, m, a, _⟩ := h.mem z
  rcases e with e | e <;> (rw [e] at a; cases a)
theorem wipe_none {σ : L2.St} : ∀ {vs : List Nat} {i : Nat}, i ∈ vs → (wipe σ vs)[i]? = some none ∨ (wipe σ vs)[i]? = none
  | v :: vs, i, h => by
    unfold wipe
    by_cases e : v = i
    · subst e
      by_cases hl : v < (wipe σ vs).length
      · rw [List.getElem?_set_self hl]; exact .inl rfl
      · right; rw [List.getElem?_eq_none]; simp; omega
    · rw [List.getElem?_set_ne e]
      exact wipe_none ((List.mem_cons.mp h).resolve_left fun z => e z.symm)
theorem wipe_other {σ : L2.St} : ∀ {vs : List Nat} {i : Nat}, i ∉ vs → (wipe σ vs)[i]? = σ[i]?
  | [], _, _ => rfl
  | v :: vs, i, h => by
    unfold wipe
    rw [List.getElem?_set_ne (fun e => h (by rw [e]; exact List.mem_cons_self ..))]
    exact wipe_other fun z => h (List.mem_cons_of_mem _ z)
/-- σ with its own slots as they were -/
theorem Sl.unwipe {σ : L2.St} {δ : DEnv} {Γ : List Pc} : ∀ {vs : List Nat}, Sl ms (wipe σ vs) δ Γ → Sl ms σ δ Γ := by
  intro vs h
  have key : ∀ (us : List Nat), Sl ms (wipe σ us) δ Γ → (∀ i ∈ us, ∀ d, δ[i]? ≠ some (some d)) → Sl ms σ δ Γ := by
    intro us
    induction us with
    | nil => exact fun h _ => h
    | cons u us ih =>
      intro h n
      refine ih ?_ fun i hi => n i (List.mem_cons_of_mem _ hi)
      have e : wipe σ us = (wipe σ (u :: us)).set u ((wipe σ us)[u]?).join := by
        show wipe σ us = ((wipe σ us).set u none).set u _
        rw [List.set_set]
        apply List.ext_getElem? 
        intro i
        by_cases hu : u = i
        · subst hu
          by_cases hl : u < (wipe σ us).length
          · rw [List.getElem?_set_self hl, List.getElem?_eq_getElem hl]; rfl
          · rw [List.getElem?_eq_none (by omega), List.getElem?_eq_none (by simp; omega)]
        · rw [List.getElem?_set_ne hu]
      rw [e]
      exact h.reval _ (n u (List.mem_cons_self ..))
  exact key vs h fun i hi => h.noVal (wipe_none hi)
/-- the own slots' pieces set aside, and given back -/
theorem Sl.aside {σ : L2.St} {δ : DEnv} {Γ : List Pc} (h : Sl ms σ δ Γ) : ∀ (vs : List Nat), ∃ Γ1 Γ2, Γ.Perm (Γ1 ++ Γ2) ∧ Sl ms (wipe σ vs) (wipeD δ vs) Γ2 ∧
    ∀ δ' Γ', vs.Nodup → Sl ms (wipe σ vs) δ' Γ' → ∃ Γ'', Γ''.Perm (Γ1 ++ Γ') ∧ Sl ms σ (restD δ vs δ') Γ''
  | [] => ⟨[], Γ, List.Perm.refl _, h, fun δ' Γ' _ s => ⟨Γ', List.Perm.refl _, s⟩⟩
  | v :: vs => by
    obtain ⟨Γ1, Γ2, p, s, back⟩ := h.aside vs
    have hw : wipe σ (v :: vs) = (wipe σ vs).set v none := rfl
    have hd : wipeD δ (v :: vs) = (wipeD δ vs).set v none := rfl
    cases z : (wipeD δ vs)[v]? with
    | none =>
      have e : (wipeD δ vs).set v none = wipeD δ vs := List.set_eq_of_length_le (by simpa using z)
      refine ⟨Γ1, Γ2, p, ?_, fun δ' Γ' nd s' => ?_⟩
      · rw [hw, hd, e]; exact s.reval _ fun d q => by rw [z] at q; cases q
      · have nv := List.nodup_cons.mp nd
        have s1 : Sl ms (wipe σ vs) δ' Γ' := Sl.unwipe (vs := [v]) s'
        obtain ⟨Γ'', a, b⟩ := back δ' Γ' nv.2 s1
        refine ⟨Γ'', a, ?_⟩
        have hl : δ.length ≤ v := by
          have h1 := s.len.2
          have h2 := h.len.2
          have h3 : (wipeD δ vs).length ≤ v := by simpa using z
          omega
        show Sl ms σ ((restD δ vs δ').set v ((δ[v]?).join)) Γ''
        rw [List.set_eq_of_length_le (by rw [b.len.2, ← h.len.2]; exact hl)]
        exact b
    | some o =>
      cases o with
      | none =>
        have e : (wipeD δ vs).set v none = wipeD δ vs := by
          obtain ⟨h1, h2⟩ := List.getElem?_eq_some_iff.mp z
          rw [← h2]
          exact List.set_getElem_self h1
        refine ⟨Γ1, Γ2, p, ?_, fun δ' Γ' nd s' => ?_⟩
        · rw [hw, hd, e]; exact s.reval _ fun d q => by rw [z] at q; cases q
        · have nv := List.nodup_cons.mp nd
          have hv : v ∉ vs := nv.1
          have s1 : Sl ms (wipe σ vs) δ' Γ' := Sl.unwipe (vs := [v]) s'
          obtain ⟨Γ'', a, b⟩ := back δ' Γ' nv.2 s1
          refine ⟨Γ'', a, ?_⟩
          have e1 : ∀ (us : List Nat), v ∉ us → (wipeD δ us)[v]? = δ[v]? := by
            intro us
            induction us with
            | nil => exact fun _ => rfl
            | cons u us ih =>
              intro hu
              show ((wipeD δ us).set u none)[v]? = δ[v]?
              rw [List.getElem?_set_ne (fun q => hu (by rw [q]; exact List.mem_cons_self ..))]
              exact ih fun q => hu (List.mem_cons_of_mem _ q)
          have e2 : δ[v]? = some none := (e1 vs hv).symm.trans z
          have e3 : ∀ (us : List Nat), v ∉ us → (restD δ us δ')[v]? = δ'[v]? := by
            intro us
            induction us with
            | nil => exact fun _ => rfl
            | cons u us ih =>
              intro hu
              show ((restD δ us δ').set u _)[v]? = δ'[v]?
              rw [List.getElem?_set_ne (fun q => hu (by rw [q]; exact List.mem_cons_self ..))]
              exact ih fun q => hu (List.mem_cons_of_mem _ q)
          have e4 : δ'[v]? = some none := by
            have nvv := s'.noVal (i := v) (wipe_none (List.mem_cons_self ..))
            have hl : v < δ'.length := by
              have h1 := s'.len.2
              have h2 := h.len.2
              have h3 := (List.getElem?_eq_some_iff.mp e2).1
              omega
            cases q : δ'[v]? with
            | none => rw [List.getElem?_eq_none_iff] at q; omega
            | some o =>
              cases o with
              | none => rfl
              | some d => exact absurd q (nvv d)
          show Sl ms σ ((restD δ vs δ').set v ((δ[v]?).join)) Γ''
          rw [e2]
          have e5 : (restD δ vs δ').set v none = restD δ vs δ' := by
            obtain ⟨h1, h2⟩ := List.getElem?_eq_some_iff.mp ((e3 vs hv).trans e4)
            conv => lhs; rw [← h2]
            exact List.set_getElem_self h1
          show Sl ms σ ((restD δ vs δ').set v none) Γ''
          rw [e5]
          exact b
      | some d =>
        obtain ⟨x, m, Γ3, f1, f2, f3, s3⟩ := s.take z
        refine ⟨m.fam x d :: Γ1, Γ3, ?_, ?_, fun δ' Γ' nd s' => ?_⟩
        · refine p.trans ((f3.append_left Γ1).trans ?_)
          exact List.perm_middle
        · rw [hw, hd]
          refine s3.reval _ fun d' q => ?_
          rw [List.getElem?_set_self (List.getElem?_eq_some_iff.mp z).1] at q
          cases q
        · have nv := List.nodup_cons.mp nd
          have hv : v ∉ vs := nv.1
          have s1 : Sl ms (wipe σ vs) δ' Γ' := Sl.unwipe (vs := [v]) s'
          obtain ⟨Γ'', a, b⟩ := back δ' Γ' nv.2 s1
          have e1 : ∀ (us : List Nat), v ∉ us → (wipeD δ us)[v]? = δ[v]? := by
            intro us
            induction us with
            | nil => exact fun _ => rfl
            | cons u us ih =>
              intro hu
              show ((wipeD δ us).set u none)[v]? = δ[v]?
              rw [List.getElem?_set_ne (fun q => hu (by rw [q]; exact List.mem_cons_self ..))]
              exact ih fun q => hu (List.mem_cons_of_mem _ q)
          have e2 : δ[v]? = some (some d) := (e1 vs hv).symm.trans z
          have e3 : ∀ (us : List Nat), v ∉ us → (restD δ us δ')[v]? = δ'[v]? := by
            intro us
            induction us with
            | nil => exact fun _ => rfl
            | cons u us ih =>
              intro hu
              show ((restD δ us δ').set u _)[v]? = δ'[v]?
              rw [List.getElem?_set_ne (fun q => hu (by rw [q]; exact List.mem_cons_self ..))]
              exact ih fun q => hu (List.mem_cons_of_mem _ q)
          have e4 : δ'[v]? = some none := by
            have nvv := s'.noVal (i := v) (wipe_none (List.mem_cons_self ..))
            have hl : v < δ'.length := by
              have h1 := s'.len.2
              have h2 := h.len.2
              have h3 := (List.getElem?_eq_some_iff.mp e2).1
              omega
            cases q : δ'[v]? with
            | none => rw [List.getElem?_eq_none_iff] at q; omega
            | some o =>
              cases o with
              | none => rfl
              | some d => exact absurd q (nvv d)
          have f1' : σ[v]? = some (some x) := (wipe_other hv).symm.trans f1
          obtain ⟨Γ4, p4, s4⟩ := b.put (m := m) (v := x) d f2 ((e3 vs hv).trans e4) f1'
          refine ⟨Γ4, p4.trans (a.cons _), ?_⟩
          show Sl ms σ ((restD δ vs δ').set v ((δ[v]?).join)) Γ4
          rw [e2]
          exact s4
end
end DM
set_option maxRecDepth 100000
/-! Data mirror, part 10: lists that grow, comprehensions. -/
namespace DM
open PySem PySem.Spec L2
section
variable {M : Mdl} {S H : Hp} {Γ : List Pc} {m : Mode M}
/-- what stands at the list's place, from its piece -/
theorem Lof.at {p : V} {ds : List D} {F : Foot} (h : (Lof m).fam p (.lst ds) S H F) : ∃ a vs G, p = .ref a ∧ H a = some (.lst vs) ∧ Els m.fam S H vs ds G ∧ ¬ G a ∧ ∀ x, F x ↔ x = a ∨ G x := by
  rcases h with ⟨z, _, _⟩ | ⟨a, vs, ds', G, e1, e2, c, e, f, g⟩
  · cases z
  · cases e2; exact ⟨a, vs, G, e1, c, e, f, g⟩
theorem Holds.lstAt {p : V} {ds : List D} (h : Holds S H ((Lof m).fam p (.lst ds) :: Γ)) : ∃ a vs, p = .ref a ∧ H a = some (.lst vs) ∧ vs.length = ds.length := by
  obtain ⟨F, q⟩ := h.mem (List.mem_cons_self ..)
  obtain ⟨a, vs, G, e1, e2, e3, _⟩ := Lof.at q
  exact ⟨a, vs, e1, e2, e3.length⟩
/-- two pieces as one -/
def And2 (P Q : Pc) : Pc := fun S H U => ∃ F G, P S H F ∧ Q S H G ∧ (∀ a, F a → ¬ G a) ∧ ∀ a, U a ↔ F a ∨ G a
theorem And2.stb {P Q : Pc} (hP : Stb P) (hQ : Stb Q) : Stb (And2 P Q) := fun S S' H H' U ⟨F, G, a, b, c, d⟩ e k => ⟨F, G, hP _ _ _ _ _ a e fun x q => k x ((d x).mpr (.inl q)), hQ _ _ _ _ _ b e fun x q => k x ((d x).mpr (.inr q)), c, d⟩
theorem Holds.join {P Q : Pc} (h : Holds S H (P :: Q :: Γ)) : Holds S H (And2 P Q :: Γ) := by
  obtain ⟨U, a, b, c⟩ := h.own
  cases a with
  | cons s1 p t d u =>
    cases t with
    | cons s2 q t2 d2 u2 =>
      rename_i F G F2 G2
      refine ⟨h.ex, U, .cons (And2.stb s1 s2) ⟨F, F2, p, q, fun x y z => d x y ((u2 x).mpr (.inl z)), fun _ => Iff.rfl⟩ t2 (fun x y z => ?_) (fun x => ?_), b, c⟩
      · rcases y with y | y
        · exact d x y ((u2 x).mpr (.inr z))
        · exact d2 x y z
      · rw [u x, u2 x, or_assoc]
theorem Holds.unjoin {P Q : Pc} (s1 : Stb P) (s2 : Stb Q) (h : Holds S H (And2 P Q :: Γ)) : Holds S H (P :: Q :: Γ) := by
  obtain ⟨U, a, b, c⟩ := h.own
  cases a with
  | cons s p t d u =>
    obtain ⟨F, G, p1, p2, p3, p4⟩ := p
    rename_i F0 G0
    refine ⟨h.ex, U, .cons (U := U) (G := fun x => G x ∨ G0 x) s1 p1 (.cons s2 p2 t (fun x y z => d x ((p4 x).mpr (.inr y)) z) fun _ => Iff.rfl) (fun x y z => ?_) (fun x => ?_), b, c⟩
    · rcases z with z | z
      · exact p3 x y z
      · exact d x ((p4 x).mpr (.inl y)) z
    · rw [u x, p4 x, or_assoc]
/-- an item more at the end -/
theorem Holds.appendL {p : Addr} {ds : List D} {v : V} {d : D} (h : Holds S H ((Lof m).fam (.ref p) (.lst ds) :: m.fam v d :: Γ)) :
    ∃ vs, H p = some (.lst vs) ∧ vs.length = ds.length ∧ Holds S (upd H p (.lst (vs ++ [v]))) ((Lof m).fam (.ref p) (.lst (ds ++ [d])) :: Γ) := by
  obtain ⟨a, vs, e1, e2, e3⟩ := h.lstAt
  cases e1
  refine ⟨vs, e2, e3, ?_⟩
  have hj := h.join
  refine hj.change ((Lof m).stb _ _) fun F q nS nH => ?_
  obtain ⟨F1, F2, q1, q2, q3, q4⟩ := q
  obtain ⟨a', vs', G, e1', e2', e4, nG, u⟩ := Lof.at q1
  cases e1'
  rw [e2] at e2'; cases e2'
  have ne : ∀ x, G x → x ≠ p := fun x y z => nG (z ▸ y)
  have ne2 : ∀ x, F2 x → x ≠ p := fun x y z => q3 p ((u p).mpr (.inl rfl)) (z ▸ y)
  refine ⟨F, .inr ⟨p, vs ++ [v], ds ++ [d], fun x => G x ∨ F2 x, rfl, rfl, upd_same, ?_, ?_, fun x => ?_⟩, fun x y => .inl y, fun x y => ?_, fun x y z => ?_⟩
  · refine (e4.stay m.stb (Ex.refl S) fun x y => upd_ne (ne x y)).append (G := F2) (.cons (G := fun _ => False) (m.stb _ _ _ _ _ _ _ q2 (Ex.refl S) fun x y => upd_ne (ne2 x y)) (.nil fun _ z => z) (fun _ _ z => z) fun x => ⟨.inl, fun z => z.elim id False.elim⟩) (fun x y z => q3 x ((u x).mpr (.inr y)) z) fun _ => Iff.rfl
  · rintro (z | z)
    · exact nG z
    · exact ne2 p z rfl
  · rw [q4 x, u x, or_assoc]
  · by_cases z : x = p
    · rw [z, upd_same]; simp
    · rw [upd_ne z]; exact nH x y
  · exact upd_ne fun w => y ((q4 x).mpr (.inl ((u x).mpr (.inl w))))
end

section
variable {X : Cx} {W : WX} {ms : List (Mode (mdl X))} {mr : Mode (mdl X)} {pn : List Nat} {pos : Pos}
abbrev W0 : WX := fun _ _ _ _ => False
/-- one reading for all contexts of a block -/
theorem all_te {ι : Type} (Xs : ι → Cx) {e : Expr} {R : TE → Prop} (hR : ∀ t : ι → TE, (∀ c, R (t c)) → R (fun σ H Q => ∀ c, t c σ H Q)) (h : ∀ c, ∃ t, PE (Xs c) e t ∧ R t) : ∃ t, (∀ c, PE (Xs c) e t) ∧ R t := by
  refine ⟨fun σ H Q => ∀ c, Classical.choose (h c) σ H Q, fun c => ⟨fun pins s σ H Q I q => (Classical.choose_spec (h c)).1.run pins s σ H Q I (q c)⟩, hR _ fun c => (Classical.choose_spec (h c)).2⟩
theorem all_tt {ι : Type} (Xs : ι → Cx) {e : Expr} {R : TT → Prop} (hR : ∀ t : ι → TT, (∀ c, R (t c)) → R (fun σ H Q => ∀ c, t c σ H Q)) (h : ∀ c, ∃ t, PT (Xs c) e t ∧ R t) : ∃ t, (∀ c, PT (Xs c) e t) ∧ R t := by
  refine ⟨fun σ H Q => ∀ c, Classical.choose (h c) σ H Q, fun c => ⟨fun pins s σ H Q I q => (Classical.choose_spec (h c)).1.run pins s σ H Q I (q c)⟩, hR _ fun c => (Classical.choose_spec (h c)).2⟩
theorem all_tg {ι : Type} (Xs : ι → Cx) {e : Expr} {R : TG → Prop} (hR : ∀ t : ι → TG, (∀ c, R (t c)) → R (fun v σ H Q => ∀ c, t c v σ H Q)) (h : ∀ c, ∃ t, PG (Xs c) e t ∧ R t) : ∃ t, (∀ c, PG (Xs c) e t) ∧ R t := by
  refine ⟨fun v σ H Q => ∀ c, Classical.choose (h c) v σ H Q, fun c => ⟨fun pins s σ H v u Q I r q => (Classical.choose_spec (h c)).1.run pins s σ H v u Q I r (q c)⟩, hR _ fun c => (Classical.choose_spec (h c)).2⟩
theorem wipe_eq {σ σ2 : L2.St} {own : List Nat} (hl : σ2.length = (wipe σ own).length) (k : ∀ i, i < σ2.length → i ∉ own → σ2[i]? = (wipe σ own)[i]?) : wipe σ2 own = wipe σ own := by
  apply List.ext_getElem?
  intro i
  by_cases hi : i ∈ own
  · by_cases hl2 : i < σ2.length
    · have a := wipe_none (σ := σ2) hi
      have b := wipe_none (σ := σ) hi
      have a' : (wipe σ2 own)[i]? = some none := a.resolve_right (by rw [List.getElem?_eq_none_iff, wipe_length]; omega)
      have b' : (wipe σ own)[i]? = some none := b.resolve_right (by rw [List.getElem?_eq_none_iff]; omega)
      rw [a', b']
    · rw [List.getElem?_eq_none (by rw [wipe_length]; omega), List.getElem?_eq_none (by omega)]
  · rw [wipe_other hi]
    by_cases hl2 : i < σ2.length
    · exact k i hl2 hi
    · rw [List.getElem?_eq_none (by omega), List.getElem?_eq_none (by omega)]

/-- what a comprehension's reading asks -/
theorem rel_lc {me : Mode (mdl X)} {kp pnC own : List Nat} {wi : TI} {g : TG} {tt : TT} {te : TE} {src : Src} {f : Tg} {mc : DEnv → R Bool} {mv : DEnv → R D} (hnd : own.Nodup) (hkp : ∀ i ∈ kp, i ∉ own)
    (ki : ∀ σ δ H τ (T : It → Hp → Prop), StO ms σ δ H τ → PostI (X := X) W ms kp σ τ T (src δ) → wi σ H T)
    (kg : ∀ v d σ δ δ' H τ (Q : L2.St → Hp → Prop), StO ms σ δ H ((fz (M := mdl X)).fam v d :: τ) → f d δ = some δ' → (∀ σ', Keep pnC σ σ' → σ'.length = σ.length → StO ms σ' δ' H τ → Q σ' H) → g v σ H Q)
    (kc : RelT (X := X) W0 ms tt mc) (kv : RelE (X := X) W0 ms me te mv) (hpn : ∀ i, i < ms.length → i ∉ own → i ∈ pnC) : RelE (X := X) W ms (Lof me) (tLc wi g tt te own) (mLc src f mc mv own) := by
  intro σ δ H τ Q st q
  refine ki σ δ H τ _ st ?_
  unfold mLc at q
  cases z : src δ with
  | exc c δ1 => rw [z] at q; exact q
  | stuck => rw [z] at q; exact q
  | ok x δ1 =>
    rw [z, R.bind_ok] at q
    split at q
    · rename_i hsz
      intro J H1 P Δ wk st1 fn L hL
      -- the own slots set aside
      obtain ⟨S1, Γ, sl1, ho1⟩ := st1
      obtain ⟨Γ1, Γ2, pp, slw, back⟩ := sl1.aside own
      have ho2 : Holds S1 H1 ((Γ1 ++ (P :: (Δ ++ τ))) ++ Γ2) := ho1.perm ((pp.append_left _).trans (by
        rw [← List.append_assoc]
        exact List.perm_append_comm.append_right _))
      have hlen : (wipe σ own).length = σ.length := wipe_length _ _
      let goal := fun (ds : List D) (r : R (List D)) => PostE (X := X) W ms (Lof me) σ τ Q (r.bind fun xs δ2 => finLc x.2 δ1 own (ds ++ xs) δ2)
      refine ⟨fun i m H' => ∃ δ' ds, i + m = x.1.length ∧ ds.length ≤ i ∧ StO ms (wipe σ own) δ' H' ((Lof me).fam (.ref L) (.lst ds) :: (Γ1 ++ (P :: (Δ ++ τ)))) ∧ goal ds (dLc f mc mv own (x.1.drop i) δ'),
        ⟨x.1.length, wipeD δ1 own, [], by simp, Nat.le_refl _, ?_, ?_⟩, ?_⟩
      · refine ⟨S1, Γ2, slw, ?_⟩
        exact ho2.newO hL ((Lof me).stb _ _) fun F hF => .inr ⟨L, [], [], fun _ => False, rfl, rfl, upd_same, .nil fun _ z => z, fun z => z, fun a => (hF a).trans ⟨.inl, fun z => z.elim id False.elim⟩⟩
      · show PostE (X := X) W ms (Lof me) σ τ Q _
        exact q
      · rintro i m H2 ⟨δ2, ds, em, hds, st2, q2⟩
        obtain ⟨S2, Γ3, sl2, ho3⟩ := id st2
        have hoP : Holds S2 H2 (P :: ((Lof me).fam (.ref L) (.lst ds) :: (Γ1 ++ (Δ ++ τ))) ++ Γ3) := ho3.perm (by
          refine List.Perm.append_right _ ?_
          exact ((List.perm_middle).cons _).trans (.swap ..))
        by_cases hi : i < x.1.length
        · have eg : x.1[i]? = some x.1[i] := List.getElem?_eq_getElem hi
          obtain ⟨g1, g2⟩ := wk.go i _ eg S2 H2 _ hoP
          rw [List.drop_eq_getElem_cons hi] at q2
          refine .inr ⟨g1, fun H' => ∃ δ' ds, i + 1 + (m - 1) = x.1.length ∧ ds.length ≤ i + 1 ∧ StO ms (wipe σ own) δ' H' ((Lof me).fam (.ref L) (.lst ds) :: (Γ1 ++ (P :: (Δ ++ τ)))) ∧ goal ds (dLc f mc mv own (x.1.drop (i + 1)) δ'), fun H' h => ⟨m - 1, by omega, h⟩, fun y H3 hy => ?_⟩
          obtain ⟨S3, ho4⟩ := g2 y H3 hy
          have st3 : StO ms (wipe σ own) δ2 H3 (fz.fam y x.1[i] :: (Lof me).fam (.ref L) (.lst ds) :: (Γ1 ++ (P :: (Δ ++ τ)))) := ⟨S3, Γ3, sl2, ho4.perm (by
            show (fz.fam y x.1[i] :: (P :: ((Lof me).fam (.ref L) (.lst ds) :: ((Γ1 ++ (Δ ++ τ)) ++ Γ3)))).Perm (fz.fam y x.1[i] :: ((Lof me).fam (.ref L) (.lst ds) :: ((Γ1 ++ (P :: (Δ ++ τ))) ++ Γ3)))
            refine List.Perm.cons _ ((List.Perm.swap ..).trans (List.Perm.cons _ (List.Perm.append_right (l₁ := P :: (Γ1 ++ (Δ ++ τ))) _ ?_)))
            exact List.perm_middle.symm)⟩
          have q3 : PostE (X := X) W ms (Lof me) σ τ Q (((match f x.1[i] δ2 with
            | some δ1 => ((mc δ1).noX).bind fun b δ2 => if b = true then ((mv δ2).noX).bind fun x' δ3 => (dLc f mc mv own (x.1.drop (i + 1)) (wipeD δ3 own)).bind fun xs δ4 => .ok (x' :: xs) δ4
              else dLc f mc mv own (x.1.drop (i + 1)) (wipeD δ2 own)
            | none => .stuck) : R (List D)).bind fun xs δ2 => finLc x.2 δ1 own (ds ++ xs) δ2) := q2
          cases zt : f x.1[i] δ2 with
          | none => rw [zt] at q3; exact q3.elim
          | some δ3 =>
            rw [zt] at q3
            dsimp only at q3
            refine kg y _ (wipe σ own) δ2 δ3 H3 _ _ st3 zt fun σ2 kp2 hl2 st4 => ?_
            have ew : wipe σ2 own = wipe σ own := wipe_eq hl2 fun j hj hn => kp2 j (hpn j (by
              have := sl2.len.1
              omega) hn)
            refine ⟨ew, kc σ2 δ3 H3 _ _ st4 ?_⟩
            -- from a state with own slots filled to one with them wiped
            have wiped : ∀ {δ4 : DEnv} {H4 : Hp} {τ4 : List Pc}, StO ms σ2 δ4 H4 τ4 → StO ms (wipe σ own) (wipeD δ4 own) H4 τ4 := fun {δ4 H4 τ4} s => by
              obtain ⟨S4, Γ4, sl4, ho⟩ := s
              obtain ⟨Ga, Gb, pg, sw, _⟩ := sl4.aside own
              rw [ew] at sw
              refine ⟨S4, Gb, sw, ?_⟩
              exact (ho.perm ((pg.append_left _).trans (List.perm_append_comm_assoc _ _ _))).dropL
            cases zc : mc δ3 with
            | exc c δ4 => rw [zc] at q3; exact q3.elim
            | stuck => rw [zc] at q3; exact q3.elim
            | ok b δ4 =>
              rw [zc] at q3
              have q4 : PostE (X := X) W ms (Lof me) σ τ Q ((if b = true then ((mv δ4).noX).bind fun x' δ3 => (dLc f mc mv own (x.1.drop (i + 1)) (wipeD δ3 own)).bind fun xs δ4 => .ok (x' :: xs) δ4
                else dLc f mc mv own (x.1.drop (i + 1)) (wipeD δ4 own)).bind fun xs δ2 => finLc x.2 δ1 own (ds ++ xs) δ2) := q3
              intro H4 st5
              cases b with
              | false =>
                rw [if_neg (by decide)] at q4 ⊢
                exact ⟨wipeD δ4 own, ds, by omega, by omega, wiped st5, q4⟩
              | true =>
                rw [if_pos rfl] at q4 ⊢
                refine kv σ2 δ4 H4 _ _ st5 ?_
                cases zv : mv δ4 with
                | exc c δ5 => rw [zv] at q4; exact q4.elim
                | stuck => rw [zv] at q4; exact q4.elim
                | ok d δ5 =>
                  rw [zv] at q4
                  intro v5 H5 st6
                  obtain ⟨S6, Γ6, sl6, ho6⟩ := id st6
                  obtain ⟨vs, e1, e2, e3⟩ := Holds.appendL (m := me) (ho6.perm (.swap ..))
                  refine ⟨vs, e1, by omega, wipeD δ5 own, ds ++ [d], by omega, by simp; omega, wiped ⟨S6, Γ6, sl6, e3⟩, ?_⟩
                  show PostE (X := X) W ms (Lof me) σ τ Q _
                  have q5 : PostE (X := X) W ms (Lof me) σ τ Q (((dLc f mc mv own (x.1.drop (i + 1)) (wipeD δ5 own)).bind fun xs δ4 => R.ok (d :: xs) δ4).bind fun xs δ2 => finLc x.2 δ1 own (ds ++ xs) δ2) := q4
                  cases zr : dLc f mc mv own (x.1.drop (i + 1)) (wipeD δ5 own) with
                  | exc c δ6 => rw [zr] at q5; exact q5
                  | stuck => rw [zr] at q5; exact q5
                  | ok xs δ6 =>
                    rw [zr] at q5
                    show PostE (X := X) W ms (Lof me) σ τ Q (finLc x.2 δ1 own ((ds ++ [d]) ++ xs) δ6)
                    rw [List.append_assoc]
                    exact q5
        · have e0 : x.1.drop i = [] := List.drop_of_length_le (by omega)
          rw [e0] at q2
          refine .inl ⟨wk.stop i (by omega) S2 H2 _ hoP, ?_⟩
          have q3 : PostE (X := X) W ms (Lof me) σ τ Q (finLc x.2 δ1 own (ds ++ []) δ2) := q2
          rw [List.append_nil] at q3
          unfold finLc at q3
          obtain ⟨Γ4, p4, sl4⟩ := back δ2 Γ3 hnd sl2
          have st4 : StO ms σ (restD δ1 own δ2) H2 (P :: (Δ ++ ((Lof me).fam (.ref L) (.lst ds) :: τ))) := ⟨S2, Γ4, sl4, ho3.perm (by
            refine List.Perm.trans ?_ ((p4.symm).append_left _)
            have a1 : ((Lof me).fam (.ref L) (.lst ds) :: (Γ1 ++ (P :: (Δ ++ τ)))).Perm ((P :: (Δ ++ ((Lof me).fam (.ref L) (.lst ds) :: τ))) ++ Γ1) := by
              refine List.Perm.trans ?_ List.perm_append_comm
              refine (List.perm_middle (a := (Lof me).fam (.ref L) (.lst ds)) (l₁ := Γ1) (l₂ := P :: (Δ ++ τ))).symm.trans (List.Perm.append_left _ ?_)
              exact (List.Perm.swap ..).trans ((List.perm_middle.symm).cons _)
            refine (a1.append_right Γ3).trans ?_
            rw [List.append_assoc])⟩
          cases zf : x.2 (restD δ1 own δ2) with
          | none => rw [zf] at q3; exact q3.elim
          | some δ3 =>
            rw [zf] at q3
            exact q3 (.ref L) H2 (fn σ _ δ3 H2 _ (Keep.refl _ _) st4 zf)
    · exact q.elim
/-- a clause's tests -/
structure DTs (X : Cx) (W : WX) (ms : List (Mode (mdl X))) (ifs : List Expr) (m : DEnv → R Bool) : Prop where
  run : ∃ t, PTs X ifs t ∧ RelT W ms t m
theorem dts_nil : DTs X W ms [] mYes := ⟨_, pts_nil, fun σ δ H τ Q st q => q H st⟩
theorem dts_one {c : Expr} {m : DEnv → R Bool} (h : DT X W ms c m) : DTs X W ms [c] m := by
  obtain ⟨t, p, k⟩ := h.run
  exact ⟨t, pts_one p, k⟩
theorem all_tts {ι : Type} (Xs : ι → Cx) {e : List Expr} {R : TT → Prop} (hR : ∀ t : ι → TT, (∀ c, R (t c)) → R (fun σ H Q => ∀ c, t c σ H Q)) (h : ∀ c, ∃ t, PTs (Xs c) e t ∧ R t) : ∃ t, (∀ c, PTs (Xs c) e t) ∧ R t := by
  refine ⟨fun σ H Q => ∀ c, Classical.choose (h c) σ H Q, fun c => ⟨fun pins s σ H Q I q => (Classical.choose_spec (h c)).1.run pins s σ H Q I (q c)⟩, hR _ fun c => (Classical.choose_spec (h c)).2⟩
structure BIx where
  s : Shared
  H : Hp
  C : Addr
  cl : List (Str × Addr)
  fp : List Addr
abbrev bx (X : Cx) (scope : Scope) (c : BIx) : Cx := X.blk c.s c.H scope (compEnvC scope c.cl c.C X.env) c.fp
section
variable {me : Mode (mdl X)} {kp pnC : List Nat} {own : List (Str × Nat)} {scope : Scope} {tg iter elt : Expr} {ifs : List Expr} {src : Src} {f : Tg} {mc : DEnv → R Bool} {mv : DEnv → R D}
theorem lc_all (hg : ∀ c : BIx, DG (bx X scope c) ms pnC tg f) (ht : ∀ c : BIx, DTs (bx X scope c) W0 ms ifs mc) (he : ∀ c : BIx, DE (bx X scope c) W0 ms elt me mv) :
    ∃ g tt te, (∀ c : BIx, PG (bx X scope c) tg g) ∧ (∀ c : BIx, PTs (bx X scope c) ifs tt) ∧ (∀ c : BIx, PE (bx X scope c) elt te) ∧
      (∀ v d σ δ δ' H τ (Q : L2.St → Hp → Prop), StO ms σ δ H ((fz (M := mdl X)).fam v d :: τ) → f d δ = some δ' → (∀ σ', Keep pnC σ σ' → σ'.length = σ.length → StO ms σ' δ' H τ → Q σ' H) → g v σ H Q) ∧ RelT (X := X) W0 ms tt mc ∧ RelE (X := X) W0 ms me te mv := by
  obtain ⟨g, pg, kg⟩ := all_tg (fun c => bx X scope c) (R := fun g => ∀ v d σ δ δ' H τ (Q : L2.St → Hp → Prop), StO ms σ δ H ((fz (M := mdl X)).fam v d :: τ) → f d δ = some δ' → (∀ σ', Keep pnC σ σ' → σ'.length = σ.length → StO ms σ' δ' H τ → Q σ' H) → g v σ H Q)
    (fun t h v d σ δ δ' H τ Q st e k c => h c v d σ δ δ' H τ Q st e k) (fun c => (hg c).run)
  obtain ⟨tt, pt, kt⟩ := all_tts (fun c => bx X scope c) (R := fun t => RelT (X := X) W0 ms t mc) (fun t h σ δ H τ Q st q c => h c σ δ H τ Q st q) (fun c => (ht c).run)
  obtain ⟨te, pe, ke⟩ := all_te (fun c => bx X scope c) (R := fun t => RelE (X := X) W0 ms me t mv) (fun t h σ δ H τ Q st q c => h c σ δ H τ Q st q) (fun c => (he c).run)
  exact ⟨g, tt, te, pg, pt, pe, kg, kt, ke⟩
/-- [elt for tg in iter if ..] -/
theorem de_lc (hc : X.calm = true) (hN : X.N.Nodup) (hi : DI X W ms kp tg iter src) (ok : BlkOk X.N X.env.scope scope own) (hg : ∀ c : BIx, DG (bx X scope c) ms pnC tg f) (ht : ∀ c : BIx, DTs (bx X scope c) W0 ms ifs mc) (he : ∀ c : BIx, DE (bx X scope c) W0 ms elt me mv)
    (hnd : (own.map (·.2)).Nodup := by decide) (hkp : ∀ i ∈ kp, i ∉ own.map (·.2) := by exact of_decide_eq_true (by rfl)) (hpn : ∀ i, i < ms.length → i ∉ own.map (·.2) → i ∈ pnC := by exact of_decide_eq_true (by rfl)) (hs : ∀ x, foldedSetIterable iter X.env x = pure x := by intro _; rfl) :
    DE X W ms (.ListComp elt [⟨tg, iter, ifs, 0⟩] scope pos) (Lof me) (mLc src f mc mv (own.map (·.2))) := by
  obtain ⟨wi, pi, ki⟩ := hi.run
  obtain ⟨g, tt, te, pg, pt, pe, kg, kt, ke⟩ := lc_all hg ht he
  exact ⟨_, pe_lc hc hN pi ok (fun s H C cl fp => pg ⟨s, H, C, cl, fp⟩) (fun s H C cl fp => pt ⟨s, H, C, cl, fp⟩) (fun s H C cl fp => pe ⟨s, H, C, cl, fp⟩) hs, rel_lc hnd hkp ki kg kt ke hpn⟩
/-- x = [elt for ..] -/
theorem ds_setLc {i : Nat} {y : Str} {py spos : Pos} (hc : X.calm = true) (hN : X.N.Nodup) (hi : DI X W ms kp tg iter src) (ok : BlkOk X.N X.env.scope scope own) (hg : ∀ c : BIx, DG (bx X scope c) ms pnC tg f) (ht : ∀ c : BIx, DTs (bx X scope c) W0 ms ifs mc) (he : ∀ c : BIx, DE (bx X scope c) W0 ms elt me mv)
    (hsw : swapsWith (.ListComp elt [⟨tg, iter, ifs, 0⟩] scope pos) (some (.Name y py)) spos.line X.env = pure true) (hm : ms[i]? = some (Lof me) := by rfl) (hy : X.N[i]? = some y := by rfl) (hyl : X.env.scope.names.lookup y = some .local := by rfl) (hp : i ∉ pn := by exact of_decide_eq_true (by rfl))
    (hnd : (own.map (·.2)).Nodup := by decide) (hkp : ∀ i ∈ kp, i ∉ own.map (·.2) := by exact of_decide_eq_true (by rfl)) (hpn : ∀ i, i < ms.length → i ∉ own.map (·.2) → i ∈ pnC := by exact of_decide_eq_true (by rfl)) (hs : ∀ x, foldedSetIterable iter X.env x = pure x := by intro _; rfl) :
    DS X W ms mr pn (.Assign [.Name y py] (.ListComp elt [⟨tg, iter, ifs, 0⟩] scope pos) spos) (mAsg i (mLc src f mc mv (own.map (·.2)))) := by
  obtain ⟨wi, pi, ki⟩ := hi.run
  obtain ⟨g, tt, te, pg, pt, pe, kg, kt, ke⟩ := lc_all hg ht he
  exact ⟨_, ps_setLc hc hN hy hyl hsw pi ok (fun s H C cl fp => pg ⟨s, H, C, cl, fp⟩) (fun s H C cl fp => pt ⟨s, H, C, cl, fp⟩) (fun s H C cl fp => pe ⟨s, H, C, cl, fp⟩) hs, relAsg (rel_lc hnd hkp ki kg kt ke hpn) hm hp⟩
/-- .. the list shared at once -/
theorem ds_setLcF {i : Nat} {y : Str} {py spos : Pos} (hc : X.calm = true) (hN : X.N.Nodup) (hi : DI X W ms kp tg iter src) (ok : BlkOk X.N X.env.scope scope own) (hg : ∀ c : BIx, DG (bx X scope c) ms pnC tg f) (ht : ∀ c : BIx, DTs (bx X scope c) W0 ms ifs mc) (he : ∀ c : BIx, DE (bx X scope c) W0 ms elt me mv)
    (hsw : swapsWith (.ListComp elt [⟨tg, iter, ifs, 0⟩] scope pos) (some (.Name y py)) spos.line X.env = pure true) (hm : ms[i]? = some fz := by rfl) (hy : X.N[i]? = some y := by rfl) (hyl : X.env.scope.names.lookup y = some .local := by rfl) (hp : i ∉ pn := by exact of_decide_eq_true (by rfl))
    (hnd : (own.map (·.2)).Nodup := by decide) (hkp : ∀ i ∈ kp, i ∉ own.map (·.2) := by exact of_decide_eq_true (by rfl)) (hpn : ∀ i, i < ms.length → i ∉ own.map (·.2) → i ∈ pnC := by exact of_decide_eq_true (by rfl)) (hs : ∀ x, foldedSetIterable iter X.env x = pure x := by intro _; rfl) :
    DS X W ms mr pn (.Assign [.Name y py] (.ListComp elt [⟨tg, iter, ifs, 0⟩] scope pos) spos) (mAsg i (mLc src f mc mv (own.map (·.2)))) := by
  obtain ⟨wi, pi, ki⟩ := hi.run
  obtain ⟨g, tt, te, pg, pt, pe, kg, kt, ke⟩ := lc_all hg ht he
  have rel := rel_lc (W := W) hnd hkp ki kg kt ke hpn
  have relF : RelE (X := X) W ms fz _ (mLc src f mc mv (own.map (·.2))) := fun σ δ H τ Q st q => rel σ δ H τ Q st (by
    cases z : mLc src f mc mv (own.map (·.2)) δ with
    | ok d δ' => rw [z] at q; exact fun v H' st' => q v H' st'.share
    | exc c δ' => rw [z] at q; exact q
    | stuck => rw [z] at q; exact q)
  exact ⟨_, ps_setLc hc hN hy hyl hsw pi ok (fun s H C cl fp => pg ⟨s, H, C, cl, fp⟩) (fun s H C cl fp => pt ⟨s, H, C, cl, fp⟩) (fun s H C cl fp => pe ⟨s, H, C, cl, fp⟩) hs, relAsg relF hm hp⟩
end
end
end DM
set_option maxRecDepth 100000
/-! Data mirror, part 11: built-in functions, slices, in, methods that change a list, stores. -/
namespace DM
open PySem PySem.Spec L2

section
variable {X : Cx}
theorem CallR.or {f : Value} {r r' : List V → Hp → VK → Prop} (h : CallR X f r) (h' : CallR X f r') : CallR X f (fun xs H Q => r xs H Q ∨ r' xs H Q) := by
  intro pins s σ H xs us Q I r q
  rcases q with q | q
  · exact h pins s σ H xs us Q I r q
  · exact h' pins s σ H xs us Q I r q
variable {m1 m2 : Mode (mdl X)} {qs : List (Mode (mdl X))}
/-! ### len -/
def lenD : List D → Option D
  | [.lst ds] => some (.int ds.length)
  | [.tup ds] => some (.int ds.length)
  | [.str z] => if z.length ≤ sizeLine then some (.int z.length) else none
  | [.scr ns] => some (.int ns.length)
  | _ => none
def rLenA (K : PySem.W.Frag) : List V → Hp → VK → Prop := fun xs H Q => ∃ x n, xs = [x] ∧ LenV K x H n ∧ Q (.int n) H
theorem opn_len : OpN (mdl X) (rLenA X.K) qs fz lenD := by
  intro S H Γ vs ds d Q ho sn e k
  unfold lenD at e
  split at e
  · cases e
    obtain ⟨v, m, rfl, _, s1⟩ := seens1 sn
    obtain ⟨a, xs, rfl, h1, r1⟩ := s1.lst ho.ex
    exact ⟨_, xs.length, rfl, .inl ⟨xs, SqL.of h1, rfl⟩, by rw [r1.length]; exact k _ S H (ho.sc fun _ => .int _)⟩
  · cases e
    obtain ⟨v, m, rfl, _, s1⟩ := seens1 sn
    obtain ⟨a, xs, rfl, h1, r1⟩ := s1.tup ho.ex
    exact ⟨_, xs.length, rfl, .inr ⟨xs, h1, rfl⟩, by rw [r1.length]; exact k _ S H (ho.sc fun _ => .int _)⟩
  · split at e
    · rename_i z hz
      cases e
      obtain ⟨v, m, rfl, _, s1⟩ := seens1 sn
      cases s1.str ho.ex
      exact ⟨_, z.length, rfl, ⟨hz, rfl⟩, k _ S H (ho.sc fun _ => .int _)⟩
    · cases e
  · rename_i ns
    cases e
    obtain ⟨v, m, rfl, _, s1⟩ := seens1 sn
    obtain ⟨a, rfl, h1⟩ := s1.scr ho.ex
    exact ⟨_, ns.length, rfl, .inl ⟨_, h1, by simp⟩, k _ S H (ho.sc fun _ => .int _)⟩
  · cases e

/-! ### int, abs, max, min of two -/
def intD : List D → Option D
  | [.int i] => some (.int i)
  | [.bl b] => some (.int (if b then 1 else 0))
  | _ => none
theorem opn_int : OpN (mdl X) (fun xs H Q => (∃ i, xs = [.int i] ∧ Q (.int i) H) ∨ ∃ k, xs = [.bl k] ∧ Q (.int (if k then 1 else 0)) H) qs fz intD := by
  intro S H Γ vs ds d Q ho sn e k
  unfold intD at e
  split at e
  · cases e
    obtain ⟨v, m, rfl, _, s1⟩ := seens1 sn
    cases s1.int ho.ex
    exact .inl ⟨_, rfl, k _ S H (ho.sc fun _ => .int _)⟩
  · cases e
    obtain ⟨v, m, rfl, _, s1⟩ := seens1 sn
    cases s1.bl ho.ex
    exact .inr ⟨_, rfl, k _ S H (ho.sc fun _ => .int _)⟩
  · cases e
def absD : List D → Option D
  | [.int i] => some (.int (if i < 0 then -i else i))
  | _ => none
theorem opn_abs : OpN (mdl X) (fun xs H Q => ∃ i, xs = [.int i] ∧ Q (.int (if i < 0 then -i else i)) H) qs fz absD := by
  intro S H Γ vs ds d Q ho sn e k
  unfold absD at e
  split at e
  · cases e
    obtain ⟨v, m, rfl, _, s1⟩ := seens1 sn
    cases s1.int ho.ex
    exact ⟨_, rfl, k _ S H (ho.sc fun _ => .int _)⟩
  · cases e
def max2D : List D → Option D
  | [.int i, .int j] => some (.int (if j > i then j else i))
  | _ => none
def min2D : List D → Option D
  | [.int i, .int j] => some (.int (if j < i then j else i))
  | _ => none
theorem opn_max2 : OpN (mdl X) (fun xs H Q => ∃ i j, xs = [.int i, .int j] ∧ Q (.int (if j > i then j else i)) H) qs fz max2D := by
  intro S H Γ vs ds d Q ho sn e k
  unfold max2D at e
  split at e
  · cases e
    obtain ⟨v, m, w, n, rfl, _, s1, s2⟩ := seens2 sn
    cases s1.int ho.ex
    cases s2.int ho.ex
    exact ⟨_, _, rfl, k _ S H (ho.sc fun _ => .int _)⟩
  · cases e
theorem opn_min2 : OpN (mdl X) (fun xs H Q => ∃ i j, xs = [.int i, .int j] ∧ Q (.int (if j < i then j else i)) H) qs fz min2D := by
  intro S H Γ vs ds d Q ho sn e k
  unfold min2D at e
  split at e
  · cases e
    obtain ⟨v, m, w, n, rfl, _, s1, s2⟩ := seens2 sn
    cases s1.int ho.ex
    cases s2.int ho.ex
    exact ⟨_, _, rfl, k _ S H (ho.sc fun _ => .int _)⟩
  · cases e

/-! ### sum of ints -/
def intsOf : List D → Option (List Int)
  | [] => some []
  | .int i :: r => (intsOf r).map (i :: ·)
  | _ :: _ => none
theorem intsOf_eq : ∀ {ds : List D} {ns : List Int}, intsOf ds = some ns → ds = ns.map D.int
  | [], _, h => by cases h; rfl
  | .int i :: r, ns, h => by
    unfold intsOf at h
    obtain ⟨ms, e1, e2⟩ := Option.map_eq_some_iff.mp h
    subst e2
    rw [List.map_cons, intsOf_eq e1]
  | .non :: _, _, h => by cases h
  | .bl _ :: _, _, h => by cases h
  | .str _ :: _, _, h => by cases h
  | .lst _ :: _, _, h => by cases h
  | .tup _ :: _, _, h => by cases h
  | .dK _ _ :: _, _, h => by cases h
  | .dT _ _ :: _, _, h => by cases h
  | .obj _ _ _ :: _, _, h => by cases h
  | .exn _ :: _, _, h => by cases h
  | .scr _ :: _, _, h => by cases h
theorem intsOf_map : ∀ ns : List Int, intsOf (ns.map D.int) = some ns
  | [] => rfl
  | n :: r => by simp [intsOf, intsOf_map r]
def sumD : List D → Option D
  | [.lst ds] => (intsOf ds).map fun ns => D.int ns.sum
  | _ => none
theorem opn_sum : OpN (mdl X) (rSum X.K) qs fz sumD := by
  intro S H Γ vs ds d Q ho sn e k
  unfold sumD at e
  split at e
  · obtain ⟨ns, e1, e2⟩ := Option.map_eq_some_iff.mp e
    subst e2
    obtain ⟨v, m, rfl, _, s1⟩ := seens1 sn
    obtain ⟨a, xs, rfl, h1, r1⟩ := s1.lst ho.ex
    rw [intsOf_eq e1] at r1
    rw [r1.ints] at h1
    exact ⟨a, ns, rfl, SqL.of h1, k _ S H (ho.sc fun _ => .int _)⟩
  · cases e

/-! ### list(x), tuple(x) -/
def listD : List D → Option D
  | [.lst ds] => some (.lst ds)
  | [.tup ds] => some (.lst ds)
  | _ => none
theorem opn_list (f1 : Flat m1) : OpN (mdl X) (fun xs H Q => ∃ p ys, xs = [.ref p] ∧ (SqL X.K H p ys ∨ SqT X.K H p ys) ∧ ∀ l, H l = none → Q (.ref l) (upd H l (.lst ys))) [m1] (Lof fz) listD := by
  intro S H Γ vs ds d Q ho sn e k
  unfold listD at e
  split at e
  · cases e
    obtain ⟨v, m, rfl, em, s1⟩ := seens1 sn
    cases em
    obtain ⟨a, xs, rfl, h1, r1⟩ := s1.lstF f1 ho.ex
    exact ⟨a, xs, rfl, .inl (SqL.of h1), fun l hl => k _ S _ (ho.newL hl r1)⟩
  · cases e
    obtain ⟨v, m, rfl, em, s1⟩ := seens1 sn
    cases em
    obtain ⟨a, xs, rfl, h1, r1⟩ := s1.tupF f1 ho.ex
    exact ⟨a, xs, rfl, .inr h1, fun l hl => k _ S _ (ho.newL hl r1)⟩
  · cases e
def tupleD : List D → Option D
  | [.lst ds] => some (.tup ds)
  | [.tup ds] => some (.tup ds)
  | _ => none
theorem opn_tuple (f1 : Flat m1) : OpN (mdl X) (fun xs H Q => ∃ p ys, xs = [.ref p] ∧ ((SqL X.K H p ys ∧ ∀ l, H l = none → Q (.ref l) (upd H l (.tup ys))) ∨ (SqT X.K H p ys ∧ Q (.ref p) H))) [m1] fz tupleD := by
  intro S H Γ vs ds d Q ho sn e k
  unfold tupleD at e
  split at e
  · cases e
    obtain ⟨v, m, rfl, em, s1⟩ := seens1 sn
    cases em
    obtain ⟨a, xs, rfl, h1, r1⟩ := s1.lstF f1 ho.ex
    exact ⟨a, xs, rfl, .inl ⟨SqL.of h1, fun l hl => k _ _ _ (ho.newT hl r1)⟩⟩
  · cases e
    obtain ⟨v, m, rfl, em, s1⟩ := seens1 sn
    cases em
    obtain ⟨F, p⟩ := s1
    rcases f1.get p with r | r
    · cases r with
      | tup h1 r1 => exact ⟨_, _, rfl, .inr ⟨ho.ex.t h1, k _ S H (ho.addFz (.tup h1 r1))⟩⟩
    · exact r.elim
  · cases e

/-! ### isinstance with a built-in class -/
inductive Ty where
  | non | bool | int | str | list | tuple | dict
  deriving DecidableEq
def Ty.name : Ty → String
  | .non => "NoneType"
  | .bool => "bool"
  | .int => "int"
  | .str => "str"
  | .list => "list"
  | .tuple => "tuple"
  | .dict => "dict"
def Ty.isa : Ty → Ty → Bool
  | .bool, .int => true
  | a, b => decide (a = b)
def D.ty : D → Option Ty
  | .non => some .non
  | .bl _ => some .bool
  | .int _ => some .int
  | .str _ => some .str
  | .lst _ => some .list
  | .tup _ => some .tuple
  | .dK _ _ => some .dict
  | .dT _ _ => some .dict
  | .scr _ => some .list
  | _ => none
theorem kit_all : ∀ a b : Ty, b ≠ .non → kitB a.name b.name = some (a.isa b) := by
  intro a b hb
  cases b <;> first
    | exact absurd rfl hb
    | (cases a <;> decide +kernel)
def isiD (t : Ty) (d : D) : Option D := d.ty.map fun a => .bl (a.isa t)
theorem Rep.tyX {M : Mdl} {H : Hp} {v : V} {d : D} {a : Ty} (r : Rep M H v d) (e : d.ty = some a) : TyX M.K H v (.type a.name) := by
  cases r with
  | non => cases e; exact .base .non
  | bl b => cases e; exact .base (.bl _)
  | int b => cases e; exact .base (.int _)
  | str b => cases e; exact .base (.str _)
  | lst h _ => cases e; exact .base (.lst h)
  | tup h _ =>
    cases e
    rcases h with (h | ⟨o, h⟩) | ⟨o, its, n, h1, h2, _⟩
    · exact .base (.tup h)
    · exact .fTuple h
    · exact .kTuple h1 h2
  | dK h _ _ => cases e; exact .base (.dK h)
  | dT h _ _ => cases e; exact .base (.dT h)
  | obj => cases e
  | exn => cases e
  | scr h =>
    cases e
    rcases h with (h | ⟨o, h⟩) | ⟨o, its, n, h1, h2, _⟩
    · exact .base (.lst h)
    · exact .base (.frz h)
    · exact .kList h1 h2
variable {W : WX} {ms : List (Mode (mdl X))} {a b c e : Expr} {pos p : Pos}
theorem de_isi {T : Str} {p2 : Pos} {k1 : Kd (mdl X)} {ma : DEnv → R Opd} (t : Ty) (ht : t ≠ .non) (hm : X.mg "isinstance" = none) (hT : X.mg T = none) (hTv : bootBuiltins T = some (.type t.name)) (ha : DO X W ms a k1 ma) (hg : Gl X "isinstance" := by rfl) (hgT : Gl X T := by rfl) (hTn : T ≠ "__name__" := by decide) (hTd : (T == ("__debug__" : Str)) = false := by decide)
    (he : starEach [a, .Name T p2] X.env = (false, eval a X.env) :: starEach [.Name T p2] X.env := by rfl) (hs2 : starEach [.Name T p2] X.env = (false, eval (.Name T p2) X.env) :: starEach [] X.env := by rfl) (hpl : (backTo pos (starEach [.Name T p2] X.env)).any (·.1) = false := by rfl) :
    DE X W ms (.Call (.Name "isinstance" p) [a, .Name T p2] [] pos) fz (mOp1 ma (isiD t)) := by
  obtain ⟨ta, pa, ra⟩ := ha.rel
  refine ⟨_, pe_callB call_isi hg hm (by decide +kernel) (pa_cons pa (pa_cons (pe_bltn hgT hT hTv (v := .ty t.name) rfl hTn hTd) pa_nil hs2) he) (by decide) (by decide) he hpl, ?_⟩
  have op : Op1 (mdl X) (fun x H Q => rIsi X.K [x, .ty t.name] H Q) (k1.mode ms) fz (isiD t) := by
    intro S H Γ x d d' Q ho s1 e k
    obtain ⟨a, e1, e2⟩ := Option.map_eq_some_iff.mp (show d.ty.map (fun a => D.bl (a.isa t)) = some d' from e)
    subst e2
    exact ⟨x, _, _, _, _, rfl, .ty _, (s1.rep ho.ex).tyX e1, kit_ty (kit_all a t ht), k _ S H (ho.sc fun _ => .bl _)⟩
  exact relE1 ra op

/-! ### in, not in -/
/-- things of no items -/
def D.flat : D → Bool
  | .non => true
  | .bl _ => true
  | .int _ => true
  | .str _ => true
  | _ => false
def D.v : D → V
  | .bl b => .bl b
  | .int i => .int i
  | .str x => .str x
  | _ => .non
def inL (x : D) (xs : List D) : Option Bool := if x.flat = true ∧ xs.all D.flat = true then some (inV x.v (xs.map D.v)) else none
theorem Rep.flatV {M : Mdl} {S : Hp} {v : V} {d : D} (r : Rep M S v d) (f : d.flat = true) : v = d.v := by
  cases r <;> first | rfl | cases f
theorem RepL.flatV {M : Mdl} {S : Hp} : ∀ {vs : List V} {ds : List D}, RepL M S vs ds → ds.all D.flat = true → vs = ds.map D.v
  | _, _, .nil, _ => rfl
  | _, _, .cons r t, f => by
    rw [List.all_cons, Bool.and_eq_true] at f
    rw [List.map_cons, r.flatV f.1, t.flatV f.2]
theorem flatV_v {d : D} (f : d.flat = true) : L2.flatV d.v = true := by
  cases d <;> first | rfl | cases f
theorem flatV_all : ∀ {ds : List D}, ds.all D.flat = true → (ds.map D.v).all L2.flatV = true
  | [], _ => rfl
  | d :: ds, f => by
    rw [List.all_cons, Bool.and_eq_true] at f
    rw [List.map_cons, List.all_cons, flatV_v f.1, flatV_all f.2]
    rfl
def inD (neg : Bool) : D → D → Option D
  | x, .lst ds => (inL x ds).map fun k => .bl (if neg then !k else k)
  | x, .tup ds => (inL x ds).map fun k => .bl (if neg then !k else k)
  | .str x, .str z => if x.length = 1 then some (.bl (if neg then !decide (x.cps.getD 0 0 ∈ z.cps.toList) else decide (x.cps.getD 0 0 ∈ z.cps.toList))) else none
  | _, _ => none
def rSign (neg : Bool) : R2 := fun x y H Q => ∃ (c : Nat) (z : Str), x = .str ⟨#[c]⟩ ∧ y = .str z ∧ Q (.bl (if neg then !decide (c ∈ z.cps.toList) else decide (c ∈ z.cps.toList))) H
theorem opr_in : OpR X (compareOp .In) (fun x y H Q => rIn X.K false x y H Q ∨ rSign false x y H Q) := op_in_seq.or op_in_sign
theorem opr_notIn : OpR X (compareOp .NotIn) (fun x y H Q => rIn X.K true x y H Q ∨ rSign true x y H Q) := op_notIn_seq.or op_notIn_sign
theorem str_one {x : Str} (h : x.length = 1) : x = ⟨#[x.cps.getD 0 0]⟩ := by
  obtain ⟨⟨l⟩⟩ := x
  have h' : l.length = 1 := h
  match l, h' with
  | [c], _ => rfl
theorem op2_in (neg : Bool) : Op2 (mdl X) (fun x y H Q => rIn X.K neg x y H Q ∨ rSign neg x y H Q) m1 m2 fz (inD neg) := by
  intro S H Γ x y a b d Q ho s1 s2 e k
  unfold inD at e
  split at e
  · rename_i ds
    obtain ⟨t, e1, e2⟩ := Option.map_eq_some_iff.mp e
    subst e2
    unfold inL at e1
    split at e1
    · rename_i hf
      cases e1
      obtain ⟨p, vs, rfl, h1, r1⟩ := s2.lst ho.ex
      have ev := r1.flatV hf.2
      subst ev
      have ex := (s1.rep ho.ex).flatV hf.1
      subst ex
      exact .inl ⟨p, _, rfl, .inl (SqL.of h1), flatV_v hf.1, flatV_all hf.2, k _ S H (ho.sc fun _ => .bl _)⟩
    · cases e1
  · rename_i ds
    obtain ⟨t, e1, e2⟩ := Option.map_eq_some_iff.mp e
    subst e2
    unfold inL at e1
    split at e1
    · rename_i hf
      cases e1
      obtain ⟨p, vs, rfl, h1, r1⟩ := s2.tup ho.ex
      have ev := r1.flatV hf.2
      subst ev
      have ex := (s1.rep ho.ex).flatV hf.1
      subst ex
      exact .inl ⟨p, _, rfl, .inr h1, flatV_v hf.1, flatV_all hf.2, k _ S H (ho.sc fun _ => .bl _)⟩
    · cases e1
  · rename_i x' z
    split at e
    · rename_i hl
      cases e
      cases s1.str ho.ex
      cases s2.str ho.ex
      exact .inr ⟨_, z, by rw [← str_one hl], rfl, k _ S H (ho.sc fun _ => .bl _)⟩
    · cases e
  · cases e

/-! ### is, is not of truths -/
def isBD : D → D → Option D
  | .bl a, .bl b => some (.bl (decide (a = b)))
  | _, _ => none
def notBD : D → D → Option D
  | .bl a, .bl b => some (.bl (!decide (a = b)))
  | _, _ => none
theorem op2_isB : Op2 (mdl X) rIsB m1 m2 fz isBD := by
  intro S H Γ x y a b d Q ho s1 s2 e k
  unfold isBD at e
  split at e
  · cases e; cases s1.bl ho.ex; cases s2.bl ho.ex
    exact ⟨_, _, rfl, rfl, k _ S H (ho.sc fun _ => .bl _)⟩
  · cases e
theorem op2_notB : Op2 (mdl X) rNotB m1 m2 fz notBD := by
  intro S H Γ x y a b d Q ho s1 s2 e k
  unfold notBD at e
  split at e
  · cases e; cases s1.bl ho.ex; cases s2.bl ho.ex
    exact ⟨_, _, rfl, rfl, k _ S H (ho.sc fun _ => .bl _)⟩
  · cases e

/-! ### slices -/
def PostB (W : WX) (ms : List (Mode (mdl X))) (σ : L2.St) (τ : List Pc) (Q : Option Int → Hp → Prop) : R (Option Int) → Prop
  | .ok o δ' => ∀ H', StO ms σ δ' H' τ → Q o H'
  | .exc c δ' => Wx (X := X) W ms τ σ c δ'
  | .stuck => False
structure DB (X : Cx) (W : WX) (ms : List (Mode (mdl X))) (e : Option Expr) (m : DEnv → R (Option Int)) : Prop where
  run : ∃ t, PO X e t ∧ ∀ σ δ H τ (Q : Option Int → Hp → Prop), StO ms σ δ H τ → PostB (X := X) W ms σ τ Q (m δ) → t σ H Q
def bNo : DEnv → R (Option Int) := fun δ => .ok none δ
def bAt (m : DEnv → R D) : DEnv → R (Option Int) := fun δ => (m δ).bind fun d δ' => match d with
  | .int i => .ok (some i) δ'
  | _ => .stuck
theorem db_no : DB X W ms none bNo := ⟨_, po_none, fun σ δ H τ Q st q => q H st⟩
theorem db_at {m : DEnv → R D} (h : DE X W ms e fz m) : DB X W ms (some e) (bAt m) := by
  obtain ⟨t, p, k⟩ := h.run
  refine ⟨_, po_some p, fun σ δ H τ Q st q => k σ δ H τ _ st ?_⟩
  unfold bAt at q
  cases z : m δ with
  | exc c δ' => rw [z] at q; exact q
  | stuck => rw [z] at q; exact q
  | ok d δ' =>
    rw [z, R.bind_ok] at q
    intro v H' st'
    split at q
    · cases st'.rd
      exact ⟨_, rfl, q H' st'.drop⟩
    · exact q.elim
def cut {α : Type} (xs : List α) (lo hi : Option Int) : List α := (xs.drop (HT.sIx xs.length 0 lo)).take (HT.sIx xs.length xs.length hi - HT.sIx xs.length 0 lo)
def sliceD (d : D) (lo hi : Option Int) : Option D := match d with
  | .lst ds => some (.lst (cut ds lo hi))
  | .str z => if z.length ≤ sizeLine then some (.str (cutS z lo hi)) else none
  | .scr ns => some (.lst ((cut ns lo hi).map D.int))
  | _ => none
def mSl (o : DEnv → R Opd) (lo hi : DEnv → R (Option Int)) : DEnv → R D := fun δ => (o δ).bind fun x δ1 => (lo δ1).bind fun l δ2 => (hi δ2).bind fun h δ3 => match x.get δ3, x.fin δ3 with
  | some d, some δ4 => .of (sliceD d l h) δ4
  | _, _ => .stuck
def rSlA (K : PySem.W.Frag) : V → Option Int → Option Int → Hp → VK → Prop := fun x lo hi H Q => rSlL K x lo hi H Q ∨ rSlS x lo hi H Q
theorem RepL.cut {M : Mdl} {S : Hp} {vs : List V} {ds : List D} (r : RepL M S vs ds) (lo hi : Option Int) : RepL M S (cutV vs lo hi) (DM.cut ds lo hi) := by
  unfold cutV DM.cut
  rw [r.length]
  exact (r.drop _).take _
theorem cut_map {α β : Type} (f : α → β) (xs : List α) (lo hi : Option Int) : DM.cut (xs.map f) lo hi = (DM.cut xs lo hi).map f := by
  unfold DM.cut
  rw [List.length_map, List.map_take, List.map_drop]
theorem de_slice {k1 : Kd (mdl X)} {ma : DEnv → R Opd} {lo hi : Option Expr} {ml mh : DEnv → R (Option Int)} {p2 : Pos} (ha : DO X W ms a k1 ma) (f1 : Flat (k1.mode ms)) (hl : DB X W ms lo ml) (hh : DB X W ms hi mh) : DE X W ms (.Subscript a (.Slice lo hi none p2) pos) (Lof fz) (mSl ma ml mh) := by
  obtain ⟨ta, pa, ka⟩ := ha.rel
  obtain ⟨tl, pl, kl⟩ := hl.run
  obtain ⟨th, ph, kh⟩ := hh.run
  refine ⟨_, pe_slice (r := rSlA X.K) (sl_list.or sl_str) pa pl ph, fun σ δ H τ Q st q => ka σ δ H τ _ st ?_⟩
  unfold mSl at q
  cases z : ma δ with
  | exc c δ' => rw [z] at q; exact q
  | stuck => rw [z] at q; exact q
  | ok x δ1 =>
    rw [z, R.bind_ok] at q
    intro v H1 Γa op st1
    refine kl σ δ1 H1 _ _ st1 ?_
    cases z2 : ml δ1 with
    | exc c δ' => rw [z2] at q; exact Wx.drop q
    | stuck => rw [z2] at q; exact q
    | ok l δ2 =>
      rw [z2, R.bind_ok] at q
      intro H2 st2
      refine kh σ δ2 H2 _ _ st2 ?_
      cases z3 : mh δ2 with
      | exc c δ' => rw [z3] at q; exact Wx.drop q
      | stuck => rw [z3] at q; exact q
      | ok h δ3 =>
        rw [z3, R.bind_ok] at q
        intro H3 st3
        split at q
        · rename_i d δ4 z4 z5
          cases zf : sliceD d l h with
          | none => rw [zf] at q; exact q.elim
          | some d' =>
            rw [zf] at q
            obtain ⟨S, Γ, sl, ho⟩ := id st3
            have sn := op.seen sl ho z4
            have fin : ∀ w S' H', Holds S' H' ((Lof fz).fam w d' :: ((Γa ++ τ) ++ Γ)) → Q w H' := fun w S' H' ho' => by
              have st5 : StO ms σ δ3 H' ((Lof fz).fam w d' :: (Γa ++ τ)) := ⟨S', Γ, sl, ho'⟩
              exact q w H' (op.fin (st5.perm List.perm_middle.symm) z5)
            unfold sliceD at zf
            split at zf
            · rename_i ds
              cases zf
              obtain ⟨p, vs, rfl, h1, r1⟩ := sn.lstF f1 ho.ex
              exact .inl ⟨p, vs, rfl, SqL.of h1, fun n hn => fin _ S _ (ho.newL hn (r1.cut l h))⟩
            · split at zf
              · rename_i s hs
                cases zf
                cases sn.str ho.ex
                exact .inr ⟨s, rfl, hs, fin _ S H3 (ho.notL (.str _) rfl)⟩
              · cases zf
            · rename_i ns
              cases zf
              obtain ⟨p, rfl, h1⟩ := sn.scr ho.ex
              refine .inl ⟨p, _, rfl, h1, fun n hn => fin _ S _ (ho.newL hn ?_)⟩
              show RepL _ S (DM.cut (ns.map V.int) l h) _
              rw [cut_map]
              exact RepL.ofInts _
            · cases zf
        · exact q.elim
/-- xs[::-1] -/
def revL : D → Option D
  | .lst ds => some (.lst ds.reverse)
  | _ => none
theorem de_rev {k1 : Kd (mdl X)} {ma : DEnv → R Opd} {kk : Nat} {p1 p2 p3 : Pos} (ha : DO X W ms a k1 ma) (f1 : Flat (k1.mode ms)) : DE X W ms (.Subscript a (.Slice none none (some (.UnaryOp .USub (.Constant (.int 1) kk p1) p2)) p3) pos) (Lof fz) (mOp1 ma revL) := by
  obtain ⟨ta, pa, ka⟩ := ha.rel
  refine ⟨_, pe_revL pa, ?_⟩
  have op : Op1 (mdl X) (fun x H1 Q => ∃ a xs, x = .ref a ∧ SqL X.K H1 a xs ∧ ∀ p, H1 p = none → Q (.ref p) (upd H1 p (.lst xs.reverse))) (k1.mode ms) (Lof fz) revL := by
    intro S H Γ x d d' Q ho s1 e k
    unfold revL at e
    split at e
    · cases e
      obtain ⟨p, vs, rfl, h1, r1⟩ := s1.lstF f1 ho.ex
      exact ⟨p, vs, rfl, SqL.of h1, fun n hn => k _ S _ (ho.newL hn r1.reverse)⟩
    · cases e
  exact relE1 ka op
end
end DM
set_option maxRecDepth 100000
/-! Data mirror, part 12: places within, methods that change a list, stores, raise. -/
namespace DM
open PySem PySem.Spec L2

section
variable {M : Mdl} {S H : Hp} {Γ : List Pc} {m : Mode M}
/-- an item of a list of one's own, and the rest of it -/
theorem Holds.focusL {p : V} {ds : List D} {j : Nat} {d : D} (h : Holds S H ((Lof m).fam p (.lst ds) :: Γ)) (e : ds[j]? = some d) :
    ∃ a vs v, p = .ref a ∧ H a = some (.lst vs) ∧ vs.length = ds.length ∧ vs[j]? = some v ∧ Holds S H (m.fam v d :: Wnd (m.fam v) (fun d' => (Lof m).fam p (.lst (ds.set j d'))) :: Γ) := by
  obtain ⟨U, a, b, c⟩ := h.own
  cases a with
  | cons s q t dj u =>
    rename_i F G0
    obtain ⟨p', vs, G, e1, e2, e3, nG, u1⟩ := Lof.at q
    subst e1
    obtain ⟨v, F1, G1, f1, f2, f3, f4, f5, _⟩ := e3.focus e
    refine ⟨p', vs, v, rfl, e2, e3.length, f1, h.ex, U, ?_, b, c⟩
    refine .cons (F := F1) (G := fun x => (x = p' ∨ G1 x) ∨ G0 x) (m.stb _ _) f2 (.cons (F := fun x => x = p' ∨ G1 x) (G := G0) (Wnd.stb _ _) ?_ t (fun x y z => ?_) fun _ => Iff.rfl) (fun x y z => ?_) (fun x => ?_)
    · intro S' H' G' U' d' ex kk aa nn uu
      have np : H' p' = some (.lst vs) := (kk p' (.inl rfl)).trans e2
      have eset : vs.set j v = vs := by
        obtain ⟨h1, h2⟩ := List.getElem?_eq_some_iff.mp f1
        conv => lhs; rw [← h2]
        exact List.set_getElem_self h1
      have els := f5 S' H' v d' G' (fun x => G' x ∨ G1 x) m.stb ex (fun x y => kk x (.inr y)) aa (fun x y z => nn x y (.inr z)) fun _ => Iff.rfl
      rw [eset] at els
      refine .inr ⟨p', vs, ds.set j d', fun x => G' x ∨ G1 x, rfl, rfl, np, els, ?_, fun x => ?_⟩
      · rintro (z | z)
        · exact nn p' z (.inl rfl)
        · exact nG ((f4 p').mpr (.inr z))
      · rw [uu x]
        exact ⟨fun y => y.elim (fun z => .inr (.inl z)) fun z => z.elim .inl fun w => .inr (.inr w), fun y => y.elim (fun z => .inr (.inl z)) fun z => z.elim .inl fun w => .inr (.inr w)⟩
    · rcases y with y | y
      · exact dj x ((u1 x).mpr (.inl y)) z
      · exact dj x ((u1 x).mpr (.inr ((f4 x).mpr (.inr y)))) z
    · rcases z with (z | z) | z
      · exact nG (z ▸ (f4 x).mpr (.inl y))
      · exact f3 x y z
      · exact dj x ((u1 x).mpr (.inr ((f4 x).mpr (.inl y)))) z
    · rw [u x, u1 x, f4 x]
      constructor
      · rintro ((y | y | y) | y)
        · exact .inr (.inl (.inl y))
        · exact .inl y
        · exact .inr (.inl (.inr y))
        · exact .inr (.inr y)
      · rintro (y | (y | y) | y)
        · exact .inl (.inr (.inl y))
        · exact .inl (.inl y)
        · exact .inl (.inr (.inr y))
        · exact .inr y
/-- a place within a place -/
theorem Wnd.comp {A B C : D → Pc} {g : D → D} {S H : Hp} {U : Foot} (h : And2 (Wnd A fun d => B (g d)) (Wnd B C) S H U) : Wnd A (fun d => C (g d)) S H U := by
  obtain ⟨F, G, w1, w2, n, u⟩ := h
  intro S' H' G' U' d ex kk aa nn uu
  have b := w1 S' H' G' (fun x => G' x ∨ F x) d ex (fun x y => kk x ((u x).mpr (.inl y))) aa (fun x y z => nn x y ((u x).mpr (.inl z))) fun _ => Iff.rfl
  refine w2 S' H' (fun x => G' x ∨ F x) U' (g d) ex (fun x y => kk x ((u x).mpr (.inr y))) b (fun x y z => ?_) fun x => ?_
  · rcases y with y | y
    · exact nn x y ((u x).mpr (.inr z))
    · exact n x y z
  · rw [uu x, u x, or_assoc]
end

section
variable {X : Cx} {W : WX} {ms : List (Mode (mdl X))} {mr : Mode (mdl X)} {pn : List Nat} {pos : Pos}
variable {a b e : Expr}
def Opd.upd (o : Opd) (a' : D) (δ : DEnv) : Option DEnv := match o with
  | .v _ => some δ
  | .s i => match δ[i]? with
    | some (some _) => some (δ.set i (some a'))
    | _ => none
  | .p i _ g => match δ[i]? with
    | some none => some (δ.set i (some (g a')))
    | _ => none
/-- the operand's piece is brought ahead, with what gives it back -/
theorem OpP.open {k : Kd (mdl X)} {σ : L2.St} {δ : DEnv} {H : Hp} {v : V} {o : Opd} {Γa τ : List Pc} {d : D} (op : OpP (mdl X) ms σ k v o Γa) (st : StO ms σ δ H (Γa ++ τ)) (e : o.get δ = some d) :
    ∃ S Γ', Holds S H ((k.mode ms).fam v d :: (τ ++ Γ')) ∧ ∀ S' H' d' δ' τ', Opd.upd o d' δ = some δ' → Holds S' H' ((k.mode ms).fam v d' :: (τ' ++ Γ')) → StO ms σ δ' H' τ' := by
  cases op with
  | @v m v d0 =>
    cases e
    obtain ⟨S, Γ, sl, ho⟩ := st
    refine ⟨S, Γ, ho, fun S' H' d' δ' τ' u h => ?_⟩
    cases u
    exact ⟨S', Γ, sl, h.drop⟩
  | @s i v ei =>
    have e' : (δ[i]?).join = some d := e
    have z : δ[i]? = some (some d) := by
      cases q : δ[i]? with
      | none => rw [q] at e'; cases e'
      | some o => rw [q] at e'; cases o <;> first | (cases e'; done) | (cases e'; rfl)
    obtain ⟨S, Γ, sl, ho⟩ := st
    obtain ⟨v', m, Γ2, f1, f2, f3, sl2⟩ := sl.take z
    rw [ei] at f1; cases f1
    have hm : (Kd.s i : Kd (mdl X)).mode ms = m := by
      show ms.getD i fz = m
      rw [List.getD_eq_getElem?_getD, f2]; rfl
    rw [hm]
    refine ⟨S, Γ2, ho.perm ((f3.append_left τ).trans List.perm_middle), fun S' H' d' δ' τ' u h => ?_⟩
    unfold Opd.upd at u
    dsimp only at u
    rw [z] at u
    cases u
    have hlt : i < δ.length := (List.getElem?_eq_some_iff.mp z).1
    obtain ⟨Γ3, pp, sl3⟩ := sl2.put d' f2 (List.getElem?_set_self hlt) ei
    rw [List.set_set] at sl3
    exact ⟨S', Γ3, sl3, h.perm ((List.perm_middle.symm).trans (pp.symm.append_left τ'))⟩
  | @p i m m0 v v0 d0 g e1 e2 =>
    have e0 : d0 = d := Option.some.inj e
    subst e0
    obtain ⟨S, Γ, sl, ho⟩ := st
    have ho1 : Holds S H (m.fam v d0 :: (Wnd (m.fam v) (fun d => m0.fam v0 (g d)) :: (τ ++ Γ))) := ho
    refine ⟨S, Wnd (m.fam v) (fun d => m0.fam v0 (g d)) :: Γ, ho1.perm ((List.perm_middle.symm).cons _), fun S' H' d' δ' τ' u h => ?_⟩
    unfold Opd.upd at u
    dsimp only at u
    split at u
    · rename_i zi
      cases u
      have h1 : Holds S' H' (m.fam v d' :: Wnd (m.fam v) (fun d => m0.fam v0 (g d)) :: (τ' ++ Γ)) := h.perm (List.perm_middle.cons _)
      have h2 : Holds S' H' (m0.fam v0 (g d') :: (τ' ++ Γ)) := Holds.wnd (A := m.fam v) (B := fun d => m0.fam v0 (g d)) h1 (m0.stb _ _)
      obtain ⟨Γ3, pp, sl3⟩ := sl.put (g d') e2 zi e1
      exact ⟨S', Γ3, sl3, h2.perm ((List.perm_middle.symm).trans (pp.symm.append_left τ'))⟩
    · cases u
/-- an item of a list of one's own as a place -/
def oIx (o : DEnv → R Opd) (m : DEnv → R D) : DEnv → R Opd := fun δ => (o δ).bind fun x δ1 => (m δ1).bind fun k δ2 => match x.get δ2, k with
  | some (.lst ds), .int z => match ixN ds.length z with
    | some j => match ds[j]? with
      | some d => match x with
        | .s i => .ok (.p i d fun d' => .lst (ds.set j d')) (δ2.set i none)
        | .p i _ g => .ok (.p i d fun d' => g (.lst (ds.set j d'))) δ2
        | .v _ => .stuck
      | none => .stuck
    | none => .stuck
  | _, _ => .stuck
/-- the slot an operand is within -/
def Kd.root {M : Mdl} : Kd M → Option Nat
  | .s i => some i
  | .p i _ => some i
  | .v _ => none
theorem do_ix {k1 : Kd (mdl X)} {me : Mode (mdl X)} {i : Nat} {ma : DEnv → R Opd} {mb : DEnv → R D} (ha : DO X W ms a k1 ma) (hb : DE X W ms b fz mb) (hk : k1.mode ms = Lof me) (hr : k1.root = some i) (hlt : i < ms.length := by exact of_decide_eq_true (by rfl)) (hs : PlainIx b := by exact fun _ _ => rfl) : DO X W ms (.Subscript a b pos) (.p i me) (oIx ma mb) := by
  obtain ⟨ta, pa, ka⟩ := ha.rel
  obtain ⟨tb, pb, kb⟩ := hb.run
  refine ⟨_, pe_ix ix_list pa pb hs, fun σ δ H τ Q st q => ka σ δ H τ _ st ?_⟩
  unfold oIx at q
  cases z : ma δ with
  | exc c δ' => rw [z] at q; exact q
  | stuck => rw [z] at q; exact q
  | ok x δ1 =>
    rw [z, R.bind_ok] at q
    intro v H1 Γa op st1
    refine kb σ δ1 H1 _ _ st1 ?_
    cases z2 : mb δ1 with
    | exc c δ' => rw [z2] at q; exact Wx.drop q
    | stuck => rw [z2] at q; exact q
    | ok k δ2 =>
      rw [z2, R.bind_ok] at q
      intro w H2 st2
      have st3 : StO ms σ δ2 H2 (Γa ++ τ) := st2.drop
      have rk := st2.rd
      split at q
      · rename_i ds zz zg
        cases rk
        split at q
        · rename_i j zj
          split at q
          · rename_i d zd
            cases op with
            | v => cases hr
            | @s i' v ei =>
              have hr' : i' = i := Option.some.inj hr
              subst hr'
              dsimp only at q
              have zs : δ2[i']? = some (some (.lst ds)) := by
                have e' : (δ2[i']?).join = some (.lst ds) := zg
                cases q : δ2[i']? with
                | none => rw [q] at e'; cases e'
                | some o => rw [q] at e'; cases o <;> first | (cases e'; done) | (cases e'; rfl)
              obtain ⟨S, Γ, sl, ho⟩ := st3
              obtain ⟨v', m, Γ2, f1, f2, f3, sl2⟩ := sl.take zs
              rw [ei] at f1; cases f1
              have hm : m = Lof me := by
                rw [← hk]
                show m = ms.getD i' fz
                rw [List.getD_eq_getElem?_getD, f2]; rfl
              subst hm
              have ho1 : Holds S H2 ((Lof me).fam v (.lst ds) :: (τ ++ Γ2)) := ho.perm ((f3.append_left τ).trans List.perm_middle)
              obtain ⟨p, vs, u, e1, e2, e3, e4, ho2⟩ := ho1.focusL zd
              subst e1
              refine ⟨p, vs, zz, u, rfl, rfl, SqL.of e2, ?_, q u H2 _ (.p ei f2) ⟨S, Γ2, sl2, ho2⟩⟩
              unfold atI
              rw [e3, zj]
              exact e4
            | @p i' m m0 v v0 d0 g e1 e2 =>
              have hr' : i' = i := Option.some.inj hr
              subst hr'
              cases zg
              have hm : m = Lof me := hk
              subst hm
              obtain ⟨S, Γ, sl, ho⟩ := st3
              have ho1 : Holds S H2 ((Lof me).fam v (.lst ds) :: (Wnd ((Lof me).fam v) (fun d => m0.fam v0 (g d)) :: (τ ++ Γ))) := ho
              obtain ⟨p, vs, u, f1, f2, f3, f4, ho2⟩ := ho1.focusL zd
              subst f1
              have ho3 : Holds S H2 (And2 (Wnd (me.fam u) fun d' => (Lof me).fam (.ref p) (.lst (ds.set j d'))) (Wnd ((Lof me).fam (.ref p)) (fun d => m0.fam v0 (g d))) :: me.fam u d :: (τ ++ Γ)) := Holds.join (ho2.perm ((List.Perm.swap ..).trans ((List.Perm.swap ..).cons _)))
              have ho4 := ho3.imp (Q := Wnd (me.fam u) fun d' => m0.fam v0 (g (.lst (ds.set j d')))) (Wnd.stb _ _) fun F q => Wnd.comp (B := (Lof me).fam (.ref p)) (C := fun d => m0.fam v0 (g d)) (g := fun d' => .lst (ds.set j d')) q
              refine ⟨p, vs, zz, u, rfl, rfl, SqL.of f2, ?_, q u H2 _ (.p (g := fun d' => g (.lst (ds.set j d'))) e1 e2) ⟨S, Γ, sl, ho4.perm (.swap ..)⟩⟩
              unfold atI
              rw [f3, zj]
              exact f4
          · exact q.elim
        · exact q.elim
      · exact q.elim

/-! ### methods that change their object -/
def MutOp (M : Mdl) (r : V → List V → Hp → VK → Prop) (m : Mode M) (qs : List (Mode M)) (md : Mode M) (f : D → List D → Option (D × D)) : Prop :=
  ∀ (S H : Hp) (Γ : List Pc) (x : V) (vs : List V) (a d a' : D) (ds : List D) (Q : VK), vs.length = ds.length → qs.length = ds.length → Holds S H (m.fam x a :: (fams qs vs ds ++ Γ)) → f a ds = some (d, a') →
    (∀ v S' H', Holds S' H' (md.fam v d :: m.fam x a' :: Γ) → Q v H') → r x vs H Q
def mMut (o : DEnv → R Opd) (args : DEnv → R (List Opd)) (f : D → List D → Option (D × D)) : DEnv → R D := fun δ => (o δ).bind fun x δ1 => match x.get δ1 with
  | some (.lst _) => (args δ1).bind fun os δ2 => match x.get δ2, gets os δ2 with
    | some a, some ds => match f a ds with
      | some r => match x.upd r.2 δ2 with
        | some δ3 => .ok r.1 δ3
        | none => .stuck
      | none => .stuck
    | _, _ => .stuck
  | _ => .stuck
/-- arguments that are values: their pieces -/
theorem OpPs.vals {M : Mdl} {ms : List (Mode M)} {σ : L2.St} {ks : List (Kd M)} {vs : List V} {os : List Opd} {Γa : List Pc} (h : OpPs M ms σ ks vs os Γa) : ∀ {δ : DEnv} {ds : List D}, (∀ k ∈ ks, ∃ m, k = .v m) → gets os δ = some ds → Γa = fams (ks.map (Kd.mode ms)) vs ds ∧ vs.length = ds.length ∧ (ks.map (Kd.mode ms)).length = ds.length := by
  induction h with
  | nil => intro δ ds _ e; cases e; exact ⟨rfl, rfl, rfl⟩
  | @cons k v o Γ1 Δ ks vs os h1 t ih =>
    intro δ ds hk e
    obtain ⟨m, rfl⟩ := hk k (List.mem_cons_self ..)
    cases h1 with
    | v =>
      unfold gets at e
      split at e
      · rename_i d ds' z1 z2
        cases z1
        cases e
        obtain ⟨a, b, c⟩ := ih (fun k hk' => hk k (List.mem_cons_of_mem _ hk')) z2
        subst a
        exact ⟨rfl, by simp [b], by simpa using c⟩
      · cases e
def Kd.isV {M : Mdl} : Kd M → Bool
  | .v _ => true
  | _ => false
theorem rel_mut {k1 : Kd (mdl X)} {ks : List (Kd (mdl X))} {md : Mode (mdl X)} {to : TE} {t : TA} {ma : DEnv → R Opd} {mb : DEnv → R (List Opd)} {r : V → List V → Hp → VK → Prop} {f : D → List D → Option (D × D)} (ka : RelO W ms k1 to ma) (kb : RelA W ms ks t mb) (hk : ∀ k ∈ ks, ∃ m, k = .v m) (op : MutOp (mdl X) r (k1.mode ms) (ks.map (Kd.mode ms)) md f) :
    ∀ σ δ H τ (Q : VK), StO ms σ δ H τ → PostE W ms md σ τ Q (mMut ma mb f δ) → to σ H fun x H1 => tyV X.K "list" x H1 ∧ t σ H1 fun xs H2 => r x xs H2 Q := by
  intro σ δ H τ Q st q
  refine ka σ δ H τ _ st ?_
  unfold mMut at q
  cases z : ma δ with
  | exc c δ' => rw [z] at q; exact q
  | stuck => rw [z] at q; exact q
  | ok x δ1 =>
    rw [z, R.bind_ok] at q
    intro v H1 Γa op1 st1
    split at q
    · rename_i ds0 zg
      have ty : tyV X.K "list" v H1 := by
        obtain ⟨S, Γ, sl, ho⟩ := id st1
        obtain ⟨a, vs, rfl, h1, _⟩ := (op1.seen sl ho zg).lst ho.ex
        exact .inl ⟨rfl, vs, SqL.of h1⟩
      refine ⟨ty, kb σ δ1 H1 _ _ st1 ?_⟩
      cases z2 : mb δ1 with
      | exc c δ' => rw [z2] at q; exact Wx.drop q
      | stuck => rw [z2] at q; exact q
      | ok os δ2 =>
        rw [z2, R.bind_ok] at q
        intro vs H2 Γb ops st2
        split at q
        · rename_i a ds y1 y2
          cases zf : f a ds with
          | none => rw [zf] at q; exact q.elim
          | some rr =>
            obtain ⟨d, a'⟩ := rr
            rw [zf] at q
            dsimp only at q
            cases zu : x.upd a' δ2 with
            | none => rw [zu] at q; exact q.elim
            | some δ3 =>
              rw [zu] at q
              obtain ⟨eΓ, l1, l2⟩ := ops.vals hk y2
              subst eΓ
              have st3 : StO ms σ δ2 H2 (Γa ++ (fams (ks.map (Kd.mode ms)) vs ds ++ τ)) := st2.perm (List.perm_append_comm_assoc _ _ _)
              obtain ⟨S, Γ', ho, close⟩ := op1.open st3 y1
              rw [List.append_assoc] at ho
              refine op S H2 (τ ++ Γ') v vs a d a' ds Q l1 l2 ho zf fun w S' H' ho' => q w H' ?_
              exact close S' H' a' δ3 (md.fam w d :: τ) zu (ho'.perm (.swap ..))
        · exact q.elim
    · exact q.elim
theorem Kd.allV {M : Mdl} {ks : List (Kd M)} (h : ks.all Kd.isV = true) : ∀ k ∈ ks, ∃ m, k = .v m := fun k hk => by
  have := List.all_eq_true.mp h k hk
  cases k with
  | v m => exact ⟨m, rfl⟩
  | s _ => cases this
  | p _ _ => cases this
variable {o : Expr} {es : List Expr} {name : Str} {apos cpos : Pos} {id : String}
theorem de_mut {k1 : Kd (mdl X)} {ks : List (Kd (mdl X))} {md : Mode (mdl X)} {ma : DEnv → R Opd} {mb : DEnv → R (List Opd)} {r : V → List V → Hp → VK → Prop} {f : D → List D → Option (D × D)} (slot : Slot "list" name id) (hty : typeOf (.builtin id) = pure (.type "method_descriptor")) (hm : MtR X id r) (ha : DO X W ms o k1 ma) (hb : DA X W ms (e :: es) ks mb) (op : MutOp (mdl X) r (k1.mode ms) (ks.map (Kd.mode ms)) md f) (hk : ks.all Kd.isV = true := by rfl)
    (hbase : attributeBase o name X.env (eval o X.env) = eval o X.env := by rfl)
    (hfew : ((backTo cpos (starEach (e :: es) X.env)).all (fun x => !x.1) && (backToKw cpos (keywordEach [] X.env)).all (fun x => x.1.isSome)
      && decide ((e :: es).length + ([] : List Keyword).length + (if ([] : List Keyword).isEmpty then 0 else 1) < 30)) = true := by rfl)
    (hline : (apos.endLine == cpos.line) = true := by rfl) (hs : starEach (e :: es) X.env = (false, eval e X.env) :: starEach es X.env := by rfl) (hplain : (backTo cpos (starEach es X.env)).any (·.1) = false := by rfl) :
    DE X W ms (.Call (.Attribute o name apos) (e :: es) [] cpos) md (mMut ma mb f) := by
  obtain ⟨to, po, ka⟩ := ha.rel
  obtain ⟨t, pa, kb⟩ := hb.run
  exact ⟨_, pe_bm PySem.F.plainAttrs_list slot hty hm po pa hbase hfew hline hs hplain, rel_mut ka kb (Kd.allV hk) op⟩
theorem de_mut0 {k1 : Kd (mdl X)} {md : Mode (mdl X)} {ma : DEnv → R Opd} {r : V → List V → Hp → VK → Prop} {f : D → List D → Option (D × D)} (slot : Slot "list" name id) (hty : typeOf (.builtin id) = pure (.type "method_descriptor")) (hm : MtR X id r) (ha : DO X W ms o k1 ma) (op : MutOp (mdl X) r (k1.mode ms) [] md f)
    (hbase : attributeBase o name X.env (eval o X.env) = eval o X.env := by rfl) (hline : (apos.endLine == cpos.line) = true := by rfl) : DE X W ms (.Call (.Attribute o name apos) [] [] cpos) md (mMut ma mNil f) := by
  obtain ⟨to, po, ka⟩ := ha.rel
  refine ⟨_, pe_bm0 PySem.F.plainAttrs_list slot hty hm po hbase hline, ?_⟩
  exact rel_mut ka (relA_nil (W := W) (ms := ms)) (by intro k h; cases h) op

/-! ### append, extend, pop, insert, clear -/
def appendF (a : D) (ds : List D) : Option (D × D) := match a, ds with
  | .lst xs, [d] => if xs.length < sizeLine then some (.non, .lst (xs ++ [d])) else none
  | _, _ => none
theorem mut_append {me : Mode (mdl X)} : MutOp (mdl X) rAppend (Lof me) [me] fz appendF := by
  intro S H Γ x vs a d a' ds Q l1 l2 ho e k
  unfold appendF at e
  split at e
  · rename_i xs d0
    split at e
    · rename_i hlt
      cases e
      cases vs with
      | nil => simp at l1
      | cons v vs =>
        cases vs with
        | cons _ _ => simp at l1
        | nil =>
          obtain ⟨p, ws, rfl, _, _⟩ := ho.lstAt
          obtain ⟨us, e1, e2, e3⟩ := Holds.appendL (m := me) (d := d0) (v := v) ho
          exact ⟨p, us, v, rfl, rfl, e1, by rw [e2]; exact hlt, k _ S _ (e3.scM rfl .non)⟩
    · cases e
  · cases e
/-- a list of shared items, changed -/
theorem Holds.chL {M : Mdl} {S H : Hp} {Γ : List Pc} {p : Addr} {ds es : List D} (h : Holds S H ((Lof (fz (M := M))).fam (.ref p) (.lst ds) :: Γ)) : ∃ vs, H p = some (.lst vs) ∧ RepL M S vs ds ∧ ∀ ws, RepL M S ws es → Holds S (upd H p (.lst ws)) ((Lof (fz (M := M))).fam (.ref p) (.lst es) :: Γ) := by
  obtain ⟨F, q⟩ := h.mem (List.mem_cons_self ..)
  obtain ⟨a, vs, G, e1, e2, e3, _⟩ := Lof.at q
  cases e1
  refine ⟨vs, e2, e3.toRep.1, fun ws r => h.change ((Lof fz).stb _ _) fun F' q' nS nH => ?_⟩
  obtain ⟨a', vs', G', f1, f2, f3, f4, f5⟩ := Lof.at q'
  cases f1
  refine ⟨F', .inr ⟨p, ws, es, fun _ => False, rfl, rfl, upd_same, Els.ofRep r fun _ z => z, fun z => z, fun x => ?_⟩, fun x y => .inl y, fun x y => ?_, fun x y z => ?_⟩
  · rw [f5 x]
    exact ⟨fun y => y.elim .inl fun z => (f3.toRep.2 x z).elim, fun y => y.elim .inl False.elim⟩
  · by_cases z : x = p
    · rw [z, upd_same]; simp
    · rw [upd_ne z]; exact nH x y
  · exact upd_ne fun w => y ((f5 x).mpr (.inl w))
def extendF (a : D) (ds : List D) : Option (D × D) := match a, ds with
  | .lst xs, [.lst ys] => if xs.length + ys.length ≤ sizeLine then some (.non, .lst (xs ++ ys)) else none
  | _, _ => none
theorem mut_extend {m1 : Mode (mdl X)} (f1 : Flat m1) : MutOp (mdl X) rExtend (Lof fz) [m1] fz extendF := by
  intro S H Γ x vs a d a' ds Q l1 l2 ho e k
  unfold extendF at e
  split at e
  · rename_i xs ys
    split at e
    · rename_i hlt
      cases e
      cases vs with
      | nil => simp at l1
      | cons v vs =>
        cases vs with
        | cons _ _ => simp at l1
        | nil =>
          obtain ⟨p, us0, rfl, _, _⟩ := ho.lstAt
          obtain ⟨us, e1, r1, ch⟩ := Holds.chL (es := xs ++ ys) ho
          have sn : Seen S H m1 v (.lst ys) := ho.mem (List.mem_cons_of_mem _ (List.mem_cons_self ..))
          obtain ⟨b, ws, rfl, e2, r2⟩ := sn.lstF f1 ho.ex
          have h2 : Holds S (upd H p (.lst (us ++ ws))) ((Lof fz).fam (.ref p) (.lst (xs ++ ys)) :: m1.fam (.ref b) (.lst ys) :: Γ) := ch _ (r1.append r2)
          exact ⟨p, b, us, ws, rfl, rfl, e1, e2, by rw [r1.length, r2.length]; exact hlt, k _ S _ (((h2.perm (.swap ..)).drop).scM rfl .non)⟩
    · cases e
  · cases e
def popF (a : D) (ds : List D) : Option (D × D) := match a, ds with
  | .lst xs, [] => match xs[xs.length - 1]? with
    | some d => some (d, .lst xs.dropLast)
    | none => none
  | _, _ => none
theorem mut_pop : MutOp (mdl X) rPop (Lof fz) [] fz popF := by
  intro S H Γ x vs a d a' ds Q l1 l2 ho e k
  unfold popF at e
  split at e
  · rename_i xs
    split at e
    · rename_i d0 zd
      cases e
      cases vs with
      | cons _ _ => simp at l1
      | nil =>
        obtain ⟨p, us0, rfl, _, _⟩ := ho.lstAt
        obtain ⟨us, e1, r1, ch⟩ := Holds.chL (es := xs.dropLast) ho
        obtain ⟨v, e2, r2⟩ := r1.get zd
        exact ⟨p, us, v, rfl, rfl, e1, by rw [r1.length]; exact e2, k _ S _ ((ch _ r1.dropLast).addFz r2)⟩
    · cases e
  · cases e
def popAtF (a : D) (ds : List D) : Option (D × D) := match a, ds with
  | .lst xs, [.int i] => if 0 ≤ i ∧ nb i 9223372036854775807 = true then match xs[i.toNat]? with
      | some d => some (d, .lst (xs.eraseIdx i.toNat))
      | none => none
    else none
  | _, _ => none
theorem seqIndex_nn {i : Int} {n : Nat} (h : 0 ≤ i) (h2 : i.toNat < n) : seqIndex? i n = some i.toNat := PySem.StrLaws.seqIndex_nonneg h (by omega)
theorem mut_popAt {m1 : Mode (mdl X)} : MutOp (mdl X) rPopAt (Lof fz) [m1] fz popAtF := by
  intro S H Γ x vs a d a' ds Q l1 l2 ho e k
  unfold popAtF at e
  split at e
  · rename_i xs i
    split at e
    · rename_i hb
      split at e
      · rename_i d0 zd
        cases e
        cases vs with
        | nil => simp at l1
        | cons v vs =>
          cases vs with
          | cons _ _ => simp at l1
          | nil =>
            obtain ⟨p, us0, rfl, _, _⟩ := ho.lstAt
            have sn : Seen S H m1 v (.int i) := ho.mem (List.mem_cons_of_mem _ (List.mem_cons_self ..))
            cases sn.int ho.ex
            obtain ⟨us, e1, r1, ch⟩ := Holds.chL (es := xs.eraseIdx i.toNat) ho
            obtain ⟨w, e2, r2⟩ := r1.get zd
            have h2 : Holds S _ ((Lof fz).fam (.ref p) (.lst (xs.eraseIdx i.toNat)) :: m1.fam (.int i) (.int i) :: Γ) := ch _ (r1.eraseIdx i.toNat)
            refine ⟨p, us, i, i.toNat, w, rfl, rfl, e1, by omega, (by have := nb_iff.mp hb.2; omega), seqIndex_nn hb.1 (List.getElem?_eq_some_iff.mp e2).1, e2, k _ S _ ((h2.perm (.swap ..)).drop.addFz r2)⟩
      · cases e
    · cases e
  · cases e
def insertF (a : D) (ds : List D) : Option (D × D) := match a, ds with
  | .lst xs, [.int i, d] => if 0 ≤ i ∧ nb i 9223372036854775807 = true ∧ xs.length < sizeLine then some (.non, .lst (xs.take i.toNat ++ [d] ++ xs.drop i.toNat)) else none
  | _, _ => none
theorem mut_insert {m1 : Mode (mdl X)} : MutOp (mdl X) (fun x vs H Q => ∃ (l : Addr) (xs : List V) (i : Int) (y : V), x = .ref l ∧ vs = [.int i, y] ∧ H l = some (.lst xs) ∧ xs.length < sizeLine ∧ 0 ≤ i ∧ i < 2 ^ 63 ∧
    Q .non (upd H l (.lst (xs.take i.toNat ++ [y] ++ xs.drop i.toNat)))) (Lof fz) [m1, fz] fz insertF := by
  intro S H Γ x vs a d a' ds Q l1 l2 ho e k
  unfold insertF at e
  split at e
  · rename_i xs i d0
    split at e
    · rename_i hb
      cases e
      cases vs with
      | nil => simp at l1
      | cons v vs =>
        cases vs with
        | nil => simp at l1
        | cons w vs =>
          cases vs with
          | cons _ _ => simp at l1
          | nil =>
            obtain ⟨p, us0, rfl, _, _⟩ := ho.lstAt
            have sn : Seen S H m1 v (.int i) := ho.mem (List.mem_cons_of_mem _ (List.mem_cons_self ..))
            have sn2 : Seen S H fz w d0 := ho.mem (List.mem_cons_of_mem _ (List.mem_cons_of_mem _ (List.mem_cons_self ..)))
            cases sn.int ho.ex
            obtain ⟨F, r2, _⟩ := sn2
            obtain ⟨us, e1, r1, ch⟩ := Holds.chL (es := xs.take i.toNat ++ [d0] ++ xs.drop i.toNat) ho
            have h2 : Holds S _ ((Lof fz).fam (.ref p) (.lst (xs.take i.toNat ++ [d0] ++ xs.drop i.toNat)) :: m1.fam (.int i) (.int i) :: fz.fam w d0 :: Γ) := ch (us.take i.toNat ++ [w] ++ us.drop i.toNat) (((r1.take _).append (.cons r2 .nil)).append (r1.drop _))
            exact ⟨p, us, i, w, rfl, rfl, e1, by rw [r1.length]; exact hb.2.2, hb.1, (by have := nb_iff.mp hb.2.1; omega), k _ S _ (((h2.perm ((List.Perm.swap ..).trans ((List.Perm.swap ..).cons _))).drop.drop).scM rfl .non)⟩
    · cases e
  · cases e

/-! ### o[i] = v -/
def StoreOp (M : Mdl) (r : V → V → V → Hp → (Hp → Prop) → Prop) (m mi mv : Mode M) (f : D → D → D → Option D) : Prop :=
  ∀ (S H : Hp) (Γ : List Pc) (x i v : V) (a ai av a' : D) (Q : Hp → Prop), Holds S H (m.fam x a :: mi.fam i ai :: mv.fam v av :: Γ) → f a ai av = some a' → (∀ S' H', Holds S' H' (m.fam x a' :: Γ) → Q H') → r x i v H Q
def mStore (v : DEnv → R D) (o : DEnv → R Opd) (i : DEnv → R D) (f : D → D → D → Option D) : DEnv → SR := fun δ => (v δ).thn fun dv δ1 => (o δ1).thn fun x δ2 => (i δ2).thn fun di δ3 => match x.get δ3 with
  | some a => match f a di dv with
    | some a' => match x.upd a' δ3 with
      | some δ4 => .nx δ4
      | none => .stuck
    | none => .stuck
  | none => .stuck
theorem rel_store {k1 : Kd (mdl X)} {mi mv : Mode (mdl X)} {tv to ti : TE} {mV : DEnv → R D} {mO : DEnv → R Opd} {mI : DEnv → R D} {r : V → V → V → Hp → (Hp → Prop) → Prop} {f : D → D → D → Option D} (kv : RelE (X := X) W ms mv tv mV) (ko : RelO W ms k1 to mO) (ki : RelE (X := X) W ms mi ti mI) (op : StoreOp (mdl X) r (k1.mode ms) mi mv f) :
    RelS (X := X) W ms mr pn (tAsg tv (gSub to ti r)) (mStore mV mO mI f) := by
  intro σ δ H τ D st q
  refine kv σ δ H τ _ st ?_
  unfold mStore at q
  cases z : mV δ with
  | exc c δ' => rw [z] at q; exact q σ (Keep.refl _ _)
  | stuck => rw [z] at q; exact q
  | ok dv δ1 =>
    rw [z, R.thn_ok] at q
    intro v H1 st1
    refine ko σ δ1 H1 _ _ st1 ?_
    cases z2 : mO δ1 with
    | exc c δ' => rw [z2] at q; exact Wx.drop (Δ := [_]) (q σ (Keep.refl _ _))
    | stuck => rw [z2] at q; exact q
    | ok x δ2 =>
      rw [z2, R.thn_ok] at q
      intro xo H2 Γa op1 st2
      refine ki σ δ2 H2 _ _ st2 ?_
      cases z3 : mI δ2 with
      | exc c δ' => rw [z3] at q; exact Wx.drop (Δ := Γa) (Wx.drop (Δ := [_]) (q σ (Keep.refl _ _)))
      | stuck => rw [z3] at q; exact q
      | ok di δ3 =>
        rw [z3, R.thn_ok] at q
        intro i H3 st3
        split at q
        · rename_i a za
          cases zf : f a di dv with
          | none => rw [zf] at q; exact q.elim
          | some a' =>
            rw [zf] at q
            dsimp only at q
            cases zu : x.upd a' δ3 with
            | none => rw [zu] at q; exact q.elim
            | some δ4 =>
              rw [zu] at q
              have st4 : StO ms σ δ3 H3 (Γa ++ (mi.fam i di :: mv.fam v dv :: τ)) := st3.perm List.perm_middle.symm
              obtain ⟨S, Γ', ho, close⟩ := op1.open st4 za
              refine op S H3 (τ ++ Γ') xo i v a di dv a' _ ho zf fun S' H' ho' => q σ H' (Keep.refl _ _) (close S' H' a' δ4 τ zu ho')
        · exact q.elim
def setF (a i v : D) : Option D := match a, i with
  | .lst xs, .int k => match ixN xs.length k with
    | some j => some (.lst (xs.set j v))
    | none => none
  | _, _ => none
theorem store_list : StoreOp (mdl X) rSetL (Lof fz) fz fz setF := by
  intro S H Γ x i v a ai av a' Q ho e k
  unfold setF at e
  split at e
  · rename_i xs kk
    split at e
    · rename_i j zj
      cases e
      obtain ⟨p, us0, rfl, _, _⟩ := ho.lstAt
      have sn : Seen S H fz i (.int kk) := ho.mem (List.mem_cons_of_mem _ (List.mem_cons_self ..))
      cases sn.int ho.ex
      obtain ⟨F, r2, _⟩ := (ho.mem (List.mem_cons_of_mem _ (List.mem_cons_of_mem _ (List.mem_cons_self ..))) : Seen S H fz v av)
      obtain ⟨us, e1, r1, ch⟩ := Holds.chL (es := xs.set j av) ho
      have h2 : Holds S (upd H p (.lst (us.set j v))) ((Lof fz).fam (.ref p) (.lst (xs.set j av)) :: fz.fam (.int kk) (.int kk) :: fz.fam v av :: Γ) := ch _ (r1.set r2 j)
      exact ⟨p, us, kk, j, rfl, rfl, e1, by rw [r1.length]; exact zj, k S _ (((h2.perm ((List.Perm.swap ..).trans ((List.Perm.swap ..).cons _))).drop).drop)⟩
    · cases e
  · cases e
theorem ds_store {o i value : Expr} {pos' : Pos} {k1 : Kd (mdl X)} {mV : DEnv → R D} {mO : DEnv → R Opd} {mI : DEnv → R D} (hv : DE X W ms value fz mV) (ho : DO X W ms o k1 mO) (hi : DE X W ms i fz mI) (hk : k1.mode ms = Lof fz := by rfl)
    (ha : ∀ v, assign (.Subscript o i pos') X.env v = (do
      let ov ← holding [v] (eval o X.env)
      let iv ← holding [v, ov] (eval i X.env)
      standAt pos'
      holding [v, ov, iv] (setItem ov iv v)
      release [v, ov, iv] []) := by intro _; rfl)
    (hs : swapsWithSole [.Subscript o i pos'] value pos.line X.env = pure false := by rfl) (hw : swappedStores [.Subscript o i pos'] value X.env = pure none := by rfl)
    (h1 : (assignEach [.Subscript o i pos'] X.env).map (·.2) = [assign (.Subscript o i pos') X.env] := by rfl) : DS X W ms mr pn (.Assign [.Subscript o i pos'] value pos) (mStore mV mO mI setF) := by
  obtain ⟨tv, pv, kv⟩ := hv.run
  obtain ⟨to, po, ko⟩ := ho.rel
  obtain ⟨ti, pi, ki⟩ := hi.run
  refine ⟨_, ps_asg pv (pg_sub po pi set_list ha) hs hw h1, rel_store kv ko ki ?_⟩
  rw [hk]
  exact store_list

/-! ### raise C('..') -/
def mRaise (c : Str) : DEnv → SR := fun δ => .exc c δ
theorem ds_raise {x m : Str} {j : Nat} {C : Addr} {bmB : List Value} {B newId initId : String} {p p2 p3 : Pos} (hc : X.calm = true) (tk : Takes X W) (F : ExcBaseFacts B newId initId bmB) (q : PySem.W.excIn X.K C bmB newId = true) (gC : X.mg x = some (.ref C)) (kC : PySem.W.keepIn X.K (.ref C) = true) (r : Raises X (.ref C)) (hg : Gl X x := by rfl)
    (hdb : (x == ("__debug__" : Str)) = false := by decide) : DS X W ms mr pn (.Raise (some (.Call (.Name x p) [.Constant (.str m) j p2] [] p3)) none pos) (mRaise x) :=
  ⟨_, ps_raise hc tk (pmk_own F q gC kC r hg hdb), fun σ δ H τ D st qq => qq σ (Keep.refl _ _) H C st gC⟩
end
end DM
set_option maxRecDepth 100000
/-! Data mirror, part 13: an alias of a place within a list of one's own (the law's deck and pool). -/
namespace DM
open PySem PySem.Spec L2

section
variable {M : Mdl} {S H : Hp} {Γ : List Pc} {m : Mode M}
/-- a scalar item of a list of one's own is stored -/
theorem Holds.setSc {p : Addr} {ds : List D} {j : Nat} {d d' : D} {v' : V} (h : Holds S H ((Lof m).fam (.ref p) (.lst ds) :: Γ)) (e : ds[j]? = some d) (sc : d'.isSc = true) (r : ∀ S', Rep M S' v' d') :
    ∃ vs, H p = some (.lst vs) ∧ Holds S (upd H p (.lst (vs.set j v'))) ((Lof m).fam (.ref p) (.lst (ds.set j d')) :: Γ) := by
  obtain ⟨F, q⟩ := h.mem (List.mem_cons_self ..)
  obtain ⟨a, vs, G, e1, e2, e3, _⟩ := Lof.at q
  cases e1
  refine ⟨vs, e2, h.change ((Lof m).stb _ _) fun F' q' nS nH => ?_⟩
  obtain ⟨a', vs', G', f1, f2, f3, f4, f5⟩ := Lof.at q'
  cases f1
  rw [e2] at f2
  cases f2
  obtain ⟨v, F1, G1, g1, g2, g3, g4, g5, _⟩ := f3.focus e
  have np : ∀ x, G1 x → x ≠ p := fun x y z => f4 ((g4 p).mpr (.inr (z ▸ y)))
  refine ⟨fun x => x = p ∨ G1 x, .inr ⟨p, _, _, G1, rfl, rfl, upd_same, g5 S (upd H p (.lst (vs.set j v'))) v' d' (fun _ => False) G1 m.stb (Ex.refl S) (fun x y => upd_ne (np x y)) (m.sc sc (r S) fun _ z => z) (fun _ z => z.elim) fun x => ⟨.inr, fun z => z.elim False.elim id⟩, fun z => np p z rfl, fun x => Iff.rfl⟩, fun x y => ?_, fun x y => ?_, fun x y z => ?_⟩
  · rcases y with y | y
    · exact .inl ((f5 x).mpr (.inl y))
    · exact .inl ((f5 x).mpr (.inr ((g4 x).mpr (.inr y))))
  · by_cases z : x = p
    · rw [z, upd_same]; simp
    · rw [upd_ne z]
      rcases y with y | y
      · exact absurd y z
      · exact nH x ((f5 x).mpr (.inr ((g4 x).mpr (.inr y))))
  · exact upd_ne fun w => y ((f5 x).mpr (.inl w))
end

section
variable {X : Cx} {W : WX} {ms : List (Mode (mdl X))} {mr : Mode (mdl X)}
abbrev LofA (X : Cx) : Mode (mdl X) := Lof fz
abbrev LofB (X : Cx) : Mode (mdl X) := Lof (LofA X)
abbrev LofC (X : Cx) : Mode (mdl X) := Lof (LofB X)
def mDraw (rest : DEnv → SR) : DEnv → SR
  | [some (.lst [.lst pools, .int c]), many, p, x, y] => match pools[(c % pools.length).toNat]? with
    | some (.lst xs) => match rest [none, many, some (.lst xs), x, y] with
      | .rt d (none :: m' :: some p' :: r) => .rt d (some (.lst [.lst (pools.set (c % pools.length).toNat p'), .int (c + 1)]) :: m' :: none :: r)
      | _ => .stuck
    | _ => .stuck
  | _ => .stuck
def rMod : R2 := rI (fun _ j => 0 < j) fun i j => .int (i % j)
def rAdd : R2 := rI (fun _ _ => True) fun i j => .int (i + j)
def rLen1 (K : PySem.W.Frag) : List V → Hp → VK → Prop := fun xs H Q => ∃ x n, xs = [x] ∧ LenV K x H n ∧ Q (.int n) H
theorem ds_draw {s1 s2 : Stmt} {rest : List Stmt} {mb : DEnv → SR} {rA : R2} (hA : ∀ i j H Q, Q (V.int (i + j)) H → rA (.int i) (.int j) H Q)
    (p1 : PS X s1 (tAsg (tOp (rIxL X.K) (tOp (rIxL X.K) (tVar 0) (tC (.int 0))) (tOp rMod (tOp (rIxL X.K) (tVar 0) (tC (.int 1))) (tCB (rLen1 X.K) (tCons (tOp (rIxL X.K) (tVar 0) (tC (.int 0))) tNil)))) (gName 2)))
    (p2 : PS X s2 (tAsg (tOp rA (tOp (rIxL X.K) (tVar 0) (tC (.int 1))) (tC (.int 1))) (gSub (tVar 0) (tC (.int 1)) rSetL)))
    (hm : ms = [Lof (Lof (Lof fz)), fz, Lof fz, fz, fz]) (hr : DSs X W ms mr [0, 2] rest mb) : DSs X W ms mr [0] (s1 :: s2 :: rest) (mDraw mb) := by
  obtain ⟨u, pu, ku⟩ := hr.run
  refine ⟨_, pss_cons p1 (pss_cons p2 pu), fun σ δ H τ D st q => ?_⟩
  unfold mDraw at q
  split at q
  · rename_i pools c many p x y
    split at q
    · rename_i xs zp
      obtain ⟨S, Γ, sl, ho⟩ := st
      subst hm
      obtain ⟨v, m, Γ', e1, e2, e3, sl'⟩ := sl.take (i := 0) (d := .lst [.lst pools, .int c]) rfl
      cases e2
      have hlen : pools.length ≠ 0 := by
        intro z
        rw [List.length_eq_zero_iff] at z
        subst z
        simp at zp
      have ho1 : Holds S H ((Lof (Lof (Lof fz))).fam v (.lst [.lst pools, .int c]) :: (τ ++ Γ')) := ho.perm ((e3.append_left τ).trans List.perm_middle)
      have rd := ho1.rd
      obtain ⟨a, vs, rfl, ha, hvs⟩ : ∃ a vs, v = .ref a ∧ H a = some (.lst vs) ∧ RepL (mdl X) H vs [.lst pools, .int c] := by
        cases rd with
        | lst h r => exact ⟨_, _, rfl, h, r⟩
      obtain ⟨v0, rfl, r0⟩ : ∃ v0, vs = [v0, .int c] ∧ Rep (mdl X) H v0 (.lst pools) := by
        cases hvs with
        | cons r t =>
          cases t with
          | cons r2 t2 =>
            cases t2
            cases r2
            exact ⟨_, rfl, r⟩
      obtain ⟨b, qs, rfl, hb, hqs⟩ : ∃ b qs, v0 = .ref b ∧ H b = some (.lst qs) ∧ RepL (mdl X) H qs pools := by
        cases r0 with
        | lst h r => exact ⟨_, _, rfl, h, r⟩
      obtain ⟨w, hw, rw0⟩ := hqs.get zp
      have hl := hqs.length
      have hn : (0 : Int) < (pools.length : Int) := by omega
      have hpos : 0 ≤ c % (pools.length : Int) := Int.emod_nonneg _ (by omega)
      have hlt : c % (pools.length : Int) < pools.length := Int.emod_lt_of_pos _ hn
      have hix : ixN qs.length (c % (pools.length : Int)) = some (c % (pools.length : Int)).toNat := by
        unfold ixN
        rw [if_pos hpos, if_pos (by omega)]
      have hat : atI qs (c % (pools.length : Int)) = some w := by
        unfold atI
        rw [hix]
        exact hw
      have a0 : atI [V.ref b, V.int c] 0 = some (V.ref b) := rfl
      have a1 : atI [V.ref b, V.int c] 1 = some (V.int c) := rfl
      refine ⟨_, e1, a, _, 0, _, rfl, rfl, SqL.of ha, a0, ⟨_, e1, a, _, 1, _, rfl, rfl, SqL.of ha, a1, ⟨_, e1, a, _, 0, _, rfl, rfl, SqL.of ha, a0, ⟨_, pools.length, rfl, .inl ⟨qs, SqL.of hb, hl.symm⟩, ⟨c, _, rfl, rfl, hn, ⟨b, qs, _, w, rfl, rfl, SqL.of hb, hat, ?_⟩⟩⟩⟩⟩⟩
      have hset : ∀ k v', k ≠ 2 → (σ.set 2 v')[k]? = σ[k]? := fun k v' hk => List.getElem?_set_ne (fun z => hk z.symm)
      have e1' : (σ.set 2 (some w))[0]? = some (some (V.ref a)) := (hset 0 _ (by decide)).trans e1
      refine ⟨_, e1', a, _, 1, _, rfl, rfl, SqL.of ha, a1, hA _ _ _ _ ⟨_, e1', a, _, 1, 1, rfl, rfl, ha, rfl, ?_⟩⟩
      -- behind the store
      obtain ⟨vs', hv', ho2⟩ := Holds.setSc (d' := .int (c + 1)) (v' := .int (c + 1)) (j := 1) ho1 rfl rfl fun _ => .int _
      rw [ha] at hv'
      cases hv'
      have hab : b ≠ a := by
        intro z
        obtain ⟨F, q1⟩ := ho1.mem (List.mem_cons_self ..)
        obtain ⟨a', vs, G, f1, f2, f3, f4, f5⟩ := Lof.at q1
        cases f1
        rw [ha] at f2
        cases f2
        cases f3 with
        | cons k1 k2 k3 k4 =>
          obtain ⟨b', vs, G2, g1, g2, g3, g4, g5⟩ := Lof.at k1
          cases g1
          exact f4 ((k4 a).mpr (.inl ((g5 a).mpr (.inl z.symm))))
      obtain ⟨a2, vs2, v2, g1, g2, _, g3, ho3⟩ := ho2.focusL (j := 0) (d := .lst pools) rfl
      cases g1
      rw [upd_same] at g2
      cases g2
      cases g3
      obtain ⟨b2, qs2, w2, k1, k2, _, k3, ho4⟩ := ho3.focusL (j := (c % (pools.length : Int)).toNat) (d := .lst xs) zp
      cases k1
      rw [upd_ne hab, hb] at k2
      cases k2
      rw [hw] at k3
      cases k3
      obtain ⟨Γ2, Δ2, pp, sl2⟩ := sl'.clear 2 (some w)
      have hlt2 : 2 < σ.length := by
        rw [sl.len.1]; exact (by decide : 2 < 5)
      have es2 : (σ.set 2 (some w))[2]? = some (some w) := List.getElem?_set_self hlt2
      obtain ⟨Γ3, pp3, sl3⟩ := sl2.put (i := 2) (m := LofA X) (.lst xs) rfl rfl es2
      refine ku (σ.set 2 (some w)) [none, many, some (.lst xs), x, y] _ (Wnd ((LofA X).fam w) (fun d' => (LofB X).fam (.ref b) (.lst (pools.set (c % (pools.length : Int)).toNat d'))) :: Wnd ((LofB X).fam (.ref b)) (fun d' => (LofC X).fam (.ref a) (.lst ([DM.D.lst pools, DM.D.int (c + 1)].set 0 d'))) :: τ) _ ⟨S, Γ3, sl3, ?_⟩ ?_
      · have h5 := ho4.perm (Δ := Δ2 ++ ((Wnd ((LofA X).fam w) (fun d' => (LofB X).fam (.ref b) (.lst (pools.set (c % (pools.length : Int)).toNat d'))) :: Wnd ((LofB X).fam (.ref b)) (fun d' => (LofC X).fam (.ref a) (.lst ([DM.D.lst pools, DM.D.int (c + 1)].set 0 d'))) :: τ) ++ Γ3)) (by
          refine List.Perm.trans ?_ (List.perm_append_comm_assoc _ _ _)
          refine (List.perm_middle (l₁ := Wnd ((LofA X).fam w) (fun d' => (LofB X).fam (.ref b) (.lst (pools.set (c % (pools.length : Int)).toNat d'))) :: Wnd ((LofB X).fam (.ref b)) (fun d' => (LofC X).fam (.ref a) (.lst ([DM.D.lst pools, DM.D.int (c + 1)].set 0 d'))) :: τ)).symm.trans (List.Perm.append_left _ ?_)
          exact ((pp.cons _).trans List.perm_middle.symm).trans (pp3.symm.append_left Δ2))
        exact h5.dropL
      · generalize mb [none, many, some (.lst xs), x, y] = res at q ⊢
        split at q
        · rename_i d m' p' r
          intro v σ2 H2 kp st2
          refine q v σ2 H2 (fun i hi => ?_) ?_
          · simp only [List.mem_cons, List.not_mem_nil, or_false] at hi
            subst hi
            rw [kp 0 (by decide), hset 0 _ (by decide)]
          · obtain ⟨S2, Γ4, sl4, ho5⟩ := st2
            have n2 : σ2[2]? = some (some w) := (kp 2 (by decide)).trans es2
            have n0 : σ2[0]? = some (some (.ref a)) := (kp 0 (by decide)).trans e1'
            obtain ⟨v5, m5, Γ5, t1, t2, t3, sl5⟩ := sl4.take (i := 2) (d := p') rfl
            cases t2
            rw [n2] at t1
            cases t1
            obtain ⟨Γ6, pp6, sl6⟩ := sl5.put (i := 0) (m := LofC X) (.lst [.lst (pools.set (c % (pools.length : Int)).toNat p'), .int (c + 1)]) rfl rfl n0
            refine ⟨S2, Γ6, sl6, ?_⟩
            have h6 : Holds S2 H2 ((LofA X).fam w p' :: Wnd ((LofA X).fam w) (fun d' => (LofB X).fam (.ref b) (.lst (pools.set (c % (pools.length : Int)).toNat d'))) :: Wnd ((LofB X).fam (.ref b)) (fun d' => (LofC X).fam (.ref a) (.lst ([DM.D.lst pools, DM.D.int (c + 1)].set 0 d'))) :: (mr.fam v d :: τ ++ Γ5)) := ho5.perm (by
              refine (List.Perm.append_left _ t3).trans (List.perm_middle.trans (List.Perm.cons _ ?_))
              exact (List.Perm.swap ..).trans (List.Perm.cons _ (List.Perm.swap ..)))
            have h7 := Holds.wnd (B := fun d' => (LofB X).fam (.ref b) (.lst (pools.set (c % (pools.length : Int)).toNat d'))) h6 ((LofB X).stb _ _)
            have h8 := Holds.wnd (A := (LofB X).fam (.ref b)) (B := fun d' => (LofC X).fam (.ref a) (.lst ([DM.D.lst pools, DM.D.int (c + 1)].set 0 d'))) h7 ((LofC X).stb _ _)
            exact h8.perm ((List.perm_middle.symm).trans (pp6.symm.append_left _))
        · exact q.elim
    · exact q.elim
  · exact q.elim
end
end DM
set_option maxRecDepth 100000
/-! Data mirror, part 14: a method of an item of a list of one's own whose arguments read that list. -/
namespace DM
open PySem PySem.Spec L2

section
variable {M : Mdl}
/-- a list of one's own, its item at j has the address w -/
def Pin (me : Mode M) (j : Nat) (w : V) : Mode M where
  fam := fun v d S H F => (Lof me).fam v d S H F ∧ (d.isLst = true → ∃ p vs, v = .ref p ∧ H p = some (.lst vs) ∧ vs[j]? = some w)
  stb := by
    rintro v d S S' H H' F ⟨a, b⟩ x y
    refine ⟨(Lof me).stb v d S S' H H' F a x y, fun z => ?_⟩
    obtain ⟨p, vs, e1, e2, e3⟩ := b z
    refine ⟨p, vs, e1, ?_, e3⟩
    cases d with
    | lst ds =>
      obtain ⟨a', vs', G, f1, f2, f3, f4, f5⟩ := Lof.at a
      rw [e1] at f1
      cases f1
      exact (y p ((f5 p).mpr (.inl rfl))).trans e2
    | _ => cases z
  rd := fun {v d S H F} h x => (Lof me).rd h.1 x
  sh := fun {v d S H F} h x n s => (Lof me).sh h.1 x n s
  sc := fun {v d S H F} h r n => ⟨(Lof me).sc h r n, fun z => by cases d <;> simp [D.isLst, D.isSc] at z h⟩
theorem Holds.imp1 {S H : Hp} {Γ : List Pc} {P Q : Pc} (h : Holds S H (P :: Γ)) (s : Stb Q) (k : ∀ F, P S H F → Q S H F) : Holds S H (Q :: Γ) := h.imp s fun F q => k F q
end

section
variable {X : Cx} {W : WX} {ms : List (Mode (mdl X))} {mr : Mode (mdl X)} {pn : List Nat}
theorem Sl.mode {M : Mdl} {ms : List (Mode M)} {m' : Mode M} {σ : L2.St} {δ : DEnv} {Γ : List Pc} {i : Nat} (h : Sl ms σ δ Γ) (e : δ[i]? = some none) : Sl (ms.set i m') σ δ Γ := by
  induction h generalizing i with
  | nil => simp at e
  | no t ih =>
    cases i with
    | zero => exact .no t
    | succ i => exact .no (ih (by simpa using e))
  | yes t ih =>
    cases i with
    | zero => simp at e
    | succ i => exact .yes (ih (by simpa using e))
theorem Sl.set_self {M : Mdl} {ms : List (Mode M)} {i : Nat} {m : Mode M} (h : ms[i]? = some m) : ms.set i m = ms := by
  obtain ⟨h1, h2⟩ := List.getElem?_eq_some_iff.mp h
  rw [← h2]
  exact List.set_getElem_self h1
/-- the address is known no more -/
theorem StO.unpin {M : Mdl} {ms : List (Mode M)} {σ : L2.St} {δ : DEnv} {H : Hp} {τ : List Pc} {i j : Nat} {w : V} {me : Mode M} (hi : ms[i]? = some (Lof me)) (h : StO (ms.set i (Pin me j w)) σ δ H τ) : StO ms σ δ H τ := by
  obtain ⟨S, Γ, sl, ho⟩ := h
  have hlt : i < ms.length := (List.getElem?_eq_some_iff.mp hi).1
  have back : (ms.set i (Pin me j w)).set i (Lof me) = ms := by rw [List.set_set]; exact Sl.set_self hi
  cases z : δ[i]? with
  | none =>
    have := sl.len.2
    rw [List.length_set] at this
    rw [List.getElem?_eq_none_iff] at z
    omega
  | some o =>
    cases o with
    | none =>
      have := sl.mode (m' := Lof me) z
      rw [back] at this
      exact ⟨S, Γ, this, ho⟩
    | some d =>
      obtain ⟨v, m, Γ2, e1, e2, e3, sl2⟩ := sl.take z
      rw [List.getElem?_set_self hlt] at e2
      cases e2
      have sl3 := sl2.mode (i := i) (m' := Lof me) (by rw [List.getElem?_set_self]; exact (List.getElem?_eq_some_iff.mp z).1)
      rw [back] at sl3
      obtain ⟨Γ3, pp, sl4⟩ := sl3.put d hi (by rw [List.getElem?_set_self]; exact (List.getElem?_eq_some_iff.mp z).1) e1
      have eδ : (δ.set i none).set i (some d) = δ := by
        rw [List.set_set]
        obtain ⟨h1, h2⟩ := List.getElem?_eq_some_iff.mp z
        rw [← h2]
        exact List.set_getElem_self h1
      rw [eδ] at sl4
      have ho2 : Holds S H ((Pin me j w).fam v d :: (τ ++ Γ2)) := ho.perm ((e3.append_left τ).trans List.perm_middle)
      have ho3 : Holds S H ((Lof me).fam v d :: (τ ++ Γ2)) := ho2.imp ((Lof me).stb _ _) fun F q => q.1
      exact ⟨S, Γ3, sl4, ho3.perm ((List.perm_middle.symm).trans (pp.symm.append_left τ))⟩
def mMutP (i : Nat) (mb : DEnv → R D) (args : DEnv → R (List Opd)) (f : D → List D → Option (D × D)) : DEnv → R D := fun δ => match (δ[i]?).join with
 | none => .stuck
 | some _ => (mb δ).bind fun k δ1 => match (δ1[i]?).join, k with
  | some (.lst ds), .int z => match ixN ds.length z with
    | some j => match ds[j]? with
      | some (.lst _) => (args δ1).bind fun os δ2 => match (δ2[i]?).join, gets os δ2 with
        | some (.lst ds2), some xs => match ds2[j]? with
          | some a => match f a xs with
            | some r => .ok r.1 (δ2.set i (some (.lst (ds2.set j r.2))))
            | none => .stuck
          | none => .stuck
        | _, _ => .stuck
      | _ => .stuck
    | none => .stuck
  | _, _ => .stuck
theorem join_some {δ : DEnv} {i : Nat} {d : D} (h : (δ[i]?).join = some d) : δ[i]? = some (some d) := by
  cases q : δ[i]? with
  | none => rw [q] at h; cases h
  | some o => rw [q] at h; cases o <;> first | (cases h; done) | (cases h; rfl)
theorem all_ta {ι : Type} {es : List Expr} {R : ι → TA → Prop} (hR : ∀ c (t u : TA), R c t → (∀ σ H Q, t σ H Q → u σ H Q) → R c u) (h : ∀ c, ∃ t, PA X es t ∧ R c t) : ∃ t, PA X es t ∧ ∀ c, R c t := by
  refine ⟨fun σ H Q => ∃ c, Classical.choose (h c) σ H Q, ⟨?_⟩, fun c => hR c _ _ (Classical.choose_spec (h c)).2 fun σ H Q q => ⟨c, q⟩⟩
  intro p0 pins s σ H Q I q
  obtain ⟨c, q⟩ := q
  exact (Classical.choose_spec (h c)).1.run p0 pins s σ H Q I q
variable {a b : Expr} {e : Expr} {es : List Expr} {name : Str} {apos cpos spos : Pos} {idn : String}
theorem de_mutP {i : Nat} {me : Mode (mdl X)} {ks : List (Kd (mdl X))} {md : Mode (mdl X)} {mb : DEnv → R D} {ma : DEnv → R (List Opd)} {r : V → List V → Hp → VK → Prop} {f : D → List D → Option (D × D)} (slot : Slot "list" name idn) (hty : typeOf (.builtin idn) = pure (.type "method_descriptor")) (hm : MtR X idn r)
    (pa : PE X a (tVar i)) (hb : DE X W ms b fz mb) (hargs : ∀ jw : Nat × V, DA X W (ms.set i (Pin me jw.1 jw.2)) (e :: es) ks ma) (op : MutOp (mdl X) r me (ks.map (Kd.mode ms)) md f)
    (hi : ms[i]? = some (Lof me) := by rfl) (hk : ks.all Kd.isV = true := by rfl) (hs : PlainIx b := by exact fun _ _ => rfl)
    (hbase : attributeBase (.Subscript a b spos) name X.env (eval (.Subscript a b spos) X.env) = eval (.Subscript a b spos) X.env := by rfl)
    (hfew : ((backTo cpos (starEach (e :: es) X.env)).all (fun x => !x.1) && (backToKw cpos (keywordEach [] X.env)).all (fun x => x.1.isSome)
      && decide ((e :: es).length + ([] : List Keyword).length + (if ([] : List Keyword).isEmpty then 0 else 1) < 30)) = true := by rfl)
    (hline : (apos.endLine == cpos.line) = true := by rfl) (hst : starEach (e :: es) X.env = (false, eval e X.env) :: starEach es X.env := by rfl) (hplain : (backTo cpos (starEach es X.env)).any (·.1) = false := by rfl) :
    DE X W ms (.Call (.Attribute (.Subscript a b spos) name apos) (e :: es) [] cpos) md (mMutP i mb ma f) := by
  obtain ⟨tb, pb, kb⟩ := hb.run
  obtain ⟨t, pt, kt⟩ := all_ta (X := X) (R := fun (jw : Nat × V) t => RelA W (ms.set i (Pin me jw.1 jw.2)) ks t ma) (fun c t u h k σ δ H τ Q st q => k _ _ _ (h σ δ H τ Q st q)) fun jw => (hargs jw).run
  refine ⟨_, pe_bm PySem.F.plainAttrs_list slot hty hm (pe_ix ix_list pa pb hs) pt hbase hfew hline hst hplain, fun σ δ H τ Q st q => ?_⟩
  unfold mMutP at q
  split at q
  · exact q.elim
  rename_i d0 zd0
  obtain ⟨v, hv⟩ : ∃ v, σ[i]? = some (some v) := by
    obtain ⟨S, Γ, sl, ho⟩ := st
    obtain ⟨v, m, h1, _⟩ := sl.mem (join_some zd0)
    exact ⟨v, h1⟩
  have hlt : i < ms.length := (List.getElem?_eq_some_iff.mp hi).1
  refine ⟨v, hv, kb σ δ H τ _ st ?_⟩
  cases z : mb δ with
  | exc c δ' => rw [z] at q; exact q
  | stuck => rw [z] at q; exact q
  | ok k δ1 =>
    rw [z, R.bind_ok] at q
    intro kv H1 st1
    split at q
    · rename_i ds zz zj
      have rk := st1.rd
      cases rk
      split at q
      · rename_i j zix
        split at q
        · rename_i ys zy
          have st2 := st1.drop
          obtain ⟨S, Γ, sl, ho⟩ := st2
          have z1 := join_some zj
          obtain ⟨v', m, Γ2, e1, e2, e3, sl2⟩ := sl.take z1
          rw [hv] at e1; cases e1
          rw [hi] at e2; cases e2
          have ho1 : Holds S H1 ((Lof me).fam v (.lst ds) :: (τ ++ Γ2)) := ho.perm ((e3.append_left τ).trans List.perm_middle)
          obtain ⟨p, vs, w, f1, f2, f3, f4, ho2⟩ := ho1.focusL zy
          subst f1
          have rw0 := ho2.rd
          have zlt : i < δ1.length := (List.getElem?_eq_some_iff.mp z1).1
          have sl3 := sl2.mode (i := i) (m' := Pin me j w) (List.getElem?_set_self zlt)
          obtain ⟨Γ3, pp, sl4⟩ := sl3.put (m := Pin me j w) (.lst ds) (List.getElem?_set_self hlt) (List.getElem?_set_self zlt) hv
          have eδ : (δ1.set i none).set i (some (.lst ds)) = δ1 := by
            rw [List.set_set]
            obtain ⟨h1, h2⟩ := List.getElem?_eq_some_iff.mp z1
            rw [← h2]
            exact List.set_getElem_self h1
          rw [eδ] at sl4
          have ho3 : Holds S H1 ((Pin me j w).fam (.ref p) (.lst ds) :: (τ ++ Γ2)) := ho1.imp ((Pin me j w).stb _ _) fun F q => ⟨q, fun _ => ⟨p, vs, rfl, f2, f4⟩⟩
          have st3 : StO (ms.set i (Pin me j w)) σ δ1 H1 τ := ⟨S, Γ3, sl4, ho3.perm ((List.perm_middle.symm).trans (pp.symm.append_left τ))⟩
          refine ⟨p, vs, zz, w, rfl, rfl, SqL.of f2, ?_, ?_⟩
          · unfold atI
            rw [f3, zix]
            exact f4
          refine ⟨?_, kt (j, w) σ δ1 H1 τ _ st3 ?_⟩
          · cases rw0 with
            | lst h _ => exact .inl ⟨rfl, _, SqL.of h⟩
          cases z2 : ma δ1 with
          | exc c δ' =>
            rw [z2] at q
            exact fun H' C st' g => q H' C (st'.unpin hi) g
          | stuck => rw [z2] at q; exact q
          | ok os δ2 =>
            rw [z2, R.bind_ok] at q
            intro xs H2 Γa ops st4
            split at q
            · rename_i ds2 xd y1 y2
              split at q
              · rename_i a0 y3
                cases zf : f a0 xd with
                | none => rw [zf] at q; exact q.elim
                | some rr =>
                  obtain ⟨d, a'⟩ := rr
                  rw [zf] at q
                  dsimp only at q
                  have hkv := Kd.allV hk
                  obtain ⟨eΓ, l1, l2⟩ := ops.vals hkv y2
                  have emode : ks.map (Kd.mode (ms.set i (Pin me j w))) = ks.map (Kd.mode ms) := by
                    refine List.map_congr_left fun k hk' => ?_
                    obtain ⟨m, rfl⟩ := hkv k hk'
                    rfl
                  rw [emode] at eΓ l2
                  subst eΓ
                  obtain ⟨S2, Γ4, sl5, ho5⟩ := st4
                  have y1' := join_some y1
                  have ylt : i < δ2.length := (List.getElem?_eq_some_iff.mp y1').1
                  obtain ⟨v5, m5, Γ5, t1, t2, t3, sl6⟩ := sl5.take y1'
                  rw [hv] at t1; cases t1
                  rw [List.getElem?_set_self hlt] at t2; cases t2
                  have ho6 : Holds S2 H2 ((Pin me j w).fam (.ref p) (.lst ds2) :: ((fams (ks.map (Kd.mode ms)) xs xd ++ τ) ++ Γ5)) := ho5.perm ((t3.append_left _).trans List.perm_middle)
                  obtain ⟨F6, q6⟩ := ho6.mem (List.mem_cons_self ..)
                  obtain ⟨p6, vs6, g1, g2, g3⟩ := q6.2 rfl
                  cases g1
                  have ho7 : Holds S2 H2 ((Lof me).fam (.ref p) (.lst ds2) :: ((fams (ks.map (Kd.mode ms)) xs xd ++ τ) ++ Γ5)) := ho6.imp ((Lof me).stb _ _) fun F q => q.1
                  obtain ⟨p7, vs7, w7, k1, k2, _, k3, ho8⟩ := ho7.focusL y3
                  cases k1
                  rw [g2] at k2; cases k2
                  rw [g3] at k3; cases k3
                  refine op S2 H2 (Wnd (me.fam w) (fun d' => (Lof me).fam (.ref p) (.lst (ds2.set j d'))) :: (τ ++ Γ5)) w xs a0 d a' xd _ l1 l2 (ho8.perm (List.Perm.cons _ ?_)) zf fun u S' H' ho9 => q u H' ?_
                  · rw [List.append_assoc]
                    exact List.perm_middle.symm
                  · have hA : Holds S' H' ((Lof me).fam (.ref p) (.lst (ds2.set j a')) :: md.fam u d :: (τ ++ Γ5)) := Holds.wnd (A := me.fam w) (B := fun d' => (Lof me).fam (.ref p) (.lst (ds2.set j d'))) (ho9.perm ((List.Perm.swap ..).trans (List.Perm.cons _ (List.Perm.swap ..)))) ((Lof me).stb _ _)
                    have sl7 := sl6.mode (i := i) (m' := Lof me) (List.getElem?_set_self ylt)
                    rw [List.set_set, Sl.set_self hi] at sl7
                    obtain ⟨Γ8, pp8, sl8⟩ := sl7.put (.lst (ds2.set j a')) hi (List.getElem?_set_self ylt) hv
                    rw [List.set_set] at sl8
                    exact ⟨S', Γ8, sl8, hA.perm ((List.perm_middle (l₁ := md.fam u d :: τ)).symm.trans (pp8.symm.append_left (md.fam u d :: τ)))⟩
              · exact q.elim
            · exact q.elim
        · exact q.elim
      · exact q.elim
    · exact q.elim
/-- len of an item, read -/
def mLenIx (i : Nat) (mb : DEnv → R D) : DEnv → R D := fun δ => match (δ[i]?).join with
 | none => .stuck
 | some _ => (mb δ).bind fun k δ1 => match (δ1[i]?).join, k with
  | some (.lst ds), .int z => match ixN ds.length z with
    | some j => match ds[j]? with
      | some (.lst xs) => .ok (.int xs.length) δ1
      | _ => .stuck
    | none => .stuck
  | _, _ => .stuck
theorem de_lenIx {i : Nat} {x : Str} {p : Pos} {mb : DEnv → R D} (pa : PE X a (tVar i)) (hb : DE X W ms b fz mb) (hg : Gl X x) (hm : X.mg x = none) (hv : bootBuiltins x = some (.builtin "len")) (hs : PlainIx b := by exact fun _ _ => rfl) (hn : x ≠ "__name__" := by decide) (hdb : (x == ("__debug__" : Str)) = false := by decide)
    (he : starEach [.Subscript a b spos] X.env = (false, eval (.Subscript a b spos) X.env) :: starEach [] X.env := by rfl) (hpl : (backTo cpos (starEach [] X.env)).any (·.1) = false := by rfl) :
    DE X W ms (.Call (.Name x p) [.Subscript a b spos] [] cpos) fz (mLenIx i mb) := by
  obtain ⟨tb, pb, kb⟩ := hb.run
  refine ⟨_, pe_callB call_len hg hm hv (pa_cons (pe_ix ix_list pa pb hs) pa_nil he) hn hdb he hpl, fun σ δ H τ Q st q => ?_⟩
  unfold mLenIx at q
  split at q
  · exact q.elim
  rename_i d0 zd0
  obtain ⟨v, hv⟩ : ∃ v, σ[i]? = some (some v) := by
    obtain ⟨S, Γ, sl, ho⟩ := st
    obtain ⟨v, m, h1, _⟩ := sl.mem (join_some zd0)
    exact ⟨v, h1⟩
  refine ⟨v, hv, kb σ δ H τ _ st ?_⟩
  cases z : mb δ with
  | exc c δ' => rw [z] at q; exact q
  | stuck => rw [z] at q; exact q
  | ok k δ1 =>
    rw [z, R.bind_ok] at q
    intro kv H1 st1
    split at q
    · rename_i ds zz zj
      have rk := st1.rd
      cases rk
      split at q
      · rename_i j zix
        split at q
        · rename_i ys zy
          have st2 := st1.drop
          obtain ⟨S, Γ, sl, ho⟩ := id st2
          obtain ⟨v', m, Γ2, e1, e2, e3, sl2⟩ := sl.take (join_some zj)
          rw [hv] at e1; cases e1
          have ho1 : Holds S H1 (m.fam v (.lst ds) :: (τ ++ Γ2)) := ho.perm ((e3.append_left τ).trans List.perm_middle)
          have rd := ho1.rd
          cases rd with
          | lst h r =>
            obtain ⟨w, hw, rw0⟩ := r.get zy
            have lw : LenV X.K w H1 ys.length := by
              cases rw0 with
              | lst h2 r2 => exact .inl ⟨_, SqL.of h2, r2.length.symm⟩
            refine ⟨_, _, zz, w, rfl, rfl, SqL.of h, ?_, ⟨_, ys.length, rfl, lw, q _ H1 (st2.fzOf fun _ => .int _)⟩⟩
            unfold atI
            rw [r.length, zix]
            exact hw
        · exact q.elim
      · exact q.elim
    · exact q.elim
end
end DM
set_option maxRecDepth 100000
/-! Data mirror, part 15: the law's own promise. -/
namespace DM
open PySem PySem.Spec L2
/-- law answers True for each script -/
def spLaw (K : PySem.W.Frag) : Sp := fun vs H Q _ => ∃ (a : Addr) (ns : List Int), vs = [V.ref a] ∧ SqL K H a (List.map V.int ns) ∧ ns.length ≤ 63 ∧ ∀ H', Q (.bl true) H'
theorem spLaw_spD {M : Mdl} {fn : Fn} (h : ∀ ns : List Int, ns.length ≤ 63 → fn [.scr ns] = .ok (.bl true) []) {vs : List V} {H : Hp} {Q : VK} {E : XK} (q : spLaw M.K vs H Q E) : spD (M := M) ⟨[fz], [false], fz⟩ fn vs H Q E := by
  obtain ⟨a, ns, rfl, hs, hl, k⟩ := q
  refine ⟨H, [.scr ns], [], rfl, rfl, ?_, ?_⟩
  · have h0 : Holds H H [] := ⟨Ex.refl H, fun _ => False, .nil fun _ z => z, fun _ z => z.elim, fun _ z => z.elim⟩
    exact h0.addFz (.scr hs)
  · rw [h ns hl]
    intro v S' H' ho
    have r := ho.rd
    cases r
    exact k H'
theorem FnOkG.law {P : Program} {w : World} {K : PySem.W.Frag} {mg : Str → Option Value} {base : Heap} {k : Nat} {f : Addr} {fd : FuncData} {ps : List Str} {fn : Fn} (F : FnOkG P w K mg base (L2.CX P w) k f fd ps (spD (M := ⟨K, mg⟩) ⟨[fz], [false], fz⟩ fn)) (h : ∀ ns : List Int, ns.length ≤ 63 → fn [.scr ns] = .ok (.bl true) []) :
    FnOkG P w K mg base (L2.CX P w) k f fd ps (spLaw K) := ⟨fun vs H Q E q => F.len vs H Q E (spLaw_spD (M := ⟨K, mg⟩) h q), fun A outer s H args us vs Q E hr e0 hb r q => F.run A outer s H args us vs Q E hr e0 hb r (spLaw_spD (M := ⟨K, mg⟩) h q)⟩
theorem noX {P : Program} {w : World} (H : Hp) (s : Shared) (e : Value) (s' : Shared) (h : L2.CX P w [] H s (fun _ _ _ => False) e s') : False := by
  obtain ⟨_, _, _, _, _, _, _, _, _, _, _, _, z⟩ := h
  exact z
end DM
set_option maxRecDepth 100000
/-! Data mirror, part 22: operations that use their operands up: an item moved out, lists of one's own put together, tuples of one's own. -/
namespace DM
open PySem PySem.Spec L2

section
variable {M : Mdl} {S H : Hp} {Γ : List Pc} {P Q : Pc}
/-- less is owned -/
theorem Holds.less (h : Holds S H (P :: Γ)) (s : Stb Q) (k : ∀ F, P S H F → ∃ G, Q S H G ∧ ∀ a, G a → F a) : Holds S H (Q :: Γ) :=
  h.change s fun F p a b => by
    obtain ⟨G, q, l⟩ := k F p
    exact ⟨G, q, fun x y => .inl (l x y), fun x y => b x (l x y), fun _ _ _ => rfl⟩
theorem Holds.takeL {m : Mode M} {v : V} {ds : List D} {j : Nat} {d : D} (h : Holds S H ((Lof m).fam v (.lst ds) :: Γ)) (e : ds[j]? = some d) : ∃ p vs x, v = .ref p ∧ H p = some (.lst vs) ∧ vs.length = ds.length ∧ vs[j]? = some x ∧ Holds S H (m.fam x d :: Γ) := by
  obtain ⟨p, vs, rfl, e1, e2⟩ := h.lstAt
  have hj : j < vs.length := by
    have := (List.getElem?_eq_some_iff.mp e).1
    omega
  refine ⟨p, vs, vs[j], rfl, e1, e2, List.getElem?_eq_getElem hj, h.less (m.stb _ _) fun F q => ?_⟩
  obtain ⟨a, vs', G, f1, f2, f3, _, f5⟩ := Lof.at q
  cases f1
  rw [e1] at f2
  cases f2
  obtain ⟨x, F1, G1, g1, g2, _, g4, _⟩ := f3.focus e
  rw [List.getElem?_eq_getElem hj] at g1
  cases g1
  exact ⟨F1, g2, fun y z => (f5 y).mpr (.inr ((g4 y).mpr (.inl z)))⟩
/-! ### tuples of one's own -/
def D.isTup : D → Bool
  | .tup _ => true
  | _ => false
def Pof (ms : List (Mode M)) : Mode M where
  fam := fun v d S H F => (d.isTup = false ∧ Rep M S v d ∧ ∀ a, ¬ F a) ∨ ∃ p vs ds G, v = .ref p ∧ d = .tup ds ∧ H p = some (.tup vs) ∧ ElsF (fun m => Mode.fam m) S H ms vs ds G ∧ ¬ G p ∧ ∀ a, F a ↔ a = p ∨ G a
  stb := by
    rintro v d S S' H H' F (⟨a, b, c⟩ | ⟨p, vs, ds, G, a, b, c, e, f, g⟩) x y
    · exact .inl ⟨a, b.mono x, c⟩
    · exact .inr ⟨p, vs, ds, G, a, b, (y p ((g p).mpr (.inl rfl))).trans c, e.stay (fun m => m.stb) x fun a q => y a ((g a).mpr (.inr q)), f, g⟩
  rd := by
    rintro v d S H F (⟨a, b, c⟩ | ⟨p, vs, ds, G, rfl, rfl, c, e, f, g⟩) x
    · exact b.mono x
    · exact .tup (.inl (.inl c)) (e.rd fun m _ _ _ q => m.rd q x)
  sh := by
    rintro v d S H F (⟨a, b, c⟩ | ⟨p, vs, ds, G, rfl, rfl, c, e, f, g⟩) x n s
    · exact ⟨S, Ex.refl _, x, fun _ q => .inl q, b⟩
    · obtain ⟨S', a1, a2, a3, a4, S1, a5, a6⟩ := share_one c f g n (ElsF.sh (m := fun m => m) e x (fun a q => n a ((g a).mpr (.inr q))) (fun a q => s a ((g a).mpr (.inr q))))
      exact ⟨S', a1, a2, a3, .tup (.inl (.inl a4)) (a6.mono a5)⟩
  sc := fun {v d S H F} h r n => .inl ⟨(by cases d <;> first | rfl | cases h), r, n⟩
theorem Pof.at {ms : List (Mode M)} {p : V} {ds : List D} {F : Foot} (h : (Pof ms).fam p (.tup ds) S H F) : ∃ a vs G, p = .ref a ∧ H a = some (.tup vs) ∧ ElsF (fun m => Mode.fam m) S H ms vs ds G ∧ ¬ G a ∧ ∀ x, F x ↔ x = a ∨ G x := by
  rcases h with ⟨z, _, _⟩ | ⟨a, vs, ds', G, e1, e2, c, e, f, g⟩
  · cases z
  · cases e2; exact ⟨a, vs, G, e1, c, e, f, g⟩
theorem Holds.takeT {ms : List (Mode M)} {v : V} {ds : List D} {j : Nat} {m : Mode M} (h : Holds S H ((Pof ms).fam v (.tup ds) :: Γ)) (em : ms[j]? = some m) : ∃ p vs x d, v = .ref p ∧ H p = some (.tup vs) ∧ vs.length = ds.length ∧ vs[j]? = some x ∧ ds[j]? = some d ∧ Holds S H (m.fam x d :: Γ) := by
  obtain ⟨F0, q0⟩ := h.mem (List.mem_cons_self ..)
  obtain ⟨p, vs, G0, rfl, e1, e3, _, _⟩ := Pof.at q0
  have el := e3.length
  obtain ⟨x, d, F1, G1, g1, gd, _⟩ := e3.focus em
  refine ⟨p, vs, x, d, rfl, e1, el.1, g1, gd, h.less (m.stb _ _) fun F q => ?_⟩
  obtain ⟨a, vs', G, f1, f2, f3, _, f5⟩ := Pof.at q
  cases f1
  rw [e1] at f2
  cases f2
  obtain ⟨x', d', F2, G2, k1, kd, k2, _, k4, _⟩ := f3.focus em
  rw [g1] at k1
  cases k1
  rw [gd] at kd
  cases kd
  exact ⟨F2, k2, fun y z => (f5 y).mpr (.inr ((k4 y).mpr (.inl z)))⟩
/-- pieces of modes named, side by side -/
theorem Sep.elsF {ms0 : List (Mode M)} {σ : L2.St} : ∀ {qs : List (Mode M)} {vs : List V} {os : List Opd} {Γa : List Pc} {U : Foot} {δ : DEnv} {ds : List D}, OpPs M ms0 σ (qs.map Kd.v) vs os Γa → gets os δ = some ds → Sep S H (Γa ++ Γ) U →
    ∃ F G, ElsF (fun m => Mode.fam m) S H qs vs ds F ∧ Sep S H Γ G ∧ (∀ a, F a → ¬ G a) ∧ (∀ a, U a ↔ F a ∨ G a) ∧ fins os δ = some δ
  | [], _, _, _, U, δ, ds, .nil, e, h => by
    cases e
    exact ⟨fun _ => False, U, .nil fun _ q => q, h, fun _ q => q.elim, fun _ => ⟨.inr, fun x => x.elim False.elim id⟩, rfl⟩
  | q :: qs, _, _, _, U, δ, ds, .cons (Δ := Δ) h1 t, e, h => by
    cases h1 with
    | v =>
      cases h with
      | @cons _ _ F0 G0 _ sb p tt dj u =>
        unfold gets at e
        split at e
        · rename_i d' ds' z1 z2
          cases z1
          cases e
          obtain ⟨F, G, a1, a2, a3, a4, a5⟩ := Sep.elsF t z2 tt
          refine ⟨fun a => F0 a ∨ F a, G, .cons p a1 (fun a x y => dj a x ((a4 a).mpr (.inl y))) fun _ => Iff.rfl, a2, fun a x y => ?_, fun a => ?_, a5⟩
          · rcases x with x | x
            · exact dj a x ((a4 a).mpr (.inr y))
            · exact a3 a x y
          · rw [u a, a4 a, or_assoc]
        · cases e
/-- two lists of one's own put one behind the other -/
theorem Holds.catL {m : Mode M} {x y : V} {xs ys : List D} (h : Holds S H ((Lof m).fam x (.lst xs) :: (Lof m).fam y (.lst ys) :: Γ)) : ∃ p q us ws, x = .ref p ∧ y = .ref q ∧ H p = some (.lst us) ∧ H q = some (.lst ws) ∧ us.length = xs.length ∧ ws.length = ys.length ∧
    (∀ n, H n = none → Holds S (upd H n (.lst (us ++ ws))) ((Lof m).fam (.ref n) (.lst (xs ++ ys)) :: Γ)) ∧ Holds S (upd H p (.lst (us ++ ws))) ((Lof m).fam x (.lst (xs ++ ys)) :: Γ) := by
  obtain ⟨p, us, rfl, e1, e2⟩ := h.lstAt
  obtain ⟨q, ws, rfl, e3, e4⟩ := (h.perm (.swap ..)).lstAt
  refine ⟨p, q, us, ws, rfl, rfl, e1, e3, e2, e4, fun n hn => ?_, ?_⟩
  · refine h.join.change ((Lof m).stb _ _) fun F z nS nH => ?_
    obtain ⟨F1, F2, q1, q2, q3, q4⟩ := z
    obtain ⟨a1, us', G1, f1, f2, f3, f4, f5⟩ := Lof.at q1
    cases f1
    rw [e1] at f2
    cases f2
    obtain ⟨a2, ws', G2, g1, g2, g3, g4, g5⟩ := Lof.at q2
    cases g1
    rw [e3] at g2
    cases g2
    have nF : ∀ z, F z → z ≠ n := fun z hz w => nH z hz (w ▸ hn)
    have n1 : ∀ z, G1 z → z ≠ n := fun z hz => nF z ((q4 z).mpr (.inl ((f5 z).mpr (.inr hz))))
    have n2 : ∀ z, G2 z → z ≠ n := fun z hz => nF z ((q4 z).mpr (.inr ((g5 z).mpr (.inr hz))))
    refine ⟨fun z => z = n ∨ (G1 z ∨ G2 z), .inr ⟨n, us ++ ws, xs ++ ys, fun z => G1 z ∨ G2 z, rfl, rfl, upd_same, ?_, ?_, fun _ => Iff.rfl⟩, fun z hz => ?_, fun z hz => ?_, fun z hz hz2 => ?_⟩
    · exact (f3.stay m.stb (Ex.refl S) fun z hz => upd_ne (n1 z hz)).append (g3.stay m.stb (Ex.refl S) fun z hz => upd_ne (n2 z hz)) (fun z hz hz2 => q3 z ((f5 z).mpr (.inr hz)) ((g5 z).mpr (.inr hz2))) fun _ => Iff.rfl
    · rintro (z | z)
      · exact n1 n z rfl
      · exact n2 n z rfl
    · rcases hz with hz | hz | hz
      · exact .inr (hz ▸ hn)
      · exact .inl ((q4 z).mpr (.inl ((f5 z).mpr (.inr hz))))
      · exact .inl ((q4 z).mpr (.inr ((g5 z).mpr (.inr hz))))
    · by_cases w : z = n
      · rw [w, upd_same]; simp
      · rw [upd_ne w]
        rcases hz with hz | hz | hz
        · exact absurd hz w
        · exact nH z ((q4 z).mpr (.inl ((f5 z).mpr (.inr hz))))
        · exact nH z ((q4 z).mpr (.inr ((g5 z).mpr (.inr hz))))
    · exact upd_ne fun w => hz2 (w ▸ hn)
  · refine h.join.change ((Lof m).stb _ _) fun F z nS nH => ?_
    obtain ⟨F1, F2, q1, q2, q3, q4⟩ := z
    obtain ⟨a1, us', G1, f1, f2, f3, f4, f5⟩ := Lof.at q1
    cases f1
    rw [e1] at f2
    cases f2
    obtain ⟨a2, ws', G2, g1, g2, g3, g4, g5⟩ := Lof.at q2
    cases g1
    rw [e3] at g2
    cases g2
    have n1 : ∀ z, G1 z → z ≠ p := fun z hz w => f4 (w ▸ hz)
    have n2 : ∀ z, G2 z → z ≠ p := fun z hz w => q3 p ((f5 p).mpr (.inl rfl)) ((g5 p).mpr (.inr (w ▸ hz)))
    refine ⟨fun z => z = p ∨ (G1 z ∨ G2 z), .inr ⟨p, us ++ ws, xs ++ ys, fun z => G1 z ∨ G2 z, rfl, rfl, upd_same, ?_, ?_, fun _ => Iff.rfl⟩, fun z hz => .inl ?_, fun z hz => ?_, fun z hz hz2 => ?_⟩
    · exact (f3.stay m.stb (Ex.refl S) fun z hz => upd_ne (n1 z hz)).append (g3.stay m.stb (Ex.refl S) fun z hz => upd_ne (n2 z hz)) (fun z hz hz2 => q3 z ((f5 z).mpr (.inr hz)) ((g5 z).mpr (.inr hz2))) fun _ => Iff.rfl
    · rintro (z | z)
      · exact n1 p z rfl
      · exact n2 p z rfl
    · rcases hz with hz | hz | hz
      · exact (q4 z).mpr (.inl ((f5 z).mpr (.inl hz)))
      · exact (q4 z).mpr (.inl ((f5 z).mpr (.inr hz)))
      · exact (q4 z).mpr (.inr ((g5 z).mpr (.inr hz)))
    · by_cases w : z = p
      · rw [w, upd_same]; simp
      · rw [upd_ne w]
        rcases hz with hz | hz | hz
        · exact absurd hz w
        · exact nH z ((q4 z).mpr (.inl ((f5 z).mpr (.inr hz))))
        · exact nH z ((q4 z).mpr (.inr ((g5 z).mpr (.inr hz))))
    · exact upd_ne fun w => hz ((q4 z).mpr (.inl ((f5 z).mpr (.inl w))))
end

section
variable {X : Cx} {W : WX} {ms : List (Mode (mdl X))}
/-- an operation of two values that uses them up -/
def Op2C (M : Mdl) (r : R2) (m1 m2 md : Mode M) (f : D → D → Option D) : Prop :=
  ∀ (S H : Hp) (Γ : List Pc) (x y : V) (a b d : D) (Q : VK), Holds S H (m2.fam y b :: m1.fam x a :: Γ) → f a b = some d → (∀ v S' H', Holds S' H' (md.fam v d :: Γ) → Q v H') → r x y H Q
theorem relC2 {ta tb : TE} {m1 m2 md : Mode (mdl X)} {ma mb : DEnv → R D} {r : R2} {f : D → D → Option D} (ka : RelE (X := X) W ms m1 ta ma) (kb : RelE (X := X) W ms m2 tb mb) (op : Op2C (mdl X) r m1 m2 md f) : RelE (X := X) W ms md (tOp r ta tb) (mBin ma mb f) := by
  intro σ δ H τ Q st q
  refine ka σ δ H τ _ st ?_
  unfold mBin at q
  cases z : ma δ with
  | exc c δ' => rw [z] at q; exact q
  | stuck => rw [z] at q; exact q
  | ok x δ1 =>
    rw [z, R.bind_ok] at q
    intro v1 H1 st1
    refine kb σ δ1 H1 (m1.fam v1 x :: τ) _ st1 ?_
    cases z2 : mb δ1 with
    | exc c δ' => rw [z2] at q; exact Wx.drop (Δ := [_]) q
    | stuck => rw [z2] at q; exact q
    | ok y δ2 =>
      rw [z2, R.bind_ok] at q
      intro v2 H2 st2
      cases zf : f x y with
      | none => rw [zf] at q; exact q.elim
      | some d =>
        rw [zf] at q
        obtain ⟨S, Γ, sl, ho⟩ := st2
        exact op S H2 (τ ++ Γ) v1 v2 x y d Q ho zf fun v S' H' h' => q v H' ⟨S', Γ, sl, h'⟩
variable {a b : Expr} {pos : Pos}
theorem de_ixC {m1 m2 md : Mode (mdl X)} {ma mb : DEnv → R D} {f : D → D → Option D} (ha : DE X W ms a m1 ma) (hb : DE X W ms b m2 mb) (h : Op2C (mdl X) (rIx X.K) m1 m2 md f) (hs : PlainIx b := by exact fun _ _ => rfl) : DE X W ms (.Subscript a b pos) md (mBin ma mb f) := by
  obtain ⟨ta, pa, ra⟩ := ha.run
  obtain ⟨tb, pb, rb⟩ := hb.run
  exact ⟨_, pe_ix ix_seq pa pb hs, relC2 ra rb h⟩
theorem de_opC {op : Operator} {r : R2} {m1 m2 md : Mode (mdl X)} {ma mb : DEnv → R D} {f : D → D → Option D} (ho : OpR X (binaryOp op) r) (ha : DE X W ms a m1 ma) (hb : DE X W ms b m2 mb) (h : Op2C (mdl X) r m1 m2 md f) : DE X W ms (.BinOp a op b pos) md (mBin ma mb f) := by
  obtain ⟨ta, pa, ra⟩ := ha.run
  obtain ⟨tb, pb, rb⟩ := hb.run
  exact ⟨_, pe_op ho pa pb, relC2 ra rb h⟩
/-- an item moved out of a list, of a tuple -/
def ixLD : D → D → Option D
  | .lst ds, .int i => atI ds i
  | _, _ => none
theorem op2c_ixL {m : Mode (mdl X)} : Op2C (mdl X) (rIx X.K) (Lof m) fz m ixLD := by
  intro S H Γ x y a b d Q ho e k
  unfold ixLD at e
  split at e
  · rename_i ds i
    have sy : Seen S H fz y (.int i) := ho.mem (List.mem_cons_self ..)
    cases sy.int ho.ex
    have h1 := ho.drop
    unfold atI at e
    cases zj : ixN ds.length i with
    | none => rw [zj] at e; cases e
    | some j =>
      rw [zj] at e
      obtain ⟨p, vs, v, rfl, e1, e2, e3, h2⟩ := h1.takeL e
      refine .inl ⟨p, vs, i, v, rfl, rfl, SqL.of e1, ?_, k v S H h2⟩
      unfold atI
      rw [e2, zj]
      exact e3
  · cases e
def ixTD (j : Nat) : D → D → Option D
  | .tup ds, .int i => if ixN ds.length i = some j then ds[j]? else none
  | _, _ => none
theorem op2c_ixT {qs : List (Mode (mdl X))} {m : Mode (mdl X)} (j : Nat) (em : qs[j]? = some m) : Op2C (mdl X) (rIx X.K) (Pof qs) fz m (ixTD j) := by
  intro S H Γ x y a b d Q ho e k
  unfold ixTD at e
  split at e
  · rename_i ds i
    split at e
    · rename_i zj
      have sy : Seen S H fz y (.int i) := ho.mem (List.mem_cons_self ..)
      cases sy.int ho.ex
      obtain ⟨p, vs, v, d', rfl, e1, e2, e3, e4, h2⟩ := ho.drop.takeT em
      rw [e] at e4
      cases e4
      refine .inr (.inl ⟨p, vs, i, v, rfl, rfl, .inl (.inl e1), ?_, k v S H h2⟩)
      unfold atI
      rw [e2, zj]
      exact e3
    · cases e
  · cases e
def catD : D → D → Option D
  | .lst xs, .lst ys => if xs.length + ys.length ≤ sizeLine then some (.lst (xs ++ ys)) else none
  | _, _ => none
theorem op2c_cat {m : Mode (mdl X)} : Op2C (mdl X) rAddA (Lof m) (Lof m) (Lof m) catD := by
  intro S H Γ x y a b d Q ho e k
  unfold catD at e
  split at e
  · split at e
    · rename_i hl
      cases e
      obtain ⟨p, q, us, ws, rfl, rfl, e1, e2, e3, e4, h, _⟩ := (ho.perm (.swap ..)).catL
      exact .inr (.inr ⟨p, q, us, ws, rfl, rfl, e1, e2, by rw [e3, e4]; exact hl, fun n hn => k _ S _ (h n hn)⟩)
    · cases e
  · cases e
theorem mut_extendO {m : Mode (mdl X)} : MutOp (mdl X) rExtend (Lof m) [Lof m] fz extendF := by
  intro S H Γ x vs a d a' ds Q l1 l2 ho e k
  unfold extendF at e
  split at e
  · rename_i xs ys
    split at e
    · rename_i hlt
      cases e
      cases vs with
      | nil => simp at l1
      | cons v vs =>
        cases vs with
        | cons _ _ => simp at l1
        | nil =>
          obtain ⟨p, q, us, ws, rfl, rfl, e1, e2, e3, e4, _, h⟩ := Holds.catL (x := x) (y := v) (xs := xs) (ys := ys) ho
          exact ⟨p, q, us, ws, rfl, rfl, e1, e2, by rw [e3, e4]; exact hlt, k _ S _ (h.scM rfl .non)⟩
    · cases e
  · cases e
/-- (a, b, ..) of items of one's own -/
theorem de_tupO {es : List Expr} {x1 : Nat} {qs : List (Mode (mdl X))} {m : DEnv → R (List Opd)} (h : DA X W ms es (qs.map Kd.v) m) : DE X W ms (.Tuple es x1 pos) (Pof qs) (mTup m) := by
  obtain ⟨t, pa, ra⟩ := h.run
  refine ⟨_, pe_tup pa, fun σ δ H τ Q st q => ra σ δ H τ (fun xs H1 => xs.length ≤ sizeLine ∧ ∀ p, H1 p = none → Q (.ref p) (upd H1 p (.tup xs))) st ?_⟩
  unfold mTup mOpN at q
  cases z : m δ with
  | exc c δ' => rw [z] at q; exact q
  | stuck => rw [z] at q; exact q
  | ok os δ1 =>
    rw [z, R.bind_ok] at q
    intro vs H1 Γa ops st1
    split at q
    · rename_i ds δ2 z1 z2
      obtain ⟨S, Γ, sl, ho⟩ := id st1
      obtain ⟨U, sp, b, c⟩ := ho.own
      rw [List.append_assoc] at sp
      obtain ⟨F, G, a1, a2, a3, a4, a5⟩ := Sep.elsF ops z1 sp
      rw [a5] at z2
      cases z2
      dsimp only at q
      split at q
      · rename_i hl
        refine ⟨by rw [a1.length.1]; exact hl, fun p hp => q (.ref p) _ ⟨S, Γ, sl, ?_⟩⟩
        have nU : ∀ x, U x → x ≠ p := fun x y z => c x y (z ▸ hp)
        have keep : ∀ x, U x → upd H1 p (.tup vs) x = H1 x := fun x y => upd_ne (nU x y)
        have hS : S p = none := ho.ex.free hp
        refine ⟨fun x o e => ?_, fun x => (x = p ∨ F x) ∨ G x, .cons ((Pof qs).stb _ _) (F := fun x => x = p ∨ F x) (.inr ⟨p, vs, ds, F, rfl, rfl, upd_same, a1.stay (fun m => m.stb) (Ex.refl S) fun x y => keep x ((a4 x).mpr (.inl y)), fun y => nU p ((a4 p).mpr (.inl y)) rfl, fun _ => Iff.rfl⟩) (a2.stay (Ex.refl S) fun x y => keep x ((a4 x).mpr (.inr y))) (fun x y z => ?_) fun _ => Iff.rfl, fun x y => ?_, fun x y => ?_⟩
        · rw [upd_ne (fun y => by subst y; rw [hS] at e; cases e)]
          exact ho.ex x o e
        · rcases y with y | y
          · exact nU x ((a4 x).mpr (.inr z)) y
          · exact a3 x y z
        · rcases y with (y | y) | y
          · rw [y]; exact hS
          · exact b x ((a4 x).mpr (.inl y))
          · exact b x ((a4 x).mpr (.inr y))
        · rcases y with (y | y) | y
          · rw [y, upd_same]; simp
          · rw [keep x ((a4 x).mpr (.inl y))]; exact c x ((a4 x).mpr (.inl y))
          · rw [keep x ((a4 x).mpr (.inr y))]; exact c x ((a4 x).mpr (.inr y))
      · exact q.elim
    · exact q.elim
end
end DM
set_option maxRecDepth 100000
/-! Data mirror, part 24: objects of the program's own classes: attributes read, attributes as places, attributes stored, methods, making. -/
namespace DM
open PySem PySem.Spec L2

/-- the place of a name -/
def pos (f : Str) : List Str → Option Nat
  | [] => none
  | n :: ns => if n = f then some 0 else (pos f ns).map (· + 1)
theorem pos_get {f : Str} : ∀ {ns : List Str} {j : Nat}, pos f ns = some j → ns[j]? = some f
  | [], j, h => by cases h
  | n :: ns, j, h => by
    unfold pos at h
    split at h
    · rename_i e
      cases h
      rw [e]
      rfl
    · obtain ⟨i, e1, e2⟩ := Option.map_eq_some_iff.mp h
      subst e2
      simpa using pos_get e1
theorem lookup_pos {f : Str} : ∀ (fs : List (Str × V)), fs.lookup f = (pos f (fs.map (·.1))).bind fun j => (fs.map (·.2))[j]?
  | [] => rfl
  | (k, v) :: fs => by
    rw [List.map_cons, pos]
    by_cases h : k = f
    · rw [if_pos h]
      subst h
      simp [List.lookup]
    · rw [if_neg h]
      have hb : (f == k) = false := beq_eq_false_iff_ne.mpr fun e => h e.symm
      rw [List.lookup, hb]
      show List.lookup f fs = _
      rw [lookup_pos fs]
      cases pos f (fs.map (·.1)) with
      | none => rfl
      | some j => simp
/-- a name put, in its place or at the end -/
def putN (f : Str) (d : D) : List Str → List D → List Str × List D
  | n :: ns, x :: ds => if n = f then (n :: ns, d :: ds) else (n :: (putN f d ns ds).1, x :: (putN f d ns ds).2)
  | ns, ds => match ns with
    | [] => ([f], [d])
    | _ => (ns, ds)
section
variable {M : Mdl} {S H : Hp} {Γ : List Pc} {mo : Str → Mode M}
theorem Iof.at {c : Str} {p : V} {ns : List Str} {ds : List D} {F : Foot} (h : (Iof mo).fam p (.obj c ns ds) S H F) : ∃ a C dx fs G, p = .ref a ∧ H a = some (.ins C dx fs) ∧ M.mg c = some (.ref C) ∧ fs.map (·.1) = ns ∧ ElsF (fun k => (mo k).fam) S H ns (fs.map (·.2)) ds G ∧ ¬ G a ∧ ∀ x, F x ↔ x = a ∨ G x := by
  rcases h with ⟨z, _, _⟩ | ⟨a, C, dx, c', fs, ns', ds', G, e1, e2, h, g, k, e, f, u⟩
  · cases z
  · cases e2
    exact ⟨a, C, dx, fs, G, e1, h, g, k, e, f, u⟩
theorem ElsF.put {f : Str} {v : V} {d : D} {G' : Foot} : ∀ {fs : List (Str × V)} {ns : List Str} {ds : List D} {G : Foot}, fs.map (·.1) = ns → ElsF (fun k => (mo k).fam) S H ns (fs.map (·.2)) ds G → (mo f).fam v d S H G' → (∀ a, G' a → ¬ G a) →
    (putF f v fs).map (·.1) = (putN f d ns ds).1 ∧ ∃ U, ElsF (fun k => (mo k).fam) S H (putN f d ns ds).1 ((putF f v fs).map (·.2)) (putN f d ns ds).2 U ∧ ∀ a, U a → G a ∨ G' a
  | [], _, _, G, rfl, .nil n, p, dj => by
    refine ⟨rfl, G', ?_, fun a x => .inr x⟩
    exact .cons (G := fun _ => False) p (.nil fun _ q => q) (fun _ _ q => q) fun a => ⟨.inl, fun q => q.elim id False.elim⟩
  | (g, y) :: fs, _, _, G, rfl, .cons (d := x) (ds := ds) (F := F1) (G := G1) q t d0 u, p, dj => by
    have t' : ElsF (fun k => (mo k).fam) S H (fs.map (·.1)) (fs.map (·.2)) ds G1 := t
    rw [List.map_cons]
    show (putF f v ((g, y) :: fs)).map (·.1) = (putN f d (g :: fs.map (·.1)) (x :: ds)).1 ∧ _
    rw [putN, putF]
    by_cases h : g = f
    · rw [if_pos h, if_pos h]
      subst h
      refine ⟨rfl, fun a => G' a ∨ G1 a, .cons p t' (fun a z w => dj a z ((u a).mpr (.inr w))) fun _ => Iff.rfl, fun a z => ?_⟩
      rcases z with z | z
      · exact .inr z
      · exact .inl ((u a).mpr (.inr z))
    · rw [if_neg h, if_neg h]
      obtain ⟨e1, U, e2, e3⟩ := ElsF.put (f := f) (v := v) (d := d) (G' := G') rfl t' p fun a z w => dj a z ((u a).mpr (.inr w))
      refine ⟨by rw [List.map_cons, e1], fun a => F1 a ∨ U a, ?_, fun a z => ?_⟩
      · rw [List.map_cons]
        refine .cons q e2 (fun a z w => ?_) fun _ => Iff.rfl
        rcases e3 a w with w | w
        · exact d0 a z w
        · exact dj a w ((u a).mpr (.inl z))
      · rcases z with z | z
        · exact .inl ((u a).mpr (.inl z))
        · rcases e3 a z with w | w
          · exact .inl ((u a).mpr (.inr w))
          · exact .inr w
/-- an attribute of an object of one's own as a place -/
theorem Holds.focusO {c f : Str} {p : V} {ns : List Str} {ds : List D} {j : Nat} {d : D} (h : Holds S H ((Iof mo).fam p (.obj c ns ds) :: Γ)) (ej : pos f ns = some j) (e : ds[j]? = some d) :
    ∃ a C dx fs v, p = .ref a ∧ H a = some (.ins C dx fs) ∧ M.mg c = some (.ref C) ∧ fs.lookup f = some v ∧ Holds S H ((mo f).fam v d :: Wnd ((mo f).fam v) (fun d' => (Iof mo).fam p (.obj c ns (ds.set j d'))) :: Γ) := by
  obtain ⟨U, a, b, c0⟩ := h.own
  cases a with
  | cons s q t dj u =>
    rename_i F G0
    obtain ⟨p', C, dx, fs, G, e1, e2, eg, en, e3, nG, u1⟩ := Iof.at q
    subst e1
    obtain ⟨v, d2, F1, G1, f1, fd, f2, f3, f4, f5⟩ := e3.focus (pos_get ej)
    rw [e] at fd
    cases fd
    have el : fs.lookup f = some v := by
      rw [lookup_pos, en, ej]
      exact f1
    refine ⟨p', C, dx, fs, v, rfl, e2, eg, el, h.ex, U, ?_, b, c0⟩
    refine .cons (F := F1) (G := fun x => (x = p' ∨ G1 x) ∨ G0 x) ((mo f).stb _ _) f2 (.cons (F := fun x => x = p' ∨ G1 x) (G := G0) (Wnd.stb _ _) ?_ t (fun x y z => ?_) fun _ => Iff.rfl) (fun x y z => ?_) (fun x => ?_)
    · intro S' H' G' U' d' ex kk aa nn uu
      have np : H' p' = some (.ins C dx fs) := (kk p' (.inl rfl)).trans e2
      have eset : (fs.map (·.2)).set j v = fs.map (·.2) := by
        obtain ⟨h1, h2⟩ := List.getElem?_eq_some_iff.mp f1
        conv => lhs; rw [← h2]
        exact List.set_getElem_self h1
      have els := f5 S' H' v d' G' (fun x => G' x ∨ G1 x) (fun k v d => (mo k).stb v d) ex (fun x y => kk x (.inr y)) aa (fun x y z => nn x y (.inr z)) fun _ => Iff.rfl
      rw [eset] at els
      refine .inr ⟨p', C, dx, c, fs, ns, ds.set j d', fun x => G' x ∨ G1 x, rfl, rfl, np, eg, en, els, ?_, fun x => ?_⟩
      · rintro (z | z)
        · exact nn p' z (.inl rfl)
        · exact nG ((f4 p').mpr (.inr z))
      · rw [uu x]
        exact ⟨fun y => y.elim (fun z => .inr (.inl z)) fun z => z.elim .inl fun w => .inr (.inr w), fun y => y.elim (fun z => .inr (.inl z)) fun z => z.elim .inl fun w => .inr (.inr w)⟩
    · rcases y with y | y
      · exact dj x ((u1 x).mpr (.inl y)) z
      · exact dj x ((u1 x).mpr (.inr ((f4 x).mpr (.inr y)))) z
    · rcases z with (z | z) | z
      · exact nG (z ▸ (f4 x).mpr (.inl y))
      · exact f3 x y z
      · exact dj x ((u1 x).mpr (.inr ((f4 x).mpr (.inl y)))) z
    · rw [u x, u1 x, f4 x]
      constructor
      · rintro ((y | y | y) | y)
        · exact .inr (.inl (.inl y))
        · exact .inl y
        · exact .inr (.inl (.inr y))
        · exact .inr (.inr y)
      · rintro (y | (y | y) | y)
        · exact .inl (.inr (.inl y))
        · exact .inl (.inl y)
        · exact .inl (.inr (.inr y))
        · exact .inr y
end
/-- a class of the module -/
structure ClsC (K : PySem.W.Frag) (mg : Str → Option Value) (x : Str) (C : Addr) : Prop where
  g : mg x = some (.ref C)
  cl : Cls K C
theorem ClsC.eq {K : PySem.W.Frag} {mg : Str → Option Value} {x : Str} {C C' : Addr} (h : ClsC K mg x C) (e : mg x = some (.ref C')) : C' = C := by
  have := h.g
  rw [e] at this
  exact Value.ref.inj (Option.some.inj this)

section
variable {X : Cx} {W : WX} {ms : List (Mode (mdl X))} {mr : Mode (mdl X)} {pn : List Nat} {e : Expr} {apos cpos : Pos} {cn f : Str} {C : Addr} {mo : Str → Mode (mdl X)}
/-! ### reading -/
def fldD (cn f : Str) : D → Option D
  | .obj c ns ds => if c = cn then (pos f ns).bind fun j => ds[j]? else none
  | _ => none
theorem de_fld {k1 : Kd (mdl X)} {ma : DEnv → R Opd} {m1 : Mode (mdl X)} (hc : ClsC X.K X.mg cn C) (hn : NoAttr X.K C f) (ha : DO X W ms e k1 ma) (hk : k1.mode ms = m1) (hm : m1 = fz ∨ ∃ mo : Str → Mode (mdl X), m1 = Iof mo ∧ mo f = fz) (hb : attributeBase e f X.env (eval e X.env) = eval e X.env := by rfl) : DE X W ms (.Attribute e f apos) fz (mOp1 ma (fldD cn f)) := by
  obtain ⟨ta, pa, ra⟩ := ha.rel
  refine ⟨_, pe_fld pa hb, relE1 (r := fun x H1 Q => ∃ a C dx fs v, x = .ref a ∧ H1 a = some (.ins C dx fs) ∧ Cls X.K C ∧ NoAttr X.K C f ∧ fs.lookup f = some v ∧ Q v H1) ra ?_⟩
  rw [hk]
  intro S H Γ x a d Q ho s1 e k
  unfold fldD at e
  split at e
  · rename_i c ns ds
    split at e
    · rename_i ec
      subst ec
      obtain ⟨j, ej, ed⟩ := Option.bind_eq_some_iff.mp e
      rcases hm with rfl | ⟨mo, rfl, hf⟩
      · obtain ⟨F, r, _⟩ := s1
        cases r with
        | obj h1 g1 k1 r1 =>
          have := hc.eq g1
          subst this
          obtain ⟨v, e1, r2⟩ := r1.get ed
          refine ⟨_, _, _, _, v, rfl, ho.ex _ _ h1, hc.cl, hn, ?_, k v S H (ho.addFz r2)⟩
          rw [lookup_pos, k1, ej]
          exact e1
      · obtain ⟨F, q⟩ := s1
        obtain ⟨a, C', dx, fs, G, rfl, h1, g1, k1, e3, _, _⟩ := Iof.at q
        have := hc.eq g1
        subst this
        obtain ⟨v, d2, F1, G1, f1, fd, f2, _⟩ := e3.focus (pos_get ej)
        rw [ed] at fd
        cases fd
        have f2 : (mo f).fam v d S H F1 := f2
        rw [hf] at f2
        refine ⟨a, _, dx, fs, v, rfl, h1, hc.cl, hn, ?_, k v S H (ho.addFz f2.1)⟩
        rw [lookup_pos, k1, ej]
        exact f1
    · cases e
  · cases e
/-- an attribute moved out of an object that no name holds -/
def mUnC (a : DEnv → R D) (f : D → Option D) : DEnv → R D := fun δ => (a δ).bind fun x δ1 => .of (f x) δ1
theorem de_fldC {ma : DEnv → R D} (hc : ClsC X.K X.mg cn C) (hn : NoAttr X.K C f) (ha : DE X W ms e (Iof mo) ma) (hb : attributeBase e f X.env (eval e X.env) = eval e X.env := by rfl) : DE X W ms (.Attribute e f apos) (mo f) (mUnC ma (fldD cn f)) := by
  obtain ⟨ta, pa, ra⟩ := ha.run
  refine ⟨_, pe_fld pa hb, fun σ δ H τ Q st q => ra σ δ H τ _ st ?_⟩
  unfold mUnC at q
  cases z : ma δ with
  | exc c δ' => rw [z] at q; exact q
  | stuck => rw [z] at q; exact q
  | ok d δ' =>
    rw [z, R.bind_ok] at q
    intro v H' st'
    cases zf : fldD cn f d with
    | none => rw [zf] at q; exact q.elim
    | some d' =>
      rw [zf] at q
      unfold fldD at zf
      split at zf
      · rename_i c ns ds
        split at zf
        · rename_i ec
          subst ec
          obtain ⟨j, ej, ed⟩ := Option.bind_eq_some_iff.mp zf
          obtain ⟨S, Γ, sl, ho⟩ := st'
          obtain ⟨a, C', dx, fs, u, rfl, h1, g1, h2, h3⟩ := Holds.focusO (Γ := τ ++ Γ) ho ej ed
          have := hc.eq g1
          subst this
          exact ⟨a, _, dx, fs, u, rfl, h1, hc.cl, hn, h2, q u H' ⟨S, Γ, sl, (h3.perm (.swap ..)).drop⟩⟩
        · cases zf
      · cases zf
/-- an attribute as a place -/
def oFld (cn f : Str) (o : DEnv → R Opd) : DEnv → R Opd := fun δ => (o δ).bind fun x δ1 => match x.get δ1 with
  | some (.obj c ns ds) => if c = cn then match pos f ns with
      | some j => match ds[j]? with
        | some d => match x with
          | .s i => .ok (.p i d fun d' => .obj c ns (ds.set j d')) (δ1.set i none)
          | .p i _ g => .ok (.p i d fun d' => g (.obj c ns (ds.set j d'))) δ1
          | .v _ => .stuck
        | none => .stuck
      | none => .stuck
    else .stuck
  | _ => .stuck
theorem do_fld {k1 : Kd (mdl X)} {i : Nat} {me : Mode (mdl X)} {ma : DEnv → R Opd} (hc : ClsC X.K X.mg cn C) (hn : NoAttr X.K C f) (ha : DO X W ms e k1 ma) (hk : k1.mode ms = Iof mo) (hm : mo f = me) (hr : k1.root = some i) (hb : attributeBase e f X.env (eval e X.env) = eval e X.env := by rfl) : DO X W ms (.Attribute e f apos) (.p i me) (oFld cn f ma) := by
  subst hm
  obtain ⟨ta, pa, ka⟩ := ha.rel
  refine ⟨_, pe_fld pa hb, fun σ δ H τ Q st q => ka σ δ H τ _ st ?_⟩
  unfold oFld at q
  cases z : ma δ with
  | exc c δ' => rw [z] at q; exact q
  | stuck => rw [z] at q; exact q
  | ok x δ1 =>
    rw [z, R.bind_ok] at q
    intro v H1 Γa op st1
    split at q
    · rename_i c ns ds zg
      split at q
      · rename_i ec
        subst ec
        split at q
        · rename_i j ej
          split at q
          · rename_i d zd
            cases op with
            | v => cases hr
            | @s i' v ei =>
              have hr' : i' = i := Option.some.inj hr
              subst hr'
              dsimp only at q
              have zs : δ1[i']? = some (some (.obj c ns ds)) := by
                have e' : (δ1[i']?).join = some (.obj c ns ds) := zg
                cases q : δ1[i']? with
                | none => rw [q] at e'; cases e'
                | some o => rw [q] at e'; cases o <;> first | (cases e'; done) | (cases e'; rfl)
              obtain ⟨S, Γ, sl, ho⟩ := st1
              obtain ⟨v', m, Γ2, f1, f2, f3, sl2⟩ := sl.take zs
              rw [ei] at f1; cases f1
              have hm : m = Iof mo := by
                rw [← hk]
                show m = ms.getD i' fz
                rw [List.getD_eq_getElem?_getD, f2]; rfl
              subst hm
              have ho1 : Holds S H1 ((Iof mo).fam v (.obj c ns ds) :: (τ ++ Γ2)) := ho.perm ((f3.append_left τ).trans List.perm_middle)
              obtain ⟨a, C', dx, fs, u, rfl, e2, e3, e4, ho2⟩ := ho1.focusO ej zd
              have := hc.eq e3
              subst this
              exact ⟨a, _, dx, fs, u, rfl, e2, hc.cl, hn, e4, q u H1 _ (.p ei f2) ⟨S, Γ2, sl2, ho2⟩⟩
            | @p i' m m0 v v0 d0 g e1 e2 =>
              have hr' : i' = i := Option.some.inj hr
              subst hr'
              cases zg
              have hm : m = Iof mo := hk
              subst hm
              obtain ⟨S, Γ, sl, ho⟩ := st1
              have ho1 : Holds S H1 ((Iof mo).fam v (.obj c ns ds) :: (Wnd ((Iof mo).fam v) (fun d => m0.fam v0 (g d)) :: (τ ++ Γ))) := ho
              obtain ⟨a, C', dx, fs, u, rfl, f2, f3, f4, ho2⟩ := ho1.focusO ej zd
              have := hc.eq f3
              subst this
              have ho3 : Holds S H1 (And2 (Wnd ((mo f).fam u) fun d' => (Iof mo).fam (.ref a) (.obj c ns (ds.set j d'))) (Wnd ((Iof mo).fam (.ref a)) (fun d => m0.fam v0 (g d))) :: (mo f).fam u d :: (τ ++ Γ)) := Holds.join (ho2.perm ((List.Perm.swap ..).trans ((List.Perm.swap ..).cons _)))
              have ho4 := ho3.imp (Q := Wnd ((mo f).fam u) fun d' => m0.fam v0 (g (.obj c ns (ds.set j d')))) (Wnd.stb _ _) fun F q => Wnd.comp (B := (Iof mo).fam (.ref a)) (C := fun d => m0.fam v0 (g d)) (g := fun d' => .obj c ns (ds.set j d')) q
              exact ⟨a, _, dx, fs, u, rfl, f2, hc.cl, hn, f4, q u H1 _ (.p (g := fun d' => g (.obj c ns (ds.set j d'))) e1 e2) ⟨S, Γ, sl, ho4.perm (.swap ..)⟩⟩
          · exact q.elim
        · exact q.elim
      · exact q.elim
    · exact q.elim
/-! ### storing -/
def putO2 (cn f : Str) (i : Nat) (d : D) (δ : DEnv) : Option DEnv := match (δ[i]?).join with
  | some (.obj c ns ds) => if c = cn ∧ ns.length < 900 then some (δ.set i (some (.obj c (putN f d ns ds).1 (putN f d ns ds).2))) else none
  | _ => none
/-- the object with one attribute more or another -/
theorem Holds.putO {M : Mdl} {S H : Hp} {Γ : List Pc} {mo : Str → Mode M} {c f : Str} {p v : V} {ns : List Str} {ds : List D} {d : D} (h : Holds S H ((Iof mo).fam p (.obj c ns ds) :: (mo f).fam v d :: Γ)) : ∃ a C dx fs, p = .ref a ∧ H a = some (.ins C dx fs) ∧ M.mg c = some (.ref C) ∧ fs.length = ns.length ∧
    Holds S (upd H a (.ins C dx (putF f v fs))) ((Iof mo).fam p (.obj c (putN f d ns ds).1 (putN f d ns ds).2) :: Γ) := by
  obtain ⟨F0, q0⟩ := h.mem (List.mem_cons_self ..)
  obtain ⟨a, C, dx, fs, G, rfl, e1, e2, e3, _⟩ := Iof.at q0
  refine ⟨a, C, dx, fs, rfl, e1, e2, by rw [← e3, List.length_map], h.join.change ((Iof mo).stb _ _) fun F q nS nH => ?_⟩
  obtain ⟨F1, F2, q1, q2, q3, q4⟩ := q
  obtain ⟨a', C', dx', fs', G, f0, f1, f2, f3, f4, f5, f6⟩ := Iof.at q1
  cases f0
  rw [e1] at f1
  cases f1
  have n1 : ∀ x, G x → x ≠ a := fun x y w => f5 (w ▸ y)
  have n2 : ∀ x, F2 x → x ≠ a := fun x y w => q3 a ((f6 a).mpr (.inl rfl)) (w ▸ y)
  have f4' := f4.stay (fun k v d => (mo k).stb v d) (Ex.refl S) (H' := upd H a (.ins C dx (putF f v fs))) fun x y => upd_ne (n1 x y)
  have q2' := (mo f).stb v d S S H (upd H a (.ins C dx (putF f v fs))) F2 q2 (Ex.refl S) fun x y => upd_ne (n2 x y)
  obtain ⟨g1, U, g2, g3⟩ := ElsF.put f3 f4' q2' fun x y z => q3 x ((f6 x).mpr (.inr z)) y
  have nU : ∀ x, U x → x ≠ a := fun x y => (g3 x y).elim (n1 x) (n2 x)
  refine ⟨fun x => x = a ∨ U x, .inr ⟨a, C, dx, c, putF f v fs, _, _, U, rfl, rfl, upd_same, e2, g1, g2, fun y => nU a y rfl, fun _ => Iff.rfl⟩, fun x y => .inl ?_, fun x y => ?_, fun x y z => ?_⟩
  · rcases y with y | y
    · exact (q4 x).mpr (.inl ((f6 x).mpr (.inl y)))
    · rcases g3 x y with w | w
      · exact (q4 x).mpr (.inl ((f6 x).mpr (.inr w)))
      · exact (q4 x).mpr (.inr w)
  · by_cases w : x = a
    · rw [w, upd_same]; simp
    · rw [upd_ne w]
      rcases y with y | y
      · exact absurd y w
      · rcases g3 x y with w | w
        · exact nH x ((q4 x).mpr (.inl ((f6 x).mpr (.inr w))))
        · exact nH x ((q4 x).mpr (.inr w))
  · exact upd_ne fun w => y ((q4 x).mpr (.inl ((f6 x).mpr (.inl w))))
theorem StO.putO {σ : L2.St} {δ δ' : DEnv} {H : Hp} {τ : List Pc} {i : Nat} {v : V} {d : D} (hc : ClsC X.K X.mg cn C) (hi : ms[i]? = some (Iof mo)) (st : StO ms σ δ H ((mo f).fam v d :: τ)) (e : putO2 cn f i d δ = some δ') : ∃ x a dx fs, σ[i]? = some (some x) ∧ x = .ref a ∧ H a = some (.ins C dx fs) ∧ fs.length < 1000 ∧ StO ms σ δ' (upd H a (.ins C dx (putF f v fs))) τ := by
  unfold putO2 at e
  split at e
  · rename_i c ns ds zg
    split at e
    · rename_i hcn
      cases e
      obtain ⟨rfl, hl⟩ := hcn
      have zs : δ[i]? = some (some (.obj c ns ds)) := by
        cases q : δ[i]? with
        | none => rw [q] at zg; cases zg
        | some o => rw [q] at zg; cases o <;> first | (cases zg; done) | (cases zg; rfl)
      obtain ⟨S, Γ, sl, ho⟩ := st
      obtain ⟨x, m, Γ2, f1, f2, f3, sl2⟩ := sl.take zs
      rw [hi] at f2
      cases f2
      have ho1 : Holds S H ((Iof mo).fam x (.obj c ns ds) :: (mo f).fam v d :: (τ ++ Γ2)) := ho.perm (((f3.append_left _).trans List.perm_middle))
      obtain ⟨a, C', dx, fs, rfl, e1, e2, e3, h2⟩ := ho1.putO
      have := hc.eq e2
      subst this
      have hlt : i < δ.length := (List.getElem?_eq_some_iff.mp zs).1
      obtain ⟨Γ3, pp, sl3⟩ := sl2.put (.obj c (putN f d ns ds).1 (putN f d ns ds).2) hi (List.getElem?_set_self hlt) f1
      rw [List.set_set] at sl3
      exact ⟨_, a, dx, fs, f1, rfl, e1, by omega, S, Γ3, sl3, h2.perm ((List.perm_middle.symm).trans (pp.symm.append_left τ))⟩
    · cases e
  · cases e
/-- x.f = e, x an object of one's own in slot i -/
def mFld (cn f : Str) (i : Nat) (m : DEnv → R D) : DEnv → SR := fun δ => (m δ).thn fun d δ1 => match putO2 cn f i d δ1 with
  | some δ2 => .nx δ2
  | none => .stuck
theorem ds_fld {i : Nat} {x : Str} {p p' pos : Pos} {value : Expr} {me : Mode (mdl X)} {m : DEnv → R D} (hc : ClsC X.K X.mg cn C) (hn : NoAttr X.K C f) (px : PE X (.Name x p) (tVar i)) (hi : ms[i]? = some (Iof mo)) (hm : mo f = me) (hv : DE X W ms value me m) (hs : swapsWith value (some (.Attribute (.Name x p) f p')) pos.line X.env = pure false := by rfl) :
    DS X W ms mr pn (.Assign [.Attribute (.Name x p) f p'] value pos) (mFld cn f i m) := by
  subst hm
  obtain ⟨tv, pv, kv⟩ := hv.run
  refine ⟨_, ps_fld px pv hs, fun σ δ H τ D st q => kv σ δ H τ _ st ?_⟩
  unfold mFld at q
  cases z : m δ with
  | exc c δ' => rw [z] at q; exact q σ (Keep.refl _ _)
  | stuck => rw [z] at q; exact q
  | ok d δ1 =>
    rw [z, R.thn_ok] at q
    intro v H1 st1
    split at q
    · rename_i δ2 z2
      obtain ⟨x, a, dx, fs, e1, e2, e3, e4, st2⟩ := st1.putO hc hi z2
      exact ⟨x, e1, a, C, dx, fs, e2, e3, hc.cl, hn, e4, q σ _ (Keep.refl _ _) st2⟩
    · exact q.elim
/-! ### methods -/
theorem pe_methX {k : Nat} {g : Addr} {fd : FuncData} {ps : List Str} {sp : Sp} {E : L2.St → XK} {o a1 : Expr} {as : List Expr} {ta : TE} {t : TA} {m : Str} {pl : Sem Bool} (he : PE X o ta) (c : Cls X.K C) (hm : Meth X.K C m g) (F : FnOkG X.prog X.w X.K X.mg X.base (L2.CX X.prog X.w) k g fd ps sp) (hr : RoomG k X.A) (hb : Binds X.K fd ps []) (hx : ∀ σ, PassesAt (L2.CX X.prog X.w) X σ (E σ)) (ha : PA X (a1 :: as) t)
    (hst : starEach (a1 :: as) X.env = (false, eval a1 X.env) :: starEach as X.env := by rfl) (hpl : (backTo cpos (starEach as X.env)).any (·.1) = false := by rfl)
    (ht : eval (.Call (.Attribute o m apos) (a1 :: as) [] cpos) X.env = (do
      let ov ← eval o X.env
      standAt apos.atName
      let (u, first) ← holding [ov] (getMethod ov m pl)
      callWith cpos u first (backTo cpos (starEach (a1 :: as) X.env)) (backToKw cpos (keywordEach [] X.env))) := by rfl) :
    PE X (.Call (.Attribute o m apos) (a1 :: as) [] cpos) (fun σ H Q => ta σ H fun x H1 => ∃ b dx fs, x = .ref b ∧ H1 b = some (.ins C dx fs) ∧ fs.lookup m = none ∧ t σ H1 fun vs H2 => sp (x :: vs) H2 Q (E σ)) := by
  constructor
  intro pins s σ H Q I h
  apply PySem.W.methodCall_KW (pl := pl) _ ht
  refine thn (he.run pins s σ H _ I h) fun u s1 hu => ?_
  obtain ⟨x, H1, I1, rx, b, dx, fs, ex, eb, l, q⟩ := hu
  subst ex
  have eu : u = Value.ref b := rx
  subst eu
  apply getmeth_ok I1 eb c hm l
  apply PySem.W.callWith_K (first := [.ref b]) (h₀ := X.base) I1.ok.mod.kin hm.kp _ hst hpl
  refine thn (ha.run cpos pins s1 σ H1 _ I1 q) fun us s2 hus => ?_
  obtain ⟨vs, H2, I2, r, q2⟩ := hus
  exact ⟨I2.kIn, run_fnG (us := .ref b :: us) (vs := .ref b :: vs) F hr hb (hx σ) I2 (.cons rfl r) q2⟩
/-- a method of a class, at a level, by its mirror -/
def CalM (P : Program) (w : World) (M : Mdl) (base : Heap) (k : Nat) (C : Addr) (m : Str) (ps : List Str) (sg : Sig M) (fn : Fn) : Prop :=
  ∃ g fd, Meth M.K C m g ∧ Binds M.K fd ps [] ∧ FnOkG P w M.K M.mg base (L2.CX P w) k g fd ps (spD sg fn)
def mMeth (cn m : Str) (fn : Fn) (io : List Bool) (i : Nat) (a : DEnv → R (List Opd)) : DEnv → R D := fun δ => match (δ[i]?).join with
  | some (.obj c ns _) => if c = cn ∧ pos m ns = none then mCall fn io (mCons (oS i) a) δ else .stuck
  | _ => .stuck
theorem de_meth {rm : Mode (mdl X)} {io : List Bool} {x m : Str} {ps : List Str} {sg : Sig (mdl X)} {fn : Fn} {k i : Nat} {ks : List (Kd (mdl X))} {a : DEnv → R (List Opd)} {p : Pos} {a1 : Expr} {as : List Expr} {pl : Sem Bool} (hc : ClsC X.K X.mg cn C) (hcal : CalM X.prog X.w (mdl X) X.base k C m ps sg fn) (hr : RoomG k X.A) (tk : Takes X W) (px : PE X (.Name x p) (tVar i)) (hi : ms[i]? = some (Iof mo)) (ha : DA X W ms (a1 :: as) ks a)
    (hk : (Iof mo) :: ks.map (Kd.mode ms) = sg.ps := by rfl) (hn : ks.length + 1 = sg.ps.length := by rfl) (he : starEach (a1 :: as) X.env = (false, eval a1 X.env) :: starEach as X.env := by rfl) (hpl : (backTo cpos (starEach as X.env)).any (·.1) = false := by rfl) (hrm : sg.rm = rm := by rfl) (hio : sg.io = io := by rfl)
    (ht : eval (.Call (.Attribute (.Name x p) m apos) (a1 :: as) [] cpos) X.env = (do
      let ov ← eval (.Name x p) X.env
      standAt apos.atName
      let (u, first) ← holding [ov] (getMethod ov m pl)
      callWith cpos u first (backTo cpos (starEach (a1 :: as) X.env)) (backToKw cpos (keywordEach [] X.env))) := by rfl) :
    DE X W ms (.Call (.Attribute (.Name x p) m apos) (a1 :: as) [] cpos) rm (mMeth cn m fn io i a) := by
  subst hrm hio
  obtain ⟨g, fd, hm, bd, F⟩ := hcal
  obtain ⟨t, pa, ra⟩ := ha.run
  refine ⟨_, pe_methX (pl := pl) (E := WE W) px hc.cl hm F hr bd (fun σ => passAt tk σ) pa he hpl ht, fun σ δ H τ Q st q => ?_⟩
  unfold mMeth at q
  split at q
  · rename_i c ns ds zg
    split at q
    · rename_i hcn
      obtain ⟨rfl, hp⟩ := hcn
      have zs : δ[i]? = some (some (.obj c ns ds)) := by
        cases q : δ[i]? with
        | none => rw [q] at zg; cases zg
        | some o => rw [q] at zg; cases o <;> first | (cases zg; done) | (cases zg; rfl)
      obtain ⟨S, Γ, sl, ho⟩ := id st
      obtain ⟨v, m', e1, e2, e3⟩ := sl.mem zs
      rw [hi] at e2
      cases e2
      obtain ⟨F0, q0⟩ := ho.mem (List.mem_append_right τ e3)
      obtain ⟨b, C', dx, fs, G, rfl, g1, g2, g3, _⟩ := Iof.at q0
      have := hc.eq g2
      subst this
      refine ⟨_, e1, b, dx, fs, rfl, g1, by rw [lookup_pos, g3, hp]; rfl, ra σ δ H τ _ st ?_⟩
      unfold mCall at q
      have eo : oS i δ = .ok (.s i) δ := by
        show (match (δ[i]?).join with
          | some _ => R.ok (Opd.s i) δ
          | none => .stuck) = _
        rw [zg]
      have ec : mCons (oS i) a δ = (a δ).bind fun os δ2 => .ok (.s i :: os) δ2 := by
        show (oS i δ).bind _ = _
        rw [eo]
        rfl
      rw [ec] at q
      cases z : a δ with
      | exc c δ' => rw [z] at q; exact q
      | stuck => rw [z] at q; exact q
      | ok os δ1 =>
        rw [z, R.bind_ok, R.bind_ok] at q
        intro vs H1 Γa ops st1
        have ops2 : OpPs (mdl X) ms σ (.s i :: ks) (.ref b :: vs) (.s i :: os) ([] ++ Γa) := .cons (.s e1) ops
        refine spD_of (ks := .s i :: ks) ops2 st1 ?_ (by simpa using hn) q
        rw [List.map_cons, ← hk]
        congr 1
        show ms.getD i fz = _
        rw [List.getD_eq_getElem?_getD, hi]
        rfl
    · exact q.elim
  · exact q.elim
end
end DM
set_option maxRecDepth 100000
/-! Data mirror, part 25: objects made; dicts read, stored into, made. -/
namespace DM
open PySem PySem.Spec L2
section
variable {X : Cx} {W : WX} {ms : List (Mode (mdl X))} {C : Addr} {cn : Str} {mo : Str → Mode (mdl X)} {pos : Pos}
/-! ### C(..) -/
theorem run_makeX {k : Nat} {g : Addr} {fd : FuncData} {ps : List Str} {sp : Sp} {E : XK} {pins : List (Addr × Obj)} {σ : L2.St} {H : Hp} {s : Shared} {Q : VK} {us : List Value} {vs : List V} (M : Mk X.K C g) (F : FnOkG X.prog X.w X.K X.mg X.base (L2.CX X.prog X.w) k g fd ps sp) (hr : RoomG (k + 1) X.A) (hb : Binds X.K fd ps [])
    (hx : PassesAt (L2.CX X.prog X.w) X σ E) (I : Inv X pins σ H s) (r : Vals vs us) (h : ∀ x dx, H x = none → H dx = none → dx ≠ x → sp (.ref x :: vs) (upd (upd H dx (.own x)) x (.ins C dx [])) (fun v H2 => v = .non ∧ Q (.ref x) H2) E) :
    wpAny (model X.prog X.w) X.A (call (.ref C) us) (EP X pins σ Q) X.xe s := by
  have fresh1 := I.hok.fresh (Nat.le_succ s.heap.objs.size)
  have fresh0 := I.hok.fresh (Nat.le_refl s.heap.objs.size)
  have hq := h _ _ fresh1 fresh0 (Nat.ne_of_lt (Nat.lt_succ_self _))
  have J := Inv.made (C := C) I
  have rr : Vals (V.ref (s.heap.objs.size + 1) :: vs) (Value.ref (s.heap.objs.size + 1) :: us) := .cons rfl r
  have hl : (Value.ref (s.heap.objs.size + 1) :: us).length = ps.length := by
    rw [← rr.length]
    exact F.len _ _ _ _ hq
  have bb := hb _ (Value.ref (s.heap.objs.size + 1) :: us) J.kIn (by rw [List.append_nil]; exact hl)
  rw [List.append_nil] at bb
  refine wpAny_call (make_map (f := g) I.kIn M.makes M.init (beq_iff_eq.mp M.fn) (codeAny_mono (F.run _ X.stack _ _ ⟨Value.ref (s.heap.objs.size + 1) :: us, []⟩ _ _ _ E (⟨hr.r.make C us [], hr.g⟩) (J.env0.make C us []) bb rr hq) fun z s' hz => ?_))
  cases z with
  | error e => exact hx pins _ _ e s' J hz
  | ok fl =>
    cases fl with
    | ret u =>
      obtain ⟨v, H', I3, rv, ev, q3⟩ := J.after hz
      subst ev
      exact ⟨rv, ⟨V.ref (s.heap.objs.size + 1), H', I3, rfl, q3⟩⟩
    | next => exact hz.elim
    | brk => exact hz.elim
    | cont => exact hz.elim
theorem Holds.alloc {S H : Hp} {Γ : List Pc} {p : Addr} {o : HO} (h : Holds S H Γ) (hp : H p = none) : Holds S (upd H p o) Γ :=
  h.grow (Ex.refl S) (fun a u e => by rw [upd_ne (fun z => by subst z; rw [h.ex a u e] at hp; cases hp)]; exact h.ex a u e) (fun a q => upd_ne fun z => q (z ▸ hp)) fun a x y => absurd y x
def mMake (cn : Str) (fn : Fn) (a : DEnv → R (List Opd)) : DEnv → R D := fun δ => (a δ).bind fun os δ1 => match takeO os δ1 with
  | some (ds, δ2) => match fn (.obj cn [] [] :: ds) with
    | .ok .non [d] => .ok d δ2
    | .exc c [_] => .exc c δ2
    | _ => .stuck
  | none => .stuck
theorem famsIO_no {M : Mdl} : ∀ (qs : List (Mode M)) (n : Nat) (vs : List V) (es : List D), famsIO (List.replicate n false) qs vs es = []
  | [], n, vs, es => by cases n <;> rfl
  | q :: qs, 0, vs, es => rfl
  | q :: qs, n + 1, [], es => rfl
  | q :: qs, n + 1, v :: vs, es => by
    rw [List.replicate_succ]
    show famsIO (List.replicate n false) qs vs es = []
    exact famsIO_no qs n vs es
theorem de_make {k : Nat} {g : Addr} {fd : FuncData} {ps : List Str} {fn : Fn} {qs : List (Mode (mdl X))} {ks : List (Kd (mdl X))} {a : DEnv → R (List Opd)} {p : Pos} {e : Expr} {es : List Expr} (hc : ClsC X.K X.mg cn C) (M : Mk X.K C g) (bd : Binds X.K fd ps []) (F : FnOkG X.prog X.w X.K X.mg X.base (L2.CX X.prog X.w) k g fd ps (spD ⟨Iof mo :: qs, true :: List.replicate qs.length false, fz⟩ fn)) (hr : RoomG (k + 1) X.A) (tk : Takes X W) (ha : DA X W ms (e :: es) ks a)
    (hk : ks.map (Kd.mode ms) = qs := by rfl) (hg : Gl X cn := by rfl) (hdb : (cn == ("__debug__" : Str)) = false := by decide) (he : starEach (e :: es) X.env = (false, eval e X.env) :: starEach es X.env := by rfl) (hpl : (backTo pos (starEach es X.env)).any (·.1) = false := by rfl) :
    DE X W ms (.Call (.Name cn p) (e :: es) [] pos) (Iof mo) (mMake cn fn a) := by
  subst hk
  obtain ⟨t, pa, ra⟩ := ha.run
  refine ⟨fun σ H Q => t σ H fun vs H1 => ∀ x dx, H1 x = none → H1 dx = none → dx ≠ x → spD ⟨Iof mo :: ks.map (Kd.mode ms), true :: List.replicate (ks.map (Kd.mode ms)).length false, fz⟩ fn (.ref x :: vs) (upd (upd H1 dx (.own x)) x (.ins C dx [])) (fun v H2 => v = .non ∧ Q (.ref x) H2) (WE W σ), ?_, fun σ δ H τ Q st q => ra σ δ H τ _ st ?_⟩
  · constructor
    intro pins s σ H Q I h
    apply wpAny_Call_Name_kw (ld_glob I hg hc.g ?_ hdb)
    apply PySem.W.callWith_K (h₀ := X.base) I.ok.mod.kin M.kp _ he hpl
    refine thn (pa.run pos pins s σ H _ I h) fun us s1 hus => ?_
    obtain ⟨vs, H1, I1, r, q⟩ := hus
    exact ⟨I1.kIn, run_makeX M F hr bd (passAt tk σ) I1 r q⟩
  · unfold mMake at q
    cases z : a δ with
    | exc c δ' => rw [z] at q; exact q
    | stuck => rw [z] at q; exact q
    | ok os δ1 =>
      rw [z, R.bind_ok] at q
      intro vs H1 Γa ops st1 x dx hx hdx hne
      cases z2 : takeO os δ1 with
      | none => rw [z2] at q; exact q.elim
      | some y =>
        obtain ⟨ds, δ2⟩ := y
        rw [z2] at q
        dsimp only at q
        obtain ⟨S, Γ, sl, ho⟩ := st1
        rw [List.append_assoc] at ho
        obtain ⟨Γ', sl', ho', e1, e2⟩ := ops.gather z2 sl ho
        have h1 : Holds S (upd H1 dx (.own x)) (fams (ks.map (Kd.mode ms)) vs ds ++ (τ ++ Γ')) := ho'.alloc hdx
        have hx1 : upd H1 dx (.own x) x = none := by rw [upd_ne hne.symm]; exact hx
        have h2 : Holds S (upd (upd H1 dx (.own x)) x (.ins C dx [])) ((Iof mo).fam (.ref x) (.obj cn [] []) :: (fams (ks.map (Kd.mode ms)) vs ds ++ (τ ++ Γ'))) := h1.newO hx1 ((Iof mo).stb _ _) fun F0 hF => .inr ⟨x, C, dx, cn, [], [], [], fun _ => False, rfl, rfl, upd_same, hc.g, rfl, .nil fun _ w => w, fun w => w, fun b => by
          rw [hF b]
          exact ⟨.inl, fun w => w.elim id False.elim⟩⟩
        refine ⟨S, .obj cn [] [] :: ds, τ ++ Γ', by simp [e1, ← e2], by simp [← e2], h2, ?_⟩
        cases zf : fn (.obj cn [] [] :: ds) with
        | stuck => rw [zf] at q; exact q.elim
        | exc c es' =>
          rw [zf] at q
          match es', q with
          | [d], q =>
            intro S' H' C' h3 gC
            rw [show famsIO (M := mdl X) (true :: List.replicate (ks.map (Kd.mode ms)).length false) (Iof mo :: ks.map (Kd.mode ms)) (.ref x :: vs) [d] = (Iof mo).fam (.ref x) d :: famsIO (List.replicate (ks.map (Kd.mode ms)).length false) (ks.map (Kd.mode ms)) vs [] from rfl, famsIO_no] at h3
            exact q H' C' ⟨S', Γ', sl', h3.drop⟩ gC
          | [], q => exact q.elim
          | _ :: _ :: _, q => exact q.elim
        | ok d0 es' =>
          rw [zf] at q
          match d0, es', q with
          | .non, [d], q =>
            intro v S' H' h3
            rw [show famsIO (M := mdl X) (true :: List.replicate (ks.map (Kd.mode ms)).length false) (Iof mo :: ks.map (Kd.mode ms)) (.ref x :: vs) [d] = (Iof mo).fam (.ref x) d :: famsIO (List.replicate (ks.map (Kd.mode ms)).length false) (ks.map (Kd.mode ms)) vs [] from rfl, famsIO_no] at h3
            have rv := h3.rd
            cases rv
            exact ⟨rfl, q (.ref x) H' ⟨S', Γ', sl', h3.drop⟩⟩
          | .non, [], q => exact q.elim
          | .non, _ :: _ :: _, q => exact q.elim
          | .bl _, _, q => exact q.elim
          | .int _, _, q => exact q.elim
          | .str _, _, q => exact q.elim
          | .lst _, _, q => exact q.elim
          | .tup _, _, q => exact q.elim
          | .dK _ _, _, q => exact q.elim
          | .dT _ _, _, q => exact q.elim
          | .obj _ _ _, _, q => exact q.elim
          | .exn _, _, q => exact q.elim
          | .scr _, _, q => exact q.elim
end

/-! ### keys -/
def keyD : D → Option Key
  | .int i => some (.inl i)
  | .str s => some (.inr s)
  | _ => none
def keysD : List D → Option (List Key)
  | [] => some []
  | d :: ds => match keyD d, keysD ds with
    | some k, some ks => some (k :: ks)
    | _, _ => none
def posK {κ : Type} [DecidableEq κ] (k : κ) : List κ → Option Nat
  | [] => none
  | n :: ns => if n = k then some 0 else (posK k ns).map (· + 1)
def putKD {κ : Type} [DecidableEq κ] (k : κ) (d : D) (ks : List κ) (ds : List D) : List κ × List D := match posK k ks with
  | some j => (ks, ds.set j d)
  | none => (ks ++ [k], ds ++ [d])
section
variable {κ : Type} [DecidableEq κ]
theorem posK_get {k : κ} : ∀ {ns : List κ} {j : Nat}, posK k ns = some j → ns[j]? = some k
  | [], j, h => by cases h
  | n :: ns, j, h => by
    unfold posK at h
    split at h
    · rename_i e
      cases h
      rw [e]
      rfl
    · obtain ⟨i, e1, e2⟩ := Option.map_eq_some_iff.mp h
      subst e2
      simpa using posK_get e1
theorem posK_none {k : κ} : ∀ {ns : List κ}, posK k ns = none → k ∉ ns
  | [], h => by simp
  | n :: ns, h => by
    unfold posK at h
    split at h
    · cases h
    · rename_i e
      have h' : posK k ns = none := by
        cases q : posK k ns with
        | none => rfl
        | some j => rw [q] at h; cases h
      intro m
      rcases List.mem_cons.mp m with m | m
      · exact e m.symm
      · exact posK_none h' m
theorem valV_posK {k : κ} : ∀ (kvs : List (κ × V)), valV kvs k = (posK k (kvs.map (·.1))).bind fun j => (kvs.map (·.2))[j]?
  | [] => rfl
  | (n, v) :: kvs => by
    rw [List.map_cons, posK]
    by_cases h : n = k
    · rw [if_pos h, valV_pos h]
      rfl
    · rw [if_neg h]
      have : valV ((n, v) :: kvs) k = valV kvs k := by
        unfold valV
        rw [List.find?_cons]
        simp [h]
      rw [this, valV_posK kvs]
      cases posK k (kvs.map (·.1)) with
      | none => rfl
      | some j => simp
theorem nodup_set {k : κ} {v : V} {j : Nat} : ∀ {kvs : List (κ × V)}, (kvs.map (·.1)).Nodup → posK k (kvs.map (·.1)) = some j → (kvs.map fun kv => if kv.1 = k then (kv.1, v) else kv) = (kvs.map (·.1)).zip ((kvs.map (·.2)).set j v)
  | [], _, h => by cases h
  | (n, u) :: kvs, nd, h => by
    rw [List.map_cons, posK] at h
    rw [List.map_cons, List.nodup_cons] at nd
    by_cases e : n = k
    · rw [if_pos e] at h
      cases h
      subst e
      rw [List.map_cons, List.map_cons, List.map_cons, List.set_cons_zero, List.zip_cons_cons]
      have tail : (kvs.map fun kv => if kv.1 = n then (kv.1, v) else kv) = kvs := by
        refine (List.map_congr_left (g := id) fun kv hkv => ?_).trans (List.map_id _)
        have hne : ¬ kv.1 = n := fun z => nd.1 (List.mem_map.mpr ⟨kv, hkv, z⟩)
        rw [if_neg hne]
        rfl
      rw [tail]
      have z : (kvs.map (·.1)).zip (kvs.map (·.2)) = kvs := by
        clear nd tail
        induction kvs with
        | nil => rfl
        | cons a as ih => rw [List.map_cons, List.map_cons, List.zip_cons_cons, ih]
      rw [z]
      simp
    · rw [if_neg e] at h
      obtain ⟨i, e1, e2⟩ := Option.map_eq_some_iff.mp h
      subst e2
      rw [List.map_cons, List.map_cons, List.map_cons, List.set_cons_succ, List.zip_cons_cons, nodup_set nd.2 e1]
      simp [e]
/-- the pairs behind a store -/
theorem putK_data {k : κ} {v : V} {kvs : List (κ × V)} (nd : (kvs.map (·.1)).Nodup) : ∀ {M : Mdl} {S : Hp} {d : D} {ds : List D}, Rep M S v d → RepL M S (kvs.map (·.2)) ds →
    (putK kvs k v).map (·.1) = (putKD k d (kvs.map (·.1)) ds).1 ∧ ((putKD k d (kvs.map (·.1)) ds).1).Nodup ∧ RepL M S ((putK kvs k v).map (·.2)) (putKD k d (kvs.map (·.1)) ds).2 := by
  intro M S d ds rv rl
  unfold putKD putK
  cases h : posK k (kvs.map (·.1)) with
  | none =>
    have hn := posK_none h
    have : (kvs.any fun kv => decide (kv.1 = k)) = false := by
      rw [List.any_eq_false]
      intro kv hkv
      simp only [decide_eq_true_eq]
      intro e
      exact hn (by rw [← e]; exact List.mem_map_of_mem hkv)
    rw [this]
    simp only [Bool.false_eq_true, if_false]
    refine ⟨by simp, ?_, by rw [List.map_append]; exact rl.append (.cons rv .nil)⟩
    rw [List.nodup_append]
    exact ⟨nd, by simp, fun a ha b hb => by simp at hb; subst hb; exact fun e => hn (e ▸ ha)⟩
  | some j =>
    have hg := posK_get h
    have : (kvs.any fun kv => decide (kv.1 = k)) = true := by
      rw [List.any_eq_true]
      have := List.mem_of_getElem? hg
      rw [List.mem_map] at this
      obtain ⟨kv, h1, h2⟩ := this
      exact ⟨kv, h1, by simp [h2]⟩
    rw [this]
    simp only [if_true]
    rw [nodup_set nd h]
    have hl : ((kvs.map (·.2)).set j v).length = (kvs.map (·.1)).length := by simp
    refine ⟨?_, nd, ?_⟩
    · show ((kvs.map (·.1)).zip ((kvs.map (·.2)).set j v)).map Prod.fst = kvs.map (·.1)
      rw [List.map_fst_zip (by omega)]
    · show RepL M S (((kvs.map (·.1)).zip ((kvs.map (·.2)).set j v)).map Prod.snd) (ds.set j d)
      rw [List.map_snd_zip (by omega)]
      exact rl.set rv j
end
theorem Rep.key {M : Mdl} {S : Hp} {v : V} {d : D} {k : Key} (r : Rep M S v d) (e : keyD d = some k) : v = kV k := by
  cases r <;> first | (cases e; rfl) | cases e
theorem ElsF.keys {M : Mdl} {S H : Hp} : ∀ {qs : List (Mode M)} {vs : List V} {ds : List D} {F : Foot} {ks : List Key}, ElsF (fun m => Mode.fam m) S H qs vs ds F → Ex S H → keysD ds = some ks → vs = ks.map kV
  | _, _, _, _, _, .nil _, _, e => by cases e; rfl
  | _, _, _, _, ks, .cons (k := m) (d := d) (ds := ds) p t _ _, ex, e => by
    unfold keysD at e
    cases z1 : keyD d with
    | none => rw [z1] at e; cases e
    | some k =>
      cases z2 : keysD ds with
      | none => rw [z1, z2] at e; cases e
      | some ks =>
        rw [z1, z2] at e
        cases e
        rw [List.map_cons, ← (m.rd p ex).key z1, ← t.keys ex z2]

section
variable {X : Cx} {W : WX} {ms : List (Mode (mdl X))} {mr : Mode (mdl X)} {pn : List Nat} {i o value : Expr} {pos pos' : Pos} {m1 m2 : Mode (mdl X)}
/-- a key there or not: a plain one, a tuple's -/
def inKD (neg : Bool) : D → D → Option D
  | k, .dK ks _ => (keyD k).map fun q => .bl (if neg then !(posK q ks).isSome else (posK q ks).isSome)
  | .tup k, .dT ks _ => (keysD k).map fun q => .bl (if neg then !(posK q ks).isSome else (posK q ks).isSome)
  | _, _ => none
/-- plain keys: in anything; tuples: made for it -/
def KeyM (M : Mdl) (k : D) (m : Mode M) : Prop := ∀ ks, k = .tup ks → ∃ qs, m = Pof qs
theorem DGet.len {κ : Type} {kvs : List (κ × V)} {ks : List κ} {ds : List D} {M : Mdl} {S : Hp} (e : kvs.map (·.1) = ks) (r : RepL M S (kvs.map (·.2)) ds) {j : Nat} (h : ks[j]? ≠ none) : ∃ v, (kvs.map (·.2))[j]? = some v := by
  have hj : j < ks.length := by
    rcases Nat.lt_or_ge j ks.length with h1 | h1
    · exact h1
    · exact absurd (List.getElem?_eq_none h1) h
  rw [← e, List.length_map] at hj
  exact ⟨(kvs.map (·.2))[j]'(by simpa using hj), List.getElem?_eq_getElem _⟩
theorem Seen.tupP {S H : Hp} {qs : List (Mode (mdl X))} {v : V} {ds : List D} (h : Seen S H (Pof qs) v (.tup ds)) (ex : Ex S H) {ks : List Key} (e : keysD ds = some ks) : ∃ p, v = .ref p ∧ H p = some (.tup (ks.map kV)) := by
  obtain ⟨F, q⟩ := h
  obtain ⟨p, vs, G, rfl, e1, e2, _⟩ := Pof.at q
  rw [e2.keys ex e] at e1
  exact ⟨p, rfl, e1⟩
theorem dget_of {S H : Hp} {m1 m2 : Mode (mdl X)} {x y : V} {k d : D} (sk : Seen S H m1 x k) (sd : Seen S H m2 y d) (ex : Ex S H) (hm : (∃ qs, m1 = Pof qs) ∨ ∀ ks, k ≠ .tup ks) {b : Bool} (h : inKD false k d = some (.bl b)) : ∃ a r, y = .ref a ∧ DGet H a x r ∧ r.isSome = b := by
  unfold inKD at h
  split at h
  · rename_i k' ks ds
    obtain ⟨q, e1, e2⟩ := Option.map_eq_some_iff.mp h
    cases e2
    have rd := sd.rep ex
    cases rd with
    | @dK a kvs ks' ds' h1 h2 h3 =>
      refine ⟨a, valV kvs q, rfl, ?_, ?_⟩
      · rw [(sk.rep ex).key e1]
        exact DGet.k h1
      · rw [valV_posK, h2]
        cases z : posK q ks with
        | none => simp
        | some j =>
          obtain ⟨v, hv⟩ := DGet.len h2 h3 (j := j) (by rw [posK_get z]; simp)
          have e5 : (some j).bind (fun j => (kvs.map (·.2))[j]?) = some v := hv
          rw [e5]
          rfl
  · rename_i k' ks ds
    obtain ⟨q, e1, e2⟩ := Option.map_eq_some_iff.mp h
    cases e2
    rcases hm with ⟨qs, rfl⟩ | hm
    · obtain ⟨p, rfl, hp⟩ := sk.tupP ex e1
      have rd := sd.rep ex
      cases rd with
      | @dT a kvs ks' ds' h1 h2 h3 =>
        refine ⟨a, valV kvs q, rfl, DGet.t h1 hp, ?_⟩
        rw [valV_posK, h2]
        cases z : posK q ks with
        | none => simp
        | some j =>
          obtain ⟨v, hv⟩ := DGet.len h2 h3 (j := j) (by rw [posK_get z]; simp)
          have e5 : (some j).bind (fun j => (kvs.map (·.2))[j]?) = some v := hv
          rw [e5]
          rfl
    · exact absurd rfl (hm _)
  · cases h
/-- whether a mode may hold a key made for it -/
def KeyOk {M : Mdl} (m1 : Mode M) (f : D → Bool) : Prop := (∃ qs, m1 = Pof qs) ∨ ∀ k, f k = true → ∀ ks, k ≠ .tup ks
def inPD (neg : Bool) : D → D → Option D
  | .tup _, _ => none
  | k, d => inKD neg k d
theorem inKD_bl {neg : Bool} {k d z : D} (h : inKD neg k d = some z) : ∃ b, inKD false k d = some (.bl b) ∧ z = .bl (if neg then !b else b) := by
  unfold inKD at h ⊢
  split at h
  · obtain ⟨q, e1, e2⟩ := Option.map_eq_some_iff.mp h
    subst e2
    refine ⟨(posK q _).isSome, ?_, by cases neg <;> rfl⟩
    simp [e1]
  · obtain ⟨q, e1, e2⟩ := Option.map_eq_some_iff.mp h
    subst e2
    refine ⟨(posK q _).isSome, ?_, by cases neg <;> rfl⟩
    simp [e1]
  · cases h
def rDIn (neg : Bool) : R2 := fun y x H Q => ∃ a o, x = .ref a ∧ DGet H a y o ∧ Q (.bl (if neg then !o.isSome else o.isSome)) H
theorem op2_din (neg : Bool) {qs : List (Mode (mdl X))} : Op2 (mdl X) (rDIn neg) (Pof qs) m2 fz (inKD neg) := by
  intro S H Γ x y k d z Q ho s1 s2 e kk
  obtain ⟨b, e1, rfl⟩ := inKD_bl e
  obtain ⟨a, r, rfl, g, rfl⟩ := dget_of s1 s2 ho.ex (.inl ⟨qs, rfl⟩) e1
  exact ⟨a, r, rfl, g, kk _ S H (ho.sc fun _ => .bl _)⟩
theorem op2_dinP (neg : Bool) : Op2 (mdl X) (rDIn neg) m1 m2 fz (inPD neg) := by
  intro S H Γ x y k d z Q ho s1 s2 e kk
  unfold inPD at e
  split at e
  · cases e
  · rename_i hn
    obtain ⟨b, e1, rfl⟩ := inKD_bl e
    obtain ⟨a, r, rfl, g, rfl⟩ := dget_of s1 s2 ho.ex (.inr fun ks h => hn ks h) e1
    exact ⟨a, r, rfl, g, kk _ S H (ho.sc fun _ => .bl _)⟩
theorem opr_din (hu : X.A.units + 1 < cLine) {k1 k2 : Kd (mdl X)} {mi md : DEnv → R Opd} {f : D → D → Option D} (hi : DO X W ms i k1 mi) (ho : DO X W ms o k2 md) (h : Op2 (mdl X) (rDIn false) (k1.mode ms) (k2.mode ms) fz f) (hm : behindInMarks .In o = false := by rfl) : DE X W ms (.Compare i [.In] [o] pos) fz (mOp2 mi md f) ∧ DT X W ms (.Compare i [.In] [o] pos) (mTest (mOp2 mi md f)) := by
  obtain ⟨ti, pi, ri⟩ := hi.rel
  obtain ⟨td, pd, rd⟩ := ho.rel
  have rel : RelE (X := X) W ms fz (tDIn ti td) (mOp2 mi md f) := relE2 (r := rDIn false) ri rd h
  exact ⟨⟨_, pe_cmp (pc_din hu pi pd) hm, rel⟩, ⟨_, pt_cmp (pc_din hu pi pd) hm, relTest rel⟩⟩
theorem opr_dnot (hu : X.A.units + 1 < cLine) {k1 k2 : Kd (mdl X)} {mi md : DEnv → R Opd} {f : D → D → Option D} (hi : DO X W ms i k1 mi) (ho : DO X W ms o k2 md) (h : Op2 (mdl X) (rDIn true) (k1.mode ms) (k2.mode ms) fz f) (hm : behindInMarks .NotIn o = false := by rfl) : DE X W ms (.Compare i [.NotIn] [o] pos) fz (mOp2 mi md f) ∧ DT X W ms (.Compare i [.NotIn] [o] pos) (mTest (mOp2 mi md f)) := by
  obtain ⟨ti, pi, ri⟩ := hi.rel
  obtain ⟨td, pd, rd⟩ := ho.rel
  have rel : RelE (X := X) W ms fz (tDNotIn ti td) (mOp2 mi md f) := relE2 (r := rDIn true) ri rd h
  exact ⟨⟨_, pe_cmp (pc_dnotin hu pi pd) hm, rel⟩, ⟨_, pt_cmp (pc_dnotin hu pi pd) hm, relTest rel⟩⟩
end
end DM
set_option maxRecDepth 100000
/-! Data mirror, part 26: dicts: an item read, an item stored, made, walked by keys. -/
namespace DM
open PySem PySem.Spec L2
section
variable {M : Mdl} {S H : Hp} {Γ : List Pc}
theorem ElsF.fzRep {κ : Type} : ∀ {ks : List κ} {vs : List V} {ds : List D} {F : Foot}, ElsF (fun _ => (fz (M := M)).fam) S H ks vs ds F → RepL M S vs ds ∧ ∀ a, ¬ F a
  | _, _, _, _, .nil n => ⟨.nil, n⟩
  | _, _, _, _, .cons p t _ u => let ⟨a, b⟩ := t.fzRep; ⟨.cons p.1 a, fun x q => ((u x).mp q).elim (p.2 x) (b x)⟩
theorem ElsF.ofRep {κ : Type} : ∀ {ks : List κ} {vs : List V} {ds : List D} {F : Foot}, ks.length = vs.length → RepL M S vs ds → (∀ a, ¬ F a) → ElsF (fun _ => (fz (M := M)).fam) S H ks vs ds F
  | [], _, _, F, _, .nil, n => .nil n
  | k :: ks, _, _, F, h, .cons r t, n => .cons (F := fun _ => False) (G := fun _ => False) ⟨r, fun _ q => q⟩ (ElsF.ofRep (by simpa using h) t fun _ q => q) (fun _ q => q.elim) fun a => ⟨fun q => (n a q).elim, fun q => q.elim False.elim False.elim⟩
/-- a dict's mode whose items are shared -/
inductive FlatK : Mode M → Prop
  | fz : FlatK fz
  | k : FlatK (Kof fun _ => DM.fz)
  | t : FlatK (Tof DM.fz)
theorem Seen.dk {m : Mode M} (f : FlatK m) {v : V} {ks : List Key} {ds : List D} (h : Seen S H m v (.dK ks ds)) (ex : Ex S H) : ∃ a kvs, v = .ref a ∧ H a = some (.dK kvs) ∧ kvs.map (·.1) = ks ∧ RepL M S (kvs.map (·.2)) ds := by
  obtain ⟨F, q⟩ := h
  have sh : Rep M S v (.dK ks ds) → ∃ a kvs, v = .ref a ∧ H a = some (.dK kvs) ∧ kvs.map (·.1) = ks ∧ RepL M S (kvs.map (·.2)) ds := fun r => by
    cases r with
    | dK h1 h2 h3 => exact ⟨_, _, rfl, ex _ _ h1, h2, h3⟩
  cases f with
  | fz => exact sh q.1
  | k =>
    rcases q with ⟨z, _, _⟩ | ⟨a, kvs, ks', ds', G, rfl, e2, h1, h2, h3, _⟩
    · cases z
    · cases e2; exact ⟨a, kvs, rfl, h1, h2.1, h3.fzRep.1⟩
  | t =>
    rcases q with ⟨_, r, _⟩ | ⟨a, kvs, ks', ds', G, rfl, e2, _⟩
    · exact sh r
    · cases e2
theorem Seen.dt {m : Mode M} (f : FlatK m) {v : V} {ks : List (List Key)} {ds : List D} (h : Seen S H m v (.dT ks ds)) (ex : Ex S H) : ∃ a kvs, v = .ref a ∧ H a = some (.dT kvs) ∧ kvs.map (·.1) = ks ∧ RepL M S (kvs.map (·.2)) ds := by
  obtain ⟨F, q⟩ := h
  have sh : Rep M S v (.dT ks ds) → ∃ a kvs, v = .ref a ∧ H a = some (.dT kvs) ∧ kvs.map (·.1) = ks ∧ RepL M S (kvs.map (·.2)) ds := fun r => by
    cases r with
    | dT h1 h2 h3 => exact ⟨_, _, rfl, ex _ _ h1, h2, h3⟩
  cases f with
  | fz => exact sh q.1
  | t =>
    rcases q with ⟨z, _, _⟩ | ⟨a, kvs, ks', ds', G, rfl, e2, h1, h2, h3, _⟩
    · cases z
    · cases e2; exact ⟨a, kvs, rfl, h1, h2.1, h3.fzRep.1⟩
  | k =>
    rcases q with ⟨_, r, _⟩ | ⟨a, kvs, ks', ds', G, rfl, e2, _⟩
    · exact sh r
    · cases e2
/-- a dict of one's own, changed -/
theorem Holds.chK {p : V} {ks : List Key} {ds : List D} (h : Holds S H ((Kof fun _ => (fz (M := M))).fam p (.dK ks ds) :: Γ)) : ∃ a kvs, p = .ref a ∧ H a = some (.dK kvs) ∧ kvs.map (·.1) = ks ∧ ks.Nodup ∧ RepL M S (kvs.map (·.2)) ds ∧
    ∀ (kvs' : List (Key × V)) (es : List D), (kvs'.map (·.1)).Nodup → RepL M S (kvs'.map (·.2)) es → Holds S (upd H a (.dK kvs')) ((Kof fun _ => (fz (M := M))).fam p (.dK (kvs'.map (·.1)) es) :: Γ) := by
  obtain ⟨F, q⟩ := h.mem (List.mem_cons_self ..)
  rcases q with ⟨z, _, _⟩ | ⟨a, kvs, ks', ds', G, rfl, e2, h1, h2, h3, _⟩
  · cases z
  cases e2
  refine ⟨a, kvs, rfl, h1, h2.1, h2.2, h3.fzRep.1, fun kvs' es nd r => h.change ((Kof fun _ => fz).stb _ _) fun F' q' nS nH => ?_⟩
  rcases q' with ⟨z, _, _⟩ | ⟨a', kvs2, ks2, ds2, G', f1, f2, g1, g2, g3, g4, g5⟩
  · cases z
  cases f1
  refine ⟨F', .inr ⟨a, kvs', _, es, fun _ => False, rfl, rfl, upd_same, ⟨rfl, nd⟩, ElsF.ofRep (by simp) r fun _ z => z, fun z => z, fun x => ?_⟩, fun x y => .inl y, fun x y => ?_, fun x y z => ?_⟩
  · rw [g5 x]
    exact ⟨fun y => y.elim .inl fun z => (g3.fzRep.2 x z).elim, fun y => y.elim .inl False.elim⟩
  · by_cases z : x = a
    · rw [z, upd_same]; simp
    · rw [upd_ne z]; exact nH x y
  · exact upd_ne fun w => y ((g5 x).mpr (.inl w))
theorem Holds.chT {p : V} {ks : List (List Key)} {ds : List D} (h : Holds S H ((Tof (fz (M := M))).fam p (.dT ks ds) :: Γ)) : ∃ a kvs, p = .ref a ∧ H a = some (.dT kvs) ∧ kvs.map (·.1) = ks ∧ ks.Nodup ∧ RepL M S (kvs.map (·.2)) ds ∧
    ∀ (kvs' : List (List Key × V)) (es : List D), (kvs'.map (·.1)).Nodup → RepL M S (kvs'.map (·.2)) es → Holds S (upd H a (.dT kvs')) ((Tof (fz (M := M))).fam p (.dT (kvs'.map (·.1)) es) :: Γ) := by
  obtain ⟨F, q⟩ := h.mem (List.mem_cons_self ..)
  rcases q with ⟨z, _, _⟩ | ⟨a, kvs, ks', ds', G, rfl, e2, h1, h2, h3, _⟩
  · cases z
  cases e2
  refine ⟨a, kvs, rfl, h1, h2.1, h2.2, h3.fzRep.1, fun kvs' es nd r => h.change ((Tof fz).stb _ _) fun F' q' nS nH => ?_⟩
  rcases q' with ⟨z, _, _⟩ | ⟨a', kvs2, ks2, ds2, G', f1, f2, g1, g2, g3, g4, g5⟩
  · cases z
  cases f1
  refine ⟨F', .inr ⟨a, kvs', _, es, fun _ => False, rfl, rfl, upd_same, ⟨rfl, nd⟩, ElsF.ofRep (by simp) r fun _ z => z, fun z => z, fun x => ?_⟩, fun x y => .inl y, fun x y => ?_, fun x y z => ?_⟩
  · rw [g5 x]
    exact ⟨fun y => y.elim .inl fun z => (g3.fzRep.2 x z).elim, fun y => y.elim .inl False.elim⟩
  · by_cases z : x = a
    · rw [z, upd_same]; simp
    · rw [upd_ne z]; exact nH x y
  · exact upd_ne fun w => y ((g5 x).mpr (.inl w))
theorem Holds.newK {p : Addr} {kvs : List (Key × V)} {ds : List D} (h : Holds S H Γ) (hp : H p = none) (nd : (kvs.map (·.1)).Nodup) (r : RepL M S (kvs.map (·.2)) ds) : Holds S (upd H p (.dK kvs)) ((Kof fun _ => (fz (M := M))).fam (.ref p) (.dK (kvs.map (·.1)) ds) :: Γ) :=
  h.newO hp ((Kof fun _ => fz).stb _ _) fun F hF => .inr ⟨p, kvs, _, ds, fun _ => False, rfl, rfl, upd_same, ⟨rfl, nd⟩, ElsF.ofRep (by simp) r fun _ z => z, fun z => z, fun x => by
    rw [hF x]
    exact ⟨.inl, fun w => w.elim id False.elim⟩⟩
theorem Holds.newT0 {p : Addr} (h : Holds S H Γ) (hp : H p = none) : Holds S (upd H p (.dT [])) ((Tof (fz (M := M))).fam (.ref p) (.dT [] []) :: Γ) :=
  h.newO hp ((Tof fz).stb _ _) fun F hF => .inr ⟨p, [], [], [], fun _ => False, rfl, rfl, upd_same, ⟨rfl, List.nodup_nil⟩, .nil fun _ z => z, fun z => z, fun x => by
    rw [hF x]
    exact ⟨.inl, fun w => w.elim id False.elim⟩⟩
end

section
variable {X : Cx} {W : WX} {ms : List (Mode (mdl X))} {mr : Mode (mdl X)} {pn : List Nat} {i o value : Expr} {pos pos' : Pos} {m1 m2 : Mode (mdl X)}
/-! ### d[k] -/
def getKD : D → D → Option D
  | .dK ks ds, k => (keyD k).bind fun q => (posK q ks).bind fun j => ds[j]?
  | .dT ks ds, .tup k => (keysD k).bind fun q => (posK q ks).bind fun j => ds[j]?
  | _, _ => none
def getPD : D → D → Option D
  | _, .tup _ => none
  | d, k => getKD d k
def rDGet : R2 := fun x y H Q => ∃ a v, x = .ref a ∧ DGet H a y (some v) ∧ Q v H
theorem dgetv {S H : Hp} {x y : V} {d k z : D} (f : FlatK m1) (sd : Seen S H m1 x d) (sk : Seen S H m2 y k) (ex : Ex S H) (hm : (∃ qs, m2 = Pof qs) ∨ ∀ ks, k ≠ .tup ks) (h : getKD d k = some z) : ∃ a v, x = .ref a ∧ DGet H a y (some v) ∧ Rep (mdl X) S v z := by
  unfold getKD at h
  split at h
  · rename_i ks ds k'
    obtain ⟨q, e1, e2⟩ := Option.bind_eq_some_iff.mp h
    obtain ⟨j, e3, e4⟩ := Option.bind_eq_some_iff.mp e2
    obtain ⟨a, kvs, rfl, h1, h2, h3⟩ := sd.dk f ex
    obtain ⟨v, e5, r⟩ := h3.get e4
    refine ⟨a, v, rfl, ?_, r⟩
    have e6 : valV kvs q = some v := by rw [valV_posK, h2, e3]; exact e5
    rw [(sk.rep ex).key e1, ← e6]
    exact DGet.k h1
  · rename_i ks ds k'
    obtain ⟨q, e1, e2⟩ := Option.bind_eq_some_iff.mp h
    obtain ⟨j, e3, e4⟩ := Option.bind_eq_some_iff.mp e2
    obtain ⟨a, kvs, rfl, h1, h2, h3⟩ := sd.dt f ex
    obtain ⟨v, e5, r⟩ := h3.get e4
    rcases hm with ⟨qs, rfl⟩ | hm
    · obtain ⟨p, rfl, hp⟩ := sk.tupP ex e1
      refine ⟨a, v, rfl, ?_, r⟩
      have e6 : valV kvs q = some v := by rw [valV_posK, h2, e3]; exact e5
      rw [← e6]
      exact DGet.t h1 hp
    · exact absurd rfl (hm _)
  · cases h
theorem op2_dget (f : FlatK m1) {qs : List (Mode (mdl X))} : Op2 (mdl X) rDGet m1 (Pof qs) fz getKD := by
  intro S H Γ x y d k z Q ho s1 s2 e kk
  obtain ⟨a, v, rfl, g, r⟩ := dgetv f s1 s2 ho.ex (.inl ⟨qs, rfl⟩) e
  exact ⟨a, v, rfl, g, kk v S H (ho.addFz r)⟩
theorem op2_dgetP (f : FlatK m1) : Op2 (mdl X) rDGet m1 m2 fz getPD := by
  intro S H Γ x y d k z Q ho s1 s2 e kk
  unfold getPD at e
  split at e
  · cases e
  · rename_i hn
    obtain ⟨a, v, rfl, g, r⟩ := dgetv f s1 s2 ho.ex (.inr fun ks h => hn ks h) e
    exact ⟨a, v, rfl, g, kk v S H (ho.addFz r)⟩
theorem de_dget (hu : X.A.units + 1 < cLine) {k1 k2 : Kd (mdl X)} {md mi : DEnv → R Opd} {f : D → D → Option D} (ho : DO X W ms o k1 md) (hi : DO X W ms i k2 mi) (h : Op2 (mdl X) rDGet (k1.mode ms) (k2.mode ms) fz f) (hs : NoSl i := by exact fun _ _ => rfl) : DE X W ms (.Subscript o i pos) fz (mOp2 md mi f) := by
  obtain ⟨td, pd, rd⟩ := ho.rel
  obtain ⟨ti, pi, ri⟩ := hi.rel
  exact ⟨_, pe_dget hu pd pi hs, relE2 (r := rDGet) rd ri h⟩
/-! ### d[k] = v -/
def putKF (d k v : D) : Option D := match d with
  | .dK ks ds => (keyD k).bind fun q => if ks.length < sizeLine then some (.dK (putKD q v ks ds).1 (putKD q v ks ds).2) else none
  | _ => none
def putTF (d k v : D) : Option D := match d, k with
  | .dT ks ds, .tup k => (keysD k).bind fun q => if ks.length < sizeLine then some (.dT (putKD q v ks ds).1 (putKD q v ks ds).2) else none
  | _, _ => none
def rDPut : V → V → V → Hp → (Hp → Prop) → Prop := fun x y v H Q => ∃ a H4, x = .ref a ∧ DPut H a y v H4 ∧ Q H4
theorem store_dk : StoreOp (mdl X) rDPut (Kof fun _ => fz) fz fz putKF := by
  intro S H Γ x i v a ai av a' Q ho e k
  unfold putKF at e
  split at e
  · rename_i ks ds
    obtain ⟨q, e1, e2⟩ := Option.bind_eq_some_iff.mp e
    split at e2
    · rename_i hl
      cases e2
      have sk : Seen S H fz i ai := ho.mem (List.mem_cons_of_mem _ (List.mem_cons_self ..))
      obtain ⟨Fv, rv, _⟩ := (ho.mem (List.mem_cons_of_mem _ (List.mem_cons_of_mem _ (List.mem_cons_self ..))) : Seen S H fz v av)
      obtain ⟨p, kvs, rfl, h1, h2, h3, h4, ch⟩ := ho.chK
      subst h2
      obtain ⟨g1, g2, g3⟩ := putK_data (k := q) h3 rv h4
      have h5 := ch (putK kvs q v) _ (by rw [g1]; exact g2) g3
      rw [g1] at h5
      have ek := (sk.rep ho.ex).key e1
      subst ek
      refine ⟨p, _, rfl, DPut.k h1 (by simpa using hl), k S _ ?_⟩
      exact ((h5.perm ((List.Perm.swap ..).trans ((List.Perm.swap ..).cons _))).drop).drop
    · cases e2
  · cases e
theorem store_dt {qs : List (Mode (mdl X))} : StoreOp (mdl X) rDPut (Tof fz) (Pof qs) fz putTF := by
  intro S H Γ x i v a ai av a' Q ho e k
  unfold putTF at e
  split at e
  · rename_i ks ds k'
    obtain ⟨q, e1, e2⟩ := Option.bind_eq_some_iff.mp e
    split at e2
    · rename_i hl
      cases e2
      have sk : Seen S H (Pof qs) i (.tup k') := ho.mem (List.mem_cons_of_mem _ (List.mem_cons_self ..))
      obtain ⟨Fv, rv, _⟩ := (ho.mem (List.mem_cons_of_mem _ (List.mem_cons_of_mem _ (List.mem_cons_self ..))) : Seen S H fz v av)
      obtain ⟨b, rfl, hb⟩ := sk.tupP ho.ex e1
      obtain ⟨p, kvs, rfl, h1, h2, h3, h4, ch⟩ := ho.chT
      subst h2
      obtain ⟨g1, g2, g3⟩ := putK_data (k := q) h3 rv h4
      have h5 := ch (putK kvs q v) _ (by rw [g1]; exact g2) g3
      rw [g1] at h5
      refine ⟨p, _, rfl, DPut.t h1 hb (by simpa using hl), k S _ ?_⟩
      exact ((h5.perm ((List.Perm.swap ..).trans ((List.Perm.swap ..).cons _))).drop).drop
    · cases e2
  · cases e
theorem ds_dput {k1 : Kd (mdl X)} {mi : Mode (mdl X)} {mV : DEnv → R D} {mO : DEnv → R Opd} {mI : DEnv → R D} {f : D → D → D → Option D} (hu : X.A.units + 1 < cLine) (hv : DE X W ms value fz mV) (ho : DO X W ms o k1 mO) (hi : DE X W ms i mi mI) (op : StoreOp (mdl X) rDPut (k1.mode ms) mi fz f)
    (hs : swapsWith value (some (.Subscript o i pos')) pos.line X.env = pure false := by rfl) : DS X W ms mr pn (.Assign [.Subscript o i pos'] value pos) (mStore mV mO mI f) := by
  obtain ⟨tv, pv, kv⟩ := hv.run
  obtain ⟨to, po, ko⟩ := ho.rel
  obtain ⟨ti, pi, ki⟩ := hi.run
  have rel := rel_store (mr := mr) (pn := pn) kv ko ki op
  exact ⟨_, ps_dput hu po pi pv hs, rel⟩
/-! ### {}, {k: v} -/
def mDK0 : DEnv → R D := fun δ => .ok (.dK [] []) δ
def mDT0 : DEnv → R D := fun δ => .ok (.dT [] []) δ
theorem de_dK0 : DE X W ms (.Dict [] [] pos) (Kof fun _ => fz) mDK0 := ⟨_, pe_dnewK, fun σ δ H τ Q st q p hp => by
  obtain ⟨S, Γ, sl, ho⟩ := st
  exact q (.ref p) _ ⟨S, Γ, sl, Holds.newK (kvs := []) (ds := []) ho hp List.nodup_nil .nil⟩⟩
theorem de_dT0 : DE X W ms (.Dict [] [] pos) (Tof fz) mDT0 := ⟨_, pe_dnewT, fun σ δ H τ Q st q p hp => by
  obtain ⟨S, Γ, sl, ho⟩ := st
  exact q (.ref p) _ ⟨S, Γ, sl, Holds.newT0 ho hp⟩⟩
def mDK1 (q : Key) (d : D) : DEnv → R D := fun δ => .ok (.dK [q] [d]) δ
theorem de_dK1 {ke ve : Expr} {q : Key} {u : V} {d : D} (hk : PE X ke (tC (kV q))) (hv : PE X ve (tC u)) (r : ∀ S, Rep (mdl X) S u d) : DE X W ms (.Dict [some ke] [ve] pos) (Kof fun _ => fz) (mDK1 q d) := ⟨_, pe_disp (pps_cons hk hv pps_nil) rfl rfl (by simp) (by show 1 ≤ 15; decide), fun σ δ H τ Q st qq p hp => by
  refine ⟨upd_same, [(q, u)], rfl, by show 1 ≤ 15; decide, ?_⟩
  obtain ⟨S, Γ, sl, ho⟩ := st
  have e : upd (upd H p (.dK [])) p (.dK (mergeK [] [(q, u)])) = upd H p (.dK [(q, u)]) := by
    funext b
    by_cases hb : b = p
    · rw [hb, upd_same, upd_same]; rfl
    · rw [upd_ne hb, upd_ne hb, upd_ne hb]
  rw [e]
  exact qq (.ref p) _ ⟨S, Γ, sl, Holds.newK (kvs := [(q, u)]) (ds := [d]) ho hp (by simp) (.cons (r S) .nil)⟩⟩
/-! ### for x in d, d a dict of one's own in a slot -/
def keyOf : Key → D
  | .inl i => .int i
  | .inr s => .str s
theorem keyOf_rep {M : Mdl} {S : Hp} (k : Key) : Rep M S (kV k) (keyOf k) := by
  cases k with
  | inl i => exact .int i
  | inr s => exact .str s
def mForD (i : Nat) (tg : Tg) (body : DEnv → SR) : DEnv → SR := fun δ => match (δ[i]?).join with
  | some (.dK ks ds) => match dFor tg body (ks.map keyOf) (δ.set i none) with
    | .nx δ2 => match δ2[i]? with
      | some none => .nx (δ2.set i (some (.dK ks ds)))
      | _ => .stuck
    | _ => .stuck
  | _ => .stuck
/-- a locked dict -/
def Locked (M : Mdl) (d : Addr) (od : Obj) (u : HO) (vs : List V) (ds : List D) : Pc := fun S H F => H d = some (.frz od u) ∧ (∀ a, F a ↔ a = d) ∧ RepL M S vs ds
theorem Locked.stb (M : Mdl) (d : Addr) (od : Obj) (u : HO) (vs : List V) (ds : List D) : Stb (Locked M d od u vs ds) := fun S S' H H' F p e k => ⟨(k d ((p.2.1 d).mpr rfl)).trans p.1, p.2.1, p.2.2.mono e⟩
theorem ds_forD {i : Nat} {x : Str} {p : Pos} {tg : Expr} {body : List Stmt} {f : Tg} {mb : DEnv → SR} (hp : PassesOwn (model X.prog X.w) X.A X.env X.xe) (hc : X.calm = true) (px : PE X (.Name x p) (tVar i)) (hi : ms[i]? = some (Kof fun _ => fz)) (hg : DG X ms (i :: pn) tg f) (hb : DSs X W ms mr (i :: pn) body mb)
    (hs : ∀ x', foldedSetIterable (.Name x p) X.env x' = pure x' := by intro _; rfl) : DS X W ms mr pn (.For tg (.Name x p) body [] pos) (mForD i f mb) := by
  obtain ⟨g, pg, kg⟩ := hg.run
  obtain ⟨tb, pb, kb⟩ := hb.run
  refine ⟨_, ps_lock (ps_for hp hc (pi_keys px) pg pb hs), fun σ δ H τ D st q => ?_⟩
  unfold mForD at q
  split at q
  · rename_i ks ds zg
    have zs : δ[i]? = some (some (.dK ks ds)) := by
      cases z : δ[i]? with
      | none => rw [z] at zg; cases zg
      | some o => rw [z] at zg; cases o <;> first | (cases zg; done) | (cases zg; rfl)
    obtain ⟨S, Γ, sl, ho⟩ := st
    obtain ⟨v, m, Γ2, f1, f2, f3, sl2⟩ := sl.take zs
    rw [hi] at f2
    cases f2
    have ho1 : Holds S H ((Kof fun _ => fz).fam v (.dK ks ds) :: (τ ++ Γ2)) := ho.perm ((f3.append_left τ).trans List.perm_middle)
    obtain ⟨a, kvs, rfl, h1, h2, h3, h4, _⟩ := ho1.chK
    obtain ⟨vs, hvs⟩ : ∃ vs, kvs.map (·.2) = vs := ⟨_, rfl⟩
    rw [hvs] at h4
    refine ⟨a, .dK kvs, h1, trivial, fun od => ?_⟩
    have lock : Holds S (upd H a (.frz od (.dK kvs))) (Locked (mdl X) a od (.dK kvs) vs ds :: (τ ++ Γ2)) := ho1.change (Locked.stb (mdl X) a od (.dK kvs) vs ds) fun F q nS nH => by
      rcases q with ⟨z, _, _⟩ | ⟨b, kvs2, ks2, ds2, G, g1, g2, g3, g4, g5, g6, g7⟩
      · cases z
      cases g1
      refine ⟨fun y => y = a, ⟨upd_same, fun _ => Iff.rfl, h4⟩, fun y hy => .inl ((g7 y).mpr (.inl hy)), fun y hy => ?_, fun y hy hn => ?_⟩
      · have hy : y = a := hy
        rw [hy, upd_same]; simp
      · exact upd_ne fun w => hy ((g7 y).mpr (.inl w))
    have unlock : ∀ S' H' Γ', Holds S' H' (Locked (mdl X) a od (.dK kvs) vs ds :: Γ') → H' a = some (.frz od (.dK kvs)) ∧ Holds S' (upd H' a (.dK kvs)) ((Kof fun _ => fz).fam (.ref a) (.dK ks ds) :: Γ') := fun S' H' Γ' h => by
      obtain ⟨F0, q0, _⟩ := h.mem (List.mem_cons_self ..)
      refine ⟨q0, h.change ((Kof fun _ => fz).stb _ _) fun F q nS nH => ?_⟩
      obtain ⟨q1, q2, q3⟩ := q
      refine ⟨fun y => y = a, .inr ⟨a, kvs, ks, ds, fun _ => False, rfl, rfl, upd_same, ⟨h2, h3⟩, ElsF.ofRep (by rw [← h2]; simp) (by rw [hvs]; exact q3) fun _ z => z, fun z => z, fun y => ⟨.inl, fun w => w.elim id False.elim⟩⟩, fun y hy => .inl ((q2 y).mpr hy), fun y hy => ?_, fun y hy hn => ?_⟩
      · have hy : y = a := hy
        rw [hy, upd_same]; simp
      · exact upd_ne fun w => hy ((q2 y).mpr w)
    cases zd : dFor f mb (ks.map keyOf) (δ.set i none) with
    | rt _ _ => rw [zd] at q; exact q.elim
    | bk _ => rw [zd] at q; exact q.elim
    | ct _ => rw [zd] at q; exact q.elim
    | exc _ _ => rw [zd] at q; exact q.elim
    | stuck => rw [zd] at q; exact q.elim
    | nx δf =>
      rw [zd] at q
      dsimp only at q
      have hf : δf[i]? = some none ∧ PostS (X := X) W ms mr pn σ τ D (.nx (δf.set i (some (.dK ks ds)))) := by
        split at q
        · rename_i e; exact ⟨e, q⟩
        · exact q.elim
      obtain ⟨hfn, hpost⟩ := hf
      have exit : ∀ σ' H', Keep (i :: pn) σ σ' → StO ms σ' δf H' (Locked (mdl X) a od (.dK kvs) vs ds :: τ) → H' a = some (.frz od (.dK kvs)) ∧ D.nx σ' (upd H' a (.dK kvs)) := fun σ' H' kp st' => by
        obtain ⟨S', Γ', sl', ho'⟩ := st'
        obtain ⟨u1, u2⟩ := unlock S' H' _ ho'
        have e3 : σ'[i]? = some (some (.ref a)) := (kp i (List.mem_cons_self ..)).trans f1
        obtain ⟨Γ3, pp, sl3⟩ := sl'.put (.dK ks ds) hi hfn e3
        exact ⟨u1, hpost σ' _ (kp.mono fun j hj => List.mem_cons_of_mem _ hj) ⟨S', Γ3, sl3, u2.perm ((List.perm_middle.symm).trans (pp.symm.append_left τ))⟩⟩
      refine ⟨.ref a, f1, a, od, rfl, .inl ⟨kvs, upd_same, fun j m σ' H' => ∃ δ', j + m = ks.length ∧ Keep (i :: pn) σ σ' ∧ StO ms σ' δ' H' (Locked (mdl X) a od (.dK kvs) vs ds :: τ) ∧ dFor f mb ((ks.map keyOf).drop j) δ' = .nx δf, ⟨ks.length, δ.set i none, by simp, Keep.refl _ _, ⟨S, Γ2, sl2, lock⟩, by simpa using zd⟩, ?_⟩⟩
      rintro j m σ1 H2 ⟨δ2, em, kp1, st2, q2⟩
      have hk : kvs.length = ks.length := by rw [← h2, List.length_map]
      have locked : H2 a = some (.frz od (.dK kvs)) := by
        obtain ⟨S2, Γ3, _, ho2⟩ := st2
        obtain ⟨F0, q0, _⟩ := ho2.mem (List.mem_cons_self ..)
        exact q0
      by_cases hj : j < ks.length
      · have hjl : j < (ks.map keyOf).length := by simpa using hj
        rw [List.drop_eq_getElem_cons hjl] at q2
        refine .inr ⟨⟨locked, by omega⟩, fun σ' H' => ∃ m', m' < m ∧ ∃ δ', j + 1 + m' = ks.length ∧ Keep (i :: pn) σ σ' ∧ StO ms σ' δ' H' (Locked (mdl X) a od (.dK kvs) vs ds :: τ) ∧ dFor f mb ((ks.map keyOf).drop (j + 1)) δ' = .nx δf, fun σ' H' h => h, fun y H3 hy => ?_⟩
        obtain ⟨rfl, k, v, e5, rfl⟩ := hy
        have ek : (ks.map keyOf)[j] = keyOf k := by
          have : ks[j]? = some k := by rw [← h2, List.getElem?_map, e5]; rfl
          rw [List.getElem_map]
          rw [List.getElem?_eq_getElem hj] at this
          rw [Option.some.inj this]
        rw [ek] at q2
        unfold dFor at q2
        cases zt : f (keyOf k) δ2 with
        | none => rw [zt] at q2; cases q2
        | some δ3 =>
          rw [zt] at q2
          dsimp only at q2
          refine kg (kV k) _ σ1 δ2 δ3 _ (Locked (mdl X) a od (.dK kvs) vs ds :: τ) _ (st2.fzOf fun S => keyOf_rep k) zt fun σ2 kp2 _ st3 => ?_
          refine kb σ2 δ3 _ _ _ st3 ?_
          cases zb : mb δ3 with
          | nx δ4 =>
            rw [zb] at q2
            exact fun σ' H' k4 st4 => ⟨m - 1, by omega, δ4, by omega, (kp1.trans kp2).trans k4, st4, q2⟩
          | ct δ4 =>
            rw [zb] at q2
            exact fun σ' H' k4 st4 => ⟨m - 1, by omega, δ4, by omega, (kp1.trans kp2).trans k4, st4, q2⟩
          | bk δ4 =>
            rw [zb] at q2
            cases q2
            exact fun σ' H' k4 st4 => exit σ' H' ((kp1.trans kp2).trans k4) st4
          | rt _ _ => rw [zb] at q2; cases q2
          | exc _ _ => rw [zb] at q2; cases q2
          | stuck => rw [zb] at q2; cases q2
      · have e0 : (ks.map keyOf).drop j = [] := List.drop_of_length_le (by simp; omega)
        rw [e0] at q2
        cases q2
        exact .inl ⟨⟨locked, by omega⟩, exit σ1 H2 kp1 st2⟩
  · exact q.elim
end
end DM
set_option maxRecDepth 100000
/-! Data mirror, part 27: attributes as targets; list(range), list of a dict, min and max of a list. -/
namespace DM
open PySem PySem.Spec L2
section
variable {X : Cx} {W : WX} {ms : List (Mode (mdl X))} {pn : List Nat} {cn f : Str} {C : Addr} {mo : Str → Mode (mdl X)} {pos p : Pos} {qs : List (Mode (mdl X))}
theorem pg_attr {o : Expr} {to : TE} (ho : PE X o to) : PG X (.Attribute o f pos) (fun v σ H Q => to σ H fun x H1 => ∃ a C dx fs, x = .ref a ∧ H1 a = some (.ins C dx fs) ∧ Cls X.K C ∧ NoAttr X.K C f ∧ fs.length < 1000 ∧ Q σ (upd H1 a (.ins C dx (putF f v fs)))) := by
  constructor
  intro pins s σ H v u Q I r h
  rw [assign_Attribute]
  apply wpAny_bind
  apply wpAny_holding
  refine thn (ho.run pins s σ H _ I h) fun ov s1 ho1 => ?_
  obtain ⟨x, H1, I1, r1, a, C, dx, fs, ex, ea, c, n, l, q⟩ := ho1
  subst ex
  have eo : ov = Value.ref a := r1
  subst eo
  apply wpAny_bind
  apply wpAny_standAt
  apply wpAny_bind
  apply wpAny_holding
  refine setattr_ok I1 ea c n l r fun s2 I2 => ?_
  exact wpAny_release ⟨σ, _, I2, q⟩
def tFld2 (cn f : Str) (i : Nat) : Tg := fun d δ => putO2 cn f i d δ
/-- targets that change the heap -/
structure DH (X : Cx) (ms : List (Mode (mdl X))) (pn : List Nat) (tg : Expr) (f : Tg) : Prop where
  run : ∃ g, PG X tg g ∧ ∀ v d σ δ δ' H τ (Q : L2.St → Hp → Prop), StO ms σ δ H ((fz (M := mdl X)).fam v d :: τ) → f d δ = some δ' → (∀ σ' H', Keep pn σ σ' → StO ms σ' δ' H' τ → Q σ' H') → g v σ H Q
structure DHs (X : Cx) (ms : List (Mode (mdl X))) (pn : List Nat) (tgs : List Expr) (f : List D → DEnv → Option DEnv) : Prop where
  run : ∃ g, PGs X tgs g ∧ ∀ vs ds σ δ δ' H τ (Q : L2.St → Hp → Prop), vs.length = ds.length → StO ms σ δ H (fams (ds.map fun _ => (fz (M := mdl X))) vs ds ++ τ) → f ds δ = some δ' → (∀ σ' H', Keep pn σ σ' → StO ms σ' δ' H' τ → Q σ' H') → g vs σ H Q
theorem DG.dh {tg : Expr} {f : Tg} (h : DG X ms pn tg f) : DH X ms pn tg f := by
  obtain ⟨g, pg, k⟩ := h.run
  exact ⟨g, pg, fun v d σ δ δ' H τ Q st e q => k v d σ δ δ' H τ Q st e fun σ' kp _ st' => q σ' H kp st'⟩
theorem dh_fld {i : Nat} {x : Str} (hc : ClsC X.K X.mg cn C) (hn : NoAttr X.K C f) (px : PE X (.Name x p) (tVar i)) (hi : ms[i]? = some (Iof mo)) (hm : mo f = fz) : DH X ms pn (.Attribute (.Name x p) f pos) (tFld2 cn f i) := by
  refine ⟨_, pg_attr px, fun v d σ δ δ' H τ Q st e k => ?_⟩
  have st' : StO ms σ δ H ((mo f).fam v d :: τ) := by rw [hm]; exact st
  obtain ⟨y, a, dx, fs, e1, e2, e3, e4, st2⟩ := st'.putO hc hi e
  exact ⟨y, e1, a, C, dx, fs, e2, e3, hc.cl, hn, e4, k σ _ (Keep.refl _ _) st2⟩
theorem dhs_nil : DHs X ms pn [] uNil := by
  obtain ⟨g, pg, k⟩ := (dgs_nil (X := X) (ms := ms) (pn := pn)).run
  exact ⟨g, pg, fun vs ds σ δ δ' H τ Q hl st e q => k vs ds σ δ δ' H τ Q hl st e fun σ' kp _ st' => q σ' H kp st'⟩
theorem dhs_cons {e : Expr} {es : List Expr} {a : Tg} {r : List D → DEnv → Option DEnv} (h : DH X ms pn e a) (h' : DHs X ms pn es r) (hs : (assignEach (e :: es) X.env).map (·.2) = assign e X.env :: (assignEach es X.env).map (·.2) := by rfl) : DHs X ms pn (e :: es) (uCons a r) := by
  obtain ⟨g, pg, k1⟩ := h.run
  obtain ⟨gs, pgs, k2⟩ := h'.run
  refine ⟨_, pgs_cons pg pgs hs, fun vs ds σ δ δ' H τ Q hl st e k => ?_⟩
  cases ds with
  | nil => cases e
  | cons d ds =>
    cases vs with
    | nil => simp at hl
    | cons v vs =>
      unfold uCons at e
      dsimp only at e
      split at e
      · rename_i δ1 z
        refine ⟨v, vs, rfl, k1 v d σ δ δ1 H (fams (ds.map fun _ => fz) vs ds ++ τ) _ st z fun σ' H' kp st' => ?_⟩
        exact k2 vs ds σ' δ1 δ' H' τ Q (by simpa using hl) st' e fun σ2 H2 kp2 st2 => k σ2 H2 (kp.trans kp2) st2
      · cases e
theorem dh_tup {es : List Expr} {k n : Nat} {r : List D → DEnv → Option DEnv} (hc : X.calm = true) (h : DHs X ms pn es r) (hn : (assignEach es X.env).length = n := by rfl) (hst : (assignEach es X.env).findIdx? (·.1) = none := by rfl) : DH X ms pn (.Tuple es k pos) (tUnp n r) := by
  obtain ⟨g, pg, kk⟩ := h.run
  refine ⟨_, PG.or (pg_tup hc pg hn hst) (pg_lst hc pg hn hst), fun v d σ δ δ' H τ Q st e q => ?_⟩
  obtain ⟨S, Γ, sl, ho⟩ := id st
  obtain ⟨F, rp, _⟩ := ho.mem (List.mem_cons_self ..)
  unfold tUnp at e
  split at e
  · rename_i ds
    split at e
    · rename_i hl
      cases rp with
      | tup h1 r1 =>
        refine .inl ⟨_, _, rfl, ho.ex.t h1, by rw [r1.length]; exact hl, kk _ ds σ δ δ' H τ Q r1.length ⟨S, Γ, sl, ?_⟩ e q⟩
        rw [List.append_assoc]
        exact ho.drop.pures (fams_fz r1)
    · cases e
  · rename_i ds
    split at e
    · rename_i hl
      cases rp with
      | lst h1 r1 =>
        refine .inr ⟨_, _, rfl, SqL.of (ho.ex _ _ h1), by rw [r1.length]; exact hl, kk _ ds σ δ δ' H τ Q r1.length ⟨S, Γ, sl, ?_⟩ e q⟩
        rw [List.append_assoc]
        exact ho.drop.pures (fams_fz r1)
    · cases e
  · cases e
theorem ds_asgH {mr : Mode (mdl X)} {tg e : Expr} {g : Tg} {m : DEnv → R D} (hg : DH X ms pn tg g) (he : DE X W ms e fz m) (hs : swapsWithSole [tg] e pos.line X.env = pure false := by rfl) (hw : swappedStores [tg] e X.env = pure none := by rfl)
    (h1 : (assignEach [tg] X.env).map (·.2) = [assign tg X.env] := by rfl) : DS X W ms mr pn (.Assign [tg] e pos) (mAsgT g m) := by
  obtain ⟨t, p, k⟩ := he.run
  obtain ⟨gg, pg, kg⟩ := hg.run
  refine ⟨_, ps_asg p pg hs hw h1, fun σ δ H τ D st q => k σ δ H τ _ st ?_⟩
  unfold mAsgT at q
  cases z : m δ with
  | exc c δ1 => rw [z] at q; exact q σ (Keep.refl _ _)
  | stuck => rw [z] at q; exact q
  | ok d δ1 =>
    rw [z, R.thn_ok] at q
    intro v H' st'
    split at q
    · rename_i δ2 z2
      exact kg v d σ δ1 δ2 H' τ _ st' z2 fun σ' H2 kp st2 => q σ' H2 kp st2
    · exact q.elim
/-! ### list(range(..)), list(d), min(xs), max(xs) -/
def listRD (a b : D) : Option D := match a, b with
  | .int i, .int j => if nb i 4000000 = true ∧ nb j 4000000 = true then some (.lst (rgItems i 1 (j - i).toNat)) else none
  | _, _ => none
theorem rg_rep {M : Mdl} {S : Hp} (i j : Int) : RepL M S (rgV i j) (rgItems i 1 (j - i).toNat) := by
  unfold rgV rgItems
  generalize (j - i).toNat = n
  have : ∀ l : List Nat, RepL M S (l.map fun k => V.int (i + (k : Nat))) (l.map fun k => D.int (i + (k : Nat) * 1)) := fun l => by
    induction l with
    | nil => exact .nil
    | cons a l ih =>
      refine .cons ?_ ih
      show Rep M S (V.int (i + (a : Nat))) (D.int (i + (a : Nat) * 1))
      rw [Int.mul_one]
      exact .int _
  exact this _
theorem de_listR {a b : Expr} {ma mb : DEnv → R D} {p2 pos2 : Pos} (hc : X.calm = true) (hm : X.mg "list" = none) (hmr : X.mg "range" = none) (ha : DE X W ms a fz ma) (hb : DE X W ms b fz mb) (hg : Gl X "list" := by rfl) (hgr : Gl X "range" := by rfl)
    (na : starEach [a, b] X.env = (false, eval a X.env) :: starEach [b] X.env := by rfl) (na2 : starEach [b] X.env = (false, eval b X.env) :: starEach [] X.env := by rfl) (na3 : (backTo pos2 (starEach [b] X.env)).any (·.1) = false := by rfl) (nl : starEach [.Call (.Name "range" p2) [a, b] [] pos2] X.env = (false, eval (.Call (.Name "range" p2) [a, b] [] pos2) X.env) :: starEach [] X.env := by rfl) :
    DE X W ms (.Call (.Name "list" p) [.Call (.Name "range" p2) [a, b] [] pos2] [] pos) (Lof fz) (mBin ma mb listRD) := by
  obtain ⟨ta, pa, ra⟩ := ha.run
  obtain ⟨tb, pb, rb⟩ := hb.run
  refine ⟨_, pe_listRg hc hg hm (prg_2 hgr hmr pa pb na na2 na3) nl, fun σ δ H τ Q st q => ra σ δ H τ _ st ?_⟩
  unfold mBin at q
  cases z : ma δ with
  | exc c δ' => rw [z] at q; exact q
  | stuck => rw [z] at q; exact q
  | ok x δ1 =>
    rw [z, R.bind_ok] at q
    intro v1 H1 st1
    refine rb σ δ1 H1 (fz.fam v1 x :: τ) _ st1 ?_
    cases z2 : mb δ1 with
    | exc c δ' => rw [z2] at q; exact Wx.drop (Δ := [_]) q
    | stuck => rw [z2] at q; exact q
    | ok y δ2 =>
      rw [z2, R.bind_ok] at q
      intro v2 H2 st2
      cases zf : listRD x y with
      | none => rw [zf] at q; exact q.elim
      | some d =>
        rw [zf] at q
        unfold listRD at zf
        split at zf
        · rename_i i j
          split at zf
          · rename_i hb
            cases zf
            have r2 := st2.rd
            cases r2
            have r1 := st2.drop.rd
            cases r1
            obtain ⟨b1, b2⟩ := hb
            have b1 := nb_iff.mp b1
            have b2 := nb_iff.mp b2
            refine ⟨i, j, rfl, rfl, ⟨by omega, by omega, by omega, by omega, by omega⟩, fun l hl => ?_⟩
            obtain ⟨S, Γ, sl, ho⟩ := st2
            have h3 : Holds S (upd H2 l (.lst (rgV i j))) ((Lof (fz (M := mdl X))).fam (.ref l) (.lst (rgItems i 1 (j - i).toNat)) :: (τ ++ Γ)) := (ho.drop.drop).newL hl (rg_rep i j)
            exact q (.ref l) _ ⟨S, Γ, sl, h3⟩
          · cases zf
        · cases zf
def keysLD : List D → Option D
  | [.dK ks _] => some (.lst (ks.map keyOf))
  | _ => none
theorem opn_listD : OpN (mdl X) rListD qs (Lof fz) keysLD := by
  intro S H Γ vs ds d Q ho sn e k
  unfold keysLD at e
  split at e
  · rename_i ks ds0
    cases e
    obtain ⟨v, m, rfl, em, s1⟩ := seens1 sn
    have rd := s1.rep ho.ex
    cases rd with
    | @dK a kvs ks' ds' h1 h2 h3 =>
      refine ⟨a, kvs, rfl, h1, fun l hl => k _ S _ (ho.newL hl ?_)⟩
      rw [← h2]
      clear h1 h2 h3
      induction kvs with
      | nil => exact .nil
      | cons kv kvs ih => exact .cons (keyOf_rep kv.1) ih
  · cases e
def minI : List Int → Option Int
  | [] => none
  | i :: r => some (r.foldl (fun a b => if b < a then b else a) i)
def maxI : List Int → Option Int
  | [] => none
  | i :: r => some (r.foldl (fun a b => if a < b then b else a) i)
theorem minI_spec : ∀ {ns : List Int} {m : Int}, minI ns = some m → m ∈ ns ∧ ∀ y ∈ ns, m ≤ y
  | i :: r, m, h => by
    cases h
    have : ∀ (r : List Int) (i : Int), (r.foldl (fun a b => if b < a then b else a) i) ∈ i :: r ∧ ∀ y ∈ i :: r, (r.foldl (fun a b => if b < a then b else a) i) ≤ y := fun r => by
      induction r with
      | nil => intro i; simp
      | cons b r ih =>
        intro i
        obtain ⟨h1, h2⟩ := ih (if b < i then b else i)
        rw [List.foldl_cons]
        refine ⟨?_, fun y hy => ?_⟩
        · rcases List.mem_cons.mp h1 with h | h
          · rw [h]; split <;> simp
          · exact List.mem_cons_of_mem _ (List.mem_cons_of_mem _ h)
        · have h0 := h2 _ (List.mem_cons_self ..)
          generalize r.foldl _ _ = t at h0 h2 ⊢
          rcases List.mem_cons.mp hy with rfl | hy
          · split at h0 <;> omega
          · rcases List.mem_cons.mp hy with rfl | hy
            · split at h0 <;> omega
            · exact h2 y (List.mem_cons_of_mem _ hy)
    exact this r i
theorem maxI_spec : ∀ {ns : List Int} {m : Int}, maxI ns = some m → m ∈ ns ∧ ∀ y ∈ ns, y ≤ m
  | i :: r, m, h => by
    cases h
    have : ∀ (r : List Int) (i : Int), (r.foldl (fun a b => if a < b then b else a) i) ∈ i :: r ∧ ∀ y ∈ i :: r, y ≤ (r.foldl (fun a b => if a < b then b else a) i) := fun r => by
      induction r with
      | nil => intro i; simp
      | cons b r ih =>
        intro i
        obtain ⟨h1, h2⟩ := ih (if i < b then b else i)
        rw [List.foldl_cons]
        refine ⟨?_, fun y hy => ?_⟩
        · rcases List.mem_cons.mp h1 with h | h
          · rw [h]; split <;> simp
          · exact List.mem_cons_of_mem _ (List.mem_cons_of_mem _ h)
        · have h0 := h2 _ (List.mem_cons_self ..)
          generalize r.foldl _ _ = t at h0 h2 ⊢
          rcases List.mem_cons.mp hy with rfl | hy
          · split at h0 <;> omega
          · rcases List.mem_cons.mp hy with rfl | hy
            · split at h0 <;> omega
            · exact h2 y (List.mem_cons_of_mem _ hy)
    exact this r i
def minLD : List D → Option D
  | [.lst ds] => (intsOf ds).bind fun ns => (minI ns).map D.int
  | _ => none
def maxLD : List D → Option D
  | [.lst ds] => (intsOf ds).bind fun ns => (maxI ns).map D.int
  | _ => none
theorem opn_minL : OpN (mdl X) (rMin X.K) qs fz minLD := by
  intro S H Γ vs ds d Q ho sn e k
  unfold minLD at e
  split at e
  · obtain ⟨ns, e1, e2⟩ := Option.bind_eq_some_iff.mp e
    obtain ⟨m, e3, e4⟩ := Option.map_eq_some_iff.mp e2
    subst e4
    obtain ⟨v, m1, rfl, _, s1⟩ := seens1 sn
    obtain ⟨a, xs, rfl, h1, r1⟩ := s1.lst ho.ex
    rw [intsOf_eq e1] at r1
    rw [r1.ints] at h1
    obtain ⟨g1, g2⟩ := minI_spec e3
    refine ⟨a, ns, rfl, SqL.of h1, List.length_pos_of_mem g1, fun m2 k1 k2 => ?_⟩
    have : m2 = m := Int.le_antisymm (k2 m g1) (g2 m2 k1)
    rw [this]
    exact k _ S H (ho.sc fun _ => .int _)
  · cases e
theorem opn_maxL : OpN (mdl X) (rMax X.K) qs fz maxLD := by
  intro S H Γ vs ds d Q ho sn e k
  unfold maxLD at e
  split at e
  · obtain ⟨ns, e1, e2⟩ := Option.bind_eq_some_iff.mp e
    obtain ⟨m, e3, e4⟩ := Option.map_eq_some_iff.mp e2
    subst e4
    obtain ⟨v, m1, rfl, _, s1⟩ := seens1 sn
    obtain ⟨a, xs, rfl, h1, r1⟩ := s1.lst ho.ex
    rw [intsOf_eq e1] at r1
    rw [r1.ints] at h1
    obtain ⟨g1, g2⟩ := maxI_spec e3
    refine ⟨a, ns, rfl, SqL.of h1, List.length_pos_of_mem g1, fun m2 k1 k2 => ?_⟩
    have : m2 = m := Int.le_antisymm (g2 m2 k1) (k2 m g1)
    rw [this]
    exact k _ S H (ho.sc fun _ => .int _)
  · cases e
end
end DM
namespace DM
open PySem PySem.Spec L2
/-- the __init__ of a class, at a level, by its mirror -/
def CalI (P : Program) (w : World) (M : Mdl) (base : Heap) (k : Nat) (C : Addr) (ps : List Str) (sg : Sig M) (fn : Fn) : Prop :=
  ∃ g fd, Mk M.K C g ∧ Binds M.K fd ps [] ∧ FnOkG P w M.K M.mg base (L2.CX P w) k g fd ps (spD sg fn)
theorem de_makeC {X : Cx} {W : WX} {ms : List (Mode (mdl X))} {C : Addr} {cn : Str} {pos : Pos} {k : Nat} {ps : List Str} {fn : Fn} {sg : Sig (mdl X)} (mo : Str → Mode (mdl X)) (qs : List (Mode (mdl X))) {ks : List (Kd (mdl X))} {a : DEnv → R (List Opd)} {p : Pos} {e : Expr} {es : List Expr} (hc : ClsC X.K X.mg cn C) (h : CalI X.prog X.w (mdl X) X.base k C ps sg fn) (hsg : sg = ⟨Iof mo :: qs, true :: List.replicate qs.length false, fz⟩) (hr : RoomG (k + 1) X.A) (tk : Takes X W) (ha : DA X W ms (e :: es) ks a)
    (hk : ks.map (Kd.mode ms) = qs := by rfl) (hg : Gl X cn := by rfl) (hdb : (cn == ("__debug__" : Str)) = false := by decide) (he : starEach (e :: es) X.env = (false, eval e X.env) :: starEach es X.env := by rfl) (hpl : (backTo pos (starEach es X.env)).any (·.1) = false := by rfl) :
    DE X W ms (.Call (.Name cn p) (e :: es) [] pos) (Iof mo) (mMake cn fn a) := by
  subst hsg
  obtain ⟨g, fd, M, bd, F⟩ := h
  exact de_make hc M bd F hr tk ha hk hg hdb he hpl
/-- a constant tuple of texts -/
structure TupC (K : PySem.W.Frag) (mg : Str → Option Value) (x : Str) (ss : List Str) (a : Addr) : Prop where
  g : mg x = some (.ref a)
  s : ∀ S : Hp, SqT K S a (ss.map V.str)
theorem de_cT {X : Cx} {W : WX} {ms : List (Mode (mdl X))} {x : Str} {ss : List Str} {a : Addr} {pos : Pos} (h : TupC X.K X.mg x ss a) (hg : Gl X x := by rfl) (hd : (x == ("__debug__" : Str)) = false := by decide) : DE X W ms (.Name x pos) fz (mC (.tup (ss.map D.str))) :=
  de_c (v := .ref a) (pe_glob hg h.g rfl hd) fun S => .tup (h.s S) (RepL.ofStrs ss)
end DM
set_option maxRecDepth 100000
/-! Data mirror, part 28: level 0; modes that are equal. -/
namespace DM
open PySem PySem.Spec L2
theorem fn0 {P : Program} {w : World} {K : PySem.W.Frag} {mg : Str → Option Value} {base : Heap} {f : Addr} {fd : FuncData} {ps : List Str} (sg : Sig ⟨K, mg⟩) : FnOkG P w K mg base (L2.CX P w) 0 f fd ps (spD sg fun _ => .stuck) := by
  have no : ∀ vs H Q E, ¬ spD sg (fun _ => .stuck) vs H Q E := fun vs H Q E h => by
    obtain ⟨S, ds, τ, _, _, _, q⟩ := h
    exact q
  exact ⟨fun vs H Q E h => absurd h (no vs H Q E), fun A outer s H args us vs Q E _ _ _ _ h => absurd h (no vs H Q E)⟩
theorem de_modeEq {X : Cx} {W : WX} {ms : List (Mode (mdl X))} {e : Expr} {m1 m2 : Mode (mdl X)} {m : DEnv → R D} (h : m1 = m2) (d : DE X W ms e m1 m) : DE X W ms e m2 m := h ▸ d
end DM
set_option maxRecDepth 100000
/-! Data mirror, part 34: try .. except X as e: caught = e. -/
namespace DM
open PySem PySem.Spec PyProof.Rows L2
theorem excAt_ok {P : Program} {w : World} {H : Hp} {h : Heap} {a C : Addr} {o : Obj} {vs : Array Value} (e : h.get? a = some o) (z : o.cls = .ref C) (z2 : o.dict = none) (d : o.data = .fields vs) : ObjOk P w H h a (.ext (ExcAt a C)) :=
  ⟨⟨o, vs, e, z, z2, d⟩, ⟨o, e⟩, fun _ _ ⟨o, v, q, r⟩ k => ⟨o, v, k o q, r⟩⟩
section
variable {X : Cx} {pins : List (Addr × Obj)} {σ : L2.St} {H : Hp} {s : Shared}
/-- an object of ours, new since the entry, tracked from now on -/
theorem track {a : Addr} {oe : Obj} {vs : Array Value} {φ : Heap → Prop} (J : Inv X pins σ H s) (ha : s.heap.get? a = some oe) (hd : oe.data = .fields vs) (na : H a = none) (nL : a ≠ X.env.locals) (n0 : X.s_0.heap.get? a = none) (hpin : ∀ p ∈ X.pn ++ pins, p.1 ≠ a)
    (hφ : ObjOk X.prog X.w (upd H a (.ext φ)) s.heap a (.ext φ)) : Inv X pins σ (upd H a (.ext φ)) s := by
  refine ⟨J.ok, J.os, J.bare, ⟨J.base.keep, J.base.slot, fun b o e n hb => ?_, J.base.there, fun b xs e => ?_, fun b o u e => ?_, fun b ps e => ?_⟩, J.loc, J.cell, ?_, fun x c e => ?_, fun p hp => ?_, fun b u e => ?_, J.len⟩
  · rw [upd_ne (fun z => by rw [z, n0] at e; cases e)]
    exact J.base.free b o e n hb
  · have q := J.base.tups b xs e
    rw [upd_ne (fun z => by rw [z, na] at q; cases q)]
    exact q
  · have q := J.base.frzs b o u e
    rw [upd_ne (fun z => by rw [z, na] at q; cases q)]
    exact q
  · obtain ⟨m, q⟩ := J.base.tbls b ps e
    exact ⟨m, by rw [upd_ne (fun z => by rw [z, na] at q; cases q)]; exact q⟩
  · rw [upd_ne (Ne.symm nL)]
    exact J.free
  · obtain ⟨v, o', h1, h2⟩ := J.cell x c e
    rw [upd_ne (fun z => by rw [z, ha] at h1; cases h1; rw [hd] at h2; cases h2)]
    exact J.freeC x c e
  · obtain ⟨e, n, r⟩ := J.pin p hp
    exact ⟨e, by rw [upd_ne (hpin p hp)]; exact n, r⟩
  · by_cases hb : b = a
    · subst hb
      rw [upd_same] at e
      cases e
      exact hφ
    · rw [upd_ne hb] at e
      exact (J.hok b u e).stay (fun c v _ q => q) (fun c q => by rw [upd_ne (ne_of_none q na)]; exact q) fun c xs q => by rw [upd_ne (ne_of_none q na)]; exact q
end
/-- what the clause wishes of an exception of the body: slot i is the clause's name's, slot j keeps it -/
def wKeep (K : PySem.W.Frag) (c : Value) (i j : Nat) (Wout : WX) (D : Ends) : WX := fun cls d σ H =>
  ∃ C, cls = .ref C ∧ d = none ∧ PySem.W.exmOne K cls c = some true ∧ ∀ a, H a = none → D.nx (((σ.set i (some (.ref a))).set j (some (.ref a))).set i none) (upd H a (.ext (ExcAt a C)))
section
variable {X : Cx} {x n m : Str} {c : Value} {i j : Nat} {body : List Stmt} {np pos pos' p1 p2 p3 : Pos} {tb : WX → TS} {Wout : WX}
theorem ps_try_keep (hs : X.stack = X.env :: X.outer) (hf : X.env.frame = some X.env.locals) (hN : X.N.Nodup) (hi : X.N[i]? = some n) (hln : X.env.kindOf n = some .local) (hc : Names X x c) (hx : X.ex = [])
    (hb : ∀ (W : WX) (pn : List (Addr × Obj)) (xe : Value → Shared → Prop), Takes (X.tr pn xe) W → PassesOwn (model X.prog X.w) X.A X.env xe → PSs (X.tr pn xe) body (tb W))
    (hsu : ∀ (a : Addr) (oe : Obj) (pn : List (Addr × Obj)), PS (X.suite a ((a, oe) :: pn)) (.Assign [.Name m p1] (.Name n p2) p3) (tAsg (tVar i) (gName j))) :
    PS X (.Try body [.ExceptHandler (some (.Name x np)) (some n) [.Assign [.Name m p1] (.Name n p2) p3] pos'] [] [] pos) (fun D σ H => tb (wKeep X.K c i j Wout D) D σ H) := by
  refine ⟨fun pins s σ H D I h => ?_⟩
  have ok := I.ok
  have hfr : X.A.frames = some (X.env :: X.outer) := by rw [ok.frames, hs]
  have hloc : Loc X.env.scope n := .inl hln
  refine wpAny_Try_except ?_
  refine wpAny_mono ((hb (wKeep X.K c i j Wout D) (X.pn ++ pins) (fun e s₁ => wpAny (model X.prog X.w) X.A (noteFrame e X.env) (fun _ s₂ => wpAny (model X.prog X.w) X.A (setFlight e none) (fun _ s₃ =>
    wpAny (model X.prog X.w) X.A (handleBy e X.env [.ExceptHandler (some (.Name x np)) (some n) [.Assign [.Name m p1] (.Name n p2) p3] pos']) (SP X pins D) X.xe s₃) X.xe s₂) X.xe s₁) (fun u s' xx => ?_) PassesOwn.looking).run [] s σ H D (I.toTry _) h) (fun f s1 hsp => ?_) (fun e s1 he => he)
  · obtain ⟨a, B, sI, pins', σ', H', cls, d, rfl, J', nb, up, sky, na, os, ag, C, rfl, rfl, hb1, hyes⟩ := xx
    have J : Inv X pins σ' H' sI := J'.ofTry ok
    have sky' : Sky B (X.env :: X.outer) a (Zc (.ref C) none) X.env.locals s'.heap := by rw [← hs]; exact sky
    show wpAny (model X.prog X.w) X.A (noteFrame (.ref a) X.env) _ _ _
    refine Sky.land Zc.steady hfr hf sky' fun h3 fl3 up3 => ?_
    have J3 : Inv X pins σ' H' { s' with heap := h3 } := J.landed nb fl3.1 (up.trans up3) os ag
    obtain ⟨oe3, vs3, he3, hz3, hd3⟩ := fl3.there
    have nfr : a ∉ frs (X.env :: X.outer) := fun hm => by
      obtain ⟨_, o', e', hnf⟩ := fl3.2.2.1.mem hm
      rw [he3] at e'; cases e'
      exact hnf _ hd3
    have nL : a ≠ X.env.locals := fun z => nfr (List.mem_filterMap.mpr ⟨X.env, List.mem_cons_self, by rw [hf, z]⟩)
    have nF : a ∉ X.fs := fun hm => by
      obtain ⟨e, he, q⟩ := List.mem_filterMap.mp hm
      exact nfr (List.mem_filterMap.mpr ⟨e, List.mem_cons_of_mem _ he, q⟩)
    have newI : sI.heap.get? a = none := by
      cases e : sI.heap.get? a with
      | none => rfl
      | some o =>
        have := nb a o e (by rw [hs]; exact nfr)
        rw [fl3.2.1] at this
        cases this
    have new0 : X.s_0.heap.get? a = none := by
      cases e : X.s_0.heap.get? a with
      | none => rfl
      | some o =>
        obtain ⟨o', e'⟩ := J.base.there a o e (by rw [hx]; exact fun z => nomatch z)
        rw [newI] at e'
        cases e'
    have newP : ∀ p ∈ X.pn ++ pins, p.1 ≠ a := fun p hp z => by
      obtain ⟨e, _⟩ := J.pin p hp
      rw [z, newI] at e
      cases e
    have S3 := J3.suite he3 hd3 na nL nF
    refine wpAny_handleBy_cons (codeAny_handlers_test ?_) (by intro q; cases q)
    have LT : PySem.W.Looks (model X.prog X.w) h3 (typeOf (.ref a)) (.ref C) := fun A Q E s k q => wpAny_typeOf_ref (k _ _ he3) (by rw [hz3.1]; exact q)
    have LM := PySem.W.exm_one (M := model X.prog X.w) (J3.kIn) LT hb1
    have test : ∀ {Q : Value → Shared → Prop} {E : Value → Shared → Prop}, Q c { s' with heap := h3 } → wpAny (model X.prog X.w) (X.A.mark (some (.ref a))) (eval (.Name x np) X.env) Q E { s' with heap := h3 } := fun {Q E} q => by
      obtain ⟨hg, hdbg, hm | ⟨hm, hv, hnn⟩⟩ := hc
      · exact ld_glob (X := X.suite a ((a, oe3) :: (X.pn ++ pins))) S3 hg hm q hdbg
      · exact ld_blt (X := X.suite a ((a, oe3) :: (X.pn ++ pins))) S3 hg hm hv q hnn hdbg
    refine test (LM.here ?_)
    refine codeAny_handlers_suite_as ?_
    refine HandSPX.lands_againZ fl3 fun h4 fl4 up4 => ?_
    have J4 : Inv X pins σ' H' { s' with heap := h4 } := J.landed nb fl4.1 ((up.trans up3).trans up4) os ag
    obtain ⟨oe4, vs4, he4, hz4, hd4⟩ := fl4.there
    have S4 := J4.suite he4 hd4 na nL nF
    refine store_ok (X := X.suite a ((a, oe4) :: (X.pn ++ pins))) (v := .ref a) S4 hN hi hloc rfl (fun s5 S5 => ?_) (.inr hln)
    have hlt : i < σ'.length := by
      rw [J.len]
      exact (List.getElem?_eq_some_iff.mp hi).1
    refine wpAny_mono ((pss_one (hsu a oe4 (X.pn ++ pins))).run [] s5 _ H' ⟨fun σ6 H6 => σ6 = (σ'.set i (some (.ref a))).set j (some (.ref a)) ∧ H6 = H', fun _ _ => False, fun _ _ => False, fun _ _ => False⟩ S5 ⟨.ref a, List.getElem?_set_self hlt, rfl, rfl⟩) (fun f s6 hsp => ?_) (fun _ _ z => False.elim z)
    cases f with
    | next =>
      obtain ⟨σ6, H6, S6, rfl, rfl⟩ := hsp
      have pn6 := S6.pin (a, oe4) (by rw [List.append_nil]; exact List.mem_cons_self ..)
      have J6 : Inv X (pins ++ [(a, oe4)]) _ _ s6 := (S6.unsuite ok).pins_of fun p hp => by
        rcases List.mem_append.mp hp with hp | hp
        · exact (S6.unsuite ok).pin p (List.mem_append_right _ hp)
        · rw [List.mem_singleton.mp hp]
          exact pn6
      refine gone_ok J6 hN hi hln fun s7 J7 => ?_
      obtain ⟨e7, n7, _⟩ := J7.pin (a, oe4) (List.mem_append_right _ (List.mem_append_right _ (List.mem_singleton.mpr rfl)))
      have J8 : Inv X pins _ _ s7 := J7.pins_of fun p hp => J7.pin p (List.mem_append_right _ (List.mem_append_left _ hp))
      exact ⟨_, _, track J8 e7 hd4 n7 nL new0 newP (excAt_ok e7 hz4.1 hz4.2 hd4), hyes a na⟩
    | brk =>
      obtain ⟨_, _, _, z⟩ := hsp
      exact z.elim
    | cont =>
      obtain ⟨_, _, _, z⟩ := hsp
      exact z.elim
    | ret u =>
      obtain ⟨_, _, _, _, _, z⟩ := hsp
      exact z.elim
  · cases f with
    | next =>
      obtain ⟨σ', H', J', q⟩ := hsp
      exact wpAny_execs_nil ⟨σ', H', J'.ofTry ok, q⟩
    | brk =>
      obtain ⟨σ', H', J', q⟩ := hsp
      exact ⟨σ', H', J'.ofTry ok, q⟩
    | cont =>
      obtain ⟨σ', H', J', q⟩ := hsp
      exact ⟨σ', H', J'.ofTry ok, q⟩
    | ret u =>
      obtain ⟨v, σ', H', J', r, q⟩ := hsp
      exact ⟨v, σ', H', J'.ofTry ok, r, q⟩
end
/-! ### by mirrors -/
def mTry (i j : Nat) (cs : Str → Bool) (mb : DEnv → SR) : DEnv → SR := fun δ => match mb δ with
  | .exc c δ' => if cs c = true then (match δ'[i]? with
    | some none => .nx (δ'.set j (some (.exn c)))
    | _ => .stuck) else .stuck
  | r => r
section
variable {X : Cx} {W : WX} {ms : List (Mode (mdl X))} {mr : Mode (mdl X)} {pn : List Nat} {x n m : Str} {c : Value} {i j : Nat} {body : List Stmt} {np pos pos' p1 p2 p3 : Pos} {mb : DEnv → SR}
theorem exn_slot {a C : Addr} {cn : Str} {S H : Hp} {Γ : List Pc} (ho : Holds S H Γ) (na : H a = none) (g : X.mg cn = some (.ref C)) : Holds (upd S a (.ext (ExcAt a C))) (upd H a (.ext (ExcAt a C))) ((fz (M := mdl X)).fam (.ref a) (.exn cn) :: Γ) :=
  (ho.newS na).addFz (.exn upd_same g)
theorem ds_tryK {cs : Str → Bool} (hs : X.stack = X.env :: X.outer) (hf : X.env.frame = some X.env.locals) (hN : X.N.Nodup) (hi : X.N[i]? = some n) (hj : X.N[j]? = some m) (hln : X.env.kindOf n = some .local) (hc : Names X x c) (hx : X.ex = [])
    (hb : ∀ (W : WX) (pn' : List (Addr × Obj)) (xe : Value → Shared → Prop), Takes (X.tr pn' xe) W → PassesOwn (model X.prog X.w) X.A X.env xe → DSs (X.tr pn' xe) W ms mr pn body mb)
    (hsu : ∀ (a : Addr) (oe : Obj) (pn : List (Addr × Obj)), PS (X.suite a ((a, oe) :: pn)) (.Assign [.Name m p1] (.Name n p2) p3) (tAsg (tVar i) (gName j)))
    (hex : ∀ cn C, cs cn = true → X.mg cn = some (.ref C) → PySem.W.exmOne X.K (.ref C) c = some true) (hm : ms[j]? = some fz) (hpi : i ∉ pn) (hpj : j ∉ pn) (hij : i ≠ j) :
    DS X W ms mr pn (.Try body [.ExceptHandler (some (.Name x np)) (some n) [.Assign [.Name m p1] (.Name n p2) p3] pos'] [] [] pos) (mTry i j cs mb) := by
  refine ⟨_, ps_try_keep (tb := fun W D σ H => ∃ δ τ, StO (M := mdl X) ms σ δ H τ ∧ PostS (X := X) W ms mr pn σ τ D (mb δ)) (Wout := W) hs hf hN hi hln hc hx (fun W' pn' xe tk hp => ?_) hsu, fun σ δ H τ D st q => ⟨δ, τ, st, ?_⟩⟩
  · obtain ⟨t, p, rel⟩ := (hb W' pn' xe tk hp).run
    exact ⟨fun pins s σ H D I ⟨δ, τ, st, q⟩ => p.run pins s σ H D I (rel σ δ H τ D st q)⟩
  · unfold mTry at q
    cases z : mb δ with
    | nx δ' => rw [z] at q; exact q
    | rt d δ' => rw [z] at q; exact q
    | bk δ' => rw [z] at q; exact q
    | ct δ' => rw [z] at q; exact q
    | stuck => rw [z] at q; exact q
    | exc cn δ' =>
      rw [z] at q
      dsimp only at q
      split at q
      · rename_i hcs
        split at q
        · rename_i hin
          intro σ' kp H' C st' g
          refine ⟨C, rfl, rfl, hex cn C hcs g, fun a na => ?_⟩
          obtain ⟨S, Γ, sl, ho⟩ := st'
          have e2 := exn_slot (X := X) (cn := cn) ho na g
          have no1 : ∀ d, δ'[i]? ≠ some (some d) := fun d e => by rw [hin] at e; cases e
          have sl1 := sl.reval (some (.ref a)) no1
          have st3 : StO (M := mdl X) ms ((σ'.set i (some (.ref a))).set j (some (.ref a))) (δ'.set j (some (.exn cn))) (upd H' a (.ext (ExcAt a C))) τ := StO.setM (m := fz) (v := .ref a) (d := .exn cn) (show StO (M := mdl X) ms (σ'.set i (some (.ref a))) δ' (upd H' a (.ext (ExcAt a C))) ((fz (M := mdl X)).fam (.ref a) (.exn cn) :: τ) from ⟨_, Γ, sl1, e2⟩) hm
          obtain ⟨S3, Γ3, sl3, ho3⟩ := st3
          have no3 : ∀ d, (δ'.set j (some (.exn cn)))[i]? ≠ some (some d) := fun d e => by
            rw [List.getElem?_set_ne (Ne.symm hij), hin] at e
            cases e
          have sl4 := sl3.reval none no3
          exact q _ _ (((kp.trans (Keep.set hpi)).trans (Keep.set hpj)).trans (Keep.set hpi)) ⟨S3, Γ3, sl4, ho3⟩
        · exact q.elim
      · exact q.elim
end
end DM
set_option maxRecDepth 100000
/-! Data mirror, part 35: isinstance of a kept exception (or None). -/
namespace DM
open PySem PySem.Spec PyProof.Rows L2
def rIsX (K : PySem.W.Frag) : List V → Hp → VK → Prop := fun xs H Q => ∃ (x c : V) (cv : Value) (b : Bool), xs = [x, c] ∧ (∀ u, RelV c u → u = cv) ∧
  ((x = .non ∧ PySem.W.kitOne K (.type "NoneType") cv = some b) ∨ ∃ a C, x = .ref a ∧ H a = some (.ext (ExcAt a C)) ∧ ExcC K C ∧ PySem.W.kitOne K (.ref C) cv = some b) ∧ Q (.bl b) H
theorem call_isX {X : Cx} : CallR X (.builtin "isinstance") (rIsX X.K) := by
  intro pins s σ H xs us Q I r h
  obtain ⟨x, c, cv, b, rfl, hcv, hc, q⟩ := h
  cases r with
  | cons rx rr =>
    cases rr with
    | cons rt rr =>
      cases rr
      have ec := hcv _ rt
      subst ec
      rcases hc with ⟨rfl, e⟩ | ⟨a, C, rfl, ha, ec, e⟩
      · cases rx
        exact PySem.W.kia_one PySem.W.kitx_none I.kIn True.intro e (fun z => nomatch z) fun tk => ⟨.bl b, H, I.kept (t' := tk) fun _ _ z => z, rfl, q⟩
      · cases rx
        obtain ⟨⟨oe, vs, h1, h2, h3, h4⟩, _⟩ := I.hok a _ ha
        have J : PySem.W.InstAt s.heap a oe C none := by
          obtain ⟨oc, od, oda, osl⟩ := oe
          dsimp only at h2 h3 h4
          subst h2 h3 h4
          exact ⟨h1, rfl, rfl, trivial⟩
        exact PySem.W.kia_one (PySem.W.handS_kitx_exc ec.hg ec.hk ec.hs ec.hd ec.ha ec.hn ec.ht ec.hm) I.kIn J e (fun z => nomatch z) fun tk => ⟨.bl b, H, I.kept (t' := tk) fun _ _ z => z, rfl, q⟩
def isxD (tab : Str → Option Bool) : D → Option D
  | .non => some (.bl false)
  | .exn c => (tab c).map D.bl
  | _ => none
section
variable {X : Cx} {W : WX} {ms : List (Mode (mdl X))} {a : Expr} {p p2 pos : Pos} {T : Str}
theorem de_isx {v : V} {cv : Value} {k1 : Kd (mdl X)} {ma : DEnv → R Opd} (tab : Str → Option Bool) (hm : X.mg "isinstance" = none) (pT : PE X (.Name T p2) (tC v)) (hv : ∀ u, RelV v u → u = cv) (hn : PySem.W.kitOne X.K (.type "NoneType") cv = some false) (hx : ∀ c C b, tab c = some b → X.mg c = some (.ref C) → ExcC X.K C ∧ PySem.W.kitOne X.K (.ref C) cv = some b)
    (ha : DO X W ms a k1 ma) (hg : Gl X "isinstance" := by rfl) (he : starEach [a, .Name T p2] X.env = (false, eval a X.env) :: starEach [.Name T p2] X.env := by rfl) (hs2 : starEach [.Name T p2] X.env = (false, eval (.Name T p2) X.env) :: starEach [] X.env := by rfl) (hpl : (backTo pos (starEach [.Name T p2] X.env)).any (·.1) = false := by rfl) :
    DE X W ms (.Call (.Name "isinstance" p) [a, .Name T p2] [] pos) fz (mOp1 ma (isxD tab)) := by
  obtain ⟨ta, pa, ra⟩ := ha.rel
  refine ⟨_, pe_callB call_isX hg hm (by decide +kernel) (pa_cons pa (pa_cons pT pa_nil hs2) he) (by decide) (by decide) he hpl, ?_⟩
  have op : Op1 (mdl X) (fun x H Q => rIsX X.K [x, v] H Q) (k1.mode ms) fz (isxD tab) := by
    intro S H Γ x d d' Q ho s1 e k
    have r := s1.rep ho.ex
    unfold isxD at e
    split at e
    · cases e
      cases r
      exact ⟨_, _, _, _, rfl, hv, .inl ⟨rfl, hn⟩, k _ S H (ho.sc fun _ => .bl _)⟩
    · rename_i c
      obtain ⟨b, e1, e2⟩ := Option.map_eq_some_iff.mp e
      subst e2
      cases r with
      | @exn a C _ h1 h2 =>
        obtain ⟨ec, ek⟩ := hx c C b e1 h2
        exact ⟨_, _, _, _, rfl, hv, .inr ⟨a, C, rfl, h1, ec, ek⟩, k _ S H (ho.sc fun _ => .bl _)⟩
    · cases e
  exact relE1 ra op
end
/-! ### the facts, from those that the top tells -/
theorem kit_of {K : PySem.W.Frag} {t : Value} {C : Addr} {b : Bool} (h0 : (t == Value.ref C) = false) (hdct : PySem.W.hasDictIn K C = true) (ht : PySem.W.typeIn K (.ref C) = some (.type "type")) (h4 : PySem.W.subIn K t (.ref C) = some b) : PySem.W.kitOne K t (.ref C) = some b := by
  obtain ⟨cd, hc, _⟩ := PySem.W.any_some hdct
  have e2 : ((PySem.W.clsIn K C).isSome && PySem.W.typeIn K (.ref C) == some (.type "type")) = true := by rw [hc, ht] <;> rfl
  show (if (t == Value.ref C) = true then some true else (if ((PySem.W.clsIn K C).isSome && PySem.W.typeIn K (.ref C) == some (.type "type")) = true then PySem.W.subIn K t (.ref C) else none)) = some b
  rw [h0, if_neg (by decide), if_pos e2]
  exact h4
theorem kit_self {K : PySem.W.Frag} {t : Value} : PySem.W.kitOne K t t = some true := by
  show (if (t == t) = true then some true else _) = _
  rw [if_pos (by simp)]
theorem kit_bi {K : PySem.W.Frag} {C : Addr} {T : String} {b : Bool} (hm : PySem.W.kitMeta T = true) (h4 : PySem.W.subIn K (.ref C) (.type T) = some b) : PySem.W.kitOne K (.ref C) (.type T) = some b := by
  show (if ((Value.ref C) == Value.type T) = true then some true else (if PySem.W.kitMeta T = true then PySem.W.subIn K (.ref C) (.type T) else none)) = some b
  rw [if_neg (by intro z; cases (beq_iff_eq.mp z)), if_pos hm]
  exact h4
end DM
set_option maxRecDepth 100000
/-! Data mirror, part 36: repr. -/
namespace DM
open PySem PySem.Spec PyProof.Rows L2
def keyPy : Key → PyData
  | .inl i => .int i
  | .inr x => .str x
/-- repr's text, where it is known -/
def showP (p : PyData) : Option D := if p.showable = true ∧ p.shown.length ≤ sizeLine ∧ p.depth ≤ 60 then some (.str p.shown) else none
mutual
/-- as the library's data, dicts too -/
def D.pyR : D → Option PyData
  | .non => some .none
  | .bl b => some (.bool b)
  | .int i => some (.int i)
  | .str x => some (.str x)
  | .lst ds => (D.pyRs ds).map PyData.list
  | .tup ds => (D.pyRs ds).map PyData.tuple
  | .dK ks ds => (D.pyRs ds).map fun ps => PyData.dict ((ks.map keyPy).zip ps)
  | _ => none
def D.pyRs : List D → Option (List PyData)
  | [] => some []
  | d :: ds => match D.pyR d, D.pyRs ds with
    | some p, some ps => some (p :: ps)
    | _, _ => none
end
def reprD : List D → Option D
  | [d] => d.pyR.bind showP
  | _ => none
section
variable {prog : Program} {w : World} {A : Around} {E : Value → Shared → Prop} {s : Shared} {Q : Value → Shared → Prop}
theorem call_repr_any {u : Value} {p : PyData} {as : List Addr} (r : Reads s.heap u p as) (hs : p.showable = true) (hsm : p.hasDict = true → sysModules ∉ as) (hg : A.guards = some []) (hu : A.units + 64 < cLine) (hd : p.depth ≤ 60) (hz : p.shown.length ≤ sizeLine)
    (hQ : ∀ h' t tk, (∀ b o, s.heap.get? b = some o → h'.get? b = some o) → Q (.str p.shown t) { s with heap := h', toks := tk }) : wpAny (model prog w) A (call (.builtin "repr") [u]) Q E s := by
  cases r with
  | none => exact PySem.P.repr_of_none (hQ s.heap _ _ fun _ _ e => e)
  | bool b => exact PySem.P.repr_of_bool (hQ s.heap _ _ fun _ _ e => e)
  | int i t => exact PySem.P.repr_of_int (of_decide_eq_true hs) (hQ s.heap _ _ fun _ _ e => e)
  | str x t => exact PySem.P.repr_of_str (hQ s.heap _ _ fun _ _ e => e) (hsz := hz)
  | list a b c d => exact PySem.repr_of_reads' (.list a b c d) hs hsm hg (by omega) (fun _ _ e => e) (fun h' u tk k => hQ h' u tk k) (hsz := hz)
  | tuple a b c d => exact PySem.repr_of_reads' (.tuple a b c d) hs hsm hg (by omega) (fun _ _ e => e) (fun h' u tk k => hQ h' u tk k) (hsz := hz)
  | dict a b c d e => exact PySem.repr_of_reads' (.dict a b c d e) hs hsm hg (by omega) (fun _ _ e => e) (fun h' u tk k => hQ h' u tk k) (hsz := hz)
end
section
variable {X : Cx} {pins : List (Addr × Obj)} {σ : L2.St} {H : Hp} {s : Shared}
theorem pairs_of {h : Heap} : ∀ {vs : List (Key × Value)} {ps : List PyData} {as : List Addr}, ReadsAll h (vs.map (·.2)) ps as → PyProof.V.PairsRead h keyPy vs ((vs.map fun x => keyPy x.1).zip ps) as
  | [], _, _, r => by
    cases r
    exact .nil
  | (k, v) :: vs, _, _, r => by
    cases r with
    | cons r1 r2 => exact .cons r1 (pairs_of r2)
theorem kv_maps {kvs : List (Key × V)} {vs : List (Key × Value)} (kv : KV kvs vs) : kvs.map (·.1) = vs.map (·.1) ∧ Vals (kvs.map (·.2)) (vs.map (·.2)) := by
  induction kv with
  | nil => exact ⟨rfl, .nil⟩
  | cons h _ ih => exact ⟨by rw [List.map_cons, List.map_cons, h.1, ih.1], .cons h.2 ih.2⟩
theorem key_read {h : Heap} {P : Program} {w : World} : ∀ (k : Key) (key : Value), (mixKind P w).is k key = true → Reads h key (keyPy k) [] := fun k key hk => by
  rcases keyIs_shape (show keyIs k key = true from hk) with ⟨i, t, rfl, rfl⟩ | ⟨x, t, rfl, rfl⟩
  · exact .int i t
  · exact .str x t
mutual
theorem Rep.reads (I : Inv X pins σ H s) (hs : ∀ its, ¬ s.heap.IsList sysModules its) : ∀ {v : V} {d : D} {p : PyData} {u : Value}, Rep (mdl X) H v d → d.pyR = some p → RelV v u → ∃ as, Reads s.heap u p as ∧ sysModules ∉ as
  | _, _, _, _, .non, e, r => by cases e; cases r; exact ⟨_, .none, by simp⟩
  | _, _, _, _, .bl b, e, r => by cases e; cases r; exact ⟨_, .bool b, by simp⟩
  | _, _, _, _, .int b, e, r => by cases e; obtain ⟨t, rfl⟩ := r; exact ⟨_, .int b t, by simp⟩
  | _, _, _, _, .str b, e, r => by cases e; obtain ⟨t, rfl⟩ := r; exact ⟨_, .str b t, by simp⟩
  | _, _, _, _, .lst (a := a) h rr, e, r => by
    rw [D.pyR] at e
    obtain ⟨ps, e1, e2⟩ := Option.map_eq_some_iff.mp e
    subst e2
    cases r
    obtain ⟨its, rv, ⟨o, n, ho, hc, _, hd⟩, _⟩ := I.list (SqL.of h)
    obtain ⟨as, hr, hm⟩ := RepL.reads I hs rr e1 rv
    refine ⟨_, Reads.list ho hc hd hr, fun z => ?_⟩
    rcases List.mem_cons.mp z with z | z
    · subst z
      exact hs _ ⟨o, ho, hc, n, hd⟩
    · exact hm z
  | _, _, _, _, .tup h rr, e, r => by
    rw [D.pyR] at e
    obtain ⟨ps, e1, e2⟩ := Option.map_eq_some_iff.mp e
    subst e2
    cases r
    obtain ⟨its, rv, ⟨o, ho, hc, n, hd⟩, _⟩ := I.tuple h
    obtain ⟨as, hr, hm⟩ := RepL.reads I hs rr e1 rv
    exact ⟨_, Reads.tuple ho hc hd hr, hm⟩
  | _, _, _, _, .dK (a := a) h k rr, e, r => by
    rw [D.pyR] at e
    obtain ⟨ps, e1, e2⟩ := Option.map_eq_some_iff.mp e
    subst e2
    cases r
    obtain ⟨_, hna, vs, kv, dd⟩ := dk_of I.hok h
    obtain ⟨km, vv⟩ := kv_maps kv
    obtain ⟨as, hr, hm⟩ := RepL.reads I hs rr e1 vv
    have pr := pairs_of hr
    have rd := PyProof.V.reads_dictOf key_read dd pr
    rw [← k, km, List.map_map]
    refine ⟨_, rd, fun z => ?_⟩
    rcases List.mem_cons.mp z with z | z
    · subst z
      simp at hna
    · exact hm z
  | _, _, _, _, .dT .., e, _ => by cases e
  | _, _, _, _, .obj .., e, _ => by cases e
  | _, _, _, _, .exn .., e, _ => by cases e
  | _, _, _, _, .scr .., e, _ => by cases e
theorem RepL.reads (I : Inv X pins σ H s) (hs : ∀ its, ¬ s.heap.IsList sysModules its) : ∀ {vs : List V} {ds : List D} {ps : List PyData} {us : List Value}, RepL (mdl X) H vs ds → D.pyRs ds = some ps → Vals vs us → ∃ as, ReadsAll s.heap us ps as ∧ sysModules ∉ as
  | _, _, _, _, .nil, e, r => by cases e; cases r; exact ⟨_, .nil, by simp⟩
  | _, _, _, _, .cons (d := d) (ds := ds) r1 t1, e, r => by
    unfold D.pyRs at e
    cases z1 : D.pyR d with
    | none => rw [z1] at e; cases e
    | some p =>
      cases z2 : D.pyRs ds with
      | none => rw [z1, z2] at e; cases e
      | some ps =>
        rw [z1, z2] at e
        cases e
        cases r with
        | cons q1 q2 =>
          obtain ⟨as, hr, hm⟩ := Rep.reads I hs r1 z1 q1
          obtain ⟨bs, hr2, hm2⟩ := RepL.reads I hs t1 z2 q2
          exact ⟨_, .cons hr hr2, fun z => (List.mem_append.mp z).elim hm hm2⟩
end
/-- repr, by values -/
def rRepr (M : Mdl) : List V → Hp → VK → Prop := fun xs H Q => ∃ x d r, xs = [x] ∧ Rep M H x d ∧ reprD [d] = some r ∧ ∃ t, r = .str t ∧ Q (.str t) H
theorem showP_some {p : PyData} {r : D} (h : showP p = some r) : p.showable = true ∧ p.shown.length ≤ sizeLine ∧ p.depth ≤ 60 ∧ r = .str p.shown := by
  unfold showP at h
  split at h
  · rename_i q
    cases h
    exact ⟨q.1, q.2.1, q.2.2, rfl⟩
  · cases h
theorem call_reprX {X : Cx} (hg : X.A.guards = some []) (hu : X.A.units + 64 < cLine) (hb : SysB X.base) : CallR X (.builtin "repr") (rRepr (mdl X)) := by
  intro pins s σ H xs us Q I r h
  obtain ⟨x, d, z, rfl, rp, e, t, rfl, q⟩ := h
  have hs : ∀ its, ¬ s.heap.IsList sysModules its := fun its ⟨o, ho, hc, n, hd⟩ => by
    obtain ⟨mm, o2, es, ep, h1, h2, _⟩ := hb
    rw [(I.env0.bs _ _ h1).1] at ho
    cases ho
    rw [h2] at hd
    cases hd
  cases r with
  | cons rx rr =>
    cases rr
    obtain ⟨p, e1, e2⟩ := Option.bind_eq_some_iff.mp (show d.pyR.bind showP = some (.str t) from e)
    obtain ⟨as, rd, hm⟩ := Rep.reads I hs rp e1 rx
    obtain ⟨h1, h2, h3, h4⟩ := showP_some e2
    cases h4
    exact call_repr_any rd h1 (fun _ => hm) hg hu h3 h2 fun h' t' tk k => ⟨.str p.shown, H, I.kept (t' := tk) k, ⟨_, rfl⟩, q⟩
end
section
variable {X : Cx} {W : WX} {ms : List (Mode (mdl X))} {k : Nat} {ks : List (Kd (mdl X))} {m : DEnv → R (List Opd)} {p pos : Pos} {a : Expr}
theorem opn_repr {qs : List (Mode (mdl X))} : OpN (mdl X) (rRepr (mdl X)) qs fz reprD := by
  intro S H Γ vs ds z Q ho sn e kk
  have : ∃ d, ds = [d] := by
    unfold reprD at e
    split at e
    · exact ⟨_, rfl⟩
    · cases e
  obtain ⟨d, rfl⟩ := this
  obtain ⟨v, m, rfl, rfl, s1⟩ := seens1 sn
  obtain ⟨F, hf⟩ := s1
  have rp := m.rd hf ho.ex
  have ht : ∃ t, z = .str t := by
    obtain ⟨_, _, e2⟩ := Option.bind_eq_some_iff.mp (show d.pyR.bind showP = some z from e)
    exact ⟨_, (showP_some e2).2.2.2⟩
  obtain ⟨t, rfl⟩ := ht
  exact ⟨v, d, _, rfl, rp, e, t, rfl, kk _ S H (ho.sc fun _ => .str _)⟩
end
end DM
set_option maxRecDepth 100000
/-! Data mirror, part 38: dict(enumerate(xs)); texts in order. -/
namespace DM
open PySem PySem.Spec PyProof.Rows L2
def enumKV {α : Type} : Nat → List α → List (Key × α)
  | _, [] => []
  | i, x :: xs => (.inl (i : Int), x) :: enumKV (i + 1) xs
theorem enumKV_len {α : Type} : ∀ (xs : List α) (i : Nat), (enumKV i xs).length = xs.length
  | [], _ => rfl
  | _ :: xs, i => by rw [enumKV, List.length_cons, List.length_cons, enumKV_len xs]
theorem enumKV_get {α : Type} : ∀ (xs : List α) (i j : Nat) (x : α), xs[j]? = some x → (enumKV i xs)[j]? = some (.inl ((i + j : Nat) : Int), x)
  | [], _, _, _, h => by simp at h
  | y :: xs, i, 0, x, h => by
    simp at h
    subst h
    rfl
  | y :: xs, i, j + 1, x, h => by
    rw [enumKV, List.getElem?_cons_succ]
    have := enumKV_get xs (i + 1) j x (by simpa using h)
    rw [this, show i + 1 + j = i + (j + 1) by omega]
theorem enumKV_mem {α : Type} : ∀ (xs : List α) (i : Nat) (k : Key), k ∈ (enumKV i xs).map (·.1) → ∃ j : Nat, i ≤ j ∧ k = .inl (j : Int)
  | [], _, _, h => by simp [enumKV] at h
  | y :: xs, i, k, h => by
    rw [enumKV, List.map_cons] at h
    rcases List.mem_cons.mp h with h | h
    · exact ⟨i, Nat.le_refl _, h⟩
    · obtain ⟨j, h1, h2⟩ := enumKV_mem xs (i + 1) k h
      exact ⟨j, by omega, h2⟩
theorem enumKV_nodup {α : Type} : ∀ (xs : List α) (i : Nat), ((enumKV i xs).map (·.1)).Nodup
  | [], _ => by simp [enumKV]
  | y :: xs, i => by
    rw [enumKV, List.map_cons, List.nodup_cons]
    refine ⟨fun h => ?_, enumKV_nodup xs (i + 1)⟩
    obtain ⟨j, h1, h2⟩ := enumKV_mem xs (i + 1) _ h
    injection h2 with h3
    omega
theorem enumKV_vals {α : Type} : ∀ (xs : List α) (i : Nat), (enumKV i xs).map (·.2) = xs
  | [], _ => rfl
  | y :: xs, i => by rw [enumKV, List.map_cons, enumKV_vals xs]
theorem enumKV_keys {α β : Type} : ∀ (xs : List α) (ys : List β) (i : Nat), xs.length = ys.length → (enumKV i xs).map (·.1) = (enumKV i ys).map (·.1)
  | [], [], _, _ => rfl
  | [], _ :: _, _, h => by simp at h
  | _ :: _, [], _, h => by simp at h
  | x :: xs, y :: ys, i, h => by rw [enumKV, enumKV, List.map_cons, List.map_cons, enumKV_keys xs ys (i + 1) (by simpa using h)]
theorem enumKV_rel : ∀ {xs : List V} {us : List Value} (i : Nat), Vals xs us → KV (enumKV i xs) (enumKV i us)
  | _, _, _, .nil => .nil
  | _, _, i, .cons h t => .cons ⟨rfl, h⟩ (enumKV_rel (i + 1) t)
def tDictEnum (K : PySem.W.Frag) (ta : TA) : TE := fun σ H Q => ta σ H fun vs H1 => ∃ a xs, vs = [.ref a] ∧ SqL K H1 a xs ∧ ∀ d, H1 d = none → Q (.ref d) (upd H1 d (.dK (enumKV 0 xs)))
theorem pe_dictEnum {X : Cx} {e : Expr} {ta : TA} {p pos p2 pos2 : Pos} (hcl : X.calm = true) (hg : Gl X "dict") (hm : X.mg "dict" = none) (hge : Gl X "enumerate") (hme : X.mg "enumerate" = none) (ha : PA X [e] ta) (hs : starEach [e] X.env = [(false, eval e X.env)] := by rfl)
    (na : starEach [.Call (.Name "enumerate" p2) [e] [] pos2] X.env = (false, eval (.Call (.Name "enumerate" p2) [e] [] pos2) X.env) :: starEach [] X.env := by rfl) :
    PE X (.Call (.Name "dict" p) [.Call (.Name "enumerate" p2) [e] [] pos2] [] pos) (tDictEnum X.K ta) := by
  refine ⟨fun pins s σ H Q I h => ?_⟩
  refine Call_ (ld_blt I hg hm boot_dict (PyProof.Rows.callWith_type1 (args_cons ?_ na) na))
  refine Call_ (ld_blt I hge hme boot_enumerate (PyProof.Rows.callWith_type1 (thn (ha.run pos2 pins s σ H _ I h) fun us s1 ⟨vs, H1, I1, r1, q1⟩ => ?_) hs rfl))
  obtain ⟨a, xs, ex, hq, q⟩ := q1
  subst ex
  cases r1 with
  | cons r rr =>
    cases rr
    cases r
    obtain ⟨its, rv, p', hz⟩ := I1.list hq
    have hal : a < s1.heap.objs.size := by obtain ⟨o, ho, _⟩ := p'.isList; exact Heap.lt_size ho
    refine call_enumerate_list p'.isList fun h' he hit hsz hk => args_nil ?_
    have I2 : Inv X pins σ H1 { s1 with heap := h' } := I1.kept (t' := s1.toks) hk
    have P := PairArg.enumerate (prog := X.prog) (w := X.w) (s1.heap.objs.size + 1) s1.heap.objs.size a (Nat.succ_ne_self _) (Nat.ne_of_lt (Nat.lt_succ_of_lt hal)) (Nat.ne_of_lt hal) its.toArray
    have lx : its.length = xs.length := rv.length.symm
    refine call_dict_pairs (s := { s1 with heap := h' }) (knd := mixKind X.prog X.w) (kvs := enumKV 0 its) P (I2.ok.hd hcl) ⟨⟨.none, he⟩, hit, p'.isList.at fun o q => hk _ o q⟩ ⟨by rw [enumKV_len]; simp, fun i key v ⟨⟨t, e1⟩, e2⟩ => ?_⟩ (by simp; omega) fun h2 tk dd hk2 => ?_
    · subst e1
      refine ⟨.inl (i : Int), ?_, mixKind_int _ _ _ _⟩
      have := enumKV_get its 0 i v (by simpa using e2)
      rw [Nat.zero_add] at this
      exact this
    · rw [PySem.merged_nil_of_nodup _ (enumKV_nodup its 0)] at dd
      have hle : ∀ b ∈ [s1.heap.objs.size + 1, s1.heap.objs.size], FpOk X pins H1 b := fun b hb => by
        have : s1.heap.objs.size ≤ b := by
          simp at hb
          omega
        exact I1.fpOk this (I1.hok.fresh this)
      have hd0 : H1 h'.objs.size = none := I2.hok.fresh (Nat.le_refl _)
      refine ⟨.ref h'.objs.size, _, I2.turnedNew (t' := tk) (ch := [s1.heap.objs.size + 1, s1.heap.objs.size]) (ob := .dK (enumKV 0 xs)) (fun b o hb e => hk2 b o hb e) hle (Nat.le_refl _) ?_, rfl, q _ hd0⟩
      refine ⟨by rw [enumKV_len]; exact hz, ?_, _, enumKV_rel 0 rv, dd⟩
      have : sysModules < h'.objs.size := by rw [hsz]; exact Nat.lt_of_lt_of_le (show 1 < 2 by decide) (Nat.le_add_left 2 _)
      simpa using Nat.ne_of_gt this
def enumDD : D → Option D
  | .lst ds => some (.dK ((enumKV 0 ds).map (·.1)) ds)
  | _ => none
theorem de_dictEnum {X : Cx} {W : WX} {ms : List (Mode (mdl X))} {e : Expr} {m : DEnv → R D} {p pos p2 pos2 : Pos} (hcl : X.calm = true) (hm : X.mg "dict" = none) (hme : X.mg "enumerate" = none) (he : DE X W ms e fz m) (hg : Gl X "dict" := by rfl) (hge : Gl X "enumerate" := by rfl) (hs : starEach [e] X.env = (false, eval e X.env) :: starEach [] X.env := by rfl)
    (na : starEach [.Call (.Name "enumerate" p2) [e] [] pos2] X.env = (false, eval (.Call (.Name "enumerate" p2) [e] [] pos2) X.env) :: starEach [] X.env := by rfl) :
    DE X W ms (.Call (.Name "dict" p) [.Call (.Name "enumerate" p2) [e] [] pos2] [] pos) (Kof fun _ => fz) (mUnC m enumDD) := by
  obtain ⟨ta, pa, ra⟩ := he.run
  refine ⟨_, pe_dictEnum hcl hg hm hge hme (pa_cons pa pa_nil hs) hs na, fun σ δ H τ Q st q => ra σ δ H τ _ st ?_⟩
  unfold mUnC at q
  cases z : m δ with
  | exc c δ' => rw [z] at q; exact q
  | stuck => rw [z] at q; exact q
  | ok d δ' =>
    rw [z, R.bind_ok] at q
    intro v H' st'
    cases z2 : enumDD d with
    | none => rw [z2] at q; exact q.elim
    | some d' =>
      rw [z2] at q
      unfold enumDD at z2
      split at z2
      · rename_i ds
        cases z2
        have r := st'.rd
        cases r with
        | @lst a xs _ h1 r1 =>
          refine ⟨a, xs, rfl, SqL.of h1, fun dd hd => ?_⟩
          obtain ⟨S, Γ, sl, ho⟩ := st'
          obtain ⟨F, hf⟩ := ho.mem (List.mem_cons_self ..)
          have rS : RepL (mdl X) S xs ds := by
            cases hf.1 with
            | lst g1 g2 =>
              have := ho.ex _ _ g1
              rw [h1] at this
              cases this
              exact g2
          have hl : xs.length = ds.length := r1.length
          have h3 := (ho.drop).newK (kvs := enumKV 0 xs) (ds := ds) hd (enumKV_nodup xs 0) (by rw [enumKV_vals]; exact rS)
          rw [enumKV_keys xs ds 0 hl] at h3
          exact q (.ref dd) _ ⟨S, Γ, sl, h3⟩
      · cases z2
end DM
set_option maxRecDepth 100000
/-! Data mirror, part 16: plain Lean over mirrors: loops, comprehensions, equality. -/
namespace DM
open PySem PySem.Spec L2

/-! ### one step at a time -/
@[simp] theorem mC_e (d : D) (δ : DEnv) : mC d δ = (.ok d δ) := rfl
@[simp] theorem mVar_e (i : Nat) (δ : DEnv) : mVar i δ = (.of (δ[i]?).join δ) := rfl
@[simp] theorem mMove_e (i : Nat) (δ : DEnv) : mMove i δ = (match (δ[i]?).join with
  | some d => .ok d (δ.set i none)
  | none => .stuck) := rfl
@[simp] theorem oS_e (i : Nat) (δ : DEnv) : oS i δ = (match (δ[i]?).join with
  | some _ => .ok (.s i) δ
  | none => .stuck) := rfl
@[simp] theorem oV_e (m : DEnv → R D) (δ : DEnv) : oV m δ = ((m δ).bind fun d δ' => .ok (.v d) δ') := rfl
@[simp] theorem mNil_e (δ : DEnv) : mNil  δ = (.ok [] δ) := rfl
@[simp] theorem mCons_e (a : DEnv → R Opd) (r : DEnv → R (List Opd)) (δ : DEnv) : mCons a r δ = ((a δ).bind fun o δ1 => (r δ1).bind fun os δ2 => .ok (o :: os) δ2) := rfl
@[simp] theorem mOpN_e (a : DEnv → R (List Opd)) (f : List D → Option D) (δ : DEnv) : mOpN a f δ = ((a δ).bind fun os δ1 => match gets os δ1, fins os δ1 with
  | some ds, some δ2 => .of (f ds) δ2
  | _, _ => .stuck) := rfl
@[simp] theorem mTup_e (m : DEnv → R (List Opd)) (δ : DEnv) : mTup m δ = ((mOpN m fun ds => if ds.length ≤ sizeLine then some (.tup ds) else none) δ) := rfl
@[simp] theorem mLst_e (m : DEnv → R (List Opd)) (δ : DEnv) : mLst m δ = ((mOpN m fun ds => if ds.length ≤ sizeLine then some (.lst ds) else none) δ) := rfl
@[simp] theorem mNoL_e (m : DEnv → R D) (δ : DEnv) : mNoL m δ = ((m δ).bind fun d δ' => if d.isLst = false then .ok d δ' else .stuck) := rfl
@[simp] theorem mTest_e (m : DEnv → R D) (δ : DEnv) : mTest m δ = ((m δ).bind fun d δ' => match d with
  | .bl b => .ok b δ'
  | _ => .stuck) := rfl
@[simp] theorem mNot_e (m : DEnv → R Bool) (δ : DEnv) : mNot m δ = ((m δ).bind fun b δ' => .ok (!b) δ') := rfl
@[simp] theorem mAnd_e (a b : DEnv → R Bool) (δ : DEnv) : mAnd a b δ = ((a δ).bind fun c δ' => if c = true then b δ' else .ok false δ') := rfl
@[simp] theorem mOr_e (a b : DEnv → R Bool) (δ : DEnv) : mOr a b δ = ((a δ).bind fun c δ' => if c = true then .ok true δ' else b δ') := rfl
@[simp] theorem mNotV_e (m : DEnv → R D) (δ : DEnv) : mNotV m δ = ((m δ).bind fun d δ' => match d with
  | .bl b => .ok (.bl (!b)) δ'
  | _ => .stuck) := rfl
@[simp] theorem mAndV_e (a b : DEnv → R D) (δ : DEnv) : mAndV a b δ = ((a δ).bind fun d δ' => match d with
  | .bl true => b δ'
  | .bl false => .ok (.bl false) δ'
  | _ => .stuck) := rfl
@[simp] theorem mOrV_e (a b : DEnv → R D) (δ : DEnv) : mOrV a b δ = ((a δ).bind fun d δ' => match d with
  | .bl true => .ok (.bl true) δ'
  | .bl false => b δ'
  | _ => .stuck) := rfl
@[simp] theorem mChain_e (a b c : DEnv → R D) (f g : D → D → Option D) (δ : DEnv) : mChain a b c f g δ = ((a δ).bind fun x δ1 => (b δ1).bind fun y δ2 => match f x y with
  | some (.bl true) => (c δ2).bind fun z δ3 => .of (g y z) δ3
  | some (.bl false) => .ok (.bl false) δ2
  | _ => .stuck) := rfl
@[simp] theorem mNext_e (δ : DEnv) : mNext  δ = (.nx δ) := rfl
@[simp] theorem mSeq_e (a b : DEnv → SR) (δ : DEnv) : mSeq a b δ = ((a δ).seq b) := rfl
@[simp] theorem mBrk_e (δ : DEnv) : mBrk  δ = (.bk δ) := rfl
@[simp] theorem mCnt_e (δ : DEnv) : mCnt  δ = (.ct δ) := rfl
@[simp] theorem mDrop_e (m : DEnv → R D) (δ : DEnv) : mDrop m δ = ((m δ).thn fun _ δ' => .nx δ') := rfl
@[simp] theorem mRet_e (m : DEnv → R D) (δ : DEnv) : mRet m δ = ((m δ).thn fun d δ' => .rt d δ') := rfl
@[simp] theorem mAsg_e (i : Nat) (m : DEnv → R D) (δ : DEnv) : mAsg i m δ = ((m δ).thn fun d δ' => .nx (δ'.set i (some d))) := rfl
@[simp] theorem mIf_e (c : DEnv → R Bool) (a b : DEnv → SR) (δ : DEnv) : mIf c a b δ = ((c δ).thn fun t δ' => if t = true then a δ' else b δ') := rfl
@[simp] theorem mAug_e (i : Nat) (m : DEnv → R D) (f : D → D → Option D) (δ : DEnv) : mAug i m f δ = (match (δ[i]?).join with
  | some a => (m δ).thn fun b δ' => match f a b with
    | some d => .nx (δ'.set i (some d))
    | none => .stuck
  | none => .stuck) := rfl
@[simp] theorem tName_e (i : Nat) (d : D) (δ : DEnv) : tName i d δ = (some (δ.set i (some d))) := rfl
@[simp] theorem mAsgT_e (f : Tg) (m : DEnv → R D) (δ : DEnv) : mAsgT f m δ = ((m δ).thn fun d δ' => match f d δ' with
  | some δ2 => .nx δ2
  | none => .stuck) := rfl
@[simp] theorem mSrc_e (o : DEnv → R Opd) (f : D → Option (List D)) (δ : DEnv) : mSrc o f δ = ((o δ).bind fun o δ1 => srcOf f δ1 o) := rfl
@[simp] theorem oT_e (i : Nat) (δ : DEnv) : oT i δ = (match δ[i]? with
  | some (some d) => .ok (.p i d id) (δ.set i none)
  | _ => .stuck) := rfl
theorem mSrcA_e (m : DEnv → R (List Opd)) (f : List D → Option (List D)) (δ : DEnv) : mSrcA m f δ = ((m δ).bind fun os δ1 => match gets os δ1, fins os δ1 with
  | some ds, some δ2 => match f ds with
    | some xs => .ok (xs, some) δ2
    | none => .stuck
  | _, _ => .stuck) := rfl
@[simp] theorem mYes_e (δ : DEnv) : mYes  δ = (.ok true δ) := rfl
@[simp] theorem mStore_e (v : DEnv → R D) (o : DEnv → R Opd) (i : DEnv → R D) (f : D → D → D → Option D) (δ : DEnv) : mStore v o i f δ = ((v δ).thn fun dv δ1 => (o δ1).thn fun x δ2 => (i δ2).thn fun di δ3 => match x.get δ3 with
  | some a => match f a di dv with
    | some a' => match x.upd a' δ3 with
      | some δ4 => .nx δ4
      | none => .stuck
    | none => .stuck
  | none => .stuck) := rfl
@[simp] theorem mMut_e (o : DEnv → R Opd) (args : DEnv → R (List Opd)) (f : D → List D → Option (D × D)) (δ : DEnv) : mMut o args f δ = ((o δ).bind fun x δ1 => match x.get δ1 with
  | some (.lst _) => (args δ1).bind fun os δ2 => match x.get δ2, gets os δ2 with
    | some a, some ds => match f a ds with
      | some r => match x.upd r.2 δ2 with
        | some δ3 => .ok r.1 δ3
        | none => .stuck
      | none => .stuck
    | _, _ => .stuck
  | _ => .stuck) := rfl
@[simp] theorem mOp1_e (a : DEnv → R Opd) (f : D → Option D) (δ : DEnv) : mOp1 a f δ = ((mOpN (mCons a mNil) (un1 f)) δ) := rfl
@[simp] theorem mOp2_e (a b : DEnv → R Opd) (f : D → D → Option D) (δ : DEnv) : mOp2 a b f δ = ((mOpN (mCons a (mCons b mNil)) (un2 f)) δ) := rfl
theorem mFor_e (src : Src) (tg : Tg) (body : DEnv → SR) (δ : DEnv) : mFor src tg body δ = ((src δ).thn fun x δ1 => finR x.2 (dFor tg body x.1 δ1)) := rfl
theorem mLc_e (src : Src) (tg : Tg) (cond : DEnv → R Bool) (elt : DEnv → R D) (own : List Nat) (δ : DEnv) : mLc src tg cond elt own δ = ((src δ).bind fun x δ1 => if x.1.length ≤ sizeLine then (dLc tg cond elt own x.1 (wipeD δ1 own)).bind (finLc x.2 δ1 own)
  else .stuck) := rfl
@[simp] theorem oIx_e (o : DEnv → R Opd) (m : DEnv → R D) (δ : DEnv) : oIx o m δ = ((o δ).bind fun x δ1 => (m δ1).bind fun k δ2 => match x.get δ2, k with
  | some (.lst ds), .int z => match ixN ds.length z with
    | some j => match ds[j]? with
      | some d => match x with
        | .s i => .ok (.p i d fun d' => .lst (ds.set j d')) (δ2.set i none)
        | .p i _ g => .ok (.p i d fun d' => g (.lst (ds.set j d'))) δ2
        | .v _ => .stuck
      | none => .stuck
    | none => .stuck
  | _, _ => .stuck) := rfl
@[simp] theorem mCall_e (f : Fn) (io : List Bool) (m : DEnv → R (List Opd)) (δ : DEnv) : mCall f io m δ = ((m δ).bind fun os δ1 => match takeO os δ1 with
  | some (ds, δ2) => match f ds with
    | .ok d es => match putO io os es δ2 with
      | some δ3 => .ok d δ3
      | none => .stuck
    | .exc c es => match putO io os es δ2 with
      | some δ3 => .exc c δ3
      | none => .stuck
    | .stuck => .stuck
  | none => .stuck) := rfl
@[simp] theorem mkF_e (n : Nat) (io : List Bool) (body : DEnv → SR) (ds : List D) : mkF n io body ds = (match body (ds.map some ++ List.replicate n none) with
  | .rt d δ => match outs io δ with
    | some es => .ok d es
    | none => .stuck
  | .nx δ => match outs io δ with
    | some es => .ok .non es
    | none => .stuck
  | .exc c δ => match outs io δ with
    | some es => .exc c es
    | none => .stuck
  | _ => .stuck) := rfl
@[simp] theorem bNo_e (δ : DEnv) : bNo  δ = (.ok none δ) := rfl
@[simp] theorem bAt_e (m : DEnv → R D) (δ : DEnv) : bAt m δ = ((m δ).bind fun d δ' => match d with
  | .int i => .ok (some i) δ'
  | _ => .stuck) := rfl
@[simp] theorem mSl_e (o : DEnv → R Opd) (lo hi : DEnv → R (Option Int)) (δ : DEnv) : mSl o lo hi δ = ((o δ).bind fun x δ1 => (lo δ1).bind fun l δ2 => (hi δ2).bind fun h δ3 => match x.get δ3, x.fin δ3 with
  | some d, some δ4 => .of (sliceD d l h) δ4
  | _, _ => .stuck) := rfl
@[simp] theorem mRaise_e (c : Str) (δ : DEnv) : mRaise c δ = (.exc c δ) := rfl
@[simp] theorem mMutP_e (i : Nat) (mb : DEnv → R D) (args : DEnv → R (List Opd)) (f : D → List D → Option (D × D)) (δ : DEnv) : mMutP i mb args f δ = (match (δ[i]?).join with
 | none => .stuck
 | some _ => (mb δ).bind fun k δ1 => match (δ1[i]?).join, k with
  | some (.lst ds), .int z => match ixN ds.length z with
    | some j => match ds[j]? with
      | some (.lst _) => (args δ1).bind fun os δ2 => match (δ2[i]?).join, gets os δ2 with
        | some (.lst ds2), some xs => match ds2[j]? with
          | some a => match f a xs with
            | some r => .ok r.1 (δ2.set i (some (.lst (ds2.set j r.2))))
            | none => .stuck
          | none => .stuck
        | _, _ => .stuck
      | _ => .stuck
    | none => .stuck
  | _, _ => .stuck) := rfl
@[simp] theorem mLenIx_e (i : Nat) (mb : DEnv → R D) (δ : DEnv) : mLenIx i mb δ = (match (δ[i]?).join with
 | none => .stuck
 | some _ => (mb δ).bind fun k δ1 => match (δ1[i]?).join, k with
  | some (.lst ds), .int z => match ixN ds.length z with
    | some j => match ds[j]? with
      | some (.lst xs) => .ok (.int xs.length) δ1
      | _ => .stuck
    | none => .stuck
  | _, _ => .stuck) := rfl
@[simp] theorem mBin_e (a b : DEnv → R D) (f : D → D → Option D) (δ : DEnv) : mBin a b f δ = ((a δ).bind fun x δ1 => (b δ1).bind fun y δ2 => .of (f x y) δ2) := rfl
@[simp] theorem ixLD_e (ds : List D) (i : Int) : ixLD (.lst ds) (.int i) = atI ds i := rfl
@[simp] theorem ixTD_e (j : Nat) (ds : List D) (i : Int) : ixTD j (.tup ds) (.int i) = if ixN ds.length i = some j then ds[j]? else none := rfl
@[simp] theorem catD_e (xs ys : List D) : catD (.lst xs) (.lst ys) = (if xs.length + ys.length ≤ sizeLine then some (.lst (xs ++ ys)) else none) := rfl
theorem mSrcA_ok {m : DEnv → R (List Opd)} {f : List D → Option (List D)} {δ δ1 δ2 : DEnv} {os : List Opd} {ds xs : List D} (h : m δ = .ok os δ1) (hg : gets os δ1 = some ds) (hf : fins os δ1 = some δ2) (hx : f ds = some xs) : mSrcA m f δ = .ok (xs, some) δ2 := by
  rw [mSrcA_e, h, R.bind_ok]
  simp only [hg, hf, hx]
theorem range1_ok (a : Int) (h1 : -1000000 < a) (h2 : a < 1000000) : range1D [.int a] = some (rgItems 0 1 a.toNat) := by
  unfold range1D
  have h : nb a 4611686018427387903 = true := nb_iff.mpr ⟨by omega, by omega⟩
  exact if_pos h
theorem range2_ok (a b : Int) (h1 : -1000000 < a) (h2 : a < 1000000) (h3 : -1000000 < b) (h4 : b < 1000000) : range2D [.int a, .int b] = some (rgItems a 1 (b - a).toNat) := by
  unfold range2D
  have h : nb a 4611686018427387903 = true ∧ nb b 4611686018427387903 = true := ⟨nb_iff.mpr ⟨by omega, by omega⟩, nb_iff.mpr ⟨by omega, by omega⟩⟩
  exact if_pos h
theorem range3_ok (a b : Int) (h1 : -1000000 < a) (h2 : a < 1000000) (h3 : -1000000 < b) (h4 : b < 1000000) : range3D [.int a, .int b, .int (-1)] = some (rgItems a (-1) (a - b).toNat) := by
  unfold range3D
  have h : (-1 : Int) = -1 ∧ nb a 4611686018427387903 = true ∧ nb b 4611686018427387903 = true := ⟨rfl, nb_iff.mpr ⟨by omega, by omega⟩, nb_iff.mpr ⟨by omega, by omega⟩⟩
  exact if_pos h
@[simp] theorem gets_nil (δ : DEnv) : gets [] δ = some [] := rfl
@[simp] theorem gets_cons (o : Opd) (r : List Opd) (δ : DEnv) : gets (o :: r) δ = (match o.get δ, gets r δ with
  | some d, some ds => some (d :: ds)
  | _, _ => none) := rfl
@[simp] theorem fins_nil (δ : DEnv) : fins [] δ = some δ := rfl
@[simp] theorem fins_cons (o : Opd) (r : List Opd) (δ : DEnv) : fins (o :: r) δ = (match o.fin δ with
  | some δ' => fins r δ'
  | none => none) := rfl
@[simp] theorem get_v (d : D) (δ : DEnv) : (Opd.v d).get δ = some d := rfl
@[simp] theorem get_s (i : Nat) (δ : DEnv) : (Opd.s i).get δ = (δ[i]?).join := rfl
@[simp] theorem get_p (i : Nat) (d : D) (g : D → D) (δ : DEnv) : (Opd.p i d g).get δ = some d := rfl
@[simp] theorem fin_v (d : D) (δ : DEnv) : (Opd.v d).fin δ = some δ := rfl
@[simp] theorem fin_s (i : Nat) (δ : DEnv) : (Opd.s i).fin δ = some δ := rfl
@[simp] theorem fin_p (i : Nat) (d : D) (g : D → D) (δ : DEnv) : (Opd.p i d g).fin δ = (match δ[i]? with
  | some none => some (δ.set i (some (g d)))
  | _ => none) := rfl
@[simp] theorem upd_v (d a : D) (δ : DEnv) : (Opd.v d).upd a δ = some δ := rfl
@[simp] theorem upd_s (i : Nat) (a : D) (δ : DEnv) : (Opd.s i).upd a δ = (match δ[i]? with
  | some (some _) => some (δ.set i (some a))
  | _ => none) := rfl
@[simp] theorem upd_p (i : Nat) (d a : D) (g : D → D) (δ : DEnv) : (Opd.p i d g).upd a δ = (match δ[i]? with
  | some none => some (δ.set i (some (g a)))
  | _ => none) := rfl
@[simp] theorem un1_e (f : D → Option D) (a : D) : un1 f [a] = f a := rfl
@[simp] theorem un2_e (f : D → D → Option D) (a b : D) : un2 f [a, b] = f a b := rfl
@[simp] theorem uNil_e (δ : DEnv) : uNil [] δ = some δ := rfl
@[simp] theorem uCons_e (a : Tg) (r : List D → DEnv → Option DEnv) (d : D) (ds : List D) (δ : DEnv) : uCons a r (d :: ds) δ = (match a d δ with
  | some δ' => r ds δ'
  | none => none) := rfl
@[simp] theorem tUnp_t (n : Nat) (r : List D → DEnv → Option DEnv) (ds : List D) (δ : DEnv) : tUnp n r (.tup ds) δ = (if ds.length = n then r ds δ else none) := rfl
@[simp] theorem tUnp_l (n : Nat) (r : List D → DEnv → Option DEnv) (ds : List D) (δ : DEnv) : tUnp n r (.lst ds) δ = (if ds.length = n then r ds δ else none) := rfl
@[simp] theorem srcOf_v (f : D → Option (List D)) (δ : DEnv) (d : D) : srcOf f δ (.v d) = (match f d with
  | some ds => .ok (ds, some) δ
  | none => .stuck) := rfl
@[simp] theorem srcOf_p (f : D → Option (List D)) (δ : DEnv) (i : Nat) (d : D) (g : D → D) : srcOf f δ (.p i d g) = (match f d with
  | some ds => .ok (ds, fun δ2 => (Opd.p i d g).fin δ2) δ
  | none => .stuck) := rfl
@[simp] theorem finR_nx (f : Fin) (δ : DEnv) : finR f (.nx δ) = (match f δ with
  | some δ' => .nx δ'
  | none => .stuck) := rfl
@[simp] theorem finR_rt (f : Fin) (d : D) (δ : DEnv) : finR f (.rt d δ) = .rt d δ := rfl
@[simp] theorem finR_exc (f : Fin) (c : Str) (δ : DEnv) : finR f (.exc c δ) = .exc c δ := rfl
@[simp] theorem takeO_nil (δ : DEnv) : takeO [] δ = some ([], δ) := rfl
@[simp] theorem takeO_v (d : D) (r : List Opd) (δ : DEnv) : takeO (.v d :: r) δ = (match takeO r δ with
  | some (ds, δ') => some (d :: ds, δ')
  | none => none) := rfl
@[simp] theorem takeO_s (i : Nat) (r : List Opd) (δ : DEnv) : takeO (.s i :: r) δ = (match δ[i]? with
  | some (some d) => match takeO r (δ.set i none) with
    | some (ds, δ') => some (d :: ds, δ')
    | none => none
  | _ => none) := rfl
@[simp] theorem putO_nil (os : List Opd) (es : List D) (δ : DEnv) : putO [] os es δ = some δ := rfl
@[simp] theorem putO_f (io : List Bool) (o : Opd) (os : List Opd) (es : List D) (δ : DEnv) : putO (false :: io) (o :: os) es δ = putO io os es δ := by cases o <;> rfl
@[simp] theorem putO_s (io : List Bool) (i : Nat) (os : List Opd) (e : D) (es : List D) (δ : DEnv) : putO (true :: io) (.s i :: os) (e :: es) δ = (match δ[i]? with
  | some none => putO io os es (δ.set i (some e))
  | _ => none) := rfl
@[simp] theorem putO_v (io : List Bool) (d : D) (os : List Opd) (e : D) (es : List D) (δ : DEnv) : putO (true :: io) (.v d :: os) (e :: es) δ = putO io os es δ := rfl
@[simp] theorem outs_nil (δ : DEnv) : outs [] δ = some [] := rfl
@[simp] theorem outs_t (io : List Bool) (d : D) (δ : DEnv) : outs (true :: io) (some d :: δ) = (match outs io δ with
  | some ds => some (d :: ds)
  | none => none) := rfl
@[simp] theorem outs_f (io : List Bool) (o : Option D) (δ : DEnv) : outs (false :: io) (o :: δ) = outs io δ := rfl
@[simp] theorem seqD_l (ds : List D) : seqD (.lst ds) = some ds := rfl
@[simp] theorem seqD_t (ds : List D) : seqD (.tup ds) = some ds := rfl
@[simp] theorem seqD_s (ns : List Int) : seqD (.scr ns) = some (ns.map D.int) := rfl
@[simp] theorem revD_l (ds : List D) : revD (.lst ds) = some ds.reverse := rfl
@[simp] theorem enumD_l (ds : List D) : enumD (.lst ds) = some (enumFrom 0 ds) := rfl
@[simp] theorem setF_e (xs : List D) (k : Int) (v : D) : setF (.lst xs) (.int k) v = (match ixN xs.length k with
  | some j => some (.lst (xs.set j v))
  | none => none) := rfl
@[simp] theorem appendF_e (xs : List D) (d : D) : appendF (.lst xs) [d] = (if xs.length < sizeLine then some (.non, .lst (xs ++ [d])) else none) := rfl
@[simp] theorem extendF_e (xs ys : List D) : extendF (.lst xs) [.lst ys] = (if xs.length + ys.length ≤ sizeLine then some (.non, .lst (xs ++ ys)) else none) := rfl
@[simp] theorem ii_e (f : Int → Int → Option Int) (i j : Int) : ii f (.int i) (.int j) = (f i j).map D.int := rfl
@[simp] theorem subD_e (i j : Int) : subD (.int i) (.int j) = some (.int (i - j)) := rfl
@[simp] theorem addD_i (i j : Int) : addD (.int i) (.int j) = some (.int (i + j)) := rfl
@[simp] theorem addD_l (xs ys : List D) : addD (.lst xs) (.lst ys) = (if xs.length + ys.length ≤ sizeLine then some (.lst (xs ++ ys)) else none) := rfl
@[simp] theorem mulD_e (i j : Int) : mulD (.int i) (.int j) = (if mulOk i j = true then some (.int (i * j)) else none) := rfl
@[simp] theorem fdivD_e (i j : Int) : fdivD (.int i) (.int j) = if 0 < j ∧ j < 1073741824 then some (.int (i / j)) else none := by
  show (if 0 < j ∧ nb j 1073741823 = true then some (i / j) else none : Option Int).map D.int = _
  by_cases h : 0 < j ∧ j < 1073741824
  · rw [if_pos h, if_pos ⟨h.1, nb_iff.mpr ⟨by omega, by omega⟩⟩]
    rfl
  · rw [if_neg h, if_neg (fun z => h ⟨z.1, by have := nb_iff.mp z.2; omega⟩)]
    rfl
@[simp] theorem modD_e (i j : Int) : modD (.int i) (.int j) = if 0 < j then some (.int (i % j)) else none := by
  show (if 0 < j then some (i % j) else none : Option Int).map D.int = _
  split <;> rfl
@[simp] theorem negD_e (i : Int) : negD (.int i) = some (.int (-i)) := rfl
@[simp] theorem ltD_e (i j : Int) : ltD (.int i) (.int j) = some (.bl (decide (i < j))) := rfl
@[simp] theorem leD_e (i j : Int) : leD (.int i) (.int j) = some (.bl (decide (i ≤ j))) := rfl
@[simp] theorem gtD_e (i j : Int) : gtD (.int i) (.int j) = some (.bl (decide (j < i))) := rfl
@[simp] theorem geD_e (i j : Int) : geD (.int i) (.int j) = some (.bl (decide (j ≤ i))) := rfl
@[simp] theorem isND_e (a : D) : isND a .non = some (.bl a.isNon) := rfl
@[simp] theorem notND_e (a : D) : notND a .non = some (.bl (!a.isNon)) := rfl
@[simp] theorem isNon_n : D.isNon .non = true := rfl
@[simp] theorem isNon_i (i : Int) : D.isNon (.int i) = false := rfl
@[simp] theorem isNon_l (i : List D) : D.isNon (.lst i) = false := rfl
@[simp] theorem lenD_l (ds : List D) : lenD [.lst ds] = some (.int ds.length) := rfl
@[simp] theorem lenD_t (ds : List D) : lenD [.tup ds] = some (.int ds.length) := rfl
@[simp] theorem lenD_s (z : Str) : lenD [.str z] = (if z.length ≤ sizeLine then some (.int z.length) else none) := rfl
@[simp] theorem lenD_c (ns : List Int) : lenD [.scr ns] = some (.int ns.length) := rfl
@[simp] theorem intD_i (i : Int) : intD [.int i] = some (.int i) := rfl
@[simp] theorem intD_b (b : Bool) : intD [.bl b] = some (.int (if b then 1 else 0)) := rfl
@[simp] theorem max2D_e (i j : Int) : max2D [.int i, .int j] = some (.int (if j > i then j else i)) := rfl
@[simp] theorem min2D_e (i j : Int) : min2D [.int i, .int j] = some (.int (if j < i then j else i)) := rfl
@[simp] theorem listD_l (ds : List D) : listD [.lst ds] = some (.lst ds) := rfl
@[simp] theorem ixD_l (ds : List D) (i : Int) : ixD (.lst ds) (.int i) = atI ds i := rfl
@[simp] theorem ixD_t (ds : List D) (i : Int) : ixD (.tup ds) (.int i) = atI ds i := rfl
@[simp] theorem ixD_s (ns : List Int) (i : Int) : ixD (.scr ns) (.int i) = (atI ns i).map D.int := rfl
@[simp] theorem R.noX_ok {α : Type} (a : α) (δ : DEnv) : (R.ok a δ).noX = .ok a δ := rfl
@[simp] theorem wipe_nil (δ : DEnv) : wipeD δ [] = δ := rfl
@[simp] theorem wipe_cons (δ : DEnv) (v : Nat) (vs : List Nat) : wipeD δ (v :: vs) = (wipeD δ vs).set v none := rfl
@[simp] theorem rest_nil (δ0 δ : DEnv) : restD δ0 [] δ = δ := rfl
@[simp] theorem rest_cons (δ0 δ : DEnv) (v : Nat) (vs : List Nat) : restD δ0 (v :: vs) δ = (restD δ0 vs δ).set v ((δ0[v]?).join) := rfl
@[simp] theorem finLc_e (fin : Fin) (δ1 : DEnv) (own : List Nat) (xs : List D) (δ2 : DEnv) : finLc fin δ1 own xs δ2 = (match fin (restD δ1 own δ2) with
  | some δ3 => .ok (.lst xs) δ3
  | none => .stuck) := rfl
@[simp] theorem isiD_str (t : Ty) (x : Str) : isiD t (.str x) = some (.bl (Ty.isa .str t)) := rfl
@[simp] theorem isiD_int (t : Ty) (x : Int) : isiD t (.int x) = some (.bl (Ty.isa .int t)) := rfl
@[simp] theorem isiD_bl (t : Ty) (x : Bool) : isiD t (.bl x) = some (.bl (Ty.isa .bool t)) := rfl
@[simp] theorem isiD_lst (t : Ty) (x : List D) : isiD t (.lst x) = some (.bl (Ty.isa .list t)) := rfl
@[simp] theorem isiD_tup (t : Ty) (x : List D) : isiD t (.tup x) = some (.bl (Ty.isa .tuple t)) := rfl
@[simp] theorem isiD_non (t : Ty) : isiD t .non = some (.bl (Ty.isa .non t)) := rfl
/-! ### places -/
theorem ixN_nat {n : Nat} {k : Nat} (h : k < n) : ixN n (k : Int) = some k := by
  unfold ixN
  rw [if_pos (by omega), if_pos (by omega)]
  simp
theorem atI_nat {α : Type} {xs : List α} {k : Nat} (h : k < xs.length) : atI xs (k : Int) = xs[k]? := by
  unfold atI
  rw [ixN_nat h]
  rfl
theorem ixN_int {n : Nat} {k : Int} (h0 : 0 ≤ k) (h : k < n) : ixN n k = some k.toNat := by
  unfold ixN
  rw [if_pos h0, if_pos (by omega)]
theorem atI_k {α : Type} {xs : List α} {k : Nat} (i : Int) (e : i = (k : Int)) (h : k < xs.length) : atI xs i = xs[k]? := by
  subst e
  exact atI_nat h
@[simp] theorem atI_0 {α : Type} (a : α) (xs : List α) : atI (a :: xs) 0 = some a := atI_k (k := 0) 0 rfl (by simp)
@[simp] theorem atI_1 {α : Type} (a b : α) (xs : List α) : atI (a :: b :: xs) 1 = some b := atI_k (k := 1) 1 rfl (by simp)
@[simp] theorem atI_2 {α : Type} (a b c : α) (xs : List α) : atI (a :: b :: c :: xs) 2 = some c := atI_k (k := 2) 2 rfl (by simp)
@[simp] theorem atI_3 {α : Type} (a b c d : α) (xs : List α) : atI (a :: b :: c :: d :: xs) 3 = some d := atI_k (k := 3) 3 rfl (by simp)
/-! ### for -/
theorem dFor_run {tg : Tg} {body : DEnv → SR} (I : Nat → DEnv → Prop) : ∀ (xs : List D) (k : Nat) (δ : DEnv), I k δ →
    (∀ i d δ, xs[i]? = some d → I (k + i) δ → ∃ δ1 δ2, tg d δ = some δ1 ∧ (body δ1 = .nx δ2 ∨ body δ1 = .ct δ2) ∧ I (k + i + 1) δ2) → ∃ δ', dFor tg body xs δ = .nx δ' ∧ I (k + xs.length) δ'
  | [], k, δ, h0, _ => ⟨δ, rfl, h0⟩
  | d :: ds, k, δ, h0, hs => by
    obtain ⟨δ1, δ2, e1, e2, h1⟩ := hs 0 d δ rfl h0
    obtain ⟨δ', e3, h3⟩ := dFor_run I ds (k + 1) δ2 h1 fun i d' δ hd hi => by
      have := hs (i + 1) d' δ (by simpa using hd) (by rw [show k + (i + 1) = k + 1 + i by omega]; exact hi)
      rw [show k + (i + 1) + 1 = k + 1 + i + 1 by omega] at this
      exact this
    refine ⟨δ', ?_, by rw [List.length_cons, show k + (ds.length + 1) = k + 1 + ds.length by omega]; exact h3⟩
    rw [dFor, e1]
    rcases e2 with e2 | e2 <;> (dsimp only; rw [e2]; exact e3)
/-- .. each round may end the def -/
theorem dFor_same {tg : Tg} {body : DEnv → SR} {δ : DEnv} (I : DEnv → Prop) : ∀ (xs : List D) (δ : DEnv), I δ → (∀ d δ, d ∈ xs → I δ → ∃ δ1 δ2, tg d δ = some δ1 ∧ (body δ1 = .nx δ2 ∨ body δ1 = .ct δ2) ∧ I δ2) → ∃ δ', dFor tg body xs δ = .nx δ' ∧ I δ'
  | [], δ, h0, _ => ⟨δ, rfl, h0⟩
  | d :: ds, δ, h0, hs => by
    obtain ⟨δ1, δ2, e1, e2, h1⟩ := hs d δ (List.mem_cons_self ..) h0
    obtain ⟨δ', e3, h3⟩ := dFor_same (δ := δ2) I ds δ2 h1 fun d' δ hd hi => hs d' δ (List.mem_cons_of_mem _ hd) hi
    refine ⟨δ', ?_, h3⟩
    rw [dFor, e1]
    rcases e2 with e2 | e2 <;> (dsimp only; rw [e2]; exact e3)
/-! ### while -/
theorem dWhile_run {c : DEnv → R Bool} {body : DEnv → SR} (I : Nat → DEnv → Prop) (Z : DEnv → Prop) (hs : ∀ m δ, I m δ → (∃ δ1, c δ = .ok false δ1 ∧ Z δ1) ∨ ∃ δ1 δ2 m', m' < m ∧ c δ = .ok true δ1 ∧ (body δ1 = .nx δ2 ∨ body δ1 = .ct δ2) ∧ I m' δ2) :
    ∀ (m fuel : Nat) (δ : DEnv), m < fuel → I m δ → ∃ δ', dWhile c body fuel δ = .nx δ' ∧ Z δ' := by
  intro m
  induction m using Nat.strongRecOn with
  | ind m ih =>
    intro fuel δ hf h
    cases fuel with
    | zero => omega
    | succ f =>
      rcases hs m δ h with ⟨δ1, e, z⟩ | ⟨δ1, δ2, m', lt, e, eb, h2⟩
      · exact ⟨δ1, by rw [dWhile, e]; rfl, z⟩
      · obtain ⟨δ', e3, z⟩ := ih m' lt f δ2 (by omega) h2
        refine ⟨δ', ?_, z⟩
        rw [dWhile, e]
        rcases eb with eb | eb <;> (simp only [R.thn_ok, if_true]; rw [eb]; exact e3)
/-! ### comprehensions -/
theorem set_none {δ : DEnv} {i : Nat} (h : δ[i]? = some none) (o : Option D) : (δ.set i o).set i none = δ := by
  rw [List.set_set]
  obtain ⟨h1, h2⟩ := List.getElem?_eq_some_iff.mp h
  rw [← h2]
  exact List.set_getElem_self h1
/-- pure ones over one name -/
theorem dLc_pure {cond : DEnv → R Bool} {elt : DEnv → R D} {i : Nat} {p : D → Bool} {g : D → D} {δ : DEnv} (h : δ[i]? = some none) : ∀ (xs : List D),
    (∀ d ∈ xs, cond (δ.set i (some d)) = .ok (p d) (δ.set i (some d))) → (∀ d ∈ xs, p d = true → elt (δ.set i (some d)) = .ok (g d) (δ.set i (some d))) → dLc (tName i) cond elt [i] xs δ = .ok ((xs.filter p).map g) δ
  | [], _, _ => rfl
  | d :: ds, hc, he => by
    have ih := dLc_pure h ds (fun d hd => hc d (List.mem_cons_of_mem _ hd)) (fun d hd => he d (List.mem_cons_of_mem _ hd))
    rw [dLc]
    have e0 : tName i d δ = some (δ.set i (some d)) := rfl
    rw [e0]
    dsimp only
    rw [hc d (List.mem_cons_self ..)]
    have w : wipeD (δ.set i (some d)) [i] = δ := set_none h _
    cases z : p d with
    | true =>
      show ((elt (δ.set i (some d))).noX).bind _ = _
      rw [he d (List.mem_cons_self ..) z]
      show (dLc (tName i) cond elt [i] ds (wipeD (δ.set i (some d)) [i])).bind _ = _
      rw [w, ih, R.bind_ok, List.filter_cons_of_pos z]
      rfl
    | false =>
      show dLc (tName i) cond elt [i] ds (wipeD (δ.set i (some d)) [i]) = _
      rw [w, ih, List.filter_cons_of_neg (by rw [z]; simp)]
inductive All2 {α β : Type} (Y : α → β → Prop) : List α → List β → Prop
  | nil : All2 Y [] []
  | cons {a : α} {b : β} {as : List α} {bs : List β} : Y a b → All2 Y as bs → All2 Y (a :: as) (b :: bs)
/-- without a condition, the state carried along -/
theorem dLc_st {elt : DEnv → R D} {i : Nat} (I : DEnv → Prop) {Y : D → D → Prop} (hI : ∀ δ, I δ → δ[i]? = some none) : ∀ (xs : List D) (δ : DEnv), I δ →
    (∀ d ∈ xs, ∀ δ, I δ → ∃ y δ', elt (δ.set i (some d)) = .ok y δ' ∧ I (δ'.set i none) ∧ Y d y) → ∃ ys δ', dLc (tName i) mYes elt [i] xs δ = .ok ys δ' ∧ I δ' ∧ All2 Y xs ys
  | [], δ, h, _ => ⟨[], δ, rfl, h, .nil⟩
  | d :: ds, δ, h, he => by
    obtain ⟨y, δ1, e1, h1, hy⟩ := he d (List.mem_cons_self ..) δ h
    obtain ⟨ys, δ2, e2, h2, hys⟩ := dLc_st I hI ds (δ1.set i none) h1 fun d hd => he d (List.mem_cons_of_mem _ hd)
    refine ⟨y :: ys, δ2, ?_, h2, .cons hy hys⟩
    rw [dLc]
    have e0 : tName i d δ = some (δ.set i (some d)) := rfl
    rw [e0]
    show ((elt (δ.set i (some d))).noX).bind _ = _
    rw [e1]
    show (dLc (tName i) mYes elt [i] ds (δ1.set i none)).bind _ = _
    rw [e2]
    rfl
/-! ### equality -/
def D.eqOk (d : D) : Bool := match d.py with
  | some p => SeqAt.shaped p
  | none => false
end DM
set_option maxRecDepth 100000
/-! Plain Lean, part 17: trees, and the law's drawn rows. -/
namespace DM
open PySem PySem.Spec L2

/-- a tree: its letter's sign, its children -/
inductive T where
  | node (x : Nat) (cs : List T)
mutual
def T.dat : T → D
  | .node x cs => .tup [.str ⟨#[x]⟩, .lst (T.dats cs)]
def T.dats : List T → List D
  | [] => []
  | t :: ts => T.dat t :: T.dats ts
def T.size : T → Nat
  | .node _ cs => T.sizes cs + 1
def T.sizes : List T → Nat
  | [] => 0
  | t :: ts => T.size t + T.sizes ts
/-- how many parts stand one beneath the other -/
def T.dep : T → Nat
  | .node _ cs => T.deps cs + 1
def T.deps : List T → Nat
  | [] => 0
  | t :: ts => max (T.dep t) (T.deps ts)
def T.good : T → Prop
  | .node x cs => (97 ≤ x ∧ x ≤ 122) ∧ T.goods cs
def T.goods : List T → Prop
  | [] => True
  | t :: ts => T.good t ∧ T.goods ts
end
theorem T.dats_map : ∀ ts : List T, T.dats ts = ts.map T.dat
  | [] => rfl
  | t :: ts => by rw [T.dats, T.dats_map ts, List.map_cons]
theorem T.goods_iff : ∀ {ts : List T}, T.goods ts ↔ ∀ t ∈ ts, t.good
  | [] => by simp [T.goods]
  | t :: ts => by simp [T.goods, T.goods_iff (ts := ts)]
theorem T.dep_le_deps : ∀ {ts : List T} {t : T}, t ∈ ts → t.dep ≤ T.deps ts
  | a :: ts, t, h => by
    rw [T.deps]
    rcases List.mem_cons.mp h with rfl | h
    · exact Nat.le_max_left _ _
    · exact Nat.le_trans (T.dep_le_deps h) (Nat.le_max_right _ _)
theorem T.size_le_sizes : ∀ {ts : List T} {t : T}, t ∈ ts → t.size ≤ T.sizes ts
  | a :: ts, t, h => by
    rw [T.sizes]
    rcases List.mem_cons.mp h with rfl | h
    · omega
    · have := T.size_le_sizes h
      omega
theorem T.size_pos (t : T) : 0 < t.size := by
  cases t
  rw [T.size]
  omega
theorem T.len_le_sizes : ∀ (ts : List T), ts.length ≤ T.sizes ts
  | [] => Nat.le_refl _
  | t :: ts => by
    have := T.len_le_sizes ts
    have := t.size_pos
    rw [List.length_cons, T.sizes]
    omega

/-- a put at place p -/
def insAt {α : Type} (xs : List α) (p : Nat) (a : α) : List α := xs.take p ++ a :: xs.drop p
theorem mem_insAt {α : Type} {xs : List α} {p : Nat} {a x : α} (h : x ∈ insAt xs p a) : x = a ∨ x ∈ xs := by
  unfold insAt at h
  rcases List.mem_append.mp h with h | h
  · exact .inr (List.mem_of_mem_take h)
  · rcases List.mem_cons.mp h with h | h
    · exact .inl h
    · exact .inr (List.mem_of_mem_drop h)
theorem map_insAt {α β : Type} (f : α → β) (xs : List α) (p : Nat) (a : α) : (insAt xs p a).map f = insAt (xs.map f) p (f a) := by
  unfold insAt
  rw [List.map_append, List.map_cons, List.map_take, List.map_drop]
/-! ### labels: the rows as they are drawn -/
inductive LT where
  | node (i : Nat) (cs : List LT)
def LT.lab : LT → Nat
  | .node i _ => i
mutual
def LT.cnt (x : Nat) : LT → Nat
  | .node i cs => (if i = x then 1 else 0) + LT.cnts x cs
def LT.cnts (x : Nat) : List LT → Nat
  | [] => 0
  | t :: ts => LT.cnt x t + LT.cnts x ts
def LT.size : LT → Nat
  | .node _ cs => LT.sizes cs + 1
def LT.sizes : List LT → Nat
  | [] => 0
  | t :: ts => LT.size t + LT.sizes ts
/-- a leaf k put at place p among the children of those labelled h -/
def LT.ins (h p k : Nat) : LT → LT
  | .node i cs => .node i (if i = h then insAt (LT.inss h p k cs) p (.node k []) else LT.inss h p k cs)
def LT.inss (h p k : Nat) : List LT → List LT
  | [] => []
  | t :: ts => LT.ins h p k t :: LT.inss h p k ts
/-- the rows tell of it -/
def LT.row (rs : List (List Nat)) : LT → Prop
  | .node i cs => rs[i]? = some (LT.labs cs) ∧ LT.rows rs cs
def LT.rows (rs : List (List Nat)) : List LT → Prop
  | [] => True
  | t :: ts => LT.row rs t ∧ LT.rows rs ts
def LT.labs : List LT → List Nat
  | [] => []
  | t :: ts => LT.lab t :: LT.labs ts
/-- the depths tell of it -/
def LT.dp (ds : List Nat) (d : Nat) : LT → Prop
  | .node i cs => ds[i]? = some d ∧ LT.dps ds (d + 1) cs
def LT.dps (ds : List Nat) (d : Nat) : List LT → Prop
  | [] => True
  | t :: ts => LT.dp ds d t ∧ LT.dps ds d ts
end
theorem LT.inss_map (h p k : Nat) : ∀ ts : List LT, LT.inss h p k ts = ts.map (LT.ins h p k)
  | [] => by rw [LT.inss]; rfl
  | t :: ts => by rw [LT.inss, LT.inss_map h p k ts, List.map_cons]
theorem LT.labs_map : ∀ ts : List LT, LT.labs ts = ts.map LT.lab
  | [] => by rw [LT.labs]; rfl
  | t :: ts => by rw [LT.labs, LT.labs_map ts, List.map_cons]
theorem LT.ins_lab (h p k : Nat) (t : LT) : (LT.ins h p k t).lab = t.lab := by
  cases t
  rw [LT.ins]
  rfl
theorem LT.inss_labs (h p k : Nat) (ts : List LT) : LT.labs (LT.inss h p k ts) = LT.labs ts := by
  rw [LT.labs_map, LT.inss_map, LT.labs_map, List.map_map]
  exact List.map_congr_left fun t _ => LT.ins_lab h p k t
theorem LT.sizes_app : ∀ (a b : List LT), LT.sizes (a ++ b) = LT.sizes a + LT.sizes b
  | [], b => by rw [List.nil_append, LT.sizes]; omega
  | t :: a, b => by rw [List.cons_append, LT.sizes, LT.sizes, LT.sizes_app a b]; omega
theorem LT.cnts_app (x : Nat) : ∀ (a b : List LT), LT.cnts x (a ++ b) = LT.cnts x a + LT.cnts x b
  | [], b => by rw [List.nil_append, LT.cnts]; omega
  | t :: a, b => by rw [List.cons_append, LT.cnts, LT.cnts, LT.cnts_app x a b]; omega
theorem LT.sizes_insertIdx (t : LT) (p : Nat) (ts : List LT) : LT.sizes (insAt ts p t) = LT.sizes ts + t.size := by
  unfold insAt
  have e := LT.sizes_app (ts.take p) (ts.drop p)
  rw [List.take_append_drop] at e
  rw [LT.sizes_app, LT.sizes]
  omega
theorem LT.cnts_insertIdx (x : Nat) (t : LT) (p : Nat) (ts : List LT) : LT.cnts x (insAt ts p t) = LT.cnts x ts + LT.cnt x t := by
  unfold insAt
  have e := LT.cnts_app x (ts.take p) (ts.drop p)
  rw [List.take_append_drop] at e
  rw [LT.cnts_app, LT.cnts]
  omega
theorem LT.rows_iff {rs : List (List Nat)} : ∀ {ts : List LT}, LT.rows rs ts ↔ ∀ t ∈ ts, LT.row rs t
  | [] => by simp [LT.rows]
  | t :: ts => by simp [LT.rows, LT.rows_iff (ts := ts)]
theorem LT.dps_iff {ds : List Nat} {d : Nat} : ∀ {ts : List LT}, LT.dps ds d ts ↔ ∀ t ∈ ts, LT.dp ds d t
  | [] => by simp [LT.dps]
  | t :: ts => by simp [LT.dps, LT.dps_iff (ts := ts)]
section
variable {h p k : Nat} {rs : List (List Nat)} {ds : List Nat} {row : List Nat}
mutual
/-- the count of parts -/
theorem LT.size_ins (hr : rs[h]? = some row) : ∀ t : LT, LT.row rs t → (LT.ins h p k t).size = t.size + LT.cnt h t
  | .node i cs, g => by
    rw [LT.row] at g
    have ih := LT.sizes_ins hr cs g.2
    rw [LT.ins, LT.size, LT.size, LT.cnt]
    by_cases e : i = h
    · subst e
      rw [hr] at g
      rw [if_pos rfl, if_pos rfl, LT.sizes_insertIdx, ih, LT.size, LT.sizes]
      omega
    · rw [if_neg e, if_neg e, ih]
      omega
theorem LT.sizes_ins (hr : rs[h]? = some row) : ∀ ts : List LT, LT.rows rs ts → LT.sizes (LT.inss h p k ts) = LT.sizes ts + LT.cnts h ts
  | [], _ => by rw [LT.inss, LT.cnts]; rfl
  | t :: ts, g => by
    rw [LT.rows] at g
    rw [LT.inss, LT.sizes, LT.sizes, LT.cnts, LT.size_ins hr t g.1, LT.sizes_ins hr ts g.2]
    omega
end
mutual
theorem LT.cnt_ins (x : Nat) (hr : rs[h]? = some row) : ∀ t : LT, LT.row rs t → LT.cnt x (LT.ins h p k t) = LT.cnt x t + (if k = x then LT.cnt h t else 0)
  | .node i cs, g => by
    rw [LT.row] at g
    have ih := LT.cnts_ins x hr cs g.2
    rw [LT.ins, LT.cnt, LT.cnt, LT.cnt]
    by_cases e : i = h
    · subst e
      rw [hr] at g
      rw [if_pos (rfl : i = i), LT.cnts_insertIdx, ih, LT.cnt, LT.cnts, if_pos (rfl : i = i)]
      by_cases e2 : k = x
      · simp only [e2, if_true]
        omega
      · simp only [e2, if_false]
        omega
    · rw [if_neg e, if_neg e, ih]
      by_cases e2 : k = x
      · simp only [e2, if_true]
        omega
      · simp only [e2, if_false]
        omega
theorem LT.cnts_ins (x : Nat) (hr : rs[h]? = some row) : ∀ ts : List LT, LT.rows rs ts → LT.cnts x (LT.inss h p k ts) = LT.cnts x ts + (if k = x then LT.cnts h ts else 0)
  | [], _ => by rw [LT.inss, LT.cnts, LT.cnts]; simp
  | t :: ts, g => by
    rw [LT.rows] at g
    rw [LT.inss, LT.cnts, LT.cnts, LT.cnts, LT.cnt_ins x hr t g.1, LT.cnts_ins x hr ts g.2]
    by_cases e2 : k = x
    · simp only [e2, if_true]
      omega
    · simp only [e2, if_false]
      omega
end
/-- the rows behind the insertion -/
def insRows (rs : List (List Nat)) (h p k : Nat) : List (List Nat) := (rs.set h (insAt (rs.getD h []) p k)) ++ [[]]
theorem insRows_self (hr : rs[h]? = some row) : (insRows rs h p k)[h]? = some (insAt row p k) := by
  have hlt : h < rs.length := (List.getElem?_eq_some_iff.mp hr).1
  unfold insRows
  rw [List.getElem?_append_left (by simpa using hlt), List.getElem?_set_self hlt, List.getD_eq_getElem?_getD, hr]
  rfl
theorem insRows_ne {i : Nat} (hlt : i < rs.length) (ne : i ≠ h) : (insRows rs h p k)[i]? = rs[i]? := by
  unfold insRows
  rw [List.getElem?_append_left (by simpa using hlt), List.getElem?_set_ne (fun e => ne e.symm)]
theorem insRows_last (hk : rs.length = k) : (insRows rs h p k)[k]? = some [] := by
  unfold insRows
  rw [List.getElem?_append_right (by simp [hk])]
  simp [hk]
theorem LT.insertIdx_labs (t : LT) : ∀ (p : Nat) (ts : List LT), LT.labs (insAt ts p t) = insAt (LT.labs ts) p t.lab := fun p ts => by
  rw [LT.labs_map, LT.labs_map, map_insAt]
mutual
theorem LT.row_ins (hr : rs[h]? = some row) (hk : rs.length = k) : ∀ t : LT, LT.row rs t → LT.row (insRows rs h p k) (LT.ins h p k t)
  | .node i cs, g => by
    rw [LT.row] at g
    have ih := LT.rows_ins hr hk cs g.2
    rw [LT.ins, LT.row]
    by_cases e : i = h
    · subst e
      rw [if_pos rfl]
      have e1 : row = LT.labs cs := by
        rw [hr] at g
        exact Option.some.inj g.1
      refine ⟨by rw [insRows_self hr, LT.insertIdx_labs, LT.inss_labs, e1]; rfl, LT.rows_iff.mpr fun t ht => ?_⟩
      rcases mem_insAt ht with h1 | h1
      · subst h1
        rw [LT.row]
        exact ⟨by rw [insRows_last hk, LT.labs], by rw [LT.rows]; trivial⟩
      · exact LT.rows_iff.mp ih t h1
    · rw [if_neg e]
      refine ⟨?_, ih⟩
      rw [insRows_ne (List.getElem?_eq_some_iff.mp g.1).1 e, g.1, LT.inss_labs]
theorem LT.rows_ins (hr : rs[h]? = some row) (hk : rs.length = k) : ∀ ts : List LT, LT.rows rs ts → LT.rows (insRows rs h p k) (LT.inss h p k ts)
  | [], _ => by rw [LT.inss, LT.rows]; trivial
  | t :: ts, g => by
    rw [LT.rows] at g
    rw [LT.inss, LT.rows]
    exact ⟨LT.row_ins hr hk t g.1, LT.rows_ins hr hk ts g.2⟩
end
mutual
theorem LT.dp_ins {dh : Nat} (hd : ds[h]? = some dh) (hk : ds.length = k) : ∀ (t : LT) (d : Nat), LT.dp ds d t → LT.dp (ds ++ [dh + 1]) d (LT.ins h p k t)
  | .node i cs, d, g => by
    rw [LT.dp] at g
    have ih := LT.dps_ins hd hk cs (d + 1) g.2
    rw [LT.ins, LT.dp]
    have hi : i < ds.length := (List.getElem?_eq_some_iff.mp g.1).1
    refine ⟨by rw [List.getElem?_append_left hi]; exact g.1, ?_⟩
    by_cases e : i = h
    · subst e
      rw [if_pos rfl]
      have e1 : dh = d := by
        rw [hd] at g
        exact Option.some.inj g.1
      refine LT.dps_iff.mpr fun t ht => ?_
      rcases mem_insAt ht with h1 | h1
      · subst h1
        rw [LT.dp]
        exact ⟨by rw [← hk, List.getElem?_append_right (Nat.le_refl _), e1]; simp, by rw [LT.dps]; trivial⟩
      · exact LT.dps_iff.mp ih t h1
    · rw [if_neg e]
      exact ih
theorem LT.dps_ins {dh : Nat} (hd : ds[h]? = some dh) (hk : ds.length = k) : ∀ (ts : List LT) (d : Nat), LT.dps ds d ts → LT.dps (ds ++ [dh + 1]) d (LT.inss h p k ts)
  | [], _, _ => by rw [LT.inss, LT.dps]; trivial
  | t :: ts, d, g => by
    rw [LT.dps] at g
    rw [LT.inss, LT.dps]
    exact ⟨LT.dp_ins hd hk t d g.1, LT.dps_ins hd hk ts d g.2⟩
end
end
/-- rows and depths of k parts, as drawn -/
structure Drawn (k : Nat) (rs : List (List Nat)) (ds : List Nat) : Prop where
  lr : rs.length = k
  ld : ds.length = k
  le : ∀ d ∈ ds, 1 ≤ d ∧ d ≤ 20
  h0 : ds[0]? = some 1
  tr : ∃ t : LT, t.lab = 0 ∧ LT.row rs t ∧ LT.dp ds 1 t ∧ t.size = k ∧ ∀ x, LT.cnt x t = if x < k then 1 else 0
theorem Drawn.one : Drawn 1 [[]] [1] := by
  refine ⟨rfl, rfl, by simp, rfl, .node 0 [], rfl, ?_, ?_, ?_, fun x => ?_⟩
  · rw [LT.row, LT.labs, LT.rows]; exact ⟨rfl, trivial⟩
  · rw [LT.dp, LT.dps]; exact ⟨rfl, trivial⟩
  · rw [LT.size, LT.sizes]
  · rw [LT.cnt, LT.cnts]
    by_cases e : x = 0
    · subst e; simp
    · rw [if_neg (by omega), if_neg (by omega)]
theorem Drawn.step {k : Nat} {rs : List (List Nat)} {ds : List Nat} (g : Drawn k rs ds) {h p dh : Nat} {row : List Nat} (hr : rs[h]? = some row) (hd : ds[h]? = some dh) (h19 : dh ≤ 19) : Drawn (k + 1) (insRows rs h p k) (ds ++ [dh + 1]) := by
  obtain ⟨t, t0, t1, t2, t3, t4⟩ := g.tr
  have hh : h < k := by
    have := (List.getElem?_eq_some_iff.mp hr).1
    rw [g.lr] at this
    exact this
  refine ⟨by unfold insRows; simp [g.lr], by simp [g.ld], fun d hd' => ?_, ?_, LT.ins h p k t, by rw [LT.ins_lab, t0], LT.row_ins hr g.lr t t1, LT.dp_ins hd g.ld t 1 t2, ?_, fun x => ?_⟩
  · rcases List.mem_append.mp hd' with h1 | h1
    · exact g.le d h1
    · simp at h1
      omega
  · rw [List.getElem?_append_left (by rw [g.ld]; omega)]
    exact g.h0
  · rw [LT.size_ins hr t t1, t3, t4, if_pos hh]
  · rw [LT.cnt_ins x hr t t1, t4, t4, if_pos hh]
    by_cases e : k = x
    · subst e; simp
    · rw [if_neg e]
      by_cases e2 : x < k
      · rw [if_pos e2, if_pos (by omega)]
      · rw [if_neg e2, if_neg (by omega)]
end DM
set_option maxRecDepth 100000
/-! Plain Lean, part 18: a tree's parts by number. -/
namespace DM
open PySem PySem.Spec L2
/-- a part's letter, the number of the part above, its children's numbers, how many parts it has -/
structure Rw where
  x : Nat
  up : Option Nat
  kids : List Nat
  sz : Nat
mutual
def T.parts : T → List T
  | .node x cs => .node x cs :: T.partss cs
def T.partss : List T → List T
  | [] => []
  | t :: ts => T.parts t ++ T.partss ts
def T.pre (b : Nat) (a : Option Nat) : T → List Rw
  | .node x cs => ⟨x, a, T.starts (b + 1) cs, T.sizes cs + 1⟩ :: T.pres (b + 1) (some b) cs
def T.pres (b : Nat) (a : Option Nat) : List T → List Rw
  | [] => []
  | t :: ts => T.pre b a t ++ T.pres (b + t.size) a ts
def T.starts (b : Nat) : List T → List Nat
  | [] => []
  | t :: ts => b :: T.starts (b + t.size) ts
end
mutual
theorem T.parts_len : ∀ t : T, t.parts.length = t.size
  | .node x cs => by rw [T.parts, T.size, List.length_cons, T.partss_len cs]
theorem T.partss_len : ∀ ts : List T, (T.partss ts).length = T.sizes ts
  | [] => by rw [T.partss, T.sizes]; rfl
  | t :: ts => by rw [T.partss, T.sizes, List.length_append, T.parts_len t, T.partss_len ts]
end
mutual
theorem T.pre_len : ∀ (t : T) (b : Nat) (a : Option Nat), (T.pre b a t).length = t.size
  | .node x cs, b, a => by rw [T.pre, T.size, List.length_cons, T.pres_len cs]
theorem T.pres_len : ∀ (ts : List T) (b : Nat) (a : Option Nat), (T.pres b a ts).length = T.sizes ts
  | [], b, a => by rw [T.pres, T.sizes]; rfl
  | t :: ts, b, a => by rw [T.pres, T.sizes, List.length_append, T.pre_len t, T.pres_len ts]
end
/-! ### the law's and the program's way through a tree -/
def addKids (R : List Rw) (j : Nat) (ks : List Nat) : List Rw := R.modify j fun r => { r with kids := r.kids ++ ks }
def addKid (R : List Rw) (a : Option Nat) (b : Nat) : List Rw := match a with
  | none => R
  | some j => addKids R j [b]
mutual
def T.proc (R : List Rw) (a : Option Nat) : T → List Rw
  | .node x cs => T.procs (addKid R a R.length ++ [⟨x, a, [], T.sizes cs + 1⟩]) (some R.length) cs
def T.procs (R : List Rw) (a : Option Nat) : List T → List Rw
  | [] => R
  | t :: ts => T.procs (T.proc R a t) a ts
end
theorem addKids_len (R : List Rw) (j : Nat) (ks : List Nat) : (addKids R j ks).length = R.length := by unfold addKids; simp
theorem addKid_len (R : List Rw) (a : Option Nat) (b : Nat) : (addKid R a b).length = R.length := by
  cases a with
  | none => rfl
  | some j => exact addKids_len R j [b]
theorem addKids_nil (R : List Rw) (j : Nat) : addKids R j [] = R := by
  unfold addKids
  apply List.ext_getElem?
  intro i
  rw [List.getElem?_modify]
  cases R[i]? with
  | none => simp
  | some r => by_cases h : j = i <;> simp [h]
theorem addKids_add (R : List Rw) (j : Nat) (ks ls : List Nat) : addKids (addKids R j ks) j ls = addKids R j (ks ++ ls) := by
  unfold addKids
  apply List.ext_getElem?
  intro i
  rw [List.getElem?_modify, List.getElem?_modify, List.getElem?_modify]
  cases R[i]? with
  | none => simp
  | some r => by_cases h : j = i <;> simp [h]
theorem addKids_left (A B : List Rw) {j : Nat} (ks : List Nat) (h : j < A.length) : addKids (A ++ B) j ks = addKids A j ks ++ B := by
  unfold addKids
  apply List.ext_getElem?
  intro i
  rw [List.getElem?_modify]
  by_cases hi : i < A.length
  · rw [List.getElem?_append_left hi, List.getElem?_append_left (by simpa using hi), List.getElem?_modify]
  · have hi' : A.length ≤ i := Nat.le_of_not_lt hi
    rw [List.getElem?_append_right hi', List.getElem?_append_right (by simpa using hi')]
    have : ¬ j = i := by omega
    simp [this]
theorem addKids_last (A : List Rw) (r : Rw) (ks : List Nat) : addKids (A ++ [r]) A.length ks = A ++ [{ r with kids := r.kids ++ ks }] := by
  unfold addKids
  apply List.ext_getElem?
  intro i
  rw [List.getElem?_modify]
  by_cases hi : i < A.length
  · rw [List.getElem?_append_left hi, List.getElem?_append_left hi]
    have : ¬ A.length = i := by omega
    simp [this]
  · by_cases h2 : i = A.length
    · subst h2
      simp
    · rw [List.getElem?_eq_none (by simp; omega), List.getElem?_eq_none (by simp; omega)]
      rfl
mutual
theorem T.proc_eq : ∀ (t : T) (R : List Rw) (a : Option Nat), (∀ j, a = some j → j < R.length) → T.proc R a t = addKid R a R.length ++ T.pre R.length a t
  | .node x cs, R, a, h => by
    have e : (addKid R a R.length).length = R.length := addKid_len R a R.length
    rw [T.proc, T.pre]
    have ih := T.procs_eq cs (addKid R a R.length ++ [⟨x, a, [], T.sizes cs + 1⟩]) R.length (by simp [e])
    rw [ih]
    have e2 : addKids (addKid R a R.length ++ [⟨x, a, [], T.sizes cs + 1⟩]) R.length (T.starts (addKid R a R.length ++ [(⟨x, a, [], T.sizes cs + 1⟩ : Rw)]).length cs) = addKid R a R.length ++ [⟨x, a, T.starts (R.length + 1) cs, T.sizes cs + 1⟩] := by
      have := addKids_last (addKid R a R.length) ⟨x, a, [], T.sizes cs + 1⟩ (T.starts (R.length + 1) cs)
      rw [e] at this
      rw [List.length_append, e]
      exact this
    rw [e2, List.length_append, e, List.append_assoc]
    rfl
theorem T.procs_eq : ∀ (ts : List T) (R : List Rw) (j : Nat), j < R.length → T.procs R (some j) ts = addKids R j (T.starts R.length ts) ++ T.pres R.length (some j) ts
  | [], R, j, h => by rw [T.procs, T.starts, T.pres, addKids_nil, List.append_nil]
  | t :: ts, R, j, h => by
    rw [T.procs, T.starts, T.pres, T.proc_eq t R (some j) (fun i e => by cases e; exact h)]
    have e1 : (addKid R (some j) R.length).length = R.length := addKid_len R (some j) R.length
    have e2 : (addKid R (some j) R.length ++ T.pre R.length (some j) t).length = R.length + t.size := by rw [List.length_append, e1, T.pre_len]
    rw [T.procs_eq ts _ j (by rw [e2]; omega), e2, addKids_left _ _ _ (by rw [e1]; exact h)]
    show addKids (addKids R j [R.length]) j _ ++ _ ++ _ = _
    rw [addKids_add, List.append_assoc]
    rfl
end
/-- the number of a part: all of it -/
theorem T.proc_nil (t : T) : T.proc [] none t = T.pre 0 none t := by
  rw [T.proc_eq t [] none (fun j e => by cases e)]
  rfl
end DM
set_option maxRecDepth 100000
/-! Plain Lean, part 19: when data are compared. -/
namespace DM
open PySem PySem.Spec L2
mutual
theorem eqv_refl : ∀ p : PyData, p.canLay0 = true → PyData.eqv p p = true
  | .none, _ => by rw [PyData.eqv]
  | .bool b, _ => by rw [PyData.eqv]; simp
  | .int i, _ => by rw [PyData.eqv]; simp
  | .str x, _ => by rw [PyData.eqv]; simp
  | .list xs, h => by rw [PyData.eqv]; exact eqvAll_refl xs (by rw [PyData.canLay0] at h; exact h)
  | .tuple xs, h => by rw [PyData.eqv]; exact eqvAll_refl xs (by rw [PyData.canLay0] at h; exact h)
  | .dict _, h => by rw [PyData.canLay0] at h; cases h
theorem eqvAll_refl : ∀ ps : List PyData, PyData.canLayAll0 ps = true → PyData.eqvAll ps ps = true
  | [], _ => by rw [PyData.eqvAll]
  | p :: ps, h => by
    rw [PyData.canLayAll0, Bool.and_eq_true] at h
    rw [PyData.eqvAll, eqv_refl p h.1, eqvAll_refl ps h.2]
    rfl
end
/-- data that may be compared, k deep at most -/
def Cmp (d : D) (k : Nat) : Prop := ∃ p, d.py = some p ∧ p.canLay0 = true ∧ p.depth ≤ k
def CmpL (ds : List D) (k : Nat) : Prop := ∃ ps, D.pyAll ds = some ps ∧ PyData.canLayAll0 ps = true ∧ PyData.depthAll ps ≤ k
theorem CmpL.nil (k : Nat) : CmpL [] k := ⟨[], by rw [D.pyAll], by rw [PyData.canLayAll0], by rw [PyData.depthAll]; omega⟩
theorem CmpL.cons {d : D} {ds : List D} {k : Nat} (h : Cmp d k) (t : CmpL ds k) : CmpL (d :: ds) k := by
  obtain ⟨p, a, b, c⟩ := h
  obtain ⟨ps, a', b', c'⟩ := t
  exact ⟨p :: ps, by rw [D.pyAll, a, a'], by rw [PyData.canLayAll0, b, b']; rfl, by rw [PyData.depthAll]; omega⟩
theorem CmpL.all {k : Nat} : ∀ {ds : List D}, (∀ d ∈ ds, Cmp d k) → CmpL ds k
  | [], _ => .nil k
  | d :: ds, h => .cons (h d (List.mem_cons_self ..)) (CmpL.all fun d hd => h d (List.mem_cons_of_mem _ hd))
theorem CmpL.lst {ds : List D} {k : Nat} (h : CmpL ds k) : Cmp (.lst ds) (k + 1) := by
  obtain ⟨ps, a, b, c⟩ := h
  exact ⟨.list ps, by rw [D.py, a]; rfl, by rw [PyData.canLay0]; exact b, by rw [PyData.depth]; omega⟩
theorem CmpL.tup {ds : List D} {k : Nat} (h : CmpL ds k) : Cmp (.tup ds) (k + 1) := by
  obtain ⟨ps, a, b, c⟩ := h
  exact ⟨.tuple ps, by rw [D.py, a]; rfl, by rw [PyData.canLay0]; exact b, by rw [PyData.depth]; omega⟩
theorem Cmp.mono {d : D} {k l : Nat} (h : Cmp d k) (e : k ≤ l) : Cmp d l := by
  obtain ⟨p, a, b, c⟩ := h
  exact ⟨p, a, b, by omega⟩
theorem Cmp.int (i : Int) (k : Nat) : Cmp (.int i) k := ⟨.int i, by rw [D.py], by rw [PyData.canLay0], by rw [PyData.depth]; omega⟩
theorem Cmp.non (k : Nat) : Cmp .non k := ⟨.none, by rw [D.py], by rw [PyData.canLay0], by rw [PyData.depth]; omega⟩
theorem Cmp.bl (b : Bool) (k : Nat) : Cmp (.bl b) k := ⟨.bool b, by rw [D.py], by rw [PyData.canLay0], by rw [PyData.depth]; omega⟩
theorem Cmp.sign {x : Nat} (h : x < 1114112) (k : Nat) : Cmp (.str ⟨#[x]⟩) k := ⟨.str ⟨#[x]⟩, by rw [D.py], by rw [PyData.canLay0]; unfold PyData.strOk; simp; exact h, by rw [PyData.depth]; omega⟩
mutual
theorem Cmp.tree : ∀ t : T, t.good → Cmp t.dat (2 * t.dep)
  | .node x cs, h => by
    rw [T.good] at h
    rw [T.dat, T.dep]
    have h1 := (CmpL.trees cs h.2).lst
    exact (CmpL.tup (k := 2 * T.deps cs + 1) (.cons (.sign (by omega) _) (.cons h1 (.nil _)))).mono (by omega)
theorem CmpL.trees : ∀ ts : List T, T.goods ts → CmpL (T.dats ts) (2 * T.deps ts)
  | [], _ => by rw [T.dats]; exact .nil _
  | t :: ts, h => by
    rw [T.goods] at h
    rw [T.dats, T.deps]
    have h2 := CmpL.trees ts h.2
    obtain ⟨ps, a, b, c⟩ := h2
    exact .cons ((Cmp.tree t h.1).mono (by omega)) ⟨ps, a, b, by omega⟩
end
theorem shaped_of {p : PyData} {k : Nat} (a : p.canLay0 = true) (b : p.depth ≤ k) (h : k ≤ 64) : SeqAt.shaped p = true := by
  unfold SeqAt.shaped
  rw [a, decide_eq_true (Nat.le_trans b h)]
  rfl
/-- the same data are equal -/
theorem eqD0_refl {d : D} {k : Nat} (h : Cmp d k) (hk : k ≤ 64) : eqD0 d d = some (.bl true) := by
  obtain ⟨p, a, b, c⟩ := h
  unfold eqD0 eqvD
  rw [a]
  have s := shaped_of b c hk
  simp only [s, and_self, if_true, eqv_refl p b]
  rfl
theorem neD0_refl {d : D} {k : Nat} (h : Cmp d k) (hk : k ≤ 64) : neD0 d d = some (.bl false) := by
  obtain ⟨p, a, b, c⟩ := h
  unfold neD0 eqvD
  rw [a]
  have s := shaped_of b c hk
  simp only [s, and_self, if_true, eqv_refl p b]
  rfl
theorem eqD_refl {d : D} {k : Nat} (h : Cmp d k) (hk : k ≤ 64) : eqD d d = some (.bl true) := by
  have e := eqD0_refl h hk
  unfold eqD
  cases d <;> simp_all
theorem neD_refl {d : D} {k : Nat} (h : Cmp d k) (hk : k ≤ 64) : neD d d = some (.bl false) := by
  have e := neD0_refl h hk
  unfold neD
  cases d <;> simp_all
theorem cmp_l0 : Cmp (.lst []) 1 := CmpL.lst (k := 0) (.nil 0)
/-- a list against the empty one -/
@[simp] theorem eqD_n (ds : List D) : eqD (.lst ds) (.lst []) = some (.bl ds.isEmpty) := by
  cases ds with
  | nil => exact eqD_refl cmp_l0 (by omega)
  | cons d ds => rfl
@[simp] theorem neD_n (ds : List D) : neD (.lst ds) (.lst []) = some (.bl (!ds.isEmpty)) := by
  cases ds with
  | nil => exact neD_refl cmp_l0 (by omega)
  | cons d ds => rfl
theorem neD_nil {ds : List D} {k : Nat} (h : Cmp (.lst ds) k) (hk : k ≤ 64) : neD (.lst ds) (.lst []) = some (.bl (!ds.isEmpty)) := neD_n ds
@[simp] theorem eqD_i (i j : Int) : eqD (.int i) (.int j) = some (.bl (decide (i = j))) := rfl
@[simp] theorem eqD_s (i j : Str) : eqD (.str i) (.str j) = some (.bl (decide (i = j))) := rfl
@[simp] theorem neD_s (i j : Str) : neD (.str i) (.str j) = some (.bl (!decide (i = j))) := rfl
@[simp] theorem eqD_b (i j : Bool) : eqD (.bl i) (.bl j) = some (.bl (decide (i = j))) := rfl
end DM
set_option maxRecDepth 100000
/-! Plain Lean, part 20: facts of the rows of a tree. -/
namespace DM
open PySem PySem.Spec L2
theorem T.starts_ne {b : Nat} {t : T} {ts : List T} : T.starts b (t :: ts) ≠ [] := by rw [T.starts]; simp
/-- the last of some trees side by side -/
theorem T.pres_root : ∀ (ts : List T) (b : Nat) (a : Option Nat), ts ≠ [] → ∃ l q, (T.starts b ts).getLast? = some (b + l) ∧ (T.pres b a ts)[l]? = some q ∧ l + q.sz = T.sizes ts
  | [], _, _, h => absurd rfl h
  | [.node x cs], b, a, _ => by
    refine ⟨0, ⟨x, a, T.starts (b + 1) cs, T.sizes cs + 1⟩, by rw [T.starts, T.starts]; rfl, ?_, ?_⟩
    · rw [T.pres, T.pres, T.pre]; rfl
    · rw [T.sizes, T.sizes, T.size]
      show 0 + (T.sizes cs + 1) = _
      omega
  | t :: u :: ts, b, a, _ => by
    obtain ⟨l, q, e1, e2, e3⟩ := T.pres_root (u :: ts) (b + t.size) a (by simp)
    refine ⟨t.size + l, q, ?_, ?_, ?_⟩
    · rw [T.starts]
      rw [T.starts] at e1 ⊢
      rw [List.getLast?_cons_cons, e1, Nat.add_assoc]
    · rw [T.pres, List.getElem?_append_right (by rw [T.pre_len]; omega), T.pre_len, Nat.add_sub_cancel_left]
      exact e2
    · rw [T.sizes]
      omega
/-- of a row among P at b: no children and one part, or the last child's parts end where its own do -/
def LastOk (b : Nat) (P : List Rw) (i : Nat) (r : Rw) : Prop := (r.kids = [] ∧ r.sz = 1) ∨ ∃ l q, r.kids.getLast? = some (b + l) ∧ i < l ∧ P[l]? = some q ∧ l + q.sz = i + r.sz
mutual
theorem T.pre_last : ∀ (t : T) (b : Nat) (a : Option Nat) (i : Nat) (r : Rw), (T.pre b a t)[i]? = some r → LastOk b (T.pre b a t) i r
  | .node x cs, b, a, 0, r, h => by
    rw [T.pre] at h ⊢
    cases h
    cases cs with
    | nil => exact .inl ⟨by rw [T.starts], by rw [T.sizes]⟩
    | cons c cs =>
      obtain ⟨l, q, e1, e2, e3⟩ := T.pres_root (c :: cs) (b + 1) (some b) (by simp)
      refine .inr ⟨l + 1, q, ?_, by omega, by simpa using e2, ?_⟩
      · show (T.starts (b + 1) (c :: cs)).getLast? = _
        rw [e1, show b + 1 + l = b + (l + 1) by omega]
      · show l + 1 + q.sz = 0 + (T.sizes (c :: cs) + 1)
        omega
  | .node x cs, b, a, i + 1, r, h => by
    rw [T.pre] at h ⊢
    have h' : (T.pres (b + 1) (some b) cs)[i]? = some r := by simpa using h
    rcases T.pres_last cs (b + 1) (some b) i r h' with h1 | ⟨l, q, e1, e2, e3, e4⟩
    · exact .inl h1
    · exact .inr ⟨l + 1, q, by rw [e1, show b + 1 + l = b + (l + 1) by omega], by omega, by simpa using e3, by omega⟩
theorem T.pres_last : ∀ (ts : List T) (b : Nat) (a : Option Nat) (i : Nat) (r : Rw), (T.pres b a ts)[i]? = some r → LastOk b (T.pres b a ts) i r
  | [], b, a, i, r, h => by rw [T.pres] at h; simp at h
  | t :: ts, b, a, i, r, h => by
    rw [T.pres] at h ⊢
    by_cases hi : i < (T.pre b a t).length
    · rw [List.getElem?_append_left hi] at h
      rcases T.pre_last t b a i r h with h1 | ⟨l, q, e1, e2, e3, e4⟩
      · exact .inl h1
      · exact .inr ⟨l, q, e1, e2, by rw [List.getElem?_append_left (List.getElem?_eq_some_iff.mp e3).1]; exact e3, e4⟩
    · rw [List.getElem?_append_right (Nat.le_of_not_lt hi), T.pre_len] at h
      rw [T.pre_len] at hi
      rcases T.pres_last ts (b + t.size) a (i - t.size) r h with h1 | ⟨l, q, e1, e2, e3, e4⟩
      · exact .inl h1
      · exact .inr ⟨t.size + l, q, by rw [e1, Nat.add_assoc], by omega, by rw [List.getElem?_append_right (by rw [T.pre_len]; omega), T.pre_len, Nat.add_sub_cancel_left]; exact e3, by omega⟩
end
end DM
set_option maxRecDepth 100000
/-! Plain Lean, part 21: the rows of a part among a tree's rows. -/
namespace DM
open PySem PySem.Spec L2
mutual
theorem T.parts_sub : ∀ (t : T) {k i : Nat} {p q : T}, t.parts[k]? = some p → p.parts[i]? = some q → t.parts[k + i]? = some q
  | .node x cs, 0, i, p, q, h, g => by
    rw [T.parts] at h
    simp at h
    subst h
    rw [Nat.zero_add]
    exact g
  | .node x cs, k + 1, i, p, q, h, g => by
    rw [T.parts] at h ⊢
    rw [List.getElem?_cons_succ] at h
    rw [show k + 1 + i = (k + i) + 1 by omega, List.getElem?_cons_succ]
    exact T.partss_sub cs h g
theorem T.partss_sub : ∀ (ts : List T) {k i : Nat} {p q : T}, (T.partss ts)[k]? = some p → p.parts[i]? = some q → (T.partss ts)[k + i]? = some q
  | [], k, i, p, q, h, g => by rw [T.partss] at h; simp at h
  | t :: ts, k, i, p, q, h, g => by
    rw [T.partss] at h ⊢
    by_cases hk : k < t.parts.length
    · rw [List.getElem?_append_left hk] at h
      have r := T.parts_sub t h g
      rw [List.getElem?_append_left (List.getElem?_eq_some_iff.mp r).1]
      exact r
    · have hk := Nat.le_of_not_lt hk
      rw [List.getElem?_append_right hk] at h
      rw [List.getElem?_append_right (by omega), show k + i - t.parts.length = k - t.parts.length + i by omega]
      exact T.partss_sub ts h g
end
theorem T.part_end {t p : T} {k : Nat} (h : t.parts[k]? = some p) : k + p.size ≤ t.size := by
  have hp := p.size_pos
  have hl : p.size - 1 < p.parts.length := by rw [T.parts_len]; omega
  have r := T.parts_sub t h (List.getElem?_eq_getElem hl)
  have := (List.getElem?_eq_some_iff.mp r).1
  rw [T.parts_len] at this
  omega
mutual
theorem T.parts_dep : ∀ (t : T) {k : Nat} {p : T}, t.parts[k]? = some p → p.dep ≤ t.dep
  | .node x cs, 0, p, h => by
    rw [T.parts] at h
    simp at h
    subst h
    exact Nat.le_refl _
  | .node x cs, k + 1, p, h => by
    rw [T.parts, List.getElem?_cons_succ] at h
    have := T.partss_dep cs h
    rw [T.dep]
    omega
theorem T.partss_dep : ∀ (ts : List T) {k : Nat} {p : T}, (T.partss ts)[k]? = some p → p.dep ≤ T.deps ts
  | [], k, p, h => by rw [T.partss] at h; simp at h
  | t :: ts, k, p, h => by
    rw [T.partss] at h
    rw [T.deps]
    by_cases hk : k < t.parts.length
    · rw [List.getElem?_append_left hk] at h
      have := T.parts_dep t h
      omega
    · rw [List.getElem?_append_right (Nat.le_of_not_lt hk)] at h
      have := T.partss_dep ts h
      omega
end
mutual
theorem T.parts_good : ∀ (t : T), t.good → ∀ p ∈ t.parts, p.good
  | .node x cs, h, p, hp => by
    rw [T.parts] at hp
    rcases List.mem_cons.mp hp with rfl | hp
    · exact h
    · rw [T.good] at h
      exact T.partss_good cs h.2 p hp
theorem T.partss_good : ∀ (ts : List T), T.goods ts → ∀ p ∈ T.partss ts, p.good
  | [], h, p, hp => by rw [T.partss] at hp; simp at hp
  | t :: ts, h, p, hp => by
    rw [T.partss] at hp
    rw [T.goods] at h
    rcases List.mem_append.mp hp with hp | hp
    · exact T.parts_good t h.1 p hp
    · exact T.partss_good ts h.2 p hp
end
mutual
theorem T.pre_at : ∀ (t : T) (b : Nat) (a : Option Nat) {i x : Nat} {cs : List T}, t.parts[i]? = some (.node x cs) → ∃ u, (T.pre b a t)[i]? = some ⟨x, u, T.starts (b + i + 1) cs, T.sizes cs + 1⟩
  | .node y ds, b, a, 0, x, cs, h => by
    rw [T.parts] at h
    simp at h
    obtain ⟨rfl, rfl⟩ := h
    rw [T.pre]
    exact ⟨a, rfl⟩
  | .node y ds, b, a, i + 1, x, cs, h => by
    rw [T.parts, List.getElem?_cons_succ] at h
    rw [T.pre, List.getElem?_cons_succ]
    obtain ⟨u, e⟩ := T.pres_at ds (b + 1) (some b) h
    exact ⟨u, by rw [e, show b + 1 + i + 1 = b + (i + 1) + 1 by omega]⟩
theorem T.pres_at : ∀ (ts : List T) (b : Nat) (a : Option Nat) {i x : Nat} {cs : List T}, (T.partss ts)[i]? = some (.node x cs) → ∃ u, (T.pres b a ts)[i]? = some ⟨x, u, T.starts (b + i + 1) cs, T.sizes cs + 1⟩
  | [], b, a, i, x, cs, h => by rw [T.partss] at h; simp at h
  | t :: ts, b, a, i, x, cs, h => by
    rw [T.partss] at h
    rw [T.pres]
    by_cases hk : i < t.parts.length
    · rw [List.getElem?_append_left hk] at h
      rw [List.getElem?_append_left (by rw [T.pre_len, ← T.parts_len]; exact hk)]
      exact T.pre_at t b a h
    · have hk := Nat.le_of_not_lt hk
      rw [List.getElem?_append_right hk] at h
      rw [List.getElem?_append_right (by rw [T.pre_len, ← T.parts_len]; exact hk), T.pre_len]
      rw [T.parts_len] at h hk
      obtain ⟨u, e⟩ := T.pres_at ts (b + t.size) a h
      exact ⟨u, by rw [e, show b + t.size + (i - t.size) + 1 = b + i + 1 by omega]⟩
end
theorem T.starts_add (d : Nat) : ∀ (ts : List T) (b : Nat), T.starts (b + d) ts = (T.starts b ts).map (· + d)
  | [], b => by rw [T.starts, T.starts]; rfl
  | t :: ts, b => by
    rw [T.starts, T.starts, List.map_cons, show b + d + t.size = b + t.size + d by omega, T.starts_add d ts]
theorem T.starts_len : ∀ (ts : List T) (b : Nat), (T.starts b ts).length = ts.length
  | [], b => by rw [T.starts]; rfl
  | t :: ts, b => by rw [T.starts, List.length_cons, List.length_cons, T.starts_len ts]
/-- the rows of some trees, farther on -/
def Rw.by (d : Nat) (r : Rw) : Rw := { r with up := r.up.map (· + d), kids := r.kids.map (· + d) }
mutual
theorem T.pre_add (d : Nat) : ∀ (t : T) (b : Nat) (a : Option Nat), T.pre (b + d) (a.map (· + d)) t = (T.pre b a t).map (Rw.by d)
  | .node x cs, b, a => by
    have h := T.pres_add d cs (b + 1) (some b)
    rw [T.pre, T.pre, List.map_cons, ← h, show b + d + 1 = b + 1 + d by omega, T.starts_add]
    rfl
theorem T.pres_add (d : Nat) : ∀ (ts : List T) (b : Nat) (a : Option Nat), T.pres (b + d) (a.map (· + d)) ts = (T.pres b a ts).map (Rw.by d)
  | [], b, a => by rw [T.pres, T.pres]; rfl
  | t :: ts, b, a => by
    have h := T.pres_add d ts (b + t.size) a
    rw [T.pres, T.pres, List.map_append, T.pre_add d t, ← h, show b + d + t.size = b + t.size + d by omega]
end
/-- all rows but the first know nothing of what is above the first -/
theorem T.pre_up2 {b : Nat} {a a' : Option Nat} {t : T} {i : Nat} (h : 0 < i) : (T.pre b a t)[i]? = (T.pre b a' t)[i]? := by
  cases t
  obtain ⟨j, rfl⟩ : ∃ j, i = j + 1 := ⟨i - 1, by omega⟩
  rw [T.pre, T.pre, List.getElem?_cons_succ, List.getElem?_cons_succ]
mutual
theorem T.pre_seg : ∀ (t : T) (b : Nat) (a : Option Nat) {k : Nat} {p : T}, t.parts[k]? = some p → ∃ a', ∀ i r, (T.pre (b + k) a' p)[i]? = some r → (T.pre b a t)[k + i]? = some r
  | .node x cs, b, a, 0, p, h => by
    rw [T.parts] at h
    simp at h
    subst h
    exact ⟨a, fun i r e => by rw [Nat.zero_add]; exact e⟩
  | .node x cs, b, a, k + 1, p, h => by
    rw [T.parts, List.getElem?_cons_succ] at h
    obtain ⟨a', e⟩ := T.pres_seg cs (b + 1) (some b) h
    refine ⟨a', fun i r g => ?_⟩
    rw [T.pre, show k + 1 + i = (k + i) + 1 by omega, List.getElem?_cons_succ]
    exact e i r (by rw [show b + 1 + k = b + (k + 1) by omega]; exact g)
theorem T.pres_seg : ∀ (ts : List T) (b : Nat) (a : Option Nat) {k : Nat} {p : T}, (T.partss ts)[k]? = some p → ∃ a', ∀ i r, (T.pre (b + k) a' p)[i]? = some r → (T.pres b a ts)[k + i]? = some r
  | [], b, a, k, p, h => by rw [T.partss] at h; simp at h
  | t :: ts, b, a, k, p, h => by
    rw [T.partss] at h
    by_cases hk : k < t.parts.length
    · rw [List.getElem?_append_left hk] at h
      obtain ⟨a', e⟩ := T.pre_seg t b a h
      refine ⟨a', fun i r g => ?_⟩
      have := e i r g
      rw [T.pres, List.getElem?_append_left (List.getElem?_eq_some_iff.mp this).1]
      exact this
    · have hk := Nat.le_of_not_lt hk
      rw [List.getElem?_append_right hk] at h
      rw [T.parts_len] at h hk
      obtain ⟨a', e⟩ := T.pres_seg ts (b + t.size) a h
      refine ⟨a', fun i r g => ?_⟩
      rw [T.pres, List.getElem?_append_right (by rw [T.pre_len]; omega), T.pre_len, show k + i - t.size = k - t.size + i by omega]
      exact e i r (by rw [show b + t.size + (k - t.size) = b + k by omega]; exact g)
end
mutual
theorem T.pre_some : ∀ (t : T) (b : Nat) (a : Option Nat) {i : Nat} {r : Rw}, (T.pre b a t)[i]? = some r → 0 < i → ∃ u, r.up = some u
  | .node x cs, b, a, 0, r, h, z => by omega
  | .node x cs, b, a, i + 1, r, h, z => by
    rw [T.pre, List.getElem?_cons_succ] at h
    exact T.pres_some cs (b + 1) b h
theorem T.pres_some : ∀ (ts : List T) (b j : Nat) {i : Nat} {r : Rw}, (T.pres b (some j) ts)[i]? = some r → ∃ u, r.up = some u
  | [], b, j, i, r, h => by rw [T.pres] at h; simp at h
  | t :: ts, b, j, i, r, h => by
    rw [T.pres] at h
    by_cases hk : i < (T.pre b (some j) t).length
    · rw [List.getElem?_append_left hk] at h
      rcases Nat.eq_zero_or_pos i with rfl | hi
      · cases t
        rw [T.pre] at h
        simp at h
        subst h
        exact ⟨j, rfl⟩
      · exact T.pre_some t b (some j) h hi
    · rw [List.getElem?_append_right (Nat.le_of_not_lt hk)] at h
      exact T.pres_some ts _ j h
end
/-- what is above a part of a part -/
theorem T.up_sub {t p : T} {k i : Nat} {r : Rw} (h : t.parts[k]? = some p) (hr : (T.pre 0 none p)[i]? = some r) (hi : 0 < i) : ∃ r' u, (T.pre 0 none t)[k + i]? = some r' ∧ r.up = some u ∧ r'.up = some (u + k) := by
  obtain ⟨a', e⟩ := T.pre_seg t 0 none h
  obtain ⟨u, hu⟩ := T.pre_some p 0 none hr hi
  refine ⟨r.by k, u, ?_, hu, by show r.up.map (· + k) = _; rw [hu]; rfl⟩
  refine e i (r.by k) ?_
  rw [T.pre_up2 (a' := (none : Option Nat).map (· + k)) hi, T.pre_add k p 0 none, List.getElem?_map, hr]
  rfl
/-! ### the parts that have a part above them -/
def idxs (b k : Nat) : List Rw → List Nat
  | [] => []
  | r :: rs => if r.up = some k then b :: idxs (b + 1) k rs else idxs (b + 1) k rs
theorem idxs_app (k : Nat) : ∀ (A B : List Rw) (b : Nat), idxs b k (A ++ B) = idxs b k A ++ idxs (b + A.length) k B
  | [], B, b => by simp [idxs]
  | r :: A, B, b => by
    rw [List.cons_append, idxs, idxs, idxs_app k A B, List.length_cons, show b + (A.length + 1) = b + 1 + A.length by omega]
    split <;> rfl
def kidsAt (b k : Nat) (P : List Rw) : List Nat := if b ≤ k then ((P[k - b]?).map Rw.kids).getD [] else []
theorem kidsAt_app (b k : Nat) (A B : List Rw) : kidsAt b k (A ++ B) = kidsAt b k A ++ kidsAt (b + A.length) k B := by
  unfold kidsAt
  by_cases h : b ≤ k
  · rw [if_pos h, if_pos h]
    by_cases h2 : k - b < A.length
    · rw [List.getElem?_append_left h2, if_neg (by omega), List.append_nil]
    · rw [List.getElem?_append_right (by omega), if_pos (by omega), List.getElem?_eq_none (l := A) (by omega), show k - b - A.length = k - (b + A.length) by omega]
      rfl
  · rw [if_neg h, if_neg h, if_neg (by omega)]
    rfl
mutual
theorem T.idxs_pre (k : Nat) : ∀ (t : T) (b : Nat) (a : Option Nat), (∀ j, a = some j → j < b) → idxs b k (T.pre b a t) = (if a = some k then [b] else []) ++ kidsAt b k (T.pre b a t)
  | .node x cs, b, a, h => by
    have ih := T.idxs_pres k cs (b + 1) b (by omega)
    rw [T.pre, idxs, ih]
    have e : (if some b = some k then T.starts (b + 1) cs else []) ++ kidsAt (b + 1) k (T.pres (b + 1) (some b) cs) = kidsAt b k (⟨x, a, T.starts (b + 1) cs, T.sizes cs + 1⟩ :: T.pres (b + 1) (some b) cs) := by
      unfold kidsAt
      by_cases h1 : b = k
      · subst h1
        simp
        intro z
        omega
      · have : ¬ some b = some k := fun z => h1 (Option.some.inj z)
        rw [if_neg this, List.nil_append]
        by_cases h2 : b ≤ k
        · rw [if_pos h2, if_pos (by omega), show k - b = (k - (b + 1)) + 1 by omega, List.getElem?_cons_succ]
        · rw [if_neg h2, if_neg (by omega)]
    rw [e]
    split <;> simp
theorem T.idxs_pres (k : Nat) : ∀ (ts : List T) (b j : Nat), j < b → idxs b k (T.pres b (some j) ts) = (if some j = some k then T.starts b ts else []) ++ kidsAt b k (T.pres b (some j) ts)
  | [], b, j, h => by
    rw [T.pres, T.starts, idxs]
    unfold kidsAt
    simp
  | t :: ts, b, j, h => by
    rw [T.pres, idxs_app, kidsAt_app, T.idxs_pre k t b (some j) (fun i e => by cases e; exact h), T.pre_len, T.idxs_pres k ts (b + t.size) j (by omega), T.starts]
    by_cases e : some j = some k
    · have e' : j = k := Option.some.inj e
      have z1 : kidsAt b k (T.pre b (some j) t) = [] := by
        unfold kidsAt
        rw [if_neg (by omega)]
      have z2 : kidsAt (b + t.size) k (T.pres (b + t.size) (some j) ts) = [] := by
        unfold kidsAt
        rw [if_neg (by omega)]
      rw [z1, z2]
      simp [e]
    · rw [if_neg e, if_neg e, if_neg e]
      simp
end
/-- of a whole tree -/
theorem T.idxs_kids {t : T} {k : Nat} {r : Rw} (h : (T.pre 0 none t)[k]? = some r) : idxs 0 k (T.pre 0 none t) = r.kids := by
  rw [T.idxs_pre k t 0 none (fun j e => by cases e)]
  unfold kidsAt
  simp [h]
theorem idxs_range (k : Nat) : ∀ (Q pre : List Rw), (List.range' pre.length Q.length).filter (fun o => decide (((pre ++ Q)[o]?).bind Rw.up = some k)) = idxs pre.length k Q
  | [], pre => by simp [idxs]
  | r :: Q, pre => by
    have ih := idxs_range k Q (pre ++ [r])
    rw [List.length_append, List.append_assoc] at ih
    simp only [List.length_cons, List.length_nil, Nat.zero_add, List.singleton_append] at ih
    rw [List.length_cons, List.range'_succ, List.filter_cons, idxs, ih]
    have : ((pre ++ r :: Q)[pre.length]?).bind Rw.up = r.up := by simp
    rw [this]
    by_cases e : r.up = some k
    · simp [e]
    · simp [e]
/-- the children's numbers and the children -/
theorem T.starts_parts : ∀ (ts : List T) (pre : List T), All2 (fun s c => (pre ++ T.partss ts)[s]? = some c) (T.starts pre.length ts) ts
  | [], pre => by rw [T.starts]; exact .nil
  | t :: ts, pre => by
    rw [T.starts, T.partss]
    refine .cons ?_ ?_
    · cases t
      rw [T.parts]
      simp
    · have := T.starts_parts ts (pre ++ t.parts)
      rw [List.length_append, T.parts_len, List.append_assoc] at this
      exact this
theorem All2.imp {α β : Type} {Y Z : α → β → Prop} {as : List α} {bs : List β} (h : All2 Y as bs) (k : ∀ a b, Y a b → Z a b) : All2 Z as bs := by
  induction h with
  | nil => exact .nil
  | cons h _ ih => exact .cons (k _ _ h) ih
theorem T.kids_parts {t : T} {k x : Nat} {cs : List T} (h : t.parts[k]? = some (.node x cs)) : All2 (fun s c => t.parts[s]? = some c) (T.starts (k + 1) cs) cs := by
  have e := T.starts_parts cs [.node x cs]
  have e2 : T.starts (k + 1) cs = (T.starts 1 cs).map (· + k) := by rw [show k + 1 = 1 + k by omega, T.starts_add]
  rw [e2]
  clear e2
  have key : ∀ (ss : List Nat) (ds : List T), All2 (fun s c => ([T.node x cs] ++ T.partss cs)[s]? = some c) ss ds → All2 (fun s c => t.parts[s]? = some c) (ss.map (· + k)) ds := by
    intro ss ds a
    induction a with
    | nil => exact .nil
    | cons hh _ ih =>
      refine .cons ?_ ih
      have hp : (T.node x cs).parts = [T.node x cs] ++ T.partss cs := by rw [T.parts]; rfl
      rw [← hp] at hh
      show t.parts[_ + k]? = _
      rw [Nat.add_comm]
      exact T.parts_sub t h hh
  exact key _ _ e
end DM
set_option maxRecDepth 100000
/-! Plain Lean, part 23: slices, rows put together child by child. -/
namespace DM
open PySem PySem.Spec L2
theorem cut_from {α : Type} (xs : List α) (k : Nat) : DM.cut xs (some (k : Int)) none = xs.drop k := by
  unfold DM.cut
  rw [HT.sIx_nat, HT.sIx_none]
  by_cases h : k ≤ xs.length
  · rw [Nat.min_eq_left h]
    exact List.take_of_length_le (by rw [List.length_drop]; omega)
  · rw [Nat.min_eq_right (by omega), List.drop_length, List.drop_of_length_le (by omega), List.take_nil]
theorem cut_to {α : Type} (xs : List α) (k : Nat) : DM.cut xs none (some (k : Int)) = xs.take k := by
  unfold DM.cut
  rw [HT.sIx_nat, HT.sIx_none, List.drop_zero]
  by_cases h : k ≤ xs.length
  · rw [Nat.min_eq_left h, Nat.sub_zero]
  · rw [Nat.min_eq_right (by omega), Nat.sub_zero, List.take_length, List.take_of_length_le (by omega)]
@[simp] theorem sliceD_lst (ds : List D) (lo hi : Option Int) : sliceD (.lst ds) lo hi = some (.lst (DM.cut ds lo hi)) := rfl
theorem cut_1 {α : Type} (x : α) (xs : List α) : DM.cut (x :: xs) (some 1) none = xs := cut_from (x :: xs) 1
theorem T.pres_app (a : Option Nat) : ∀ (xs ys : List T) (b : Nat), T.pres b a (xs ++ ys) = T.pres b a xs ++ T.pres (b + T.sizes xs) a ys
  | [], ys, b => by rw [T.pres, T.sizes]; rfl
  | x :: xs, ys, b => by rw [List.cons_append, T.pres, T.pres, T.pres_app a xs ys, T.sizes, List.append_assoc, Nat.add_assoc]
theorem T.starts_app : ∀ (xs ys : List T) (b : Nat), T.starts b (xs ++ ys) = T.starts b xs ++ T.starts (b + T.sizes xs) ys
  | [], ys, b => by rw [T.starts, T.sizes]; rfl
  | x :: xs, ys, b => by rw [List.cons_append, T.starts, T.starts, T.starts_app xs ys, T.sizes, List.cons_append, Nat.add_assoc]
theorem T.sizes_app : ∀ (xs ys : List T), T.sizes (xs ++ ys) = T.sizes xs + T.sizes ys
  | [], ys => by rw [T.sizes]; simp
  | x :: xs, ys => by rw [List.cons_append, T.sizes, T.sizes, T.sizes_app xs ys]; omega
theorem T.pres_one (b : Nat) (a : Option Nat) (t : T) : T.pres b a [t] = T.pre b a t := by rw [T.pres, T.pres, List.append_nil]
theorem T.starts_one (b : Nat) (t : T) : T.starts b [t] = [b] := by rw [T.starts, T.starts]
/-- what does not hang on what is above -/
theorem T.pre_maps (b : Nat) (a a' : Option Nat) (t : T) : (T.pre b a t).map Rw.kids = (T.pre b a' t).map Rw.kids ∧ (T.pre b a t).map Rw.x = (T.pre b a' t).map Rw.x ∧ (T.pre b a t).map Rw.sz = (T.pre b a' t).map Rw.sz ∧ (T.pre b a t).tail = (T.pre b a' t).tail := by
  cases t
  rw [T.pre, T.pre]
  exact ⟨rfl, rfl, rfl, rfl⟩
theorem T.pre_head (b : Nat) (a : Option Nat) (t : T) : (T.pre b a t).map Rw.up = a :: (T.pre b a t).tail.map Rw.up := by
  cases t
  rw [T.pre]
  rfl
/-- all rows of a tree but the first have something above them -/
theorem T.tail_up (t : T) (b : Nat) (a : Option Nat) : ∀ r ∈ (T.pre b a t).tail, ∃ u, r.up = some u := by
  intro r hr
  cases t with
  | node x cs =>
    rw [T.pre] at hr
    obtain ⟨i, hi⟩ := List.getElem?_of_mem (show r ∈ T.pres (b + 1) (some b) cs from hr)
    exact T.pres_some cs (b + 1) b hi
/-- a child's rows, so far on, from its own -/
theorem T.pre_by (t : T) (b j : Nat) : (T.pre b (some j) t).map Rw.kids = (T.pre 0 none t).map (fun r => r.kids.map (· + b)) ∧ (T.pre b (some j) t).map Rw.x = (T.pre 0 none t).map Rw.x ∧ (T.pre b (some j) t).map Rw.sz = (T.pre 0 none t).map Rw.sz ∧
    (T.pre b (some j) t).map Rw.up = some j :: (T.pre 0 none t).tail.map (fun r => r.up.map (· + b)) := by
  have e : T.pre b none t = (T.pre 0 none t).map (Rw.by b) := by
    have := T.pre_add b t 0 none
    rw [Nat.zero_add] at this
    exact this
  obtain ⟨h1, h2, h3, h4⟩ := T.pre_maps b (some j) none t
  refine ⟨?_, ?_, ?_, ?_⟩
  · rw [h1, e, List.map_map]; rfl
  · rw [h2, e, List.map_map]; rfl
  · rw [h3, e, List.map_map]; rfl
  · rw [T.pre_head, h4, e]
    congr 1
    rw [← List.map_tail, List.map_map]
    rfl
end DM
namespace DM
open PySem PySem.Spec L2
theorem dFor_nx {tg : Tg} {body : DEnv → SR} {d : D} {ds : List D} {δ δ1 δ2 : DEnv} (h : tg d δ = some δ1) (e : body δ1 = .nx δ2) : dFor tg body (d :: ds) δ = dFor tg body ds δ2 := by
  rw [dFor, h]
  dsimp only
  rw [e]
theorem dFor_ct {tg : Tg} {body : DEnv → SR} {d : D} {ds : List D} {δ δ1 δ2 : DEnv} (h : tg d δ = some δ1) (e : body δ1 = .ct δ2) : dFor tg body (d :: ds) δ = dFor tg body ds δ2 := by
  rw [dFor, h]
  dsimp only
  rw [e]
theorem dFor_rt {tg : Tg} {body : DEnv → SR} {d x : D} {ds : List D} {δ δ1 δ2 : DEnv} (h : tg d δ = some δ1) (e : body δ1 = .rt x δ2) : dFor tg body (d :: ds) δ = .rt x δ2 := by
  rw [dFor, h]
  dsimp only
  rw [e]
theorem dFor_bk {tg : Tg} {body : DEnv → SR} {d : D} {ds : List D} {δ δ1 δ2 : DEnv} (h : tg d δ = some δ1) (e : body δ1 = .bk δ2) : dFor tg body (d :: ds) δ = .nx δ2 := by
  rw [dFor, h]
  dsimp only
  rw [e]
end DM
namespace DM
open PySem PySem.Spec L2
theorem set_self {α : Type} {xs : List α} {i : Nat} {v : α} (h : xs[i]? = some v) : xs.set i v = xs := by
  obtain ⟨h1, h2⟩ := List.getElem?_eq_some_iff.mp h
  subst h2
  exact List.set_getElem_self h1
theorem eqD_nil : eqD (.lst []) (.lst []) = some (.bl true) := eqD_n []
@[simp] theorem neD_i (i j : Int) : neD (.int i) (.int j) = some (.bl (!decide (i = j))) := rfl
@[simp] theorem neD_b (a b : Bool) : neD (.bl a) (.bl b) = some (.bl (!decide (a = b))) := rfl
theorem sz100 {n : Nat} (h : n ≤ 1000) : n ≤ sizeLine := Nat.le_trans h (by decide)
theorem lc1 {src : Src} {cond : DEnv → R Bool} {elt : DEnv → R D} {i : Nat} {δ : DEnv} {xs : List D} {p : D → Bool} {g : D → D} (hs : src δ = .ok (xs, some) δ) (hl : xs.length ≤ sizeLine) (h : δ[i]? = some none)
    (hc : ∀ d ∈ xs, cond (δ.set i (some d)) = .ok (p d) (δ.set i (some d))) (he : ∀ d ∈ xs, p d = true → elt (δ.set i (some d)) = .ok (g d) (δ.set i (some d))) : mLc src (tName i) cond elt [i] δ = .ok (.lst ((xs.filter p).map g)) δ := by
  rw [mLc_e, hs, R.bind_ok, if_pos hl]
  have w : wipeD δ [i] = δ := by
    have := set_none h none
    show δ.set i none = δ
    obtain ⟨h1, h2⟩ := List.getElem?_eq_some_iff.mp h
    conv => lhs; rw [← h2]
    exact List.set_getElem_self h1
  have r : restD δ [i] δ = δ := by
    show δ.set i ((δ[i]?).join) = δ
    rw [h]
    exact w
  rw [w, dLc_pure h xs hc he, R.bind_ok, finLc_e, r]
theorem lcT {cond : DEnv → R Bool} {elt : DEnv → R D} {i j : Nat} {δ : DEnv} {xs : List D} {p : D → Bool} {g : D → D} (hj : δ[j]? = some (some (.lst xs))) (hl : xs.length ≤ sizeLine) (h : δ[i]? = some none)
    (hc : ∀ d ∈ xs, cond ((δ.set j none).set i (some d)) = .ok (p d) ((δ.set j none).set i (some d))) (he : ∀ d ∈ xs, p d = true → elt ((δ.set j none).set i (some d)) = .ok (g d) ((δ.set j none).set i (some d))) : mLc (mSrc (oT j) seqD) (tName i) cond elt [i] δ = .ok (.lst ((xs.filter p).map g)) δ := by
  have hne : j ≠ i := fun e => by rw [e, h] at hj; cases hj
  have hs : mSrc (oT j) seqD δ = .ok (xs, fun δ2 => (Opd.p j (.lst xs) id).fin δ2) (δ.set j none) := by
    rw [mSrc_e, oT_e, hj]
    rfl
  have hi : (δ.set j none)[i]? = some none := by rw [List.getElem?_set_ne hne]; exact h
  rw [mLc_e, hs, DM.R.bind_ok, if_pos hl]
  have w : wipeD (δ.set j none) [i] = δ.set j none := by
    exact set_self hi
  have r : restD (δ.set j none) [i] (δ.set j none) = δ.set j none := by
    show (δ.set j none).set i (((δ.set j none)[i]?).join) = δ.set j none
    rw [hi]
    exact w
  rw [w, dLc_pure hi xs hc he, DM.R.bind_ok, finLc_e, r]
  show (match (Opd.p j (.lst xs) id).fin (δ.set j none) with
    | some δ3 => DM.R.ok (D.lst _) δ3
    | none => .stuck) = _
  rw [fin_p, List.getElem?_set_self (List.getElem?_eq_some_iff.mp hj).1]
  show DM.R.ok (D.lst _) ((δ.set j none).set j (some (.lst xs))) = _
  rw [List.set_set]
  congr 1
  exact set_self hj
def intsD (ks : List Nat) : List D := ks.map fun j : Nat => D.int (j : Int)
theorem lc_ints {src : Src} {elt : DEnv → R D} {i : Nat} {δ : DEnv} {ks : List Nat} {f : Nat → Nat} (hs : src δ = .ok (intsD ks, some) δ) (hl : ks.length ≤ 1000) (h : δ[i]? = some none)
    (he : ∀ k ∈ ks, elt (δ.set i (some (.int (k : Int)))) = .ok (.int (f k : Int)) (δ.set i (some (.int (k : Int))))) : mLc src (tName i) mYes elt [i] δ = .ok (.lst (intsD (ks.map f))) δ := by
  have := lc1 (cond := mYes) (elt := elt) (p := fun _ => true) (g := fun d => match d with
    | .int k => .int (f k.toNat : Int)
    | _ => .non) hs (by unfold intsD; rw [List.length_map]; exact sz100 hl) h (fun d _ => rfl) (fun d hd _ => by
      unfold intsD at hd
      rw [List.mem_map] at hd
      obtain ⟨k, hk, rfl⟩ := hd
      have e := he k hk
      rw [e]
      show _ = DM.R.ok (D.int ((f ((k : Int)).toNat : Nat) : Int)) _
      rw [Int.toNat_natCast])
  rw [this, List.filter_eq_self.mpr (by simp)]
  unfold intsD
  rw [List.map_map, List.map_map]
  congr 2
end DM
set_option maxRecDepth 100000
/-! Plain Lean, part 37: what repr shows. -/
namespace DM
open PySem PySem.Spec PyProof.Rows L2
theorem strOk_of (s : String) : PyData.strOk (Str.ofString s) = true := by
  have e := signs_ofString s
  have h : ∀ c ∈ (Str.ofString s).cps.toList, c < 1114112 := fun c hc => by
    rw [e, List.mem_map] at hc
    obtain ⟨k, _, rfl⟩ := hc
    rcases k.valid with h | ⟨_, h⟩
    · have : k.val.toNat < 0xD800 := h
      show k.val.toNat < _
      omega
    · exact h
  unfold PyData.strOk
  rw [← Array.all_toList]
  exact List.all_eq_true.mpr fun c hc => decide_eq_true (h c hc)
/-- its text is known, and equals itself -/
def Shows (d : D) : Prop := ∃ x, reprD [d] = some (.str x) ∧ neD (.str x) (.str x) = some (.bl false)
theorem neD_str {x : Str} (h : PyData.strOk x = true) : neD (.str x) (.str x) = some (.bl false) :=
  neD_refl (k := 0) ⟨.str x, by rw [D.py], by rw [PyData.canLay0]; exact h, by rw [PyData.depth]; omega⟩ (by omega)
theorem shows_p {d : D} {p : PyData} (h : d.pyR = some p) (h1 : p.showable = true) (h2 : p.shown.length ≤ sizeLine) (h4 : p.depth ≤ 60) (h5 : PyData.strOk p.shown = true) : Shows d := by
  refine ⟨p.shown, ?_, neD_str h5⟩
  show d.pyR.bind showP = _
  rw [h]
  show showP p = _
  unfold showP
  rw [if_pos ⟨h1, h2, h4⟩]
theorem shows_of {d : D} {p : PyData} (s : String) (h : d.pyR = some p) (h1 : p.showable = true) (h2 : p.shown = Str.ofString s) (h3 : (Str.ofString s).length ≤ sizeLine) (h4 : p.depth ≤ 60) : Shows d :=
  shows_p h h1 (by rw [h2]; exact h3) h4 (by rw [h2]; exact strOk_of s)
theorem shows_int (i : Int) (h : i.natAbs.log2 < 1920) : Shows (.int i) :=
  shows_of (p := .int i) (toString i) (by rw [D.pyR]) (by rw [PyData.showable]; exact decide_eq_true h) (by rw [PyData.shown]) (int_text_fits h) (by rw [PyData.depth]; omega)
theorem log2_small {n : Nat} (h : n < 2 ^ 100) : n.log2 < 1920 := by
  by_cases z : n = 0
  · subst z; decide
  · exact Nat.lt_of_lt_of_le ((Nat.log2_lt z).mpr h) (by decide)
theorem shows_bl (b : Bool) : Shows (.bl b) := by
  cases b
  · exact shows_of (p := .bool false) "False" (by rw [D.pyR]) rfl rfl (by decide) (by decide)
  · exact shows_of (p := .bool true) "True" (by rw [D.pyR]) rfl rfl (by decide) (by decide)
theorem shows_non : Shows .non := shows_of (p := .none) "None" (by rw [D.pyR]) rfl rfl (by decide) (by decide)
theorem py_l0 : D.pyR (.lst []) = some (.list []) := by rw [D.pyR, D.pyRs]; rfl
theorem py_t0 : D.pyR (.tup []) = some (.tuple []) := by rw [D.pyR, D.pyRs]; rfl
theorem py_l1 (i : Int) : D.pyR (.lst [.int i]) = some (.list [.int i]) := by rw [D.pyR, D.pyRs, D.pyR, D.pyRs]; rfl
theorem py_t1 (i : Int) : D.pyR (.tup [.int i]) = some (.tuple [.int i]) := by rw [D.pyR, D.pyRs, D.pyR, D.pyRs]; rfl
theorem shows_l0 : Shows (.lst []) := shows_of (p := .list []) "[]" py_l0 (by decide +kernel) (by decide +kernel) (by decide) (by decide +kernel)
theorem shows_t0 : Shows (.tup []) := shows_of (p := .tuple []) "()" py_t0 (by decide +kernel) (by decide +kernel) (by decide) (by decide +kernel)
theorem shows_l1 : Shows (.lst [.int 0]) := shows_of (p := .list [.int 0]) "[0]" (py_l1 0) (by decide +kernel) (by decide +kernel) (by decide) (by decide +kernel)
theorem shows_t1 : Shows (.tup [.int 0]) := shows_of (p := .tuple [.int 0]) "(0,)" (py_t1 0) (by decide +kernel) (by decide +kernel) (by decide) (by decide +kernel)
theorem shows_s0 : Shows (.str "") := shows_of (p := .str "") "''" (by rw [D.pyR]) (by decide +kernel) (by decide +kernel) (by decide) (by decide +kernel)
theorem shows_s1 : Shows (.str "0") := shows_of (p := .str "0") "'0'" (by rw [D.pyR]) (by decide +kernel) (by decide +kernel) (by decide) (by decide +kernel)
theorem shows_d0 : Shows (.dK [] []) := shows_of (p := .dict []) "{}" (by rw [D.pyR, D.pyRs]; rfl) (by decide +kernel) (by decide +kernel) (by decide) (by decide +kernel)
theorem shows_d1 : Shows (.dK [.inl 0] [.int 0]) := shows_of (p := .dict [(.int 0, .int 0)]) "{0: 0}" (by rw [D.pyR, D.pyRs, D.pyR, D.pyRs]; rfl) (by decide +kernel) (by decide +kernel) (by decide) (by decide +kernel)
end DM
set_option maxRecDepth 100000
/-! Plain Lean, part 40: data of any kind that may be shown, how heavy and how deep. -/
namespace DM
open PySem PySem.Spec PyProof.Rows L2
def Fine (d : D) (w k : Nat) : Prop := ∃ p, d.pyR = some p ∧ p.showable = true ∧ p.leavesShort 40 = true ∧ p.weight ≤ w ∧ p.depth ≤ k
def FineL (ds : List D) (w k : Nat) : Prop := ∃ ps, D.pyRs ds = some ps ∧ PyData.showableAll ps = true ∧ PyData.leavesShortAll 40 ps = true ∧ PyData.weightAll ps ≤ w ∧ PyData.depthAll ps ≤ k
theorem Fine.mono {d : D} {w k w' k' : Nat} (h : Fine d w k) (a : w ≤ w') (b : k ≤ k') : Fine d w' k' := by
  obtain ⟨p, h1, h2, h3, h4, h5⟩ := h
  exact ⟨p, h1, h2, h3, by omega, by omega⟩
theorem FineL.mono {d : List D} {w k w' k' : Nat} (h : FineL d w k) (a : w ≤ w') (b : k ≤ k') : FineL d w' k' := by
  obtain ⟨p, h1, h2, h3, h4, h5⟩ := h
  exact ⟨p, h1, h2, h3, by omega, by omega⟩
theorem FineL.nil (k : Nat) : FineL [] 0 k := ⟨[], by rw [D.pyRs], by rw [PyData.showableAll], by rw [PyData.leavesShortAll], by rw [PyData.weightAll]; omega, by rw [PyData.depthAll]; omega⟩
theorem FineL.cons {d : D} {ds : List D} {w w' k : Nat} (h : Fine d w k) (t : FineL ds w' k) : FineL (d :: ds) (w + 1 + w') k := by
  obtain ⟨p, h1, h2, h3, h4, h5⟩ := h
  obtain ⟨ps, t1, t2, t3, t4, t5⟩ := t
  exact ⟨p :: ps, by rw [D.pyRs, h1, t1], by rw [PyData.showableAll, h2, t2]; rfl, by rw [PyData.leavesShortAll, h3, t3]; rfl, by rw [PyData.weightAll]; omega, by rw [PyData.depthAll]; omega⟩
theorem FineL.append {k : Nat} : ∀ {ds es : List D} {w w' : Nat}, FineL ds w k → FineL es w' k → FineL (ds ++ es) (w + w') k
  | [], es, w, w', _, t => t.mono (by omega) (Nat.le_refl _)
  | d :: ds, es, w, w', h, t => by
    obtain ⟨ps, h1, h2, h3, h4, h5⟩ := h
    rw [D.pyRs] at h1
    cases z1 : D.pyR d with
    | none => rw [z1] at h1; cases h1
    | some p =>
      cases z2 : D.pyRs ds with
      | none => rw [z1, z2] at h1; cases h1
      | some qs =>
        rw [z1, z2] at h1
        cases h1
        rw [PyData.showableAll, Bool.and_eq_true] at h2
        rw [PyData.leavesShortAll, Bool.and_eq_true] at h3
        rw [PyData.weightAll] at h4
        rw [PyData.depthAll] at h5
        have hp : Fine d p.weight k := ⟨p, z1, h2.1, h3.1, Nat.le_refl _, by omega⟩
        have hq : FineL ds (PyData.weightAll qs) k := ⟨qs, z2, h2.2, h3.2, Nat.le_refl _, by omega⟩
        exact (FineL.cons hp (FineL.append hq t)).mono (by omega) (Nat.le_refl _)
theorem FineL.lst {ds : List D} {w k : Nat} (h : FineL ds w k) : Fine (.lst ds) w (k + 1) := by
  obtain ⟨ps, h1, h2, h3, h4, h5⟩ := h
  exact ⟨.list ps, by rw [D.pyR, h1]; rfl, by rw [PyData.showable]; exact h2, by rw [PyData.leavesShort]; exact h3, by rw [PyData.weight]; exact h4, by rw [PyData.depth]; omega⟩
theorem FineL.tup {ds : List D} {w k : Nat} (h : FineL ds w k) : Fine (.tup ds) w (k + 1) := by
  obtain ⟨ps, h1, h2, h3, h4, h5⟩ := h
  exact ⟨.tuple ps, by rw [D.pyR, h1]; rfl, by rw [PyData.showable]; exact h2, by rw [PyData.leavesShort]; exact h3, by rw [PyData.weight]; exact h4, by rw [PyData.depth]; omega⟩
theorem Fine.non : Fine .non 0 0 := ⟨.none, by rw [D.pyR], by rw [PyData.showable], by rw [PyData.leavesShort], by rw [PyData.weight]; omega, by rw [PyData.depth]; omega⟩
theorem Fine.bl (b : Bool) : Fine (.bl b) 0 0 := ⟨.bool b, by rw [D.pyR], by rw [PyData.showable], by rw [PyData.leavesShort], by rw [PyData.weight]; omega, by rw [PyData.depth]; omega⟩
theorem shown_int_len {i : Int} (h : i.natAbs < 10 ^ 39) : (PyData.shown (.int i)).length ≤ 40 := by
  have e := int_text_length_le10 (a := i) (k := 39) (by omega) h
  rw [PyData.shown]
  show (Str.ofString (toString i)).length ≤ 40
  rw [PySem.ofString_length]
  exact e
theorem Fine.int {i : Int} (h : i.natAbs < 10 ^ 39) : Fine (.int i) 130 0 := by
  have l : i.natAbs.log2 < 130 := by
    by_cases z : i.natAbs = 0
    · rw [z]; decide
    · exact (Nat.log2_lt z).mpr (Nat.lt_trans h (by decide))
  refine ⟨.int i, by rw [D.pyR], ?_, ?_, ?_, ?_⟩
  · rw [PyData.showable]; exact decide_eq_true (Nat.lt_trans l (by decide))
  · rw [PyData.leavesShort]; exact decide_eq_true (shown_int_len h)
  · rw [PyData.weight]
    split
    · omega
    · omega
  · rw [PyData.depth]; omega
theorem Fine.str {x : Str} {w : Nat} (h : x.length ≤ w) (hc : ∀ c ∈ x.cps.toList, c < 1114112) : Fine (.str x) w 0 := by
  refine ⟨.str x, by rw [D.pyR], by rw [PyData.showable], ?_, ?_, ?_⟩
  · rw [PyData.leavesShort]
    exact List.all_eq_true.mpr fun c hm => decide_eq_true (Nat.lt_trans (hc c hm) (by decide))
  · rw [PyData.weight]
    exact h
  · rw [PyData.depth]; omega
theorem Fine.shows {d : D} {w k : Nat} (h : Fine d w k) (hw : w ≤ 100000) (hk : k ≤ 60) : ∃ x, reprD [d] = some (.str x) := by
  obtain ⟨p, h1, h2, h3, h4, h5⟩ := h
  have e := PyData.shown_le 40 (by decide) p h3
  refine ⟨p.shown, ?_⟩
  show d.pyR.bind showP = _
  rw [h1]
  show showP p = _
  unfold showP
  have hl : p.shown.length ≤ sizeLine := ?_
  · rw [if_pos ⟨h2, hl, by omega⟩]
  have : sizeLine = 16777216 := by decide
  rw [this]
  omega
/-- a dict with ints for keys -/
theorem Fine.dict {ks : List Key} {ds : List D} {w k : Nat} (hk : ∀ q ∈ ks, ∃ i : Int, q = .inl i ∧ i.natAbs < 10 ^ 39) (h : FineL ds w k) : Fine (.dK ks ds) (w + 132 * ks.length) (k + 1) := by
  obtain ⟨ps, h1, h2, h3, h4, h5⟩ := h
  have key : ∀ (ks : List Key) (ps : List PyData), (∀ q ∈ ks, ∃ i : Int, q = .inl i ∧ i.natAbs < 10 ^ 39) → PyData.showableAll ps = true → PyData.leavesShortAll 40 ps = true →
      PyData.showableKv ((ks.map keyPy).zip ps) = true ∧ PyData.leavesShortKv 40 ((ks.map keyPy).zip ps) = true ∧ PyData.weightKv ((ks.map keyPy).zip ps) ≤ PyData.weightAll ps + 132 * ks.length ∧ PyData.depthKv ((ks.map keyPy).zip ps) ≤ PyData.depthAll ps := by
    intro ks
    induction ks with
    | nil =>
      intro ps _ _ _
      rw [List.map_nil, List.zip_nil_left, PyData.showableKv, PyData.leavesShortKv, PyData.weightKv, PyData.depthKv]
      exact ⟨rfl, rfl, by omega, by omega⟩
    | cons q ks ih =>
      intro ps hq s l
      cases ps with
      | nil =>
        rw [List.zip_nil_right, PyData.showableKv, PyData.leavesShortKv, PyData.weightKv, PyData.depthKv]
        exact ⟨rfl, rfl, by omega, by omega⟩
      | cons p ps =>
        rw [PyData.showableAll, Bool.and_eq_true] at s
        rw [PyData.leavesShortAll, Bool.and_eq_true] at l
        obtain ⟨i, rfl, hi⟩ := hq q (List.mem_cons_self ..)
        obtain ⟨a1, a2, a3, a4⟩ := ih ps (fun q hm => hq q (List.mem_cons_of_mem _ hm)) s.2 l.2
        obtain ⟨pi, b1, b2, b3, b4, b5⟩ := Fine.int hi
        cases b1
        rw [List.map_cons, List.zip_cons_cons, PyData.showableKv, PyData.leavesShortKv, PyData.weightKv, PyData.depthKv, PyData.weightAll, PyData.depthAll, List.length_cons]
        refine ⟨?_, ?_, ?_, ?_⟩
        · rw [show keyPy (.inl i) = .int i from rfl, b2, s.1, a1]; rfl
        · rw [show keyPy (.inl i) = .int i from rfl, b3, l.1, a2]; rfl
        · rw [show keyPy (.inl i) = .int i from rfl]; omega
        · rw [show keyPy (.inl i) = .int i from rfl]; omega
  obtain ⟨a1, a2, a3, a4⟩ := key ks ps hk h2 h3
  exact ⟨.dict ((ks.map keyPy).zip ps), by rw [D.pyR, h1]; rfl, by rw [PyData.showable]; exact a1, by rw [PyData.leavesShort]; exact a2, by rw [PyData.weight]; omega, by rw [PyData.depth]; omega⟩
mutual
theorem Fine.tree : ∀ t : T, t.good → Fine t.dat (4 * t.size - 1) (2 * t.dep)
  | .node x cs, h => by
    rw [T.good] at h
    rw [T.dat, T.dep, T.size]
    have h1 := (FineL.trees cs h.2).lst
    have h0 : Fine (.str ⟨#[x]⟩) 1 (2 * T.deps cs + 1) := (Fine.str (x := ⟨#[x]⟩) (w := 1) (Nat.le_refl 1) (fun c hc => by simp at hc; omega)).mono (Nat.le_refl _) (by omega)
    exact (FineL.cons h0 (FineL.cons h1 (FineL.nil _))).tup.mono (by omega) (by omega)
theorem FineL.trees : ∀ ts : List T, T.goods ts → FineL (T.dats ts) (4 * T.sizes ts) (2 * T.deps ts)
  | [], h => by rw [T.dats]; exact (FineL.nil 0).mono (by omega) (by omega)
  | t :: ts, h => by
    rw [T.goods] at h
    rw [T.dats, T.deps, T.sizes]
    have := t.size_pos
    exact (FineL.cons ((Fine.tree t h.1).mono (Nat.le_refl _) (by omega : 2 * t.dep ≤ 2 * max t.dep (T.deps ts))) ((FineL.trees ts h.2).mono (Nat.le_refl _) (by omega))).mono (by omega) (by omega)
end
theorem FineL.len : ∀ {ds : List D} {w k : Nat}, FineL ds w k → ds.length ≤ w
  | [], _, _, _ => Nat.zero_le _
  | d :: ds, w, k, h => by
    obtain ⟨ps, h1, h2, h3, h4, h5⟩ := h
    rw [D.pyRs] at h1
    cases z1 : D.pyR d with
    | none => rw [z1] at h1; cases h1
    | some p =>
      cases z2 : D.pyRs ds with
      | none => rw [z1, z2] at h1; cases h1
      | some qs =>
        rw [z1, z2] at h1
        cases h1
        rw [PyData.showableAll, Bool.and_eq_true] at h2
        rw [PyData.leavesShortAll, Bool.and_eq_true] at h3
        rw [PyData.weightAll] at h4
        have hq : FineL ds (PyData.weightAll qs) (PyData.depthAll qs) := ⟨qs, z2, h2.2, h3.2, Nat.le_refl _, Nat.le_refl _⟩
        have := hq.len
        rw [List.length_cons]
        omega
theorem FineL.mem {ds : List D} {w k : Nat} (h : FineL ds w k) : ∀ d ∈ ds, Fine d w k := by
  induction ds generalizing w with
  | nil => intro d hd; cases hd
  | cons c ds ih =>
    obtain ⟨ps, h1, h2, h3, h4, h5⟩ := h
    rw [D.pyRs] at h1
    cases z1 : D.pyR c with
    | none => rw [z1] at h1; cases h1
    | some p =>
      cases z2 : D.pyRs ds with
      | none => rw [z1, z2] at h1; cases h1
      | some qs =>
        rw [z1, z2] at h1
        cases h1
        rw [PyData.showableAll, Bool.and_eq_true] at h2
        rw [PyData.leavesShortAll, Bool.and_eq_true] at h3
        rw [PyData.weightAll] at h4
        rw [PyData.depthAll] at h5
        intro d hd
        rcases List.mem_cons.mp hd with rfl | hd
        · exact ⟨p, z1, h2.1, h3.1, by omega, by omega⟩
        · exact ih ⟨qs, z2, h2.2, h3.2, by omega, by omega⟩ d hd
theorem Fine.lstInv {ds : List D} {w k : Nat} (h : Fine (.lst ds) w (k + 1)) : FineL ds w k := by
  obtain ⟨p, h1, h2, h3, h4, h5⟩ := h
  rw [D.pyR] at h1
  obtain ⟨ps, e1, e2⟩ := Option.map_eq_some_iff.mp h1
  subst e2
  rw [PyData.showable] at h2
  rw [PyData.leavesShort] at h3
  rw [PyData.weight] at h4
  rw [PyData.depth] at h5
  exact ⟨ps, e1, h2, h3, h4, by omega⟩
theorem Fine.tupInv {ds : List D} {w k : Nat} (h : Fine (.tup ds) w (k + 1)) : FineL ds w k := by
  obtain ⟨p, h1, h2, h3, h4, h5⟩ := h
  rw [D.pyR] at h1
  obtain ⟨ps, e1, e2⟩ := Option.map_eq_some_iff.mp h1
  subst e2
  rw [PyData.showable] at h2
  rw [PyData.leavesShort] at h3
  rw [PyData.weight] at h4
  rw [PyData.depth] at h5
  exact ⟨ps, e1, h2, h3, h4, by omega⟩
theorem Fine.pos {ds : List D} {w k : Nat} (h : Fine (.lst ds) w k ∨ Fine (.tup ds) w k) : ∃ j, k = j + 1 := by
  rcases h with ⟨p, h1, h2, h3, h4, h5⟩ | ⟨p, h1, h2, h3, h4, h5⟩ <;>
  · rw [D.pyR] at h1
    obtain ⟨ps, e1, e2⟩ := Option.map_eq_some_iff.mp h1
    subst e2
    rw [PyData.depth] at h5
    exact ⟨k - 1, by omega⟩
theorem Fine.strInv {x : Str} {w k : Nat} (h : Fine (.str x) w k) : x.length ≤ w := by
  obtain ⟨p, h1, h2, h3, h4, h5⟩ := h
  rw [D.pyR] at h1
  cases h1
  rw [PyData.weight] at h4
  exact h4
/-! ### what a tree is -/
def lowS (x : Str) : Bool := match x.cps.toList with
  | [c] => decide (97 ≤ c ∧ c ≤ 122)
  | _ => false
mutual
def isT : D → Bool
  | .tup [.str x, .lst cs] => lowS x && isTs cs
  | _ => false
def isTs : List D → Bool
  | [] => true
  | c :: cs => isT c && isTs cs
end
theorem isTs_all : ∀ cs : List D, isTs cs = cs.all isT
  | [] => by rw [isTs]; rfl
  | c :: cs => by rw [isTs, isTs_all cs]; rfl
mutual
theorem isT_tree : ∀ t : T, t.good → isT t.dat = true
  | .node x cs, h => by
    rw [T.good] at h
    rw [T.dat, isT, isTs_trees cs h.2]
    have : lowS ⟨#[x]⟩ = true := decide_eq_true h.1
    rw [this]
    rfl
theorem isTs_trees : ∀ ts : List T, T.goods ts → isTs (T.dats ts) = true
  | [], _ => by rw [T.dats, isTs]
  | t :: ts, h => by
    rw [T.goods] at h
    rw [T.dats, isTs, isT_tree t h.1, isTs_trees ts h.2]
    rfl
end
theorem lowS_eq {x : Str} (h : lowS x = true) : ∃ c, x = ⟨#[c]⟩ ∧ 97 ≤ c ∧ c ≤ 122 := by
  unfold lowS at h
  split at h
  · rename_i c z
    refine ⟨c, ?_, of_decide_eq_true h⟩
    cases x with
    | mk a =>
      congr 1
      exact Array.toList_inj.mp z
  · cases h
theorem isTs_inv0 : ∀ ds : List D, (∀ d ∈ ds, ∃ t : T, d = t.dat ∧ t.good) → ∃ ts : List T, ds = T.dats ts ∧ T.goods ts
  | [], _ => ⟨[], by rw [T.dats], by rw [T.goods]; trivial⟩
  | d :: ds, h => by
    obtain ⟨t, rfl, h1⟩ := h d (List.mem_cons_self ..)
    obtain ⟨ts, rfl, h2⟩ := isTs_inv0 ds fun x hx => h x (List.mem_cons_of_mem _ hx)
    exact ⟨t :: ts, by rw [T.dats], by rw [T.goods]; exact ⟨h1, h2⟩⟩
theorem isT_inv1 : ∀ (n : Nat) (d : D), sizeOf d ≤ n → isT d = true → ∃ t : T, d = t.dat ∧ t.good
  | 0, d, hn, _ => by cases d <;> simp at hn
  | n + 1, d, hn, h => by
    rw [isT.eq_def] at h
    split at h
    · rename_i x cs
      rw [Bool.and_eq_true, isTs_all, List.all_eq_true] at h
      obtain ⟨c, rfl, h1⟩ := lowS_eq h.1
      obtain ⟨ts, rfl, h2⟩ := isTs_inv0 cs fun d hd => isT_inv1 n d (by
        have := List.sizeOf_lt_of_mem hd
        simp at hn
        omega) (h.2 d hd)
      exact ⟨.node c ts, by rw [T.dat], by rw [T.good]; exact ⟨h1, h2⟩⟩
    · cases h
/-- what is a tree, by its data -/
theorem isT_inv (d : D) (h : isT d = true) : ∃ t : T, d = t.dat ∧ t.good := isT_inv1 _ d (Nat.le_refl _) h
theorem FineL.cut {k : Nat} : ∀ {ds : List D} {w : Nat} (i : Nat), FineL ds w k → ∃ w1 w2, w1 + w2 ≤ w ∧ FineL (ds.take i) w1 k ∧ FineL (ds.drop i) w2 k
  | [], w, i, h => ⟨0, 0, by omega, by rw [List.take_nil]; exact FineL.nil k, by rw [List.drop_nil]; exact FineL.nil k⟩
  | d :: ds, w, 0, h => ⟨0, w, by omega, by rw [List.take_zero]; exact FineL.nil k, by rw [List.drop_zero]; exact h⟩
  | d :: ds, w, i + 1, h => by
    obtain ⟨ps, h1, h2, h3, h4, h5⟩ := h
    rw [D.pyRs] at h1
    cases z1 : D.pyR d with
    | none => rw [z1] at h1; cases h1
    | some p =>
      cases z2 : D.pyRs ds with
      | none => rw [z1, z2] at h1; cases h1
      | some qs =>
        rw [z1, z2] at h1
        cases h1
        rw [PyData.showableAll, Bool.and_eq_true] at h2
        rw [PyData.leavesShortAll, Bool.and_eq_true] at h3
        rw [PyData.weightAll] at h4
        rw [PyData.depthAll] at h5
        have hp : Fine d p.weight k := ⟨p, z1, h2.1, h3.1, Nat.le_refl _, by omega⟩
        have hq : FineL ds (PyData.weightAll qs) k := ⟨qs, z2, h2.2, h3.2, Nat.le_refl _, by omega⟩
        obtain ⟨w1, w2, e, a, b⟩ := FineL.cut i hq
        exact ⟨p.weight + 1 + w1, w2, by omega, by rw [List.take_succ_cons]; exact FineL.cons hp a, by rw [List.drop_succ_cons]; exact b⟩
theorem FineL.ins {k w w2 : Nat} {ds : List D} {x : D} (i j : Nat) (h : FineL ds w k) (hx : Fine x w2 k) : FineL (ds.take i ++ [x] ++ ds.drop j) (2 * w + w2 + 1) k := by
  obtain ⟨w1, w1', e1, a1, _⟩ := FineL.cut i h
  obtain ⟨v1, v1', e2, _, b2⟩ := FineL.cut j h
  exact ((a1.append (FineL.cons hx (FineL.nil k))).append b2).mono (by omega) (Nat.le_refl _)
/-! ### how many tuples -/
mutual
def D.tc : D → Nat
  | .tup ds => D.tcs ds + 1
  | .lst ds => D.tcs ds
  | .dK _ ds => D.tcs ds
  | _ => 0
def D.tcs : List D → Nat
  | [] => 0
  | d :: ds => D.tc d + D.tcs ds
end
theorem tcs_app : ∀ (a b : List D), D.tcs (a ++ b) = D.tcs a + D.tcs b
  | [], b => by rw [List.nil_append, D.tcs]; omega
  | x :: a, b => by rw [List.cons_append, D.tcs, D.tcs, tcs_app a b]; omega
theorem tcs_cut : ∀ (a : List D) (i : Nat), D.tcs (a.take i) + D.tcs (a.drop i) = D.tcs a := fun a i => by
  rw [← tcs_app, List.take_append_drop]
theorem tcs_at : ∀ {a : List D} {i : Nat} {y : D}, a[i]? = some y → D.tcs (a.take i) + D.tc y + D.tcs (a.drop (i + 1)) = D.tcs a
  | [], _, _, h => by simp at h
  | x :: a, 0, y, h => by
    simp at h
    subst h
    rw [List.take_zero, D.tcs, D.tcs, List.drop_succ_cons, List.drop_zero]
    omega
  | x :: a, i + 1, y, h => by
    have := tcs_at (a := a) (i := i) (y := y) (by simpa using h)
    rw [List.take_succ_cons, List.drop_succ_cons, D.tcs, D.tcs]
    omega
mutual
theorem tc_tree : ∀ t : T, t.dat.tc = t.size
  | .node x cs => by
    rw [T.dat, T.size, D.tc, D.tcs, D.tcs, D.tcs, D.tc, tcs_trees cs]
    have : D.tc (.str ⟨#[x]⟩) = 0 := by rw [D.tc] <;> simp
    rw [this]
    omega
theorem tcs_trees : ∀ ts : List T, D.tcs (T.dats ts) = T.sizes ts
  | [] => by rw [T.dats, T.sizes, D.tcs]
  | t :: ts => by rw [T.dats, T.sizes, D.tcs, tc_tree t, tcs_trees ts]
end
/-- a tree's depth, by its data -/
theorem pyR_tree : ∀ (t : T) (p : PyData), t.dat.pyR = some p → p.depth = 2 * t.dep
  | .node x cs, p, h => by
    rw [T.dat, D.pyR] at h
    obtain ⟨ps, e1, e2⟩ := Option.map_eq_some_iff.mp h
    subst e2
    rw [D.pyRs] at e1
    have e3 : D.pyRs [D.lst (T.dats cs)] = (D.pyR (.lst (T.dats cs))).map fun p => [p] := by
      rw [D.pyRs, D.pyRs]
      cases D.pyR (.lst (T.dats cs)) <;> rfl
    rw [show D.pyR (.str ⟨#[x]⟩) = some (.str ⟨#[x]⟩) by rw [D.pyR], e3, D.pyR] at e1
    cases z : D.pyRs (T.dats cs) with
    | none => rw [z] at e1; cases e1
    | some qs =>
      rw [z] at e1
      cases e1
      have key : ∀ (ts : List T) (qs : List PyData), (∀ t ∈ ts, ∀ p, t.dat.pyR = some p → p.depth = 2 * t.dep) → D.pyRs (T.dats ts) = some qs → PyData.depthAll qs = 2 * T.deps ts := by
        intro ts
        induction ts with
        | nil =>
          intro qs _ h
          rw [T.dats, D.pyRs] at h
          cases h
          rw [PyData.depthAll, T.deps]
        | cons t ts ih =>
          intro qs hp h
          rw [T.dats, D.pyRs] at h
          cases z1 : D.pyR t.dat with
          | none => rw [z1] at h; cases h
          | some p =>
            cases z2 : D.pyRs (T.dats ts) with
            | none => rw [z1, z2] at h; cases h
            | some rs =>
              rw [z1, z2] at h
              cases h
              have a := hp t (List.mem_cons_self ..) p z1
              have b := ih rs (fun t ht => hp t (List.mem_cons_of_mem _ ht)) z2
              rw [PyData.depthAll, T.deps, a, b]
              omega
      have k := key cs qs (fun t ht p hp => pyR_tree t p hp) z
      rw [PyData.depth, PyData.depthAll, PyData.depthAll, PyData.depthAll, PyData.depth, PyData.depth, k, T.dep]
      omega
theorem Fine.treeDep {t : T} {w k : Nat} (h : Fine t.dat w k) : 2 * t.dep ≤ k := by
  obtain ⟨p, h1, _, _, _, h5⟩ := h
  rw [← pyR_tree t p h1]
  exact h5
end DM
set_option maxRecDepth 100000
set_option maxHeartbeats 4000000
namespace K01
open PySem PySem.Spec L2 DM
def topS (i : Nat) : Stmt := PySem.Challenge.pw_twigfinds_k01_what_is_a_tree.main.body.getD i (.Pass ⟨0, 0, 0, 0⟩)
inductive Fc where
  | is_letter
  | is_tree
  | law_deck
  | law_draw
  | law_letters
  | law_grown
  | law_tree
  | law_deep
  | law_odd
  | law_spoilt
  | law_good
  | law_right
  | law
def nmOf : Fc → Str
  | .is_letter => "is_letter"
  | .is_tree => "is_tree"
  | .law_deck => "_law_deck"
  | .law_draw => "_law_draw"
  | .law_letters => "_law_letters"
  | .law_grown => "_law_grown"
  | .law_tree => "_law_tree"
  | .law_deep => "_law_deep"
  | .law_odd => "_law_odd"
  | .law_spoilt => "_law_spoilt"
  | .law_good => "_law_good"
  | .law_right => "_law_right"
  | .law => "law"
def psOf : Fc → List Str
  | .is_letter => ["thing"]
  | .is_tree => ["thing"]
  | .law_deck => ["script"]
  | .law_draw => ["deck", "many"]
  | .law_letters => ["deck"]
  | .law_grown => ["deck", "rows", "letters", "k"]
  | .law_tree => ["deck", "most", "letters"]
  | .law_deep => ["tree"]
  | .law_odd => ["deck", "tree"]
  | .law_spoilt => ["deck", "tree"]
  | .law_good => ["thing"]
  | .law_right => ["thing"]
  | .law => ["script"]
def ioOf : Fc → List Bool
  | .is_letter => [false]
  | .is_tree => [false]
  | .law_deck => [false]
  | .law_draw => [true, false]
  | .law_letters => [true]
  | .law_grown => [true, false, false, false]
  | .law_tree => [true, false, false]
  | .law_deep => [false]
  | .law_odd => [true, false]
  | .law_spoilt => [true, false]
  | .law_good => [false]
  | .law_right => [false]
  | .law => [false]
def sgOf (M : Mdl) : Fc → Sig M
  | .is_letter => ⟨[fz], ioOf .is_letter, fz⟩
  | .is_tree => ⟨[fz], ioOf .is_tree, fz⟩
  | .law_deck => ⟨[fz], ioOf .law_deck, (Lof (Lof (Lof fz)))⟩
  | .law_draw => ⟨[(Lof (Lof (Lof fz))), fz], ioOf .law_draw, fz⟩
  | .law_letters => ⟨[(Lof (Lof (Lof fz)))], ioOf .law_letters, fz⟩
  | .law_grown => ⟨[(Lof (Lof (Lof fz))), fz, fz, fz], ioOf .law_grown, fz⟩
  | .law_tree => ⟨[(Lof (Lof (Lof fz))), fz, fz], ioOf .law_tree, fz⟩
  | .law_deep => ⟨[fz], ioOf .law_deep, fz⟩
  | .law_odd => ⟨[(Lof (Lof (Lof fz))), fz], ioOf .law_odd, fz⟩
  | .law_spoilt => ⟨[(Lof (Lof (Lof fz))), fz], ioOf .law_spoilt, fz⟩
  | .law_good => ⟨[fz], ioOf .law_good, fz⟩
  | .law_right => ⟨[fz], ioOf .law_right, fz⟩
  | .law => ⟨[fz], ioOf .law, fz⟩
abbrev calOf (P : Program) (w : World) (M : Mdl) (base : Heap) (k : Nat) (x : Fc) (fn : Fn) : Prop := match x with
  | .is_letter => Cal P w M base k "is_letter" (psOf .is_letter) (sgOf M .is_letter) fn
  | .is_tree => Cal P w M base k "is_tree" (psOf .is_tree) (sgOf M .is_tree) fn
  | .law_deck => Cal P w M base k "_law_deck" (psOf .law_deck) (sgOf M .law_deck) fn
  | .law_draw => Cal P w M base k "_law_draw" (psOf .law_draw) (sgOf M .law_draw) fn
  | .law_letters => Cal P w M base k "_law_letters" (psOf .law_letters) (sgOf M .law_letters) fn
  | .law_grown => Cal P w M base k "_law_grown" (psOf .law_grown) (sgOf M .law_grown) fn
  | .law_tree => Cal P w M base k "_law_tree" (psOf .law_tree) (sgOf M .law_tree) fn
  | .law_deep => Cal P w M base k "_law_deep" (psOf .law_deep) (sgOf M .law_deep) fn
  | .law_odd => Cal P w M base k "_law_odd" (psOf .law_odd) (sgOf M .law_odd) fn
  | .law_spoilt => Cal P w M base k "_law_spoilt" (psOf .law_spoilt) (sgOf M .law_spoilt) fn
  | .law_good => Cal P w M base k "_law_good" (psOf .law_good) (sgOf M .law_good) fn
  | .law_right => Cal P w M base k "_law_right" (psOf .law_right) (sgOf M .law_right) fn
  | .law => Cal P w M base k "law" (psOf .law) (sgOf M .law) fn
structure ErrC (K : PySem.W.Frag) (mg : Str → Option Value) (x : Str) (C : Addr) : Prop where
  g : mg x = some (.ref C)
  q : PySem.W.excIn K C [.type "ValueError", .type "Exception", .type "BaseException", .type "object"] "ValueError.__new__" = true
  k : PySem.W.keepIn K (.ref C) = true
  b : PySem.W.subIn K (.ref C) (.type "BaseException") = some true
  t : PySem.W.typeIn K (.ref C) = some (.type "type")
theorem ErrC.r {X : Cx} {x : Str} {C : Addr} (h : ErrC X.K X.mg x C) : Raises X (.ref C) := raises_own h.b h.t
structure Tx0 (K : PySem.W.Frag) (mg : Str → Option Value) (v_LETTERS : Value) : Prop where
  z_bool : mg "bool" = none
  z_dict : mg "dict" = none
  z_enumerate : mg "enumerate" = none
  z_int : mg "int" = none
  z_isinstance : mg "isinstance" = none
  z_len : mg "len" = none
  z_list : mg "list" = none
  z_max : mg "max" = none
  z_min : mg "min" = none
  z_range : mg "range" = none
  z_repr : mg "repr" = none
  z_str : mg "str" = none
  z_tuple : mg "tuple" = none
  g_LETTERS : RelV (.str "abcdefghijklmnopqrstuvwxyz") v_LETTERS ∧ mg "LETTERS" = some v_LETTERS
variable {v_LETTERS : Value} {c_0 : Addr}
/-! ### is_letter -/
abbrev s_is_letter : Stmt := topS 2
abbrev N_is_letter : List Str := ["thing"]
theorem sc_is_letter : FnScope N_is_letter ["thing"] (defScope s_is_letter) := ⟨rfl, rfl, rfl, by decide +kernel, rfl, by decide +kernel, by decide +kernel⟩
def b_is_letter (C : Fc → Fn) : DEnv → SR :=
    (mRet (mAndV (mOp1 (oV (mVar 0)) (isiD .str)) (mAndV (mOp2 (oV (mOpN (mCons (oV (mVar 0)) mNil) lenD)) (oV (mC (.int 1))) eqD) (mOp2 (oV (mVar 0)) (oV (mC (.str "abcdefghijklmnopqrstuvwxyz"))) (inD false)))))
def q_is_letter_1 (C : Fc → Fn) : DEnv → SR := (mRet (mAndV (mOp1 (oV (mVar 0)) (isiD .str)) (mAndV (mOp2 (oV (mOpN (mCons (oV (mVar 0)) mNil) lenD)) (oV (mC (.int 1))) eqD) (mOp2 (oV (mVar 0)) (oV (mC (.str "abcdefghijklmnopqrstuvwxyz"))) (inD false)))))
theorem e_is_letter (C : Fc → Fn) : b_is_letter C =
    (q_is_letter_1 C) := rfl
theorem k_is_letter {P : Program} {w : World} {K : PySem.W.Frag} {mg : Str → Option Value} {base : Heap} {k : Nat} {f : Addr} {fd : FuncData} {C : Fc → Fn} (T : Tx0 K mg v_LETTERS) (B : SysB base) (hC : ∀ x, calOf P w ⟨K, mg⟩ base k x (C x)) (F : Fun K "is_letter" "is_letter" s_is_letter f fd) :
    FnOkG P w K mg base (L2.CX P w) (k + 2) f fd ["thing"] (spD (sgOf ⟨K, mg⟩ .is_letter) (mkF 0 (ioOf .is_letter) (b_is_letter C))) := by
  have nd := sc_is_letter.nd
  refine fn_okL (sgOf ⟨K, mg⟩ .is_letter) [] [fz] fz [] 0 F sc_is_letter rfl rfl rfl rfl rfl rfl rfl rfl fun cdv A outer s H E hr1 tk hp => ?_
  have hr := hr1.mono (Nat.le_succ _)
  exact (ds_one (ds_ret (de_and (de_isi .str (by decide) T.z_isinstance T.z_str (by decide +kernel) (DE.op (de_var (i := 0) (pv 0) rfl))) (de_and (de_cmp (opr_eqE hr.units) (DE.op (de_callB call_len (by rfl) T.z_len (by decide +kernel) (da_cons (DE.op (de_var (i := 0) (pv 0) rfl)) da_nil) opn_len)) (DE.op (de_c pe_int fun _ => .int _)) op2_eq) (de_one (de_cmp opr_in (DE.op (de_var (i := 0) (pv 0) rfl)) (DE.op (de_c (pe_glob (by rfl) T.g_LETTERS.2 T.g_LETTERS.1) fun _ => .str _)) (op2_in false)))))))
/-! ### is_tree -/
abbrev s_is_tree : Stmt := topS 3
abbrev N_is_tree : List Str := ["thing", "child"]
theorem sc_is_tree : FnScope N_is_tree ["thing"] (defScope s_is_tree) := ⟨rfl, rfl, rfl, by decide +kernel, rfl, by decide +kernel, by decide +kernel⟩
def b_is_tree (C : Fc → Fn) : DEnv → SR :=
    (mSeq (mIf (mOr (mNot (mTest (mOp1 (oV (mVar 0)) (isiD .tuple)))) (mTest (mOp2 (oV (mOpN (mCons (oV (mVar 0)) mNil) lenD)) (oV (mC (.int 2))) neD))) (mRet (mC (.bl false))) mNext)
    (mSeq (mIf (mOr (mNot (mTest (mCall (C .is_letter) (ioOf .is_letter) (mCons (oV (mOp2 (oV (mVar 0)) (oV (mC (.int 0))) ixD)) mNil)))) (mNot (mTest (mOp1 (oV (mOp2 (oV (mVar 0)) (oV (mC (.int 1))) ixD)) (isiD .list))))) (mRet (mC (.bl false))) mNext)
    (mRet (mOp2 (oV (mLc (mSrc (oV (mOp2 (oV (mVar 0)) (oV (mC (.int 1))) ixD)) seqD) (tName 1) (mNot (mTest (mCall (C .is_tree) (ioOf .is_tree) (mCons (oV (mVar 1)) mNil)))) (mVar 1) [1])) (oV (mLst mNil)) eqD))))
def q_is_tree_1t1 (C : Fc → Fn) : DEnv → SR := (mRet (mC (.bl false)))
def q_is_tree_1 (C : Fc → Fn) : DEnv → SR := (mIf (mOr (mNot (mTest (mOp1 (oV (mVar 0)) (isiD .tuple)))) (mTest (mOp2 (oV (mOpN (mCons (oV (mVar 0)) mNil) lenD)) (oV (mC (.int 2))) neD))) (q_is_tree_1t1 C) mNext)
def q_is_tree_2t1 (C : Fc → Fn) : DEnv → SR := (mRet (mC (.bl false)))
def q_is_tree_2 (C : Fc → Fn) : DEnv → SR := (mIf (mOr (mNot (mTest (mCall (C .is_letter) (ioOf .is_letter) (mCons (oV (mOp2 (oV (mVar 0)) (oV (mC (.int 0))) ixD)) mNil)))) (mNot (mTest (mOp1 (oV (mOp2 (oV (mVar 0)) (oV (mC (.int 1))) ixD)) (isiD .list))))) (q_is_tree_2t1 C) mNext)
def li_is_tree_1 (C : Fc → Fn) : Src := (mSrc (oV (mOp2 (oV (mVar 0)) (oV (mC (.int 1))) ixD)) seqD)
def lc_is_tree_1 (C : Fc → Fn) : DEnv → R Bool := (mNot (mTest (mCall (C .is_tree) (ioOf .is_tree) (mCons (oV (mVar 1)) mNil))))
def le_is_tree_1 (C : Fc → Fn) : DEnv → R D := (mVar 1)
def l_is_tree_1 (C : Fc → Fn) : DEnv → R D := (mLc (li_is_tree_1 C) (tName 1) (lc_is_tree_1 C) (le_is_tree_1 C) [1])
def q_is_tree_3 (C : Fc → Fn) : DEnv → SR := (mRet (mOp2 (oV (l_is_tree_1 C)) (oV (mLst mNil)) eqD))
theorem e_is_tree (C : Fc → Fn) : b_is_tree C =
    (mSeq (q_is_tree_1 C)
    (mSeq (q_is_tree_2 C)
    (q_is_tree_3 C))) := rfl
theorem k_is_tree {P : Program} {w : World} {K : PySem.W.Frag} {mg : Str → Option Value} {base : Heap} {k : Nat} {f : Addr} {fd : FuncData} {C : Fc → Fn} (T : Tx0 K mg v_LETTERS) (B : SysB base) (hC : ∀ x, calOf P w ⟨K, mg⟩ base k x (C x)) (F : Fun K "is_tree" "is_tree" s_is_tree f fd) :
    FnOkG P w K mg base (L2.CX P w) (k + 2) f fd ["thing"] (spD (sgOf ⟨K, mg⟩ .is_tree) (mkF 1 (ioOf .is_tree) (b_is_tree C))) := by
  have nd := sc_is_tree.nd
  refine fn_okL (sgOf ⟨K, mg⟩ .is_tree) [fz] [fz, fz] fz [] 1 F sc_is_tree rfl rfl rfl rfl rfl rfl rfl rfl fun cdv A outer s H E hr1 tk hp => ?_
  have hr := hr1.mono (Nat.le_succ _)
  exact (ds_cons (ds_if (DW.dt (dw_or (dt_not (dt_val (de_isi .tuple (by decide) T.z_isinstance T.z_tuple (by decide +kernel) (DE.op (de_var (i := 0) (pv 0) rfl))))) (dw_or1 (dt_cmp (opr_neE hr.units) (DE.op (de_callB call_len (by rfl) T.z_len (by decide +kernel) (da_cons (DE.op (de_var (i := 0) (pv 0) rfl)) da_nil) opn_len)) (DE.op (de_c pe_int fun _ => .int _)) op2_ne)))) (ds_one (ds_ret (de_c pe_bl fun _ => .bl _))) ds_nil)
    (ds_cons (ds_if (DW.dt (dw_or (dt_not (dt_val (de_call (hC .is_letter) hr tk (da_cons (DE.op (de_ix ix_seq (DE.op (de_var (i := 0) (pv 0) rfl)) (DE.op (de_c pe_int fun _ => .int _)) (op2_ix flat_fz))) da_nil)))) (dw_or1 (dt_not (dt_val (de_isi .list (by decide) T.z_isinstance T.z_list (by decide +kernel) (DE.op (de_ix ix_seq (DE.op (de_var (i := 0) (pv 0) rfl)) (DE.op (de_c pe_int fun _ => .int _)) (op2_ix flat_fz))))))))) (ds_one (ds_ret (de_c pe_bl fun _ => .bl _))) ds_nil)
    (ds_one (ds_ret (de_cmp (opr_eqE hr.units) (DE.op (de_lc (own := [("child", 1)]) (pnC := [0]) (me := fz) rfl nd (di_seq (DE.op (de_ix ix_seq (DE.op (de_var (i := 0) (pv 0) rfl)) (DE.op (de_c pe_int fun _ => .int _)) (op2_ix flat_fz))) flat_fz) (blkOk_by (N := N_is_tree) (sc := (defScope s_is_tree)) (by decide +kernel)) (fun _ => (dg_name (i := 1) nd)) (fun _ => dts_one (dt_not (dt_val (de_call (hC .is_tree) hr takes0 (da_cons (DE.op (de_var (i := 1) (pv 1) rfl)) da_nil))))) (fun _ => (de_var (i := 1) (pv 1) rfl)))) (DE.op (de_lst da_nil (by intro q h; cases h))) op2_eq)))))
/-! ### _law_deck -/
abbrev s_law_deck : Stmt := topS 5
abbrev N_law_deck : List Str := ["script", "pools", "k", "cell"]
theorem sc_law_deck : FnScope N_law_deck ["script"] (defScope s_law_deck) := ⟨rfl, rfl, rfl, by decide +kernel, rfl, by decide +kernel, by decide +kernel⟩
def b_law_deck (C : Fc → Fn) : DEnv → SR :=
    (mSeq (mAsg 1 (mLst mNil))
    (mSeq (mFor (mSrcA (mCons (oV (mOpN (mCons (oV (mC (.int 1))) (mCons (oV (mOpN (mCons (oV (mC (.int 63))) (mCons (oV (mOpN (mCons (oV (mVar 0)) mNil) lenD)) mNil)) min2D)) mNil)) max2D)) mNil) range1D) (tName 2) (mSeq (mAsg 3 (mC (.int 0)))
    (mSeq (mIf (mTest (mOp2 (oV (mVar 2)) (oV (mOpN (mCons (oV (mVar 0)) mNil) lenD)) ltD)) (mAsg 3 (mOp2 (oV (mVar 0)) (oV (mVar 2)) ixD)) mNext)
    (mDrop (mMut (oS 1) (mCons (oV (mLst (mCons (oV (mVar 3)) (mCons (oV (mOpN (mCons (oV (mOp2 (oV (mVar 3)) (oV (mOp2 (oV (mC (.int 10))) (oV (mC (.int 18))) powD)) geD)) mNil) intD)) (mCons (oV (mOp2 (oV (mC (.int 31))) (oV (mVar 2)) mulD)) mNil))))) mNil) appendF)))))
    (mRet (mLst (mCons (oV (mMove 1)) (mCons (oV (mNoL (mC (.int 0)))) mNil))))))
def q_law_deck_1 (C : Fc → Fn) : DEnv → SR := (mAsg 1 (mLst mNil))
def i_law_deck_2 (C : Fc → Fn) : Src := (mSrcA (mCons (oV (mOpN (mCons (oV (mC (.int 1))) (mCons (oV (mOpN (mCons (oV (mC (.int 63))) (mCons (oV (mOpN (mCons (oV (mVar 0)) mNil) lenD)) mNil)) min2D)) mNil)) max2D)) mNil) range1D)
def q_law_deck_2b1 (C : Fc → Fn) : DEnv → SR := (mAsg 3 (mC (.int 0)))
def q_law_deck_2b2t1 (C : Fc → Fn) : DEnv → SR := (mAsg 3 (mOp2 (oV (mVar 0)) (oV (mVar 2)) ixD))
def q_law_deck_2b2 (C : Fc → Fn) : DEnv → SR := (mIf (mTest (mOp2 (oV (mVar 2)) (oV (mOpN (mCons (oV (mVar 0)) mNil) lenD)) ltD)) (q_law_deck_2b2t1 C) mNext)
def q_law_deck_2b3 (C : Fc → Fn) : DEnv → SR := (mDrop (mMut (oS 1) (mCons (oV (mLst (mCons (oV (mVar 3)) (mCons (oV (mOpN (mCons (oV (mOp2 (oV (mVar 3)) (oV (mOp2 (oV (mC (.int 10))) (oV (mC (.int 18))) powD)) geD)) mNil) intD)) (mCons (oV (mOp2 (oV (mC (.int 31))) (oV (mVar 2)) mulD)) mNil))))) mNil) appendF))
def Q_law_deck_2b (C : Fc → Fn) : DEnv → SR := (mSeq (q_law_deck_2b1 C)
    (mSeq (q_law_deck_2b2 C)
    (q_law_deck_2b3 C)))
def q_law_deck_2 (C : Fc → Fn) : DEnv → SR := (mFor (i_law_deck_2 C) (tName 2) (Q_law_deck_2b C))
def q_law_deck_3 (C : Fc → Fn) : DEnv → SR := (mRet (mLst (mCons (oV (mMove 1)) (mCons (oV (mNoL (mC (.int 0)))) mNil))))
theorem e_law_deck (C : Fc → Fn) : b_law_deck C =
    (mSeq (q_law_deck_1 C)
    (mSeq (q_law_deck_2 C)
    (q_law_deck_3 C))) := rfl
theorem k_law_deck {P : Program} {w : World} {K : PySem.W.Frag} {mg : Str → Option Value} {base : Heap} {k : Nat} {f : Addr} {fd : FuncData} {C : Fc → Fn} (T : Tx0 K mg v_LETTERS) (B : SysB base) (hC : ∀ x, calOf P w ⟨K, mg⟩ base k x (C x)) (F : Fun K "_law_deck" "_law_deck" s_law_deck f fd) :
    FnOkG P w K mg base (L2.CX P w) (k + 2) f fd ["script"] (spD (sgOf ⟨K, mg⟩ .law_deck) (mkF 3 (ioOf .law_deck) (b_law_deck C))) := by
  have nd := sc_law_deck.nd
  refine fn_okL (sgOf ⟨K, mg⟩ .law_deck) [(Lof (Lof fz)), fz, fz] [fz, (Lof (Lof fz)), fz, fz] (Lof (Lof (Lof fz))) [] 3 F sc_law_deck rfl rfl rfl rfl rfl rfl rfl rfl fun cdv A outer s H E hr1 tk hp => ?_
  have hr := hr1.mono (Nat.le_succ _)
  exact (ds_cons (ds_set (i := 1) nd (de_lstO (m0 := (Lof fz)) da_nil (by intro q h; cases h)))
    (ds_cons (ds_for hp rfl (di_range1 T.z_range (da_cons (DE.op (de_callB (call_max2 rfl) (by rfl) T.z_max (by decide +kernel) (da_cons (DE.op (de_c pe_int fun _ => .int _)) (da_cons (DE.op (de_callB (call_min2 rfl) (by rfl) T.z_min (by decide +kernel) (da_cons (DE.op (de_c pe_int fun _ => .int _)) (da_cons (DE.op (de_callB call_len (by rfl) T.z_len (by decide +kernel) (da_cons (DE.op (de_var (i := 0) (pv 0) rfl)) da_nil) opn_len)) da_nil)) opn_min2)) da_nil)) opn_max2)) da_nil)) (dg_name (i := 2) nd) (ds_cons (ds_set (i := 3) nd (de_c pe_int fun _ => .int _))
    (ds_cons (ds_if (dt_cmp opr_lt (DE.op (de_var (i := 2) (pv 2) rfl)) (DE.op (de_callB call_len (by rfl) T.z_len (by decide +kernel) (da_cons (DE.op (de_var (i := 0) (pv 0) rfl)) da_nil) opn_len)) op2_lt) (ds_one (ds_set (i := 3) nd (de_ix ix_seq (DE.op (de_var (i := 0) (pv 0) rfl)) (DE.op (de_var (i := 2) (pv 2) rfl)) (op2_ix flat_fz)))) ds_nil)
    (ds_one (ds_expr (de_mut PySem.F.slot_list_append PySem.F.type_list_append mt_append (do_s (i := 1) (pv 1)) (da_cons (DE.op (de_lst (da_cons (DE.op (de_var (i := 3) (pv 3) rfl)) (da_cons (DE.op (de_callTy call_int1 (by rfl) T.z_int (by decide +kernel) (da_cons (DE.op (de_cmp opr_ge (DE.op (de_var (i := 3) (pv 3) rfl)) (DE.op (de_op op_pow (DE.op (de_c pe_int fun _ => .int _)) (DE.op (de_c pe_int fun _ => .int _)) op2_pow)) op2_ge)) da_nil) opn_int)) (da_cons (DE.op (DE.share (de_op opr_mul (DE.op (de_c pe_int fun _ => .int _)) (DE.op (de_var (i := 2) (pv 2) rfl)) (op2_mul flat_fz)))) da_nil))) (by intro q h; simp only [List.map_cons, List.map_nil, List.mem_cons, List.not_mem_nil, or_false, Kd.mode] at h; rcases h with rfl | rfl | rfl <;> rfl))) da_nil) mut_append))))))
    (ds_one (ds_ret (de_lstO (m0 := (Lof (Lof fz))) (da_cons (DE.op (de_move (i := 1) (pv 1) rfl)) (da_cons (DE.op (DE.noL (de_c pe_int fun _ => .int _))) da_nil)) (by intro k h; simp only [List.mem_cons, List.not_mem_nil, or_false] at h; rcases h with rfl | rfl <;> rfl))))))
/-! ### _law_draw -/
abbrev s_law_draw : Stmt := topS 6
abbrev N_law_draw : List Str := ["deck", "many", "pool", "found", "number"]
theorem sc_law_draw : FnScope N_law_draw ["deck", "many"] (defScope s_law_draw) := ⟨rfl, rfl, rfl, by decide +kernel, rfl, by decide +kernel, by decide +kernel⟩
def b_law_draw (C : Fc → Fn) : DEnv → SR :=
    (mDraw (mSeq (mIf (mAnd (mTest (mOp2 (oV (mOp2 (oS 2) (oV (mC (.int 1))) ixD)) (oV (mC (.int 1))) eqD)) (mTest (mOp2 (oV (mOp2 (oS 2) (oV (mC (.int 0))) ixD)) (oV (mC (.int 0))) gtD))) (mSeq (mAsg 3 (mOp2 (oV (mOp2 (oS 2) (oV (mC (.int 0))) ixD)) (oV (mVar 1)) modD))
    (mSeq (mStore (mOp2 (oV (mOp2 (oS 2) (oV (mC (.int 0))) ixD)) (oV (mVar 1)) fdivD) (oS 2) (mC (.int 0)) setF)
    (mRet (mVar 3)))) mNext)
    (mSeq (mStore (mOp2 (oV (mOp2 (oS 2) (oV (mC (.int 2))) ixD)) (oV (mC (.int 1))) addD) (oS 2) (mC (.int 2)) setF)
    (mSeq (mAsg 4 (mOp2 (oV (mOp2 (oV (mOp2 (oV (mOp2 (oS 2) (oV (mC (.int 0))) ixD)) (oV (mC (.int 99999999977))) modD)) (oV (mOp2 (oV (mC (.int 700001))) (oV (mOp2 (oS 2) (oV (mC (.int 2))) ixD)) mulD)) addD)) (oV (mC (.int 99999999947))) modD))
    (mSeq (mAsg 4 (mOp2 (oV (mOp2 (oV (mVar 4)) (oV (mVar 4)) mulD)) (oV (mC (.int 99999999821))) modD))
    (mSeq (mAsg 4 (mOp2 (oV (mOp2 (oV (mVar 4)) (oV (mOp2 (oV (mVar 4)) (oV (mC (.int 19))) addD)) mulD)) (oV (mC (.int 9999999967))) modD))
    (mRet (mOp2 (oV (mOp2 (oV (mVar 4)) (oV (mC (.int 13))) fdivD)) (oV (mVar 1)) modD))))))))
theorem k_law_draw {P : Program} {w : World} {K : PySem.W.Frag} {mg : Str → Option Value} {base : Heap} {k : Nat} {f : Addr} {fd : FuncData} {C : Fc → Fn} (T : Tx0 K mg v_LETTERS) (B : SysB base) (hC : ∀ x, calOf P w ⟨K, mg⟩ base k x (C x)) (F : Fun K "_law_draw" "_law_draw" s_law_draw f fd) :
    FnOkG P w K mg base (L2.CX P w) (k + 2) f fd ["deck", "many"] (spD (sgOf ⟨K, mg⟩ .law_draw) (mkF 3 (ioOf .law_draw) (b_law_draw C))) := by
  have nd := sc_law_draw.nd
  refine fn_okL (sgOf ⟨K, mg⟩ .law_draw) [(Lof fz), fz, fz] [(Lof (Lof (Lof fz))), fz, (Lof fz), fz, fz] fz [0] 3 F sc_law_draw rfl rfl rfl rfl rfl rfl rfl rfl fun cdv A outer s H E hr1 tk hp => ?_
  have hr := hr1.mono (Nat.le_succ _)
  exact (ds_draw (fun i j H Q q => ⟨i, j, rfl, rfl, q⟩) (ps_set (i := 2) nd rfl (by first | exact .inl rfl | exact .inr rfl) (pe_ix ix_list (pe_ix ix_list (pv 0) pe_int (fun _ _ => rfl)) (pe_op op_mod (pe_ix ix_list (pv 0) pe_int (fun _ _ => rfl)) (pe_callB call_len (by rfl) T.z_len (by decide +kernel) (pa_cons (pe_ix ix_list (pv 0) pe_int (fun _ _ => rfl)) pa_nil rfl))) (fun _ _ => rfl))) (ps_asg (pe_op op_add (pe_ix ix_list (pv 0) pe_int (fun _ _ => rfl)) pe_int) (pg_sub (pv 0) pe_int set_list)) rfl (ds_cons (ds_if (DW.dt (dw_and (dt_cmp (opr_eqE hr.units) (DE.op (de_ix ix_seq (do_s (i := 2) (pv 2)) (DE.op (de_c pe_int fun _ => .int _)) (op2_ix flat_L))) (DE.op (de_c pe_int fun _ => .int _)) op2_eq) (dw_and1 (dt_cmp opr_gt (DE.op (de_ix ix_seq (do_s (i := 2) (pv 2)) (DE.op (de_c pe_int fun _ => .int _)) (op2_ix flat_L))) (DE.op (de_c pe_int fun _ => .int _)) op2_gt)))) (ds_cons (ds_set (i := 3) nd (de_op op_mod (DE.op (de_ix ix_seq (do_s (i := 2) (pv 2)) (DE.op (de_c pe_int fun _ => .int _)) (op2_ix flat_L))) (DE.op (de_var (i := 1) (pv 1) rfl)) op2_mod))
    (ds_cons (ds_store (de_op op_fdiv (DE.op (de_ix ix_seq (do_s (i := 2) (pv 2)) (DE.op (de_c pe_int fun _ => .int _)) (op2_ix flat_L))) (DE.op (de_var (i := 1) (pv 1) rfl)) op2_fdiv) (do_s (i := 2) (pv 2)) (de_c pe_int fun _ => .int _))
    (ds_one (ds_ret (de_var (i := 3) (pv 3) rfl))))) ds_nil)
    (ds_cons (ds_store (DE.share (de_op opr_add (DE.op (de_ix ix_seq (do_s (i := 2) (pv 2)) (DE.op (de_c pe_int fun _ => .int _)) (op2_ix flat_L))) (DE.op (de_c pe_int fun _ => .int _)) (op2_add flat_fz flat_fz))) (do_s (i := 2) (pv 2)) (de_c pe_int fun _ => .int _))
    (ds_cons (ds_set (i := 4) nd (de_op op_mod (DE.op (de_op opr_add (DE.op (de_op op_mod (DE.op (de_ix ix_seq (do_s (i := 2) (pv 2)) (DE.op (de_c pe_int fun _ => .int _)) (op2_ix flat_L))) (DE.op (de_c pe_int fun _ => .int _)) op2_mod)) (DE.op (de_op opr_mul (DE.op (de_c pe_int fun _ => .int _)) (DE.op (de_ix ix_seq (do_s (i := 2) (pv 2)) (DE.op (de_c pe_int fun _ => .int _)) (op2_ix flat_L))) (op2_mul flat_fz))) (op2_add flat_fz flat_L))) (DE.op (de_c pe_int fun _ => .int _)) op2_mod))
    (ds_cons (ds_set (i := 4) nd (de_op op_mod (DE.op (de_op opr_mul (DE.op (de_var (i := 4) (pv 4) rfl)) (DE.op (de_var (i := 4) (pv 4) rfl)) (op2_mul flat_fz))) (DE.op (de_c pe_int fun _ => .int _)) op2_mod))
    (ds_cons (ds_set (i := 4) nd (de_op op_mod (DE.op (de_op opr_mul (DE.op (de_var (i := 4) (pv 4) rfl)) (DE.op (de_op opr_add (DE.op (de_var (i := 4) (pv 4) rfl)) (DE.op (de_c pe_int fun _ => .int _)) (op2_add flat_fz flat_fz))) (op2_mul flat_fz))) (DE.op (de_c pe_int fun _ => .int _)) op2_mod))
    (ds_one (ds_ret (de_op op_mod (DE.op (de_op op_fdiv (DE.op (de_var (i := 4) (pv 4) rfl)) (DE.op (de_c pe_int fun _ => .int _)) op2_fdiv)) (DE.op (de_var (i := 1) (pv 1) rfl)) op2_mod)))))))))
/-! ### _law_letters -/
abbrev s_law_letters : Stmt := topS 7
abbrev N_law_letters : List Str := ["deck"]
theorem sc_law_letters : FnScope N_law_letters ["deck"] (defScope s_law_letters) := ⟨rfl, rfl, rfl, by decide +kernel, rfl, by decide +kernel, by decide +kernel⟩
def b_law_letters (C : Fc → Fn) : DEnv → SR :=
    (mRet (mOp2 (oV (mLst (mCons (oV (mC (.str "a"))) (mCons (oV (mC (.str "ab"))) (mCons (oV (mC (.str "abc"))) (mCons (oV (mC (.str "xyz"))) (mCons (oV (mC (.str "abcdefghijklmnopqrstuvwxyz"))) mNil))))))) (oV (mCall (C .law_draw) (ioOf .law_draw) (mCons (oS 0) (mCons (oV (mC (.int 5))) mNil)))) ixD))
def q_law_letters_1 (C : Fc → Fn) : DEnv → SR := (mRet (mOp2 (oV (mLst (mCons (oV (mC (.str "a"))) (mCons (oV (mC (.str "ab"))) (mCons (oV (mC (.str "abc"))) (mCons (oV (mC (.str "xyz"))) (mCons (oV (mC (.str "abcdefghijklmnopqrstuvwxyz"))) mNil))))))) (oV (mCall (C .law_draw) (ioOf .law_draw) (mCons (oS 0) (mCons (oV (mC (.int 5))) mNil)))) ixD))
theorem e_law_letters (C : Fc → Fn) : b_law_letters C =
    (q_law_letters_1 C) := rfl
theorem k_law_letters {P : Program} {w : World} {K : PySem.W.Frag} {mg : Str → Option Value} {base : Heap} {k : Nat} {f : Addr} {fd : FuncData} {C : Fc → Fn} (T : Tx0 K mg v_LETTERS) (B : SysB base) (hC : ∀ x, calOf P w ⟨K, mg⟩ base k x (C x)) (F : Fun K "_law_letters" "_law_letters" s_law_letters f fd) :
    FnOkG P w K mg base (L2.CX P w) (k + 2) f fd ["deck"] (spD (sgOf ⟨K, mg⟩ .law_letters) (mkF 0 (ioOf .law_letters) (b_law_letters C))) := by
  have nd := sc_law_letters.nd
  refine fn_okL (sgOf ⟨K, mg⟩ .law_letters) [] [(Lof (Lof (Lof fz)))] fz [0] 0 F sc_law_letters rfl rfl rfl rfl rfl rfl rfl rfl fun cdv A outer s H E hr1 tk hp => ?_
  have hr := hr1.mono (Nat.le_succ _)
  exact (ds_one (ds_ret (de_ix ix_seq (DE.op (de_lst (da_cons (DE.op (de_c pe_str fun _ => .str _)) (da_cons (DE.op (de_c pe_str fun _ => .str _)) (da_cons (DE.op (de_c pe_str fun _ => .str _)) (da_cons (DE.op (de_c pe_str fun _ => .str _)) (da_cons (DE.op (de_c pe_str fun _ => .str _)) da_nil))))) (by intro q h; simp only [List.map_cons, List.map_nil, List.mem_cons, List.not_mem_nil, or_false, Kd.mode] at h; rcases h with rfl | rfl | rfl | rfl | rfl <;> rfl))) (DE.op (de_call (hC .law_draw) hr tk (da_cons (do_s (i := 0) (pv 0)) (da_cons (DE.op (de_c pe_int fun _ => .int _)) da_nil)))) (op2_ix flat_L))))
/-! ### _law_grown -/
abbrev s_law_grown : Stmt := topS 8
abbrev N_law_grown : List Str := ["deck", "rows", "letters", "k", "letter", "child"]
theorem sc_law_grown : FnScope N_law_grown ["deck", "rows", "letters", "k"] (defScope s_law_grown) := ⟨rfl, rfl, rfl, by decide +kernel, rfl, by decide +kernel, by decide +kernel⟩
def b_law_grown (C : Fc → Fn) : DEnv → SR :=
    (mSeq (mAsg 4 (mOp2 (oV (mVar 2)) (oV (mCall (C .law_draw) (ioOf .law_draw) (mCons (oS 0) (mCons (oV (mOpN (mCons (oV (mVar 2)) mNil) lenD)) mNil)))) ixD))
    (mRet (mTup (mCons (oV (mVar 4)) (mCons (oV (mLc (mSrc (oV (mOp2 (oV (mVar 1)) (oV (mVar 3)) ixD)) seqD) (tName 5) mYes (mCall (C .law_grown) (ioOf .law_grown) (mCons (oS 0) (mCons (oV (mVar 1)) (mCons (oV (mVar 2)) (mCons (oV (mVar 5)) mNil))))) [5])) mNil)))))
def q_law_grown_1 (C : Fc → Fn) : DEnv → SR := (mAsg 4 (mOp2 (oV (mVar 2)) (oV (mCall (C .law_draw) (ioOf .law_draw) (mCons (oS 0) (mCons (oV (mOpN (mCons (oV (mVar 2)) mNil) lenD)) mNil)))) ixD))
def li_law_grown_1 (C : Fc → Fn) : Src := (mSrc (oV (mOp2 (oV (mVar 1)) (oV (mVar 3)) ixD)) seqD)
def lc_law_grown_1 (C : Fc → Fn) : DEnv → R Bool := mYes
def le_law_grown_1 (C : Fc → Fn) : DEnv → R D := (mCall (C .law_grown) (ioOf .law_grown) (mCons (oS 0) (mCons (oV (mVar 1)) (mCons (oV (mVar 2)) (mCons (oV (mVar 5)) mNil)))))
def l_law_grown_1 (C : Fc → Fn) : DEnv → R D := (mLc (li_law_grown_1 C) (tName 5) (lc_law_grown_1 C) (le_law_grown_1 C) [5])
def q_law_grown_2 (C : Fc → Fn) : DEnv → SR := (mRet (mTup (mCons (oV (mVar 4)) (mCons (oV (l_law_grown_1 C)) mNil))))
theorem e_law_grown (C : Fc → Fn) : b_law_grown C =
    (mSeq (q_law_grown_1 C)
    (q_law_grown_2 C)) := rfl
theorem k_law_grown {P : Program} {w : World} {K : PySem.W.Frag} {mg : Str → Option Value} {base : Heap} {k : Nat} {f : Addr} {fd : FuncData} {C : Fc → Fn} (T : Tx0 K mg v_LETTERS) (B : SysB base) (hC : ∀ x, calOf P w ⟨K, mg⟩ base k x (C x)) (F : Fun K "_law_grown" "_law_grown" s_law_grown f fd) :
    FnOkG P w K mg base (L2.CX P w) (k + 2) f fd ["deck", "rows", "letters", "k"] (spD (sgOf ⟨K, mg⟩ .law_grown) (mkF 2 (ioOf .law_grown) (b_law_grown C))) := by
  have nd := sc_law_grown.nd
  refine fn_okL (sgOf ⟨K, mg⟩ .law_grown) [fz, fz] [(Lof (Lof (Lof fz))), fz, fz, fz, fz, fz] fz [0] 2 F sc_law_grown rfl rfl rfl rfl rfl rfl rfl rfl fun cdv A outer s H E hr1 tk hp => ?_
  have hr := hr1.mono (Nat.le_succ _)
  exact (ds_cons (ds_set (i := 4) nd (de_ix ix_seq (DE.op (de_var (i := 2) (pv 2) rfl)) (DE.op (de_call (hC .law_draw) hr tk (da_cons (do_s (i := 0) (pv 0)) (da_cons (DE.op (de_callB call_len (by rfl) T.z_len (by decide +kernel) (da_cons (DE.op (de_var (i := 2) (pv 2) rfl)) da_nil) opn_len)) da_nil)))) (op2_ix flat_fz)))
    (ds_one (ds_ret (de_tup (da_cons (DE.op (de_var (i := 4) (pv 4) rfl)) (da_cons (DE.op (DE.share (de_lc (own := [("child", 5)]) (pnC := [0, 1, 2, 3, 4]) (me := fz) rfl nd (di_seq (DE.op (de_ix ix_seq (DE.op (de_var (i := 1) (pv 1) rfl)) (DE.op (de_var (i := 3) (pv 3) rfl)) (op2_ix flat_fz))) flat_fz) (blkOk_by (N := N_law_grown) (sc := (defScope s_law_grown)) (by decide +kernel)) (fun _ => (dg_name (i := 5) nd)) (fun _ => dts_nil) (fun _ => (de_call (hC .law_grown) hr takes0 (da_cons (do_s (i := 0) (pv 0)) (da_cons (DE.op (de_var (i := 1) (pv 1) rfl)) (da_cons (DE.op (de_var (i := 2) (pv 2) rfl)) (da_cons (DE.op (de_var (i := 5) (pv 5) rfl)) da_nil))))))))) da_nil)) (by intro q h; simp only [List.map_cons, List.map_nil, List.mem_cons, List.not_mem_nil, or_false, Kd.mode] at h; rcases h with rfl | rfl <;> rfl)))))
/-! ### _law_tree -/
abbrev s_law_tree : Stmt := topS 9
abbrev N_law_tree : List Str := ["deck", "most", "letters", "many", "kind", "rows", "depths", "k", "heads", "head"]
theorem sc_law_tree : FnScope N_law_tree ["deck", "most", "letters"] (defScope s_law_tree) := ⟨rfl, rfl, rfl, by decide +kernel, rfl, by decide +kernel, by decide +kernel⟩
def b_law_tree (C : Fc → Fn) : DEnv → SR :=
    (mSeq (mAsg 3 (mOp2 (oV (mC (.int 1))) (oV (mOp2 (oV (mLst (mCons (oV (mCall (C .law_draw) (ioOf .law_draw) (mCons (oS 0) (mCons (oV (mOpN (mCons (oV (mVar 1)) (mCons (oV (mC (.int 7))) mNil)) min2D)) mNil)))) (mCons (oV (mCall (C .law_draw) (ioOf .law_draw) (mCons (oS 0) (mCons (oV (mVar 1)) mNil)))) (mCons (oV (mOp2 (oV (mVar 1)) (oV (mC (.int 1))) subD)) mNil))))) (oV (mCall (C .law_draw) (ioOf .law_draw) (mCons (oS 0) (mCons (oV (mC (.int 3))) mNil)))) ixD)) addD))
    (mSeq (mAsg 4 (mCall (C .law_draw) (ioOf .law_draw) (mCons (oS 0) (mCons (oV (mC (.int 6))) mNil))))
    (mSeq (mAsg 5 (mLst (mCons (oV (mLst mNil)) mNil)))
    (mSeq (mAsg 6 (mLst (mCons (oV (mC (.int 1))) mNil)))
    (mSeq (mFor (mSrcA (mCons (oV (mC (.int 1))) (mCons (oV (mVar 3)) mNil)) range2D) (tName 7) (mSeq (mAsg 8 (mLst (mCons (oV (mOp2 (oV (mVar 7)) (oV (mC (.int 1))) subD)) (mCons (oV (mCall (C .law_draw) (ioOf .law_draw) (mCons (oS 0) (mCons (oV (mVar 7)) mNil)))) (mCons (oV (mOpN (mCons (oV (mC (.int 0))) (mCons (oV (mOp2 (oV (mOp2 (oV (mVar 7)) (oV (mC (.int 1))) subD)) (oV (mCall (C .law_draw) (ioOf .law_draw) (mCons (oS 0) (mCons (oV (mC (.int 3))) mNil)))) subD)) mNil)) max2D)) (mCons (oV (mC (.int 0))) (mCons (oV (mOp2 (oV (mOp2 (oV (mVar 7)) (oV (mC (.int 1))) subD)) (oV (mC (.int 2))) fdivD)) mNil)))))))
    (mSeq (mAsg 9 (mOp2 (oV (mOp2 (oV (mVar 8)) (oV (mLst (mCons (oV (mCall (C .law_draw) (ioOf .law_draw) (mCons (oS 0) (mCons (oV (mOpN (mCons (oV (mVar 7)) (mCons (oV (mC (.int 4))) mNil)) min2D)) mNil)))) mNil))) addD)) (oV (mVar 4)) ixD))
    (mSeq (mIf (mTest (mOp2 (oV (mOp2 (oS 6) (oV (mVar 9)) ixD)) (oV (mC (.int 19))) gtD)) (mAsg 9 (mOp2 (oV (mCall (C .law_draw) (ioOf .law_draw) (mCons (oS 0) (mCons (oV (mC (.int 19))) mNil)))) (oV (mVar 7)) modD)) mNext)
    (mSeq (mIf (mTest (mOp2 (oV (mOp2 (oS 6) (oV (mVar 9)) ixD)) (oV (mC (.int 19))) gtD)) (mAsg 9 (mC (.int 0))) mNext)
    (mSeq (mDrop (mMutP 5 (mVar 9) (mCons (oV (mCall (C .law_draw) (ioOf .law_draw) (mCons (oS 0) (mCons (oV (mOp2 (oV (mLenIx 5 (mVar 9))) (oV (mC (.int 1))) addD)) mNil)))) (mCons (oV (mVar 7)) mNil)) insertF))
    (mSeq (mDrop (mMut (oS 5) (mCons (oV (mLst mNil)) mNil) appendF))
    (mDrop (mMut (oS 6) (mCons (oV (mOp2 (oV (mOp2 (oS 6) (oV (mVar 9)) ixD)) (oV (mC (.int 1))) addD)) mNil) appendF)))))))))
    (mRet (mCall (C .law_grown) (ioOf .law_grown) (mCons (oS 0) (mCons (oV (mMove 5)) (mCons (oV (mVar 2)) (mCons (oV (mC (.int 0))) mNil)))))))))))
def q_law_tree_1 (C : Fc → Fn) : DEnv → SR := (mAsg 3 (mOp2 (oV (mC (.int 1))) (oV (mOp2 (oV (mLst (mCons (oV (mCall (C .law_draw) (ioOf .law_draw) (mCons (oS 0) (mCons (oV (mOpN (mCons (oV (mVar 1)) (mCons (oV (mC (.int 7))) mNil)) min2D)) mNil)))) (mCons (oV (mCall (C .law_draw) (ioOf .law_draw) (mCons (oS 0) (mCons (oV (mVar 1)) mNil)))) (mCons (oV (mOp2 (oV (mVar 1)) (oV (mC (.int 1))) subD)) mNil))))) (oV (mCall (C .law_draw) (ioOf .law_draw) (mCons (oS 0) (mCons (oV (mC (.int 3))) mNil)))) ixD)) addD))
def q_law_tree_2 (C : Fc → Fn) : DEnv → SR := (mAsg 4 (mCall (C .law_draw) (ioOf .law_draw) (mCons (oS 0) (mCons (oV (mC (.int 6))) mNil))))
def q_law_tree_3 (C : Fc → Fn) : DEnv → SR := (mAsg 5 (mLst (mCons (oV (mLst mNil)) mNil)))
def q_law_tree_4 (C : Fc → Fn) : DEnv → SR := (mAsg 6 (mLst (mCons (oV (mC (.int 1))) mNil)))
def i_law_tree_5 (C : Fc → Fn) : Src := (mSrcA (mCons (oV (mC (.int 1))) (mCons (oV (mVar 3)) mNil)) range2D)
def q_law_tree_5b1 (C : Fc → Fn) : DEnv → SR := (mAsg 8 (mLst (mCons (oV (mOp2 (oV (mVar 7)) (oV (mC (.int 1))) subD)) (mCons (oV (mCall (C .law_draw) (ioOf .law_draw) (mCons (oS 0) (mCons (oV (mVar 7)) mNil)))) (mCons (oV (mOpN (mCons (oV (mC (.int 0))) (mCons (oV (mOp2 (oV (mOp2 (oV (mVar 7)) (oV (mC (.int 1))) subD)) (oV (mCall (C .law_draw) (ioOf .law_draw) (mCons (oS 0) (mCons (oV (mC (.int 3))) mNil)))) subD)) mNil)) max2D)) (mCons (oV (mC (.int 0))) (mCons (oV (mOp2 (oV (mOp2 (oV (mVar 7)) (oV (mC (.int 1))) subD)) (oV (mC (.int 2))) fdivD)) mNil)))))))
def q_law_tree_5b2 (C : Fc → Fn) : DEnv → SR := (mAsg 9 (mOp2 (oV (mOp2 (oV (mVar 8)) (oV (mLst (mCons (oV (mCall (C .law_draw) (ioOf .law_draw) (mCons (oS 0) (mCons (oV (mOpN (mCons (oV (mVar 7)) (mCons (oV (mC (.int 4))) mNil)) min2D)) mNil)))) mNil))) addD)) (oV (mVar 4)) ixD))
def q_law_tree_5b3t1 (C : Fc → Fn) : DEnv → SR := (mAsg 9 (mOp2 (oV (mCall (C .law_draw) (ioOf .law_draw) (mCons (oS 0) (mCons (oV (mC (.int 19))) mNil)))) (oV (mVar 7)) modD))
def q_law_tree_5b3 (C : Fc → Fn) : DEnv → SR := (mIf (mTest (mOp2 (oV (mOp2 (oS 6) (oV (mVar 9)) ixD)) (oV (mC (.int 19))) gtD)) (q_law_tree_5b3t1 C) mNext)
def q_law_tree_5b4t1 (C : Fc → Fn) : DEnv → SR := (mAsg 9 (mC (.int 0)))
def q_law_tree_5b4 (C : Fc → Fn) : DEnv → SR := (mIf (mTest (mOp2 (oV (mOp2 (oS 6) (oV (mVar 9)) ixD)) (oV (mC (.int 19))) gtD)) (q_law_tree_5b4t1 C) mNext)
def q_law_tree_5b5 (C : Fc → Fn) : DEnv → SR := (mDrop (mMutP 5 (mVar 9) (mCons (oV (mCall (C .law_draw) (ioOf .law_draw) (mCons (oS 0) (mCons (oV (mOp2 (oV (mLenIx 5 (mVar 9))) (oV (mC (.int 1))) addD)) mNil)))) (mCons (oV (mVar 7)) mNil)) insertF))
def q_law_tree_5b6 (C : Fc → Fn) : DEnv → SR := (mDrop (mMut (oS 5) (mCons (oV (mLst mNil)) mNil) appendF))
def q_law_tree_5b7 (C : Fc → Fn) : DEnv → SR := (mDrop (mMut (oS 6) (mCons (oV (mOp2 (oV (mOp2 (oS 6) (oV (mVar 9)) ixD)) (oV (mC (.int 1))) addD)) mNil) appendF))
def Q_law_tree_5b (C : Fc → Fn) : DEnv → SR := (mSeq (q_law_tree_5b1 C)
    (mSeq (q_law_tree_5b2 C)
    (mSeq (q_law_tree_5b3 C)
    (mSeq (q_law_tree_5b4 C)
    (mSeq (q_law_tree_5b5 C)
    (mSeq (q_law_tree_5b6 C)
    (q_law_tree_5b7 C)))))))
def q_law_tree_5 (C : Fc → Fn) : DEnv → SR := (mFor (i_law_tree_5 C) (tName 7) (Q_law_tree_5b C))
def q_law_tree_6 (C : Fc → Fn) : DEnv → SR := (mRet (mCall (C .law_grown) (ioOf .law_grown) (mCons (oS 0) (mCons (oV (mMove 5)) (mCons (oV (mVar 2)) (mCons (oV (mC (.int 0))) mNil))))))
theorem e_law_tree (C : Fc → Fn) : b_law_tree C =
    (mSeq (q_law_tree_1 C)
    (mSeq (q_law_tree_2 C)
    (mSeq (q_law_tree_3 C)
    (mSeq (q_law_tree_4 C)
    (mSeq (q_law_tree_5 C)
    (q_law_tree_6 C)))))) := rfl
theorem k_law_tree {P : Program} {w : World} {K : PySem.W.Frag} {mg : Str → Option Value} {base : Heap} {k : Nat} {f : Addr} {fd : FuncData} {C : Fc → Fn} (T : Tx0 K mg v_LETTERS) (B : SysB base) (hC : ∀ x, calOf P w ⟨K, mg⟩ base k x (C x)) (F : Fun K "_law_tree" "_law_tree" s_law_tree f fd) :
    FnOkG P w K mg base (L2.CX P w) (k + 2) f fd ["deck", "most", "letters"] (spD (sgOf ⟨K, mg⟩ .law_tree) (mkF 7 (ioOf .law_tree) (b_law_tree C))) := by
  have nd := sc_law_tree.nd
  refine fn_okL (sgOf ⟨K, mg⟩ .law_tree) [fz, fz, (Lof (Lof fz)), (Lof fz), fz, fz, fz] [(Lof (Lof (Lof fz))), fz, fz, fz, fz, (Lof (Lof fz)), (Lof fz), fz, fz, fz] fz [0] 7 F sc_law_tree rfl rfl rfl rfl rfl rfl rfl rfl fun cdv A outer s H E hr1 tk hp => ?_
  have hr := hr1.mono (Nat.le_succ _)
  exact (ds_cons (ds_set (i := 3) nd (DE.share (de_op opr_add (DE.op (de_c pe_int fun _ => .int _)) (DE.op (de_ix ix_seq (DE.op (de_lst (da_cons (DE.op (de_call (hC .law_draw) hr tk (da_cons (do_s (i := 0) (pv 0)) (da_cons (DE.op (de_callB (call_min2 rfl) (by rfl) T.z_min (by decide +kernel) (da_cons (DE.op (de_var (i := 1) (pv 1) rfl)) (da_cons (DE.op (de_c pe_int fun _ => .int _)) da_nil)) opn_min2)) da_nil)))) (da_cons (DE.op (de_call (hC .law_draw) hr tk (da_cons (do_s (i := 0) (pv 0)) (da_cons (DE.op (de_var (i := 1) (pv 1) rfl)) da_nil)))) (da_cons (DE.op (de_op op_sub (DE.op (de_var (i := 1) (pv 1) rfl)) (DE.op (de_c pe_int fun _ => .int _)) op2_sub)) da_nil))) (by intro q h; simp only [List.map_cons, List.map_nil, List.mem_cons, List.not_mem_nil, or_false, Kd.mode] at h; rcases h with rfl | rfl | rfl <;> rfl))) (DE.op (de_call (hC .law_draw) hr tk (da_cons (do_s (i := 0) (pv 0)) (da_cons (DE.op (de_c pe_int fun _ => .int _)) da_nil)))) (op2_ix flat_L))) (op2_add flat_fz flat_fz))))
    (ds_cons (ds_set (i := 4) nd (de_call (hC .law_draw) hr tk (da_cons (do_s (i := 0) (pv 0)) (da_cons (DE.op (de_c pe_int fun _ => .int _)) da_nil))))
    (ds_cons (ds_set (i := 5) nd (de_lstO (m0 := (Lof fz)) (da_cons (DE.op (de_lst da_nil (by intro q h; cases h))) da_nil) (by intro k h; simp only [List.mem_cons, List.not_mem_nil, or_false] at h; rcases h with rfl <;> rfl)))
    (ds_cons (ds_set (i := 6) nd (de_lst (da_cons (DE.op (de_c pe_int fun _ => .int _)) da_nil) (by intro q h; simp only [List.map_cons, List.map_nil, List.mem_cons, List.not_mem_nil, or_false, Kd.mode] at h; rcases h with rfl <;> rfl)))
    (ds_cons (ds_for hp rfl (di_range2 T.z_range (da_cons (DE.op (de_c pe_int fun _ => .int _)) (da_cons (DE.op (de_var (i := 3) (pv 3) rfl)) da_nil))) (dg_name (i := 7) nd) (ds_cons (ds_set (i := 8) nd (DE.share (de_lst (da_cons (DE.op (de_op op_sub (DE.op (de_var (i := 7) (pv 7) rfl)) (DE.op (de_c pe_int fun _ => .int _)) op2_sub)) (da_cons (DE.op (de_call (hC .law_draw) hr tk (da_cons (do_s (i := 0) (pv 0)) (da_cons (DE.op (de_var (i := 7) (pv 7) rfl)) da_nil)))) (da_cons (DE.op (de_callB (call_max2 rfl) (by rfl) T.z_max (by decide +kernel) (da_cons (DE.op (de_c pe_int fun _ => .int _)) (da_cons (DE.op (de_op op_sub (DE.op (de_op op_sub (DE.op (de_var (i := 7) (pv 7) rfl)) (DE.op (de_c pe_int fun _ => .int _)) op2_sub)) (DE.op (de_call (hC .law_draw) hr tk (da_cons (do_s (i := 0) (pv 0)) (da_cons (DE.op (de_c pe_int fun _ => .int _)) da_nil)))) op2_sub)) da_nil)) opn_max2)) (da_cons (DE.op (de_c pe_int fun _ => .int _)) (da_cons (DE.op (de_op op_fdiv (DE.op (de_op op_sub (DE.op (de_var (i := 7) (pv 7) rfl)) (DE.op (de_c pe_int fun _ => .int _)) op2_sub)) (DE.op (de_c pe_int fun _ => .int _)) op2_fdiv)) da_nil))))) (by intro q h; simp only [List.map_cons, List.map_nil, List.mem_cons, List.not_mem_nil, or_false, Kd.mode] at h; rcases h with rfl | rfl | rfl | rfl | rfl <;> rfl))))
    (ds_cons (ds_set (i := 9) nd (de_ix ix_seq (DE.op (de_op opr_add (DE.op (de_var (i := 8) (pv 8) rfl)) (DE.op (de_lst (da_cons (DE.op (de_call (hC .law_draw) hr tk (da_cons (do_s (i := 0) (pv 0)) (da_cons (DE.op (de_callB (call_min2 rfl) (by rfl) T.z_min (by decide +kernel) (da_cons (DE.op (de_var (i := 7) (pv 7) rfl)) (da_cons (DE.op (de_c pe_int fun _ => .int _)) da_nil)) opn_min2)) da_nil)))) da_nil) (by intro q h; simp only [List.map_cons, List.map_nil, List.mem_cons, List.not_mem_nil, or_false, Kd.mode] at h; rcases h with rfl <;> rfl))) (op2_add flat_fz flat_L))) (DE.op (de_var (i := 4) (pv 4) rfl)) (op2_ix flat_L)))
    (ds_cons (ds_if (dt_cmp opr_gt (DE.op (de_ix ix_seq (do_s (i := 6) (pv 6)) (DE.op (de_var (i := 9) (pv 9) rfl)) (op2_ix flat_L))) (DE.op (de_c pe_int fun _ => .int _)) op2_gt) (ds_one (ds_set (i := 9) nd (de_op op_mod (DE.op (de_call (hC .law_draw) hr tk (da_cons (do_s (i := 0) (pv 0)) (da_cons (DE.op (de_c pe_int fun _ => .int _)) da_nil)))) (DE.op (de_var (i := 7) (pv 7) rfl)) op2_mod))) ds_nil)
    (ds_cons (ds_if (dt_cmp opr_gt (DE.op (de_ix ix_seq (do_s (i := 6) (pv 6)) (DE.op (de_var (i := 9) (pv 9) rfl)) (op2_ix flat_L))) (DE.op (de_c pe_int fun _ => .int _)) op2_gt) (ds_one (ds_set (i := 9) nd (de_c pe_int fun _ => .int _))) ds_nil)
    (ds_cons (ds_expr (de_mutP (i := 5) (me := Lof fz) PySem.F.slot_list_insert PySem.F.type_list_insert mt_insert (pv 5) (de_var (i := 9) (pv 9) rfl) (fun _ => (da_cons (DE.op (de_call (hC .law_draw) hr tk (da_cons (do_s (i := 0) (pv 0)) (da_cons (DE.op (DE.share (de_op opr_add (DE.op (de_lenIx (i := 5) (pv 5) (de_var (i := 9) (pv 9) rfl) (by rfl) T.z_len (by decide +kernel))) (DE.op (de_c pe_int fun _ => .int _)) (op2_add flat_fz flat_fz)))) da_nil)))) (da_cons (DE.op (de_var (i := 7) (pv 7) rfl)) da_nil))) mut_insert))
    (ds_cons (ds_expr (de_mut PySem.F.slot_list_append PySem.F.type_list_append mt_append (do_s (i := 5) (pv 5)) (da_cons (DE.op (de_lst da_nil (by intro q h; cases h))) da_nil) mut_append))
    (ds_one (ds_expr (de_mut PySem.F.slot_list_append PySem.F.type_list_append mt_append (do_s (i := 6) (pv 6)) (da_cons (DE.op (DE.share (de_op opr_add (DE.op (de_ix ix_seq (do_s (i := 6) (pv 6)) (DE.op (de_var (i := 9) (pv 9) rfl)) (op2_ix flat_L))) (DE.op (de_c pe_int fun _ => .int _)) (op2_add flat_fz flat_fz)))) da_nil) mut_append))))))))))
    (ds_one (ds_ret (de_call (hC .law_grown) hr tk (da_cons (do_s (i := 0) (pv 0)) (da_cons (DE.op (DE.share (de_move (i := 5) (pv 5) rfl))) (da_cons (DE.op (de_var (i := 2) (pv 2) rfl)) (da_cons (DE.op (de_c pe_int fun _ => .int _)) da_nil))))))))))))
/-! ### _law_deep -/
abbrev s_law_deep : Stmt := topS 10
abbrev N_law_deep : List Str := ["tree", "child"]
theorem sc_law_deep : FnScope N_law_deep ["tree"] (defScope s_law_deep) := ⟨rfl, rfl, rfl, by decide +kernel, rfl, by decide +kernel, by decide +kernel⟩
def b_law_deep (C : Fc → Fn) : DEnv → SR :=
    (mRet (mTup (mCons (oV (mOp2 (oV (mVar 0)) (oV (mC (.int 0))) ixD)) (mCons (oV (mLc (mSrc (oV (mOp2 (oV (mVar 0)) (oV (mC (.int 1))) ixD)) seqD) (tName 1) mYes (mCall (C .law_deep) (ioOf .law_deep) (mCons (oV (mVar 1)) mNil)) [1])) mNil))))
def li_law_deep_1 (C : Fc → Fn) : Src := (mSrc (oV (mOp2 (oV (mVar 0)) (oV (mC (.int 1))) ixD)) seqD)
def lc_law_deep_1 (C : Fc → Fn) : DEnv → R Bool := mYes
def le_law_deep_1 (C : Fc → Fn) : DEnv → R D := (mCall (C .law_deep) (ioOf .law_deep) (mCons (oV (mVar 1)) mNil))
def l_law_deep_1 (C : Fc → Fn) : DEnv → R D := (mLc (li_law_deep_1 C) (tName 1) (lc_law_deep_1 C) (le_law_deep_1 C) [1])
def q_law_deep_1 (C : Fc → Fn) : DEnv → SR := (mRet (mTup (mCons (oV (mOp2 (oV (mVar 0)) (oV (mC (.int 0))) ixD)) (mCons (oV (l_law_deep_1 C)) mNil))))
theorem e_law_deep (C : Fc → Fn) : b_law_deep C =
    (q_law_deep_1 C) := rfl
theorem k_law_deep {P : Program} {w : World} {K : PySem.W.Frag} {mg : Str → Option Value} {base : Heap} {k : Nat} {f : Addr} {fd : FuncData} {C : Fc → Fn} (T : Tx0 K mg v_LETTERS) (B : SysB base) (hC : ∀ x, calOf P w ⟨K, mg⟩ base k x (C x)) (F : Fun K "_law_deep" "_law_deep" s_law_deep f fd) :
    FnOkG P w K mg base (L2.CX P w) (k + 2) f fd ["tree"] (spD (sgOf ⟨K, mg⟩ .law_deep) (mkF 1 (ioOf .law_deep) (b_law_deep C))) := by
  have nd := sc_law_deep.nd
  refine fn_okL (sgOf ⟨K, mg⟩ .law_deep) [fz] [fz, fz] fz [] 1 F sc_law_deep rfl rfl rfl rfl rfl rfl rfl rfl fun cdv A outer s H E hr1 tk hp => ?_
  have hr := hr1.mono (Nat.le_succ _)
  exact (ds_one (ds_ret (de_tup (da_cons (DE.op (de_ix ix_seq (DE.op (de_var (i := 0) (pv 0) rfl)) (DE.op (de_c pe_int fun _ => .int _)) (op2_ix flat_fz))) (da_cons (DE.op (DE.share (de_lc (own := [("child", 1)]) (pnC := [0]) (me := fz) rfl nd (di_seq (DE.op (de_ix ix_seq (DE.op (de_var (i := 0) (pv 0) rfl)) (DE.op (de_c pe_int fun _ => .int _)) (op2_ix flat_fz))) flat_fz) (blkOk_by (N := N_law_deep) (sc := (defScope s_law_deep)) (by decide +kernel)) (fun _ => (dg_name (i := 1) nd)) (fun _ => dts_nil) (fun _ => (de_call (hC .law_deep) hr takes0 (da_cons (DE.op (de_var (i := 1) (pv 1) rfl)) da_nil)))))) da_nil)) (by intro q h; simp only [List.map_cons, List.map_nil, List.mem_cons, List.not_mem_nil, or_false, Kd.mode] at h; rcases h with rfl | rfl <;> rfl))))
/-! ### _law_odd -/
abbrev s_law_odd : Stmt := topS 11
abbrev N_law_odd : List Str := ["deck", "tree", "letter", "children", "signs", "sign", "at", "some", "lists", "rows"]
theorem sc_law_odd : FnScope N_law_odd ["deck", "tree"] (defScope s_law_odd) := ⟨rfl, rfl, rfl, by decide +kernel, rfl, by decide +kernel, by decide +kernel⟩
def b_law_odd (C : Fc → Fn) : DEnv → SR :=
    (mSeq (mAsgT (tUnp 2 (uCons (tName 2) (uCons (tName 3) uNil))) (mVar 1))
    (mSeq (mAsg 4 (mC (.str " !#$&'()*+,-./0123456789:;<=>?@ABCDEFGHIJKLMNOPQRSTUVWXYZ[]^_`abcdefghijklmnopqrstuvwxyz{|}~\t\n")))
    (mSeq (mAsg 4 (mOp2 (oV (mVar 4)) (oV (mC (.str "\"\\"))) addD))
    (mSeq (mAsg 5 (mOp2 (oV (mVar 4)) (oV (mCall (C .law_draw) (ioOf .law_draw) (mCons (oS 0) (mCons (oV (mOpN (mCons (oV (mVar 4)) mNil) lenD)) mNil)))) ixD))
    (mSeq (mAsg 6 (mCall (C .law_draw) (ioOf .law_draw) (mCons (oS 0) (mCons (oV (mOp2 (oV (mOpN (mCons (oV (mVar 3)) mNil) lenD)) (oV (mC (.int 1))) addD)) mNil))))
    (mSeq (mAsg 7 (mLst (mCons (oV (mVar 5)) (mCons (oV (mVar 5)) (mCons (oV (mOp2 (oV (mVar 2)) (oV (mVar 5)) addD)) (mCons (oV (mOp2 (oV (mVar 5)) (oV (mVar 2)) addD)) (mCons (oV (mC (.str ""))) (mCons (oV (mC .non)) (mCons (oV (mC (.int 1))) (mCons (oV (mC (.bl true))) (mCons (oV (mLst (mCons (oV (mVar 2)) mNil))) (mCons (oV (mTup (mCons (oV (mVar 2)) mNil))) (mCons (oV mDK0) mNil)))))))))))))
    (mSeq (mDrop (mMut (oS 7) (mCons (oV (mOp2 (oV (mVar 2)) (oV (mVar 2)) addD)) mNil) appendF))
    (mSeq (mAsg 8 (mLst (mCons (oV (mOpN (mCons (oV (mVar 3)) mNil) tupleD)) (mCons (oV (mC .non)) (mCons (oV (mC (.str ""))) (mCons (oV mDK0) (mCons (oV (mOp2 (oV (mOp2 (oV (mSl (oV (mVar 3)) bNo (bAt (mVar 6)))) (oV (mLst (mCons (oV (mC .non)) mNil))) addD)) (oV (mSl (oV (mVar 3)) (bAt (mVar 6)) bNo)) addD)) (mCons (oV (mC (.int 0))) (mCons (oV (mVar 2)) mNil)))))))))
    (mSeq (mAsg 8 (mOp2 (oV (mVar 8)) (oV (mLst (mCons (oV (mOp2 (oV (mOp2 (oV (mSl (oV (mVar 3)) bNo (bAt (mVar 6)))) (oV (mLst (mCons (oV (mLst mNil)) mNil))) addD)) (oV (mSl (oV (mVar 3)) (bAt (mVar 6)) bNo)) addD)) (mCons (oV (mOp2 (oV (mOp2 (oV (mSl (oV (mVar 3)) bNo (bAt (mVar 6)))) (oV (mLst (mCons (oV (mVar 2)) mNil))) addD)) (oV (mSl (oV (mVar 3)) (bAt (mVar 6)) bNo)) addD)) mNil)))) addD))
    (mSeq (mAsg 8 (mOp2 (oV (mVar 8)) (oV (mLst (mCons (oV (mOp2 (oV (mOp2 (oV (mSl (oV (mVar 3)) bNo (bAt (mVar 6)))) (oV (mLst (mCons (oV (mTup mNil)) mNil))) addD)) (oV (mSl (oV (mVar 3)) (bAt (mVar 6)) bNo)) addD)) (mCons (oV (mUnC (mVar 3) enumDD)) mNil)))) addD))
    (mSeq (mAsg 9 (mOp2 (oV (mOp2 (oV (mLst (mCons (oV (mTup (mCons (oV (mOp2 (oS 7) (oV (mCall (C .law_draw) (ioOf .law_draw) (mCons (oS 0) (mCons (oV (mC (.int 12))) mNil)))) ixD)) (mCons (oV (mVar 3)) mNil)))) mNil))) (oV (mC (.int 4))) mulD)) (oV (mOp2 (oV (mLst (mCons (oV (mTup (mCons (oV (mVar 2)) (mCons (oV (mOp2 (oV (mVar 8)) (oV (mCall (C .law_draw) (ioOf .law_draw) (mCons (oS 0) (mCons (oV (mC (.int 11))) mNil)))) ixD)) mNil)))) mNil))) (oV (mC (.int 4))) mulD)) addD))
    (mSeq (mAsg 9 (mOp2 (oV (mVar 9)) (oV (mLst (mCons (oV (mLst (mCons (oV (mVar 2)) (mCons (oV (mVar 3)) mNil)))) (mCons (oV (mTup (mCons (oV (mVar 2)) mNil))) (mCons (oV (mTup (mCons (oV (mVar 2)) (mCons (oV (mVar 3)) (mCons (oV (mC (.int 0))) mNil))))) (mCons (oV (mTup (mCons (oV (mVar 3)) (mCons (oV (mVar 2)) mNil)))) (mCons (oV (mC .non)) mNil))))))) addD))
    (mSeq (mAsg 9 (mOp2 (oV (mVar 9)) (oV (mLst (mCons (oV (mVar 2)) (mCons (oV (mVar 3)) mNil)))) addD))
    (mRet (mOp2 (oV (mOp2 (oV (mVar 9)) (oV (mLst (mCons (oV (mTup mNil)) (mCons (oV (mC (.bl true))) (mCons (oV (mC (.int 7))) (mCons (oV mDK0) (mCons (oV (mTup (mCons (oV (mVar 2)) (mCons (oV (mVar 3)) (mCons (oV (mVar 3)) mNil))))) mNil))))))) addD)) (oV (mCall (C .law_draw) (ioOf .law_draw) (mCons (oS 0) (mCons (oV (mC (.int 20))) mNil)))) ixD)))))))))))))))
def q_law_odd_1 (C : Fc → Fn) : DEnv → SR := (mAsgT (tUnp 2 (uCons (tName 2) (uCons (tName 3) uNil))) (mVar 1))
def q_law_odd_2 (C : Fc → Fn) : DEnv → SR := (mAsg 4 (mC (.str " !#$&'()*+,-./0123456789:;<=>?@ABCDEFGHIJKLMNOPQRSTUVWXYZ[]^_`abcdefghijklmnopqrstuvwxyz{|}~\t\n")))
def q_law_odd_3 (C : Fc → Fn) : DEnv → SR := (mAsg 4 (mOp2 (oV (mVar 4)) (oV (mC (.str "\"\\"))) addD))
def q_law_odd_4 (C : Fc → Fn) : DEnv → SR := (mAsg 5 (mOp2 (oV (mVar 4)) (oV (mCall (C .law_draw) (ioOf .law_draw) (mCons (oS 0) (mCons (oV (mOpN (mCons (oV (mVar 4)) mNil) lenD)) mNil)))) ixD))
def q_law_odd_5 (C : Fc → Fn) : DEnv → SR := (mAsg 6 (mCall (C .law_draw) (ioOf .law_draw) (mCons (oS 0) (mCons (oV (mOp2 (oV (mOpN (mCons (oV (mVar 3)) mNil) lenD)) (oV (mC (.int 1))) addD)) mNil))))
def q_law_odd_6 (C : Fc → Fn) : DEnv → SR := (mAsg 7 (mLst (mCons (oV (mVar 5)) (mCons (oV (mVar 5)) (mCons (oV (mOp2 (oV (mVar 2)) (oV (mVar 5)) addD)) (mCons (oV (mOp2 (oV (mVar 5)) (oV (mVar 2)) addD)) (mCons (oV (mC (.str ""))) (mCons (oV (mC .non)) (mCons (oV (mC (.int 1))) (mCons (oV (mC (.bl true))) (mCons (oV (mLst (mCons (oV (mVar 2)) mNil))) (mCons (oV (mTup (mCons (oV (mVar 2)) mNil))) (mCons (oV mDK0) mNil)))))))))))))
def q_law_odd_7 (C : Fc → Fn) : DEnv → SR := (mDrop (mMut (oS 7) (mCons (oV (mOp2 (oV (mVar 2)) (oV (mVar 2)) addD)) mNil) appendF))
def q_law_odd_8 (C : Fc → Fn) : DEnv → SR := (mAsg 8 (mLst (mCons (oV (mOpN (mCons (oV (mVar 3)) mNil) tupleD)) (mCons (oV (mC .non)) (mCons (oV (mC (.str ""))) (mCons (oV mDK0) (mCons (oV (mOp2 (oV (mOp2 (oV (mSl (oV (mVar 3)) bNo (bAt (mVar 6)))) (oV (mLst (mCons (oV (mC .non)) mNil))) addD)) (oV (mSl (oV (mVar 3)) (bAt (mVar 6)) bNo)) addD)) (mCons (oV (mC (.int 0))) (mCons (oV (mVar 2)) mNil)))))))))
def q_law_odd_9 (C : Fc → Fn) : DEnv → SR := (mAsg 8 (mOp2 (oV (mVar 8)) (oV (mLst (mCons (oV (mOp2 (oV (mOp2 (oV (mSl (oV (mVar 3)) bNo (bAt (mVar 6)))) (oV (mLst (mCons (oV (mLst mNil)) mNil))) addD)) (oV (mSl (oV (mVar 3)) (bAt (mVar 6)) bNo)) addD)) (mCons (oV (mOp2 (oV (mOp2 (oV (mSl (oV (mVar 3)) bNo (bAt (mVar 6)))) (oV (mLst (mCons (oV (mVar 2)) mNil))) addD)) (oV (mSl (oV (mVar 3)) (bAt (mVar 6)) bNo)) addD)) mNil)))) addD))
def q_law_odd_10 (C : Fc → Fn) : DEnv → SR := (mAsg 8 (mOp2 (oV (mVar 8)) (oV (mLst (mCons (oV (mOp2 (oV (mOp2 (oV (mSl (oV (mVar 3)) bNo (bAt (mVar 6)))) (oV (mLst (mCons (oV (mTup mNil)) mNil))) addD)) (oV (mSl (oV (mVar 3)) (bAt (mVar 6)) bNo)) addD)) (mCons (oV (mUnC (mVar 3) enumDD)) mNil)))) addD))
def q_law_odd_11 (C : Fc → Fn) : DEnv → SR := (mAsg 9 (mOp2 (oV (mOp2 (oV (mLst (mCons (oV (mTup (mCons (oV (mOp2 (oS 7) (oV (mCall (C .law_draw) (ioOf .law_draw) (mCons (oS 0) (mCons (oV (mC (.int 12))) mNil)))) ixD)) (mCons (oV (mVar 3)) mNil)))) mNil))) (oV (mC (.int 4))) mulD)) (oV (mOp2 (oV (mLst (mCons (oV (mTup (mCons (oV (mVar 2)) (mCons (oV (mOp2 (oV (mVar 8)) (oV (mCall (C .law_draw) (ioOf .law_draw) (mCons (oS 0) (mCons (oV (mC (.int 11))) mNil)))) ixD)) mNil)))) mNil))) (oV (mC (.int 4))) mulD)) addD))
def q_law_odd_12 (C : Fc → Fn) : DEnv → SR := (mAsg 9 (mOp2 (oV (mVar 9)) (oV (mLst (mCons (oV (mLst (mCons (oV (mVar 2)) (mCons (oV (mVar 3)) mNil)))) (mCons (oV (mTup (mCons (oV (mVar 2)) mNil))) (mCons (oV (mTup (mCons (oV (mVar 2)) (mCons (oV (mVar 3)) (mCons (oV (mC (.int 0))) mNil))))) (mCons (oV (mTup (mCons (oV (mVar 3)) (mCons (oV (mVar 2)) mNil)))) (mCons (oV (mC .non)) mNil))))))) addD))
def q_law_odd_13 (C : Fc → Fn) : DEnv → SR := (mAsg 9 (mOp2 (oV (mVar 9)) (oV (mLst (mCons (oV (mVar 2)) (mCons (oV (mVar 3)) mNil)))) addD))
def q_law_odd_14 (C : Fc → Fn) : DEnv → SR := (mRet (mOp2 (oV (mOp2 (oV (mVar 9)) (oV (mLst (mCons (oV (mTup mNil)) (mCons (oV (mC (.bl true))) (mCons (oV (mC (.int 7))) (mCons (oV mDK0) (mCons (oV (mTup (mCons (oV (mVar 2)) (mCons (oV (mVar 3)) (mCons (oV (mVar 3)) mNil))))) mNil))))))) addD)) (oV (mCall (C .law_draw) (ioOf .law_draw) (mCons (oS 0) (mCons (oV (mC (.int 20))) mNil)))) ixD))
theorem e_law_odd (C : Fc → Fn) : b_law_odd C =
    (mSeq (q_law_odd_1 C)
    (mSeq (q_law_odd_2 C)
    (mSeq (q_law_odd_3 C)
    (mSeq (q_law_odd_4 C)
    (mSeq (q_law_odd_5 C)
    (mSeq (q_law_odd_6 C)
    (mSeq (q_law_odd_7 C)
    (mSeq (q_law_odd_8 C)
    (mSeq (q_law_odd_9 C)
    (mSeq (q_law_odd_10 C)
    (mSeq (q_law_odd_11 C)
    (mSeq (q_law_odd_12 C)
    (mSeq (q_law_odd_13 C)
    (q_law_odd_14 C)))))))))))))) := rfl
theorem k_law_odd {P : Program} {w : World} {K : PySem.W.Frag} {mg : Str → Option Value} {base : Heap} {k : Nat} {f : Addr} {fd : FuncData} {C : Fc → Fn} (T : Tx0 K mg v_LETTERS) (B : SysB base) (hC : ∀ x, calOf P w ⟨K, mg⟩ base k x (C x)) (F : Fun K "_law_odd" "_law_odd" s_law_odd f fd) :
    FnOkG P w K mg base (L2.CX P w) (k + 2) f fd ["deck", "tree"] (spD (sgOf ⟨K, mg⟩ .law_odd) (mkF 8 (ioOf .law_odd) (b_law_odd C))) := by
  have nd := sc_law_odd.nd
  refine fn_okL (sgOf ⟨K, mg⟩ .law_odd) [fz, fz, fz, fz, fz, (Lof fz), fz, fz] [(Lof (Lof (Lof fz))), fz, fz, fz, fz, fz, fz, (Lof fz), fz, fz] fz [0] 8 F sc_law_odd rfl rfl rfl rfl rfl rfl rfl rfl fun cdv A outer s H E hr1 tk hp => ?_
  have hr := hr1.mono (Nat.le_succ _)
  exact (ds_cons (ds_asgT (dg_tup rfl (dgs_cons (dg_name (i := 2) nd) (dgs_cons (dg_name (i := 3) nd) dgs_nil))) (de_var (i := 1) (pv 1) rfl))
    (ds_cons (ds_set (i := 4) nd (de_c pe_str fun _ => .str _))
    (ds_cons (ds_set (i := 4) nd (DE.share (de_op opr_add (DE.op (de_var (i := 4) (pv 4) rfl)) (DE.op (de_c pe_str fun _ => .str _)) (op2_add flat_fz flat_fz))))
    (ds_cons (ds_set (i := 5) nd (de_ix ix_seq (DE.op (de_var (i := 4) (pv 4) rfl)) (DE.op (de_call (hC .law_draw) hr tk (da_cons (do_s (i := 0) (pv 0)) (da_cons (DE.op (de_callB call_len (by rfl) T.z_len (by decide +kernel) (da_cons (DE.op (de_var (i := 4) (pv 4) rfl)) da_nil) opn_len)) da_nil)))) (op2_ix flat_fz)))
    (ds_cons (ds_set (i := 6) nd (de_call (hC .law_draw) hr tk (da_cons (do_s (i := 0) (pv 0)) (da_cons (DE.op (DE.share (de_op opr_add (DE.op (de_callB call_len (by rfl) T.z_len (by decide +kernel) (da_cons (DE.op (de_var (i := 3) (pv 3) rfl)) da_nil) opn_len)) (DE.op (de_c pe_int fun _ => .int _)) (op2_add flat_fz flat_fz)))) da_nil))))
    (ds_cons (ds_set (i := 7) nd (de_lst (da_cons (DE.op (de_var (i := 5) (pv 5) rfl)) (da_cons (DE.op (de_var (i := 5) (pv 5) rfl)) (da_cons (DE.op (DE.share (de_op opr_add (DE.op (de_var (i := 2) (pv 2) rfl)) (DE.op (de_var (i := 5) (pv 5) rfl)) (op2_add flat_fz flat_fz)))) (da_cons (DE.op (DE.share (de_op opr_add (DE.op (de_var (i := 5) (pv 5) rfl)) (DE.op (de_var (i := 2) (pv 2) rfl)) (op2_add flat_fz flat_fz)))) (da_cons (DE.op (de_c pe_str fun _ => .str _)) (da_cons (DE.op (de_c pe_non fun _ => .non)) (da_cons (DE.op (de_c pe_int fun _ => .int _)) (da_cons (DE.op (de_c pe_bl fun _ => .bl _)) (da_cons (DE.op (DE.share (de_lst (da_cons (DE.op (de_var (i := 2) (pv 2) rfl)) da_nil) (by intro q h; simp only [List.map_cons, List.map_nil, List.mem_cons, List.not_mem_nil, or_false, Kd.mode] at h; rcases h with rfl <;> rfl)))) (da_cons (DE.op (de_tup (da_cons (DE.op (de_var (i := 2) (pv 2) rfl)) da_nil) (by intro q h; simp only [List.map_cons, List.map_nil, List.mem_cons, List.not_mem_nil, or_false, Kd.mode] at h; rcases h with rfl <;> rfl))) (da_cons (DE.op (DE.share de_dK0)) da_nil))))))))))) (by intro q h; simp only [List.map_cons, List.map_nil, List.mem_cons, List.not_mem_nil, or_false, Kd.mode] at h; rcases h with rfl | rfl | rfl | rfl | rfl | rfl | rfl | rfl | rfl | rfl | rfl <;> rfl)))
    (ds_cons (ds_expr (de_mut PySem.F.slot_list_append PySem.F.type_list_append mt_append (do_s (i := 7) (pv 7)) (da_cons (DE.op (DE.share (de_op opr_add (DE.op (de_var (i := 2) (pv 2) rfl)) (DE.op (de_var (i := 2) (pv 2) rfl)) (op2_add flat_fz flat_fz)))) da_nil) mut_append))
    (ds_cons (ds_set (i := 8) nd (DE.share (de_lst (da_cons (DE.op (de_callTy call_tuple_of (by rfl) T.z_tuple (by decide +kernel) (da_cons (DE.op (de_var (i := 3) (pv 3) rfl)) da_nil) (opn_tuple flat_fz))) (da_cons (DE.op (de_c pe_non fun _ => .non)) (da_cons (DE.op (de_c pe_str fun _ => .str _)) (da_cons (DE.op (DE.share de_dK0)) (da_cons (DE.op (DE.share (de_op opr_add (DE.op (de_op opr_add (DE.op (de_slice (DE.op (de_var (i := 3) (pv 3) rfl)) flat_fz db_no (db_at (de_var (i := 6) (pv 6) rfl)))) (DE.op (de_lst (da_cons (DE.op (de_c pe_non fun _ => .non)) da_nil) (by intro q h; simp only [List.map_cons, List.map_nil, List.mem_cons, List.not_mem_nil, or_false, Kd.mode] at h; rcases h with rfl <;> rfl))) (op2_add flat_L flat_L))) (DE.op (de_slice (DE.op (de_var (i := 3) (pv 3) rfl)) flat_fz (db_at (de_var (i := 6) (pv 6) rfl)) db_no)) (op2_add flat_L flat_L)))) (da_cons (DE.op (de_c pe_int fun _ => .int _)) (da_cons (DE.op (de_var (i := 2) (pv 2) rfl)) da_nil))))))) (by intro q h; simp only [List.map_cons, List.map_nil, List.mem_cons, List.not_mem_nil, or_false, Kd.mode] at h; rcases h with rfl | rfl | rfl | rfl | rfl | rfl | rfl <;> rfl))))
    (ds_cons (ds_set (i := 8) nd (DE.share (de_op opr_add (DE.op (de_var (i := 8) (pv 8) rfl)) (DE.op (de_lst (da_cons (DE.op (DE.share (de_op opr_add (DE.op (de_op opr_add (DE.op (de_slice (DE.op (de_var (i := 3) (pv 3) rfl)) flat_fz db_no (db_at (de_var (i := 6) (pv 6) rfl)))) (DE.op (de_lst (da_cons (DE.op (DE.share (de_lst da_nil (by intro q h; cases h)))) da_nil) (by intro q h; simp only [List.map_cons, List.map_nil, List.mem_cons, List.not_mem_nil, or_false, Kd.mode] at h; rcases h with rfl <;> rfl))) (op2_add flat_L flat_L))) (DE.op (de_slice (DE.op (de_var (i := 3) (pv 3) rfl)) flat_fz (db_at (de_var (i := 6) (pv 6) rfl)) db_no)) (op2_add flat_L flat_L)))) (da_cons (DE.op (DE.share (de_op opr_add (DE.op (de_op opr_add (DE.op (de_slice (DE.op (de_var (i := 3) (pv 3) rfl)) flat_fz db_no (db_at (de_var (i := 6) (pv 6) rfl)))) (DE.op (de_lst (da_cons (DE.op (de_var (i := 2) (pv 2) rfl)) da_nil) (by intro q h; simp only [List.map_cons, List.map_nil, List.mem_cons, List.not_mem_nil, or_false, Kd.mode] at h; rcases h with rfl <;> rfl))) (op2_add flat_L flat_L))) (DE.op (de_slice (DE.op (de_var (i := 3) (pv 3) rfl)) flat_fz (db_at (de_var (i := 6) (pv 6) rfl)) db_no)) (op2_add flat_L flat_L)))) da_nil)) (by intro q h; simp only [List.map_cons, List.map_nil, List.mem_cons, List.not_mem_nil, or_false, Kd.mode] at h; rcases h with rfl | rfl <;> rfl))) (op2_add flat_fz flat_L))))
    (ds_cons (ds_set (i := 8) nd (DE.share (de_op opr_add (DE.op (de_var (i := 8) (pv 8) rfl)) (DE.op (de_lst (da_cons (DE.op (DE.share (de_op opr_add (DE.op (de_op opr_add (DE.op (de_slice (DE.op (de_var (i := 3) (pv 3) rfl)) flat_fz db_no (db_at (de_var (i := 6) (pv 6) rfl)))) (DE.op (de_lst (da_cons (DE.op (de_tup da_nil (by intro q h; cases h))) da_nil) (by intro q h; simp only [List.map_cons, List.map_nil, List.mem_cons, List.not_mem_nil, or_false, Kd.mode] at h; rcases h with rfl <;> rfl))) (op2_add flat_L flat_L))) (DE.op (de_slice (DE.op (de_var (i := 3) (pv 3) rfl)) flat_fz (db_at (de_var (i := 6) (pv 6) rfl)) db_no)) (op2_add flat_L flat_L)))) (da_cons (DE.op (DE.share (de_dictEnum rfl T.z_dict T.z_enumerate (de_var (i := 3) (pv 3) rfl)))) da_nil)) (by intro q h; simp only [List.map_cons, List.map_nil, List.mem_cons, List.not_mem_nil, or_false, Kd.mode] at h; rcases h with rfl | rfl <;> rfl))) (op2_add flat_fz flat_L))))
    (ds_cons (ds_set (i := 9) nd (DE.share (de_op opr_add (DE.op (de_op opr_mul (DE.op (de_lst (da_cons (DE.op (de_tup (da_cons (DE.op (de_ix ix_seq (do_s (i := 7) (pv 7)) (DE.op (de_call (hC .law_draw) hr tk (da_cons (do_s (i := 0) (pv 0)) (da_cons (DE.op (de_c pe_int fun _ => .int _)) da_nil)))) (op2_ix flat_L))) (da_cons (DE.op (de_var (i := 3) (pv 3) rfl)) da_nil)) (by intro q h; simp only [List.map_cons, List.map_nil, List.mem_cons, List.not_mem_nil, or_false, Kd.mode] at h; rcases h with rfl | rfl <;> rfl))) da_nil) (by intro q h; simp only [List.map_cons, List.map_nil, List.mem_cons, List.not_mem_nil, or_false, Kd.mode] at h; rcases h with rfl <;> rfl))) (DE.op (de_c pe_int fun _ => .int _)) (op2_mul flat_L))) (DE.op (de_op opr_mul (DE.op (de_lst (da_cons (DE.op (de_tup (da_cons (DE.op (de_var (i := 2) (pv 2) rfl)) (da_cons (DE.op (de_ix ix_seq (DE.op (de_var (i := 8) (pv 8) rfl)) (DE.op (de_call (hC .law_draw) hr tk (da_cons (do_s (i := 0) (pv 0)) (da_cons (DE.op (de_c pe_int fun _ => .int _)) da_nil)))) (op2_ix flat_fz))) da_nil)) (by intro q h; simp only [List.map_cons, List.map_nil, List.mem_cons, List.not_mem_nil, or_false, Kd.mode] at h; rcases h with rfl | rfl <;> rfl))) da_nil) (by intro q h; simp only [List.map_cons, List.map_nil, List.mem_cons, List.not_mem_nil, or_false, Kd.mode] at h; rcases h with rfl <;> rfl))) (DE.op (de_c pe_int fun _ => .int _)) (op2_mul flat_L))) (op2_add flat_L flat_L))))
    (ds_cons (ds_set (i := 9) nd (DE.share (de_op opr_add (DE.op (de_var (i := 9) (pv 9) rfl)) (DE.op (de_lst (da_cons (DE.op (DE.share (de_lst (da_cons (DE.op (de_var (i := 2) (pv 2) rfl)) (da_cons (DE.op (de_var (i := 3) (pv 3) rfl)) da_nil)) (by intro q h; simp only [List.map_cons, List.map_nil, List.mem_cons, List.not_mem_nil, or_false, Kd.mode] at h; rcases h with rfl | rfl <;> rfl)))) (da_cons (DE.op (de_tup (da_cons (DE.op (de_var (i := 2) (pv 2) rfl)) da_nil) (by intro q h; simp only [List.map_cons, List.map_nil, List.mem_cons, List.not_mem_nil, or_false, Kd.mode] at h; rcases h with rfl <;> rfl))) (da_cons (DE.op (de_tup (da_cons (DE.op (de_var (i := 2) (pv 2) rfl)) (da_cons (DE.op (de_var (i := 3) (pv 3) rfl)) (da_cons (DE.op (de_c pe_int fun _ => .int _)) da_nil))) (by intro q h; simp only [List.map_cons, List.map_nil, List.mem_cons, List.not_mem_nil, or_false, Kd.mode] at h; rcases h with rfl | rfl | rfl <;> rfl))) (da_cons (DE.op (de_tup (da_cons (DE.op (de_var (i := 3) (pv 3) rfl)) (da_cons (DE.op (de_var (i := 2) (pv 2) rfl)) da_nil)) (by intro q h; simp only [List.map_cons, List.map_nil, List.mem_cons, List.not_mem_nil, or_false, Kd.mode] at h; rcases h with rfl | rfl <;> rfl))) (da_cons (DE.op (de_c pe_non fun _ => .non)) da_nil))))) (by intro q h; simp only [List.map_cons, List.map_nil, List.mem_cons, List.not_mem_nil, or_false, Kd.mode] at h; rcases h with rfl | rfl | rfl | rfl | rfl <;> rfl))) (op2_add flat_fz flat_L))))
    (ds_cons (ds_set (i := 9) nd (DE.share (de_op opr_add (DE.op (de_var (i := 9) (pv 9) rfl)) (DE.op (de_lst (da_cons (DE.op (de_var (i := 2) (pv 2) rfl)) (da_cons (DE.op (de_var (i := 3) (pv 3) rfl)) da_nil)) (by intro q h; simp only [List.map_cons, List.map_nil, List.mem_cons, List.not_mem_nil, or_false, Kd.mode] at h; rcases h with rfl | rfl <;> rfl))) (op2_add flat_fz flat_L))))
    (ds_one (ds_ret (de_ix ix_seq (DE.op (de_op opr_add (DE.op (de_var (i := 9) (pv 9) rfl)) (DE.op (de_lst (da_cons (DE.op (de_tup da_nil (by intro q h; cases h))) (da_cons (DE.op (de_c pe_bl fun _ => .bl _)) (da_cons (DE.op (de_c pe_int fun _ => .int _)) (da_cons (DE.op (DE.share de_dK0)) (da_cons (DE.op (de_tup (da_cons (DE.op (de_var (i := 2) (pv 2) rfl)) (da_cons (DE.op (de_var (i := 3) (pv 3) rfl)) (da_cons (DE.op (de_var (i := 3) (pv 3) rfl)) da_nil))) (by intro q h; simp only [List.map_cons, List.map_nil, List.mem_cons, List.not_mem_nil, or_false, Kd.mode] at h; rcases h with rfl | rfl | rfl <;> rfl))) da_nil))))) (by intro q h; simp only [List.map_cons, List.map_nil, List.mem_cons, List.not_mem_nil, or_false, Kd.mode] at h; rcases h with rfl | rfl | rfl | rfl | rfl <;> rfl))) (op2_add flat_fz flat_L))) (DE.op (de_call (hC .law_draw) hr tk (da_cons (do_s (i := 0) (pv 0)) (da_cons (DE.op (de_c pe_int fun _ => .int _)) da_nil)))) (op2_ix flat_L)))))))))))))))))
/-! ### _law_spoilt -/
abbrev s_law_spoilt : Stmt := topS 12
abbrev N_law_spoilt : List Str := ["deck", "tree", "at"]
theorem sc_law_spoilt : FnScope N_law_spoilt ["deck", "tree"] (defScope s_law_spoilt) := ⟨rfl, rfl, rfl, by decide +kernel, rfl, by decide +kernel, by decide +kernel⟩
def b_law_spoilt (C : Fc → Fn) : DEnv → SR :=
    (mSeq (mIf (mOr (mTest (mOp2 (oV (mOp2 (oV (mVar 1)) (oV (mC (.int 1))) ixD)) (oV (mLst mNil)) eqD)) (mTest (mOp2 (oV (mCall (C .law_draw) (ioOf .law_draw) (mCons (oS 0) (mCons (oV (mC (.int 4))) mNil)))) (oV (mC (.int 0))) eqD))) (mRet (mCall (C .law_odd) (ioOf .law_odd) (mCons (oS 0) (mCons (oV (mVar 1)) mNil)))) mNext)
    (mSeq (mAsg 2 (mCall (C .law_draw) (ioOf .law_draw) (mCons (oS 0) (mCons (oV (mOpN (mCons (oV (mOp2 (oV (mVar 1)) (oV (mC (.int 1))) ixD)) mNil) lenD)) mNil))))
    (mRet (mTup (mCons (oV (mOp2 (oV (mVar 1)) (oV (mC (.int 0))) ixD)) (mCons (oV (mOp2 (oV (mOp2 (oV (mSl (oV (mOp2 (oV (mVar 1)) (oV (mC (.int 1))) ixD)) bNo (bAt (mVar 2)))) (oV (mLst (mCons (oV (mCall (C .law_spoilt) (ioOf .law_spoilt) (mCons (oS 0) (mCons (oV (mOp2 (oV (mOp2 (oV (mVar 1)) (oV (mC (.int 1))) ixD)) (oV (mVar 2)) ixD)) mNil)))) mNil))) addD)) (oV (mSl (oV (mOp2 (oV (mVar 1)) (oV (mC (.int 1))) ixD)) (bAt (mOp2 (oV (mVar 2)) (oV (mC (.int 1))) addD)) bNo)) addD)) mNil))))))
def q_law_spoilt_1t1 (C : Fc → Fn) : DEnv → SR := (mRet (mCall (C .law_odd) (ioOf .law_odd) (mCons (oS 0) (mCons (oV (mVar 1)) mNil))))
def q_law_spoilt_1 (C : Fc → Fn) : DEnv → SR := (mIf (mOr (mTest (mOp2 (oV (mOp2 (oV (mVar 1)) (oV (mC (.int 1))) ixD)) (oV (mLst mNil)) eqD)) (mTest (mOp2 (oV (mCall (C .law_draw) (ioOf .law_draw) (mCons (oS 0) (mCons (oV (mC (.int 4))) mNil)))) (oV (mC (.int 0))) eqD))) (q_law_spoilt_1t1 C) mNext)
def q_law_spoilt_2 (C : Fc → Fn) : DEnv → SR := (mAsg 2 (mCall (C .law_draw) (ioOf .law_draw) (mCons (oS 0) (mCons (oV (mOpN (mCons (oV (mOp2 (oV (mVar 1)) (oV (mC (.int 1))) ixD)) mNil) lenD)) mNil))))
def q_law_spoilt_3 (C : Fc → Fn) : DEnv → SR := (mRet (mTup (mCons (oV (mOp2 (oV (mVar 1)) (oV (mC (.int 0))) ixD)) (mCons (oV (mOp2 (oV (mOp2 (oV (mSl (oV (mOp2 (oV (mVar 1)) (oV (mC (.int 1))) ixD)) bNo (bAt (mVar 2)))) (oV (mLst (mCons (oV (mCall (C .law_spoilt) (ioOf .law_spoilt) (mCons (oS 0) (mCons (oV (mOp2 (oV (mOp2 (oV (mVar 1)) (oV (mC (.int 1))) ixD)) (oV (mVar 2)) ixD)) mNil)))) mNil))) addD)) (oV (mSl (oV (mOp2 (oV (mVar 1)) (oV (mC (.int 1))) ixD)) (bAt (mOp2 (oV (mVar 2)) (oV (mC (.int 1))) addD)) bNo)) addD)) mNil))))
theorem e_law_spoilt (C : Fc → Fn) : b_law_spoilt C =
    (mSeq (q_law_spoilt_1 C)
    (mSeq (q_law_spoilt_2 C)
    (q_law_spoilt_3 C))) := rfl
theorem k_law_spoilt {P : Program} {w : World} {K : PySem.W.Frag} {mg : Str → Option Value} {base : Heap} {k : Nat} {f : Addr} {fd : FuncData} {C : Fc → Fn} (T : Tx0 K mg v_LETTERS) (B : SysB base) (hC : ∀ x, calOf P w ⟨K, mg⟩ base k x (C x)) (F : Fun K "_law_spoilt" "_law_spoilt" s_law_spoilt f fd) :
    FnOkG P w K mg base (L2.CX P w) (k + 2) f fd ["deck", "tree"] (spD (sgOf ⟨K, mg⟩ .law_spoilt) (mkF 1 (ioOf .law_spoilt) (b_law_spoilt C))) := by
  have nd := sc_law_spoilt.nd
  refine fn_okL (sgOf ⟨K, mg⟩ .law_spoilt) [fz] [(Lof (Lof (Lof fz))), fz, fz] fz [0] 1 F sc_law_spoilt rfl rfl rfl rfl rfl rfl rfl rfl fun cdv A outer s H E hr1 tk hp => ?_
  have hr := hr1.mono (Nat.le_succ _)
  exact (ds_cons (ds_if (DW.dt (dw_or (dt_cmp (opr_eqE hr.units) (DE.op (de_ix ix_seq (DE.op (de_var (i := 1) (pv 1) rfl)) (DE.op (de_c pe_int fun _ => .int _)) (op2_ix flat_fz))) (DE.op (de_lst da_nil (by intro q h; cases h))) op2_eq) (dw_or1 (dt_cmp (opr_eqE hr.units) (DE.op (de_call (hC .law_draw) hr tk (da_cons (do_s (i := 0) (pv 0)) (da_cons (DE.op (de_c pe_int fun _ => .int _)) da_nil)))) (DE.op (de_c pe_int fun _ => .int _)) op2_eq)))) (ds_one (ds_ret (de_call (hC .law_odd) hr tk (da_cons (do_s (i := 0) (pv 0)) (da_cons (DE.op (de_var (i := 1) (pv 1) rfl)) da_nil))))) ds_nil)
    (ds_cons (ds_set (i := 2) nd (de_call (hC .law_draw) hr tk (da_cons (do_s (i := 0) (pv 0)) (da_cons (DE.op (de_callB call_len (by rfl) T.z_len (by decide +kernel) (da_cons (DE.op (de_ix ix_seq (DE.op (de_var (i := 1) (pv 1) rfl)) (DE.op (de_c pe_int fun _ => .int _)) (op2_ix flat_fz))) da_nil) opn_len)) da_nil))))
    (ds_one (ds_ret (de_tup (da_cons (DE.op (de_ix ix_seq (DE.op (de_var (i := 1) (pv 1) rfl)) (DE.op (de_c pe_int fun _ => .int _)) (op2_ix flat_fz))) (da_cons (DE.op (DE.share (de_op opr_add (DE.op (de_op opr_add (DE.op (de_slice (DE.op (de_ix ix_seq (DE.op (de_var (i := 1) (pv 1) rfl)) (DE.op (de_c pe_int fun _ => .int _)) (op2_ix flat_fz))) flat_fz db_no (db_at (de_var (i := 2) (pv 2) rfl)))) (DE.op (de_lst (da_cons (DE.op (de_call (hC .law_spoilt) hr tk (da_cons (do_s (i := 0) (pv 0)) (da_cons (DE.op (de_ix ix_seq (DE.op (de_ix ix_seq (DE.op (de_var (i := 1) (pv 1) rfl)) (DE.op (de_c pe_int fun _ => .int _)) (op2_ix flat_fz))) (DE.op (de_var (i := 2) (pv 2) rfl)) (op2_ix flat_fz))) da_nil)))) da_nil) (by intro q h; simp only [List.map_cons, List.map_nil, List.mem_cons, List.not_mem_nil, or_false, Kd.mode] at h; rcases h with rfl <;> rfl))) (op2_add flat_L flat_L))) (DE.op (de_slice (DE.op (de_ix ix_seq (DE.op (de_var (i := 1) (pv 1) rfl)) (DE.op (de_c pe_int fun _ => .int _)) (op2_ix flat_fz))) flat_fz (db_at (DE.share (de_op opr_add (DE.op (de_var (i := 2) (pv 2) rfl)) (DE.op (de_c pe_int fun _ => .int _)) (op2_add flat_fz flat_fz)))) db_no)) (op2_add flat_L flat_L)))) da_nil)) (by intro q h; simp only [List.map_cons, List.map_nil, List.mem_cons, List.not_mem_nil, or_false, Kd.mode] at h; rcases h with rfl | rfl <;> rfl))))))
/-! ### _law_good -/
abbrev s_law_good : Stmt := topS 13
abbrev N_law_good : List Str := ["thing", "child"]
theorem sc_law_good : FnScope N_law_good ["thing"] (defScope s_law_good) := ⟨rfl, rfl, rfl, by decide +kernel, rfl, by decide +kernel, by decide +kernel⟩
def b_law_good (C : Fc → Fn) : DEnv → SR :=
    (mSeq (mIf (mOr (mNot (mTest (mOp1 (oV (mVar 0)) (isiD .tuple)))) (mOr (mTest (mOp2 (oV (mOpN (mCons (oV (mVar 0)) mNil) lenD)) (oV (mC (.int 2))) neD)) (mOr (mNot (mTest (mOp1 (oV (mOp2 (oV (mVar 0)) (oV (mC (.int 0))) ixD)) (isiD .str)))) (mTest (mOp2 (oV (mOpN (mCons (oV (mOp2 (oV (mVar 0)) (oV (mC (.int 0))) ixD)) mNil) lenD)) (oV (mC (.int 1))) neD))))) (mRet (mC (.bl false))) mNext)
    (mSeq (mIf (mOr (mNot (mTest (mChain (mC (.str "a")) (mOp2 (oV (mVar 0)) (oV (mC (.int 0))) ixD) (mC (.str "z")) leD leD))) (mNot (mTest (mOp1 (oV (mOp2 (oV (mVar 0)) (oV (mC (.int 1))) ixD)) (isiD .list))))) (mRet (mC (.bl false))) mNext)
    (mRet (mOp2 (oV (mLc (mSrc (oV (mOp2 (oV (mVar 0)) (oV (mC (.int 1))) ixD)) seqD) (tName 1) (mNot (mTest (mCall (C .law_good) (ioOf .law_good) (mCons (oV (mVar 1)) mNil)))) (mVar 1) [1])) (oV (mLst mNil)) eqD))))
def q_law_good_1t1 (C : Fc → Fn) : DEnv → SR := (mRet (mC (.bl false)))
def q_law_good_1 (C : Fc → Fn) : DEnv → SR := (mIf (mOr (mNot (mTest (mOp1 (oV (mVar 0)) (isiD .tuple)))) (mOr (mTest (mOp2 (oV (mOpN (mCons (oV (mVar 0)) mNil) lenD)) (oV (mC (.int 2))) neD)) (mOr (mNot (mTest (mOp1 (oV (mOp2 (oV (mVar 0)) (oV (mC (.int 0))) ixD)) (isiD .str)))) (mTest (mOp2 (oV (mOpN (mCons (oV (mOp2 (oV (mVar 0)) (oV (mC (.int 0))) ixD)) mNil) lenD)) (oV (mC (.int 1))) neD))))) (q_law_good_1t1 C) mNext)
def q_law_good_2t1 (C : Fc → Fn) : DEnv → SR := (mRet (mC (.bl false)))
def q_law_good_2 (C : Fc → Fn) : DEnv → SR := (mIf (mOr (mNot (mTest (mChain (mC (.str "a")) (mOp2 (oV (mVar 0)) (oV (mC (.int 0))) ixD) (mC (.str "z")) leD leD))) (mNot (mTest (mOp1 (oV (mOp2 (oV (mVar 0)) (oV (mC (.int 1))) ixD)) (isiD .list))))) (q_law_good_2t1 C) mNext)
def li_law_good_1 (C : Fc → Fn) : Src := (mSrc (oV (mOp2 (oV (mVar 0)) (oV (mC (.int 1))) ixD)) seqD)
def lc_law_good_1 (C : Fc → Fn) : DEnv → R Bool := (mNot (mTest (mCall (C .law_good) (ioOf .law_good) (mCons (oV (mVar 1)) mNil))))
def le_law_good_1 (C : Fc → Fn) : DEnv → R D := (mVar 1)
def l_law_good_1 (C : Fc → Fn) : DEnv → R D := (mLc (li_law_good_1 C) (tName 1) (lc_law_good_1 C) (le_law_good_1 C) [1])
def q_law_good_3 (C : Fc → Fn) : DEnv → SR := (mRet (mOp2 (oV (l_law_good_1 C)) (oV (mLst mNil)) eqD))
theorem e_law_good (C : Fc → Fn) : b_law_good C =
    (mSeq (q_law_good_1 C)
    (mSeq (q_law_good_2 C)
    (q_law_good_3 C))) := rfl
theorem k_law_good {P : Program} {w : World} {K : PySem.W.Frag} {mg : Str → Option Value} {base : Heap} {k : Nat} {f : Addr} {fd : FuncData} {C : Fc → Fn} (T : Tx0 K mg v_LETTERS) (B : SysB base) (hC : ∀ x, calOf P w ⟨K, mg⟩ base k x (C x)) (F : Fun K "_law_good" "_law_good" s_law_good f fd) :
    FnOkG P w K mg base (L2.CX P w) (k + 2) f fd ["thing"] (spD (sgOf ⟨K, mg⟩ .law_good) (mkF 1 (ioOf .law_good) (b_law_good C))) := by
  have nd := sc_law_good.nd
  refine fn_okL (sgOf ⟨K, mg⟩ .law_good) [fz] [fz, fz] fz [] 1 F sc_law_good rfl rfl rfl rfl rfl rfl rfl rfl fun cdv A outer s H E hr1 tk hp => ?_
  have hr := hr1.mono (Nat.le_succ _)
  exact (ds_cons (ds_if (DW.dt (dw_or (dt_not (dt_val (de_isi .tuple (by decide) T.z_isinstance T.z_tuple (by decide +kernel) (DE.op (de_var (i := 0) (pv 0) rfl))))) (dw_or (dt_cmp (opr_neE hr.units) (DE.op (de_callB call_len (by rfl) T.z_len (by decide +kernel) (da_cons (DE.op (de_var (i := 0) (pv 0) rfl)) da_nil) opn_len)) (DE.op (de_c pe_int fun _ => .int _)) op2_ne) (dw_or (dt_not (dt_val (de_isi .str (by decide) T.z_isinstance T.z_str (by decide +kernel) (DE.op (de_ix ix_seq (DE.op (de_var (i := 0) (pv 0) rfl)) (DE.op (de_c pe_int fun _ => .int _)) (op2_ix flat_fz)))))) (dw_or1 (dt_cmp (opr_neE hr.units) (DE.op (de_callB call_len (by rfl) T.z_len (by decide +kernel) (da_cons (DE.op (de_ix ix_seq (DE.op (de_var (i := 0) (pv 0) rfl)) (DE.op (de_c pe_int fun _ => .int _)) (op2_ix flat_fz))) da_nil) opn_len)) (DE.op (de_c pe_int fun _ => .int _)) op2_ne)))))) (ds_one (ds_ret (de_c pe_bl fun _ => .bl _))) ds_nil)
    (ds_cons (ds_if (DW.dt (dw_or (dt_not (dt_chain opr_le opr_le (de_c pe_str fun _ => .str _) (de_ix ix_seq (DE.op (de_var (i := 0) (pv 0) rfl)) (DE.op (de_c pe_int fun _ => .int _)) (op2_ix flat_fz)) (de_c pe_str fun _ => .str _) op2_le op2_le)) (dw_or1 (dt_not (dt_val (de_isi .list (by decide) T.z_isinstance T.z_list (by decide +kernel) (DE.op (de_ix ix_seq (DE.op (de_var (i := 0) (pv 0) rfl)) (DE.op (de_c pe_int fun _ => .int _)) (op2_ix flat_fz))))))))) (ds_one (ds_ret (de_c pe_bl fun _ => .bl _))) ds_nil)
    (ds_one (ds_ret (de_cmp (opr_eqE hr.units) (DE.op (de_lc (own := [("child", 1)]) (pnC := [0]) (me := fz) rfl nd (di_seq (DE.op (de_ix ix_seq (DE.op (de_var (i := 0) (pv 0) rfl)) (DE.op (de_c pe_int fun _ => .int _)) (op2_ix flat_fz))) flat_fz) (blkOk_by (N := N_law_good) (sc := (defScope s_law_good)) (by decide +kernel)) (fun _ => (dg_name (i := 1) nd)) (fun _ => dts_one (dt_not (dt_val (de_call (hC .law_good) hr takes0 (da_cons (DE.op (de_var (i := 1) (pv 1) rfl)) da_nil))))) (fun _ => (de_var (i := 1) (pv 1) rfl)))) (DE.op (de_lst da_nil (by intro q h; cases h))) op2_eq)))))
/-! ### _law_right -/
abbrev s_law_right : Stmt := topS 14
abbrev N_law_right : List Str := ["thing", "kept", "found"]
theorem sc_law_right : FnScope N_law_right ["thing"] (defScope s_law_right) := ⟨rfl, rfl, rfl, by decide +kernel, rfl, by decide +kernel, by decide +kernel⟩
def b_law_right (C : Fc → Fn) : DEnv → SR :=
    (mSeq (mAsg 1 (mOpN (mCons (oV (mVar 0)) mNil) reprD))
    (mSeq (mAsg 2 (mCall (C .is_tree) (ioOf .is_tree) (mCons (oV (mVar 0)) mNil)))
    (mRet (mAndV (mOp1 (oV (mVar 2)) (isiD .bool)) (mAndV (mOp2 (oV (mVar 2)) (oV (mCall (C .law_good) (ioOf .law_good) (mCons (oV (mVar 0)) mNil))) eqD) (mOp2 (oV (mOpN (mCons (oV (mVar 0)) mNil) reprD)) (oV (mVar 1)) eqD))))))
def q_law_right_1 (C : Fc → Fn) : DEnv → SR := (mAsg 1 (mOpN (mCons (oV (mVar 0)) mNil) reprD))
def q_law_right_2 (C : Fc → Fn) : DEnv → SR := (mAsg 2 (mCall (C .is_tree) (ioOf .is_tree) (mCons (oV (mVar 0)) mNil)))
def q_law_right_3 (C : Fc → Fn) : DEnv → SR := (mRet (mAndV (mOp1 (oV (mVar 2)) (isiD .bool)) (mAndV (mOp2 (oV (mVar 2)) (oV (mCall (C .law_good) (ioOf .law_good) (mCons (oV (mVar 0)) mNil))) eqD) (mOp2 (oV (mOpN (mCons (oV (mVar 0)) mNil) reprD)) (oV (mVar 1)) eqD))))
theorem e_law_right (C : Fc → Fn) : b_law_right C =
    (mSeq (q_law_right_1 C)
    (mSeq (q_law_right_2 C)
    (q_law_right_3 C))) := rfl
theorem k_law_right {P : Program} {w : World} {K : PySem.W.Frag} {mg : Str → Option Value} {base : Heap} {k : Nat} {f : Addr} {fd : FuncData} {C : Fc → Fn} (T : Tx0 K mg v_LETTERS) (B : SysB base) (hC : ∀ x, calOf P w ⟨K, mg⟩ base k x (C x)) (F : Fun K "_law_right" "_law_right" s_law_right f fd) :
    FnOkG P w K mg base (L2.CX P w) (k + 2) f fd ["thing"] (spD (sgOf ⟨K, mg⟩ .law_right) (mkF 2 (ioOf .law_right) (b_law_right C))) := by
  have nd := sc_law_right.nd
  refine fn_okL (sgOf ⟨K, mg⟩ .law_right) [fz, fz] [fz, fz, fz] fz [] 2 F sc_law_right rfl rfl rfl rfl rfl rfl rfl rfl fun cdv A outer s H E hr1 tk hp => ?_
  have hr := hr1.mono (Nat.le_succ _)
  exact (ds_cons (ds_set (i := 1) nd (de_callB (call_reprX hr.g hr.units B) (by rfl) T.z_repr (by decide +kernel) (da_cons (DE.op (de_var (i := 0) (pv 0) rfl)) da_nil) opn_repr))
    (ds_cons (ds_set (i := 2) nd (de_call (hC .is_tree) hr tk (da_cons (DE.op (de_var (i := 0) (pv 0) rfl)) da_nil)))
    (ds_one (ds_ret (de_and (de_isi .bool (by decide) T.z_isinstance T.z_bool (by decide +kernel) (DE.op (de_var (i := 2) (pv 2) rfl))) (de_and (de_cmp (opr_eqE hr.units) (DE.op (de_var (i := 2) (pv 2) rfl)) (DE.op (de_call (hC .law_good) hr tk (da_cons (DE.op (de_var (i := 0) (pv 0) rfl)) da_nil))) op2_eq) (de_one (de_cmp (opr_eqE hr.units) (DE.op (de_callB (call_reprX hr.g hr.units B) (by rfl) T.z_repr (by decide +kernel) (da_cons (DE.op (de_var (i := 0) (pv 0) rfl)) da_nil) opn_repr)) (DE.op (de_var (i := 1) (pv 1) rfl)) op2_eq))))))))
/-! ### law -/
abbrev s_law : Stmt := topS 15
abbrev N_law : List Str := ["script", "deck", "k", "tree", "turn", "thing"]
theorem sc_law : FnScope N_law ["script"] (defScope s_law) := ⟨rfl, rfl, rfl, by decide +kernel, rfl, by decide +kernel, by decide +kernel⟩
def b_law (C : Fc → Fn) : DEnv → SR :=
    (mSeq (mAsg 1 (mCall (C .law_deck) (ioOf .law_deck) (mCons (oV (mVar 0)) mNil)))
    (mSeq (mFor (mSrcA (mCons (oV (mC (.int 6))) mNil) range1D) (tName 2) (mSeq (mAsg 3 (mCall (C .law_tree) (ioOf .law_tree) (mCons (oS 1) (mCons (oV (mC (.int 40))) (mCons (oV (mCall (C .law_letters) (ioOf .law_letters) (mCons (oS 1) mNil))) mNil)))))
    (mSeq (mIf (mTest (mOp2 (oV (mCall (C .is_tree) (ioOf .is_tree) (mCons (oV (mCall (C .law_deep) (ioOf .law_deep) (mCons (oV (mVar 3)) mNil))) mNil))) (oV (mC (.bl true))) notBD)) (mRet (mC (.bl false))) mNext)
    (mFor (mSrcA (mCons (oV (mC (.int 10))) mNil) range1D) (tName 4) (mIf (mNot (mTest (mCall (C .law_right) (ioOf .law_right) (mCons (oV (mCall (C .law_spoilt) (ioOf .law_spoilt) (mCons (oS 1) (mCons (oV (mVar 3)) mNil)))) mNil)))) (mRet (mC (.bl false))) mNext)))))
    (mSeq (mFor (mSrc (oV (mLst (mCons (oV (mC .non)) (mCons (oV (mC (.int 0))) (mCons (oV (mC (.bl true))) (mCons (oV (mC (.str "a"))) (mCons (oV (mC (.str ""))) (mCons (oV (mC (.str "a(b)"))) (mCons (oV (mLst mNil)) (mCons (oV (mTup mNil)) (mCons (oV mDK0) (mCons (oV (mTup (mCons (oV (mC (.str "a"))) mNil))) (mCons (oV (mLst (mCons (oV (mC (.str "a"))) (mCons (oV (mLst mNil)) mNil)))) (mCons (oV (mTup (mCons (oV (mC (.str "a"))) (mCons (oV (mTup mNil)) mNil)))) (mCons (oV (mTup (mCons (oV (mC (.str "ab"))) (mCons (oV (mLst mNil)) mNil)))) (mCons (oV (mTup (mCons (oV (mC (.str "a"))) (mCons (oV (mLst mNil)) mNil)))) mNil)))))))))))))))) seqD) (tName 5) (mIf (mNot (mTest (mCall (C .law_right) (ioOf .law_right) (mCons (oV (mVar 5)) mNil)))) (mRet (mC (.bl false))) mNext))
    (mRet (mC (.bl true))))))
def q_law_1 (C : Fc → Fn) : DEnv → SR := (mAsg 1 (mCall (C .law_deck) (ioOf .law_deck) (mCons (oV (mVar 0)) mNil)))
def i_law_2 (C : Fc → Fn) : Src := (mSrcA (mCons (oV (mC (.int 6))) mNil) range1D)
def q_law_2b1 (C : Fc → Fn) : DEnv → SR := (mAsg 3 (mCall (C .law_tree) (ioOf .law_tree) (mCons (oS 1) (mCons (oV (mC (.int 40))) (mCons (oV (mCall (C .law_letters) (ioOf .law_letters) (mCons (oS 1) mNil))) mNil)))))
def q_law_2b2t1 (C : Fc → Fn) : DEnv → SR := (mRet (mC (.bl false)))
def q_law_2b2 (C : Fc → Fn) : DEnv → SR := (mIf (mTest (mOp2 (oV (mCall (C .is_tree) (ioOf .is_tree) (mCons (oV (mCall (C .law_deep) (ioOf .law_deep) (mCons (oV (mVar 3)) mNil))) mNil))) (oV (mC (.bl true))) notBD)) (q_law_2b2t1 C) mNext)
def i_law_2b3 (C : Fc → Fn) : Src := (mSrcA (mCons (oV (mC (.int 10))) mNil) range1D)
def q_law_2b3b1t1 (C : Fc → Fn) : DEnv → SR := (mRet (mC (.bl false)))
def q_law_2b3b1 (C : Fc → Fn) : DEnv → SR := (mIf (mNot (mTest (mCall (C .law_right) (ioOf .law_right) (mCons (oV (mCall (C .law_spoilt) (ioOf .law_spoilt) (mCons (oS 1) (mCons (oV (mVar 3)) mNil)))) mNil)))) (q_law_2b3b1t1 C) mNext)
def q_law_2b3 (C : Fc → Fn) : DEnv → SR := (mFor (i_law_2b3 C) (tName 4) (q_law_2b3b1 C))
def Q_law_2b (C : Fc → Fn) : DEnv → SR := (mSeq (q_law_2b1 C)
    (mSeq (q_law_2b2 C)
    (q_law_2b3 C)))
def q_law_2 (C : Fc → Fn) : DEnv → SR := (mFor (i_law_2 C) (tName 2) (Q_law_2b C))
def i_law_3 (C : Fc → Fn) : Src := (mSrc (oV (mLst (mCons (oV (mC .non)) (mCons (oV (mC (.int 0))) (mCons (oV (mC (.bl true))) (mCons (oV (mC (.str "a"))) (mCons (oV (mC (.str ""))) (mCons (oV (mC (.str "a(b)"))) (mCons (oV (mLst mNil)) (mCons (oV (mTup mNil)) (mCons (oV mDK0) (mCons (oV (mTup (mCons (oV (mC (.str "a"))) mNil))) (mCons (oV (mLst (mCons (oV (mC (.str "a"))) (mCons (oV (mLst mNil)) mNil)))) (mCons (oV (mTup (mCons (oV (mC (.str "a"))) (mCons (oV (mTup mNil)) mNil)))) (mCons (oV (mTup (mCons (oV (mC (.str "ab"))) (mCons (oV (mLst mNil)) mNil)))) (mCons (oV (mTup (mCons (oV (mC (.str "a"))) (mCons (oV (mLst mNil)) mNil)))) mNil)))))))))))))))) seqD)
def q_law_3b1t1 (C : Fc → Fn) : DEnv → SR := (mRet (mC (.bl false)))
def q_law_3b1 (C : Fc → Fn) : DEnv → SR := (mIf (mNot (mTest (mCall (C .law_right) (ioOf .law_right) (mCons (oV (mVar 5)) mNil)))) (q_law_3b1t1 C) mNext)
def q_law_3 (C : Fc → Fn) : DEnv → SR := (mFor (i_law_3 C) (tName 5) (q_law_3b1 C))
def q_law_4 (C : Fc → Fn) : DEnv → SR := (mRet (mC (.bl true)))
theorem e_law (C : Fc → Fn) : b_law C =
    (mSeq (q_law_1 C)
    (mSeq (q_law_2 C)
    (mSeq (q_law_3 C)
    (q_law_4 C)))) := rfl
theorem k_law {P : Program} {w : World} {K : PySem.W.Frag} {mg : Str → Option Value} {base : Heap} {k : Nat} {f : Addr} {fd : FuncData} {C : Fc → Fn} (T : Tx0 K mg v_LETTERS) (B : SysB base) (hC : ∀ x, calOf P w ⟨K, mg⟩ base k x (C x)) (F : Fun K "law" "law" s_law f fd) :
    FnOkG P w K mg base (L2.CX P w) (k + 2) f fd ["script"] (spD (sgOf ⟨K, mg⟩ .law) (mkF 5 (ioOf .law) (b_law C))) := by
  have nd := sc_law.nd
  refine fn_okL (sgOf ⟨K, mg⟩ .law) [(Lof (Lof (Lof fz))), fz, fz, fz, fz] [fz, (Lof (Lof (Lof fz))), fz, fz, fz, fz] fz [] 5 F sc_law rfl rfl rfl rfl rfl rfl rfl rfl fun cdv A outer s H E hr1 tk hp => ?_
  have hr := hr1.mono (Nat.le_succ _)
  exact (ds_cons (ds_set (i := 1) nd (de_call (hC .law_deck) hr tk (da_cons (DE.op (de_var (i := 0) (pv 0) rfl)) da_nil)))
    (ds_cons (ds_for hp rfl (di_range1 T.z_range (da_cons (DE.op (de_c pe_int fun _ => .int _)) da_nil)) (dg_name (i := 2) nd) (ds_cons (ds_set (i := 3) nd (de_call (hC .law_tree) hr tk (da_cons (do_s (i := 1) (pv 1)) (da_cons (DE.op (de_c pe_int fun _ => .int _)) (da_cons (DE.op (de_call (hC .law_letters) hr tk (da_cons (do_s (i := 1) (pv 1)) da_nil))) da_nil)))))
    (ds_cons (ds_if (dt_cmp op_notBl (DE.op (de_call (hC .is_tree) hr tk (da_cons (DE.op (de_call (hC .law_deep) hr tk (da_cons (DE.op (de_var (i := 3) (pv 3) rfl)) da_nil))) da_nil))) (DE.op (de_c pe_bl fun _ => .bl _)) op2_notB) (ds_one (ds_ret (de_c pe_bl fun _ => .bl _))) ds_nil)
    (ds_one (ds_for hp rfl (di_range1 T.z_range (da_cons (DE.op (de_c pe_int fun _ => .int _)) da_nil)) (dg_name (i := 4) nd) (ds_one (ds_if (dt_not (dt_val (de_call (hC .law_right) hr tk (da_cons (DE.op (de_call (hC .law_spoilt) hr tk (da_cons (do_s (i := 1) (pv 1)) (da_cons (DE.op (de_var (i := 3) (pv 3) rfl)) da_nil)))) da_nil)))) (ds_one (ds_ret (de_c pe_bl fun _ => .bl _))) ds_nil)))))))
    (ds_cons (ds_for hp rfl (di_seq (DE.op (de_lst (da_cons (DE.op (de_c pe_non fun _ => .non)) (da_cons (DE.op (de_c pe_int fun _ => .int _)) (da_cons (DE.op (de_c pe_bl fun _ => .bl _)) (da_cons (DE.op (de_c pe_str fun _ => .str _)) (da_cons (DE.op (de_c pe_str fun _ => .str _)) (da_cons (DE.op (de_c pe_str fun _ => .str _)) (da_cons (DE.op (DE.share (de_lst da_nil (by intro q h; cases h)))) (da_cons (DE.op (de_tup da_nil (by intro q h; cases h))) (da_cons (DE.op (DE.share de_dK0)) (da_cons (DE.op (de_tup (da_cons (DE.op (de_c pe_str fun _ => .str _)) da_nil) (by intro q h; simp only [List.map_cons, List.map_nil, List.mem_cons, List.not_mem_nil, or_false, Kd.mode] at h; rcases h with rfl <;> rfl))) (da_cons (DE.op (DE.share (de_lst (da_cons (DE.op (de_c pe_str fun _ => .str _)) (da_cons (DE.op (DE.share (de_lst da_nil (by intro q h; cases h)))) da_nil)) (by intro q h; simp only [List.map_cons, List.map_nil, List.mem_cons, List.not_mem_nil, or_false, Kd.mode] at h; rcases h with rfl | rfl <;> rfl)))) (da_cons (DE.op (de_tup (da_cons (DE.op (de_c pe_str fun _ => .str _)) (da_cons (DE.op (de_tup da_nil (by intro q h; cases h))) da_nil)) (by intro q h; simp only [List.map_cons, List.map_nil, List.mem_cons, List.not_mem_nil, or_false, Kd.mode] at h; rcases h with rfl | rfl <;> rfl))) (da_cons (DE.op (de_tup (da_cons (DE.op (de_c pe_str fun _ => .str _)) (da_cons (DE.op (DE.share (de_lst da_nil (by intro q h; cases h)))) da_nil)) (by intro q h; simp only [List.map_cons, List.map_nil, List.mem_cons, List.not_mem_nil, or_false, Kd.mode] at h; rcases h with rfl | rfl <;> rfl))) (da_cons (DE.op (de_tup (da_cons (DE.op (de_c pe_str fun _ => .str _)) (da_cons (DE.op (DE.share (de_lst da_nil (by intro q h; cases h)))) da_nil)) (by intro q h; simp only [List.map_cons, List.map_nil, List.mem_cons, List.not_mem_nil, or_false, Kd.mode] at h; rcases h with rfl | rfl <;> rfl))) da_nil)))))))))))))) (by intro q h; simp only [List.map_cons, List.map_nil, List.mem_cons, List.not_mem_nil, or_false, Kd.mode] at h; rcases h with rfl | rfl | rfl | rfl | rfl | rfl | rfl | rfl | rfl | rfl | rfl | rfl | rfl | rfl <;> rfl))) flat_L) (dg_name (i := 5) nd) (ds_one (ds_if (dt_not (dt_val (de_call (hC .law_right) hr tk (da_cons (DE.op (de_var (i := 5) (pv 5) rfl)) da_nil)))) (ds_one (ds_ret (de_c pe_bl fun _ => .bl _))) ds_nil)))
    (ds_one (ds_ret (de_c pe_bl fun _ => .bl _))))))
def stOf : Fc → Stmt
  | .is_letter => s_is_letter
  | .is_tree => s_is_tree
  | .law_deck => s_law_deck
  | .law_draw => s_law_draw
  | .law_letters => s_law_letters
  | .law_grown => s_law_grown
  | .law_tree => s_law_tree
  | .law_deep => s_law_deep
  | .law_odd => s_law_odd
  | .law_spoilt => s_law_spoilt
  | .law_good => s_law_good
  | .law_right => s_law_right
  | .law => s_law
def bdOf (C : Fc → Fn) : Fc → Fn
  | .is_letter => mkF 0 (ioOf .is_letter) (b_is_letter C)
  | .is_tree => mkF 1 (ioOf .is_tree) (b_is_tree C)
  | .law_deck => mkF 3 (ioOf .law_deck) (b_law_deck C)
  | .law_draw => mkF 3 (ioOf .law_draw) (b_law_draw C)
  | .law_letters => mkF 0 (ioOf .law_letters) (b_law_letters C)
  | .law_grown => mkF 2 (ioOf .law_grown) (b_law_grown C)
  | .law_tree => mkF 7 (ioOf .law_tree) (b_law_tree C)
  | .law_deep => mkF 1 (ioOf .law_deep) (b_law_deep C)
  | .law_odd => mkF 8 (ioOf .law_odd) (b_law_odd C)
  | .law_spoilt => mkF 1 (ioOf .law_spoilt) (b_law_spoilt C)
  | .law_good => mkF 1 (ioOf .law_good) (b_law_good C)
  | .law_right => mkF 2 (ioOf .law_right) (b_law_right C)
  | .law => mkF 5 (ioOf .law) (b_law C)
def hfOf (K : PySem.W.Frag) (mg : Str → Option Value) (x : Fc) : Prop := match x with
  | .is_letter => ∃ f fd, mg "is_letter" = some (.ref f) ∧ PySem.W.keepIn K (.ref f) = true ∧ Binds K fd (psOf .is_letter) [] ∧ Fun K "is_letter" "is_letter" s_is_letter f fd
  | .is_tree => ∃ f fd, mg "is_tree" = some (.ref f) ∧ PySem.W.keepIn K (.ref f) = true ∧ Binds K fd (psOf .is_tree) [] ∧ Fun K "is_tree" "is_tree" s_is_tree f fd
  | .law_deck => ∃ f fd, mg "_law_deck" = some (.ref f) ∧ PySem.W.keepIn K (.ref f) = true ∧ Binds K fd (psOf .law_deck) [] ∧ Fun K "_law_deck" "_law_deck" s_law_deck f fd
  | .law_draw => ∃ f fd, mg "_law_draw" = some (.ref f) ∧ PySem.W.keepIn K (.ref f) = true ∧ Binds K fd (psOf .law_draw) [] ∧ Fun K "_law_draw" "_law_draw" s_law_draw f fd
  | .law_letters => ∃ f fd, mg "_law_letters" = some (.ref f) ∧ PySem.W.keepIn K (.ref f) = true ∧ Binds K fd (psOf .law_letters) [] ∧ Fun K "_law_letters" "_law_letters" s_law_letters f fd
  | .law_grown => ∃ f fd, mg "_law_grown" = some (.ref f) ∧ PySem.W.keepIn K (.ref f) = true ∧ Binds K fd (psOf .law_grown) [] ∧ Fun K "_law_grown" "_law_grown" s_law_grown f fd
  | .law_tree => ∃ f fd, mg "_law_tree" = some (.ref f) ∧ PySem.W.keepIn K (.ref f) = true ∧ Binds K fd (psOf .law_tree) [] ∧ Fun K "_law_tree" "_law_tree" s_law_tree f fd
  | .law_deep => ∃ f fd, mg "_law_deep" = some (.ref f) ∧ PySem.W.keepIn K (.ref f) = true ∧ Binds K fd (psOf .law_deep) [] ∧ Fun K "_law_deep" "_law_deep" s_law_deep f fd
  | .law_odd => ∃ f fd, mg "_law_odd" = some (.ref f) ∧ PySem.W.keepIn K (.ref f) = true ∧ Binds K fd (psOf .law_odd) [] ∧ Fun K "_law_odd" "_law_odd" s_law_odd f fd
  | .law_spoilt => ∃ f fd, mg "_law_spoilt" = some (.ref f) ∧ PySem.W.keepIn K (.ref f) = true ∧ Binds K fd (psOf .law_spoilt) [] ∧ Fun K "_law_spoilt" "_law_spoilt" s_law_spoilt f fd
  | .law_good => ∃ f fd, mg "_law_good" = some (.ref f) ∧ PySem.W.keepIn K (.ref f) = true ∧ Binds K fd (psOf .law_good) [] ∧ Fun K "_law_good" "_law_good" s_law_good f fd
  | .law_right => ∃ f fd, mg "_law_right" = some (.ref f) ∧ PySem.W.keepIn K (.ref f) = true ∧ Binds K fd (psOf .law_right) [] ∧ Fun K "_law_right" "_law_right" s_law_right f fd
  | .law => ∃ f fd, mg "law" = some (.ref f) ∧ PySem.W.keepIn K (.ref f) = true ∧ Binds K fd (psOf .law) [] ∧ Fun K "law" "law" s_law f fd
def Mt : Nat → Fc → Fn
  | 0 => fun _ _ => .stuck
  | n + 1 => bdOf (Mt n)
/-- each def at each level does what the table says -/
theorem tab {P : Program} {w : World} {K : PySem.W.Frag} {mg : Str → Option Value} {base : Heap} (T : Tx0 K mg v_LETTERS) (B : SysB base) (hF : ∀ x, hfOf K mg x) :
    ∀ (n : Nat) (x : Fc), calOf P w ⟨K, mg⟩ base (2 * n) x (Mt n x)
  | 0, x => by
    have h := hF x
    cases x with
    | is_letter => let ⟨f, fd, a, b, c, F⟩ := h; exact ⟨f, fd, a, b, c, fn0 _⟩
    | is_tree => let ⟨f, fd, a, b, c, F⟩ := h; exact ⟨f, fd, a, b, c, fn0 _⟩
    | law_deck => let ⟨f, fd, a, b, c, F⟩ := h; exact ⟨f, fd, a, b, c, fn0 _⟩
    | law_draw => let ⟨f, fd, a, b, c, F⟩ := h; exact ⟨f, fd, a, b, c, fn0 _⟩
    | law_letters => let ⟨f, fd, a, b, c, F⟩ := h; exact ⟨f, fd, a, b, c, fn0 _⟩
    | law_grown => let ⟨f, fd, a, b, c, F⟩ := h; exact ⟨f, fd, a, b, c, fn0 _⟩
    | law_tree => let ⟨f, fd, a, b, c, F⟩ := h; exact ⟨f, fd, a, b, c, fn0 _⟩
    | law_deep => let ⟨f, fd, a, b, c, F⟩ := h; exact ⟨f, fd, a, b, c, fn0 _⟩
    | law_odd => let ⟨f, fd, a, b, c, F⟩ := h; exact ⟨f, fd, a, b, c, fn0 _⟩
    | law_spoilt => let ⟨f, fd, a, b, c, F⟩ := h; exact ⟨f, fd, a, b, c, fn0 _⟩
    | law_good => let ⟨f, fd, a, b, c, F⟩ := h; exact ⟨f, fd, a, b, c, fn0 _⟩
    | law_right => let ⟨f, fd, a, b, c, F⟩ := h; exact ⟨f, fd, a, b, c, fn0 _⟩
    | law => let ⟨f, fd, a, b, c, F⟩ := h; exact ⟨f, fd, a, b, c, fn0 _⟩
  | n + 1, x => by
    have h := hF x
    have hC := tab (P := P) (w := w) (base := base) T B hF n
    cases x with
    | is_letter => let ⟨f, fd, a, b, c, F⟩ := h; exact ⟨f, fd, a, b, c, k_is_letter T B hC F⟩
    | is_tree => let ⟨f, fd, a, b, c, F⟩ := h; exact ⟨f, fd, a, b, c, k_is_tree T B hC F⟩
    | law_deck => let ⟨f, fd, a, b, c, F⟩ := h; exact ⟨f, fd, a, b, c, k_law_deck T B hC F⟩
    | law_draw => let ⟨f, fd, a, b, c, F⟩ := h; exact ⟨f, fd, a, b, c, k_law_draw T B hC F⟩
    | law_letters => let ⟨f, fd, a, b, c, F⟩ := h; exact ⟨f, fd, a, b, c, k_law_letters T B hC F⟩
    | law_grown => let ⟨f, fd, a, b, c, F⟩ := h; exact ⟨f, fd, a, b, c, k_law_grown T B hC F⟩
    | law_tree => let ⟨f, fd, a, b, c, F⟩ := h; exact ⟨f, fd, a, b, c, k_law_tree T B hC F⟩
    | law_deep => let ⟨f, fd, a, b, c, F⟩ := h; exact ⟨f, fd, a, b, c, k_law_deep T B hC F⟩
    | law_odd => let ⟨f, fd, a, b, c, F⟩ := h; exact ⟨f, fd, a, b, c, k_law_odd T B hC F⟩
    | law_spoilt => let ⟨f, fd, a, b, c, F⟩ := h; exact ⟨f, fd, a, b, c, k_law_spoilt T B hC F⟩
    | law_good => let ⟨f, fd, a, b, c, F⟩ := h; exact ⟨f, fd, a, b, c, k_law_good T B hC F⟩
    | law_right => let ⟨f, fd, a, b, c, F⟩ := h; exact ⟨f, fd, a, b, c, k_law_right T B hC F⟩
    | law => let ⟨f, fd, a, b, c, F⟩ := h; exact ⟨f, fd, a, b, c, k_law T B hC F⟩
end K01
set_option maxRecDepth 100000
set_option maxHeartbeats 400000
namespace K01
open PySem PySem.Spec L2 DM
/-- a pool: three whole numbers -/
def IsPool (d : D) : Prop := ∃ x f y : Int, d = .lst [.int x, .int f, .int y]
def IsDeck (d : D) : Prop := ∃ (ps : List D) (c : Int), d = .lst [.lst ps, .int c] ∧ 0 < ps.length ∧ ∀ p ∈ ps, IsPool p
theorem mulOk_l (i j : Int) (h : -(2 ^ 64) < i ∧ i < 2 ^ 64) : mulOk i j = true := by
  unfold mulOk
  have e : nb i 18446744073709551615 = true := nb_iff.mpr ⟨by omega, by omega⟩
  rw [e]
  rfl
theorem fin0 {α : Type} (a b c d e : α) : ([a, b, c, d, e] : List α)[0]? = some a := rfl
theorem draw_ok (C : Fc → Fn) {d : D} {m : Int} (hd : IsDeck d) (h0 : 0 < m) (h1 : m < 1073741824) : ∃ r d', bdOf C .law_draw [d, .int m] = .ok (.int r) [d'] ∧ IsDeck d' ∧ 0 ≤ r ∧ r < m := by
  obtain ⟨ps, c, rfl, hl, hp⟩ := hd
  have hc0 : 0 ≤ c % (ps.length : Int) := Int.emod_nonneg _ (by omega)
  have hc1 : c % (ps.length : Int) < ps.length := Int.emod_lt_of_pos _ (by omega)
  have hj : (c % (ps.length : Int)).toNat < ps.length := by omega
  obtain ⟨x, f, y, e⟩ := hp _ (List.getElem_mem hj)
  have e' : ps[(c % (ps.length : Int)).toNat]? = some (.lst [.int x, .int f, .int y]) := by rw [List.getElem?_eq_getElem hj, e]
  have mk : ∀ (a b : Int) (p : D), IsPool p → IsDeck (.lst [.lst (ps.set (c % (ps.length : Int)).toNat p), .int (c + 1)]) := fun a b p hpp => by
    refine ⟨_, _, rfl, by simpa using hl, fun q hq => ?_⟩
    rcases List.mem_or_eq_of_mem_set hq with h | h
    · exact hp q h
    · rw [h]; exact hpp
  have x0 : ixN 3 0 = some 0 := ixN_int (by decide) (by decide)
  have x2 : ixN 3 2 = some 2 := ixN_int (by decide) (by decide)
  have em : ∀ z : Int, 0 ≤ z % m ∧ z % m < m := fun z => ⟨Int.emod_nonneg _ (by omega), Int.emod_lt_of_pos _ h0⟩
  by_cases hf : f = 1 ∧ 0 < x
  · obtain ⟨rfl, hx⟩ := hf
    refine ⟨x % m, .lst [.lst (ps.set (c % (ps.length : Int)).toNat (.lst [.int (x / m), .int 1, .int y])), .int (c + 1)], ?_, mk 0 0 _ ⟨_, _, _, rfl⟩, em _⟩
    simp [bdOf, b_law_draw, mDraw, e', eqD_i, hx, h0, h1, x0, ioOf]
  · have hn : ∀ t : Int, -(2 ^ 64) < t % 99999999947 ∧ t % 99999999947 < 2 ^ 64 := fun t => by omega
    have hn2 : ∀ t : Int, -(2 ^ 64) < t % 99999999821 ∧ t % 99999999821 < 2 ^ 64 := fun t => by omega
    have m1 : mulOk 700001 (y + 1) = true := mulOk_l _ _ (by decide)
    have m2 : ∀ t u : Int, mulOk (t % 99999999947) u = true := fun t u => mulOk_l _ _ (hn t)
    have m3 : ∀ t u : Int, mulOk (t % 99999999821) u = true := fun t u => mulOk_l _ _ (hn2 t)
    refine ⟨((fun n : Int => n * (n + 19) % 9999999967) ((fun n : Int => n * n % 99999999821) ((x % 99999999977 + 700001 * (y + 1)) % 99999999947))) / 13 % m, .lst [.lst (ps.set (c % (ps.length : Int)).toNat (.lst [.int x, .int f, .int (y + 1)])), .int (c + 1)], ?_, mk 0 0 _ ⟨_, _, _, rfl⟩, em _⟩
    by_cases hf1 : f = 1
    · have hx : ¬ 0 < x := fun h => hf ⟨hf1, h⟩
      simp [bdOf, b_law_draw, mDraw, e', eqD_i, hf1, hx, h0, x0, x2, ioOf, m1, m2, m3]
    · simp [bdOf, b_law_draw, mDraw, e', eqD_i, hf1, h0, x0, x2, ioOf, m1, m2, m3]
end K01
set_option maxRecDepth 100000
set_option maxHeartbeats 400000
namespace K01
open PySem PySem.Spec L2 DM
theorem sz : (2 : Nat) ^ 20 ≤ sizeLine := by decide
def IsLet (z : Str) : Prop := 0 < z.length ∧ z.length ≤ 26 ∧ ∀ c ∈ z.cps.toList, 97 ≤ c ∧ c ≤ 122
theorem draw_n (n : Nat) {d : D} {m : Int} (hd : IsDeck d) (h0 : 0 < m) (h1 : m < 1073741824) : ∃ r d', Mt (n + 1) .law_draw [d, .int m] = .ok (.int r) [d'] ∧ IsDeck d' ∧ 0 ≤ r ∧ r < m := draw_ok (Mt n) hd h0 h1
theorem let_ok (n : Nat) {d : D} (hd : IsDeck d) : ∃ z d', Mt (n + 2) .law_letters [d] = .ok (.str z) [d'] ∧ IsDeck d' ∧ IsLet z := by
  obtain ⟨r, d1, e1, hd1, h0, h1⟩ := draw_n n (m := 5) hd (by decide) (by decide)
  have key : ∀ z, IsLet z → atI [D.str "a", D.str "ab", D.str "abc", D.str "xyz", D.str "abcdefghijklmnopqrstuvwxyz"] r = some (.str z) → ∃ z d', Mt (n + 2) .law_letters [d] = .ok (.str z) [d'] ∧ IsDeck d' ∧ IsLet z := fun z hz ha => by
    refine ⟨z, d1, ?_, hd1, hz⟩
    show bdOf (Mt (n + 1)) .law_letters [d] = _
    simp [bdOf, b_law_letters, ioOf, e1, ha, show (5 : Nat) ≤ sizeLine from by decide]
  have hr : r = 0 ∨ r = 1 ∨ r = 2 ∨ r = 3 ∨ r = 4 := by omega
  rcases hr with rfl | rfl | rfl | rfl | rfl
  · exact key "a" ⟨by decide, by decide, by decide⟩ (by simp)
  · exact key "ab" ⟨by decide, by decide, by decide⟩ (by simp)
  · exact key "abc" ⟨by decide, by decide, by decide⟩ (by simp)
  · exact key "xyz" ⟨by decide, by decide, by decide⟩ (by simp)
  · exact key "abcdefghijklmnopqrstuvwxyz" ⟨by decide, by decide, by decide⟩ (atI_k (k := 4) 4 rfl (by decide))
def rowsD (rs : List (List Nat)) : D := .lst (rs.map fun r => .lst (r.map fun j => .int (j : Nat)))
theorem len_cps (z : Str) : z.cps.toList.length = z.length := by
  rfl
mutual
theorem grown_ok {rs : List (List Nat)} {ds : List Nat} {L : Str} (hL : IsLet L) (h20 : ∀ d ∈ ds, d ≤ 20) (hrs : ∀ r ∈ rs, r.length ≤ 1000) : ∀ (t : LT) (n k : Nat) (d : D), LT.row rs t → LT.dp ds k t → 22 ≤ n + k → IsDeck d →
    ∃ (u : T) (d' : D), Mt (n + 2) .law_grown [d, rowsD rs, .str L, .int (t.lab : Nat)] = .ok u.dat [d'] ∧ IsDeck d' ∧ u.good ∧ u.size = t.size ∧ u.dep + k ≤ 21
  | .node i cs, n, k, d, hr, hk, hn, hd => by
    rw [LT.row] at hr
    rw [LT.dp] at hk
    have hk20 : k ≤ 20 := h20 k (List.mem_of_getElem? hk.1)
    obtain ⟨r, d1, e1, hd1, h0, h1⟩ := draw_n n (m := (L.length : Int)) hd (by have := hL.1; omega) (by have := hL.2.1; omega)
    have hrl : r.toNat < L.cps.toList.length := by rw [len_cps]; omega
    have hlen : L.length ≤ sizeLine := Nat.le_trans hL.2.1 (by decide)
    obtain ⟨c, hix, hc⟩ : ∃ c, ixD (.str L) (.int r) = some (.str ⟨#[c]⟩) ∧ c ∈ L.cps.toList := by
      refine ⟨_, ?_, List.getElem_mem hrl⟩
      show (if L.length ≤ sizeLine then (atI L.cps.toList r).map fun c => D.str ⟨#[c]⟩ else none) = _
      rw [if_pos hlen, atI_k (k := r.toNat) r (by omega) hrl, List.getElem?_eq_getElem hrl]
      rfl
    obtain ⟨us, d2, e2, hd2, g2, s2, dp2⟩ := growns_ok hL h20 hrs cs n (k + 1) d1 i (.str ⟨#[c]⟩) hr.2 hk.2 (by omega) (by omega) hd1
    have hrow : ixD (rowsD rs) (.int (i : Nat)) = some (.lst ((LT.labs cs).map fun j => .int (j : Nat))) := by
      have hi : i < rs.length := (List.getElem?_eq_some_iff.mp hr.1).1
      show atI (rs.map fun r => D.lst (r.map fun j => .int (j : Nat))) (i : Int) = _
      rw [atI_nat (by simpa using hi), List.getElem?_map, hr.1]
      rfl
    have hl1000 : (LT.labs cs).length ≤ sizeLine := Nat.le_trans (hrs _ (List.mem_of_getElem? hr.1)) (by decide)
    refine ⟨.node c us, d2, ?_, hd2, ?_, ?_, ?_⟩
    · show bdOf (Mt (n + 1)) .law_grown [d, rowsD rs, .str L, .int (i : Nat)] = _
      simp [bdOf, b_law_grown, mLc_e, ioOf, e1, hlen, hix, hrow, hl1000, e2, T.dat, show (2 : Nat) ≤ sizeLine from by decide]
    · rw [T.good]; exact ⟨hL.2.2 c hc, g2⟩
    · rw [T.size, LT.size, s2]
    · rw [T.dep]; omega
theorem growns_ok {rs : List (List Nat)} {ds : List Nat} {L : Str} (hL : IsLet L) (h20 : ∀ d ∈ ds, d ≤ 20) (hrs : ∀ r ∈ rs, r.length ≤ 1000) : ∀ (ts : List LT) (n k : Nat) (d : D) (i : Nat) (x : D), LT.rows rs ts → LT.dps ds k ts → 23 ≤ n + k → k ≤ 21 → IsDeck d →
    ∃ (us : List T) (d' : D), dLc (tName 5) mYes (mCall (Mt (n + 1) .law_grown) [true, false, false, false] (mCons (oS 0) (mCons (oV (mVar 1)) (mCons (oV (mVar 2)) (mCons (oV (mVar 5)) mNil))))) [5] ((LT.labs ts).map fun j => D.int (j : Nat)) [some d, some (rowsD rs), some (.str L), some (.int (i : Nat)), some x, none]
      = .ok (T.dats us) [some d', some (rowsD rs), some (.str L), some (.int (i : Nat)), some x, none] ∧ IsDeck d' ∧ T.goods us ∧ T.sizes us = LT.sizes ts ∧ T.deps us + k ≤ 21
  | [], n, k, d, i, x, _, _, _, h21, hd => ⟨[], d, rfl, hd, by rw [T.goods]; trivial, rfl, by rw [T.deps]; omega⟩
  | t :: ts, n, k, d, i, x, hr, hk, hn, h21, hd => by
    rw [LT.rows] at hr
    rw [LT.dps] at hk
    have hk20 : k ≤ 20 := by
      cases t with
      | node j cs =>
        have h1 := hk.1
        rw [LT.dp] at h1
        exact h20 k (List.mem_of_getElem? h1.1)
    obtain ⟨m, rfl⟩ : ∃ m, n = m + 1 := ⟨n - 1, by omega⟩
    obtain ⟨u, d1, e1, hd1, g1, s1, p1⟩ := grown_ok hL h20 hrs t m k d hr.1 hk.1 (by omega) hd
    obtain ⟨us, d2, e2, hd2, g2, s2, p2⟩ := growns_ok hL h20 hrs ts (m + 1) k d1 i x hr.2 hk.2 hn h21 hd1
    refine ⟨u :: us, d2, ?_, hd2, by rw [T.goods]; exact ⟨g1, g2⟩, by rw [T.sizes, LT.sizes, s1, s2], by rw [T.deps]; omega⟩
    rw [LT.labs, List.map_cons, dLc, T.dats]
    simp [e1]
    rw [e2]
    rfl
end
end K01
set_option maxRecDepth 100000
set_option maxHeartbeats 400000
namespace K01
open PySem PySem.Spec L2 DM
def depsD (ds : List Nat) : D := .lst (ds.map fun j => .int (j : Nat))
def treeS1 (C : Fc → Fn) : DEnv → SR := (mAsg 8 (mLst (mCons (oV (mOp2 (oV (mVar 7)) (oV (mC (.int 1))) subD)) (mCons (oV (mCall (C .law_draw) (ioOf .law_draw) (mCons (oS 0) (mCons (oV (mVar 7)) mNil)))) (mCons (oV (mOpN (mCons (oV (mC (.int 0))) (mCons (oV (mOp2 (oV (mOp2 (oV (mVar 7)) (oV (mC (.int 1))) subD)) (oV (mCall (C .law_draw) (ioOf .law_draw) (mCons (oS 0) (mCons (oV (mC (.int 3))) mNil)))) subD)) mNil)) max2D)) (mCons (oV (mC (.int 0))) (mCons (oV (mOp2 (oV (mOp2 (oV (mVar 7)) (oV (mC (.int 1))) subD)) (oV (mC (.int 2))) fdivD)) mNil)))))))
def treeS2 (C : Fc → Fn) : DEnv → SR := (mAsg 9 (mOp2 (oV (mOp2 (oV (mVar 8)) (oV (mLst (mCons (oV (mCall (C .law_draw) (ioOf .law_draw) (mCons (oS 0) (mCons (oV (mOpN (mCons (oV (mVar 7)) (mCons (oV (mC (.int 4))) mNil)) min2D)) mNil)))) mNil))) addD)) (oV (mVar 4)) ixD))
def treeS3 (C : Fc → Fn) : DEnv → SR := (mIf (mTest (mOp2 (oV (mOp2 (oS 6) (oV (mVar 9)) ixD)) (oV (mC (.int 19))) gtD)) (mAsg 9 (mOp2 (oV (mCall (C .law_draw) (ioOf .law_draw) (mCons (oS 0) (mCons (oV (mC (.int 19))) mNil)))) (oV (mVar 7)) modD)) mNext)
def treeS4 : DEnv → SR := (mIf (mTest (mOp2 (oV (mOp2 (oS 6) (oV (mVar 9)) ixD)) (oV (mC (.int 19))) gtD)) (mAsg 9 (mC (.int 0))) mNext)
def treeTl (C : Fc → Fn) : DEnv → SR := (mSeq (mDrop (mMutP 5 (mVar 9) (mCons (oV (mCall (C .law_draw) (ioOf .law_draw) (mCons (oS 0) (mCons (oV (mOp2 (oV (mLenIx 5 (mVar 9))) (oV (mC (.int 1))) addD)) mNil)))) (mCons (oV (mVar 7)) mNil)) insertF))
    (mSeq (mDrop (mMut (oS 5) (mCons (oV (mLst mNil)) mNil) appendF))
    (mDrop (mMut (oS 6) (mCons (oV (mOp2 (oV (mOp2 (oS 6) (oV (mVar 9)) ixD)) (oV (mC (.int 1))) addD)) mNil) appendF))))
def treeBody (C : Fc → Fn) : DEnv → SR := mSeq (treeS1 C) (mSeq (treeS2 C) (mSeq (treeS3 C) (mSeq treeS4 (treeTl C))))
theorem seq_nx {a b : DEnv → SR} {δ δ1 : DEnv} (h : a δ = .nx δ1) : mSeq a b δ = b δ1 := by rw [mSeq_e, h]; rfl
theorem depth_at {ds : List Nat} {h : Int} (h0 : 0 ≤ h) (hl : h < ds.length) : ∃ dh : Nat, ds[h.toNat]? = some dh ∧ ixD (depsD ds) (.int h) = some (.int (dh : Int)) := by
  have hlt : h.toNat < ds.length := by omega
  refine ⟨ds[h.toNat], List.getElem?_eq_getElem hlt, ?_⟩
  show atI (ds.map fun j => D.int (j : Nat)) h = _
  rw [atI_k (k := h.toNat) h (by omega) (by simpa using hlt), List.getElem?_map, List.getElem?_eq_getElem hlt]
  rfl
theorem tree_tail (n : Nat) {d a1 a2 a3 a4 a8 : D} {k : Nat} {rs : List (List Nat)} {ds : List Nat} {h : Int} (hd : IsDeck d) (g : Drawn k rs ds) (hrl : ∀ r ∈ rs, r.length ≤ k) (hk : k ≤ 100) (h0 : 0 ≤ h) (hl : h < k) (h19 : ∀ dh : Nat, ds[h.toNat]? = some dh → dh ≤ 19) :
    ∃ d' rs' ds', treeTl (Mt (n + 1)) [some d, some a1, some a2, some a3, some a4, some (rowsD rs), some (depsD ds), some (.int (k : Int)), some a8, some (.int h)]
      = .nx [some d', some a1, some a2, some a3, some a4, some (rowsD rs'), some (depsD ds'), some (.int (k : Int)), some a8, some (.int h)] ∧ IsDeck d' ∧ Drawn (k + 1) rs' ds' ∧ ∀ r ∈ rs', r.length ≤ k + 1 := by
  obtain ⟨row, hr⟩ : ∃ row, rs[h.toNat]? = some row := ⟨_, List.getElem?_eq_getElem (by rw [g.lr]; omega)⟩
  have hrow : row.length ≤ k := hrl row (List.mem_of_getElem? hr)
  obtain ⟨dh, hdh, edh⟩ := depth_at (ds := ds) h0 (by rw [g.ld]; omega)
  obtain ⟨r, d1, e1, hd1, r0, r1⟩ := draw_n n (m := (row.length : Int) + 1) hd (by omega) (by omega)
  have hix : ixN rs.length h = some h.toNat := ixN_int h0 (by rw [g.lr]; exact hl)
  have hsl : row.length < sizeLine := Nat.lt_of_le_of_lt hrow (Nat.lt_of_le_of_lt hk (by decide))
  have hsr : rs.length < sizeLine := by rw [g.lr]; exact Nat.lt_of_le_of_lt hk (by decide)
  have hsd : ds.length < sizeLine := by rw [g.ld]; exact Nat.lt_of_le_of_lt hk (by decide)
  have eins : insRows rs h.toNat r.toNat k = rs.set h.toNat (insAt row r.toNat k) ++ [[]] := by
    unfold insRows
    rw [List.getD_eq_getElem?_getD, hr]
    rfl
  refine ⟨d1, insRows rs h.toNat r.toNat k, ds ++ [dh + 1], ?_, hd1, g.step hr hdh (h19 dh hdh), fun q hq => ?_⟩
  · have e2 : ixD (depsD ds) (.int h) = some (.int (dh : Int)) := edh
    have hget : (rs.map fun r => D.lst (r.map fun j => D.int (j : Nat)))[h.toNat]? = some (.lst (row.map fun j => .int (j : Nat))) := by rw [List.getElem?_map, hr]; rfl
    unfold rowsD depsD at *
    unfold treeTl
    simp [ioOf, hix, hget, e1, insertF, hsl, hsr, hsd, e2, r0, show nb r 9223372036854775807 = true from nb_iff.mpr ⟨by omega, by omega⟩, show (0 : Nat) ≤ sizeLine from by decide]
    rw [eins]
    simp [insAt, List.map_set]
  · rw [eins] at hq
    rcases List.mem_append.mp hq with hq | hq
    · rcases List.mem_or_eq_of_mem_set hq with hq | hq
      · have := hrl q hq
        omega
      · rw [hq]
        unfold insAt
        simp
        omega
    · simp at hq
      rw [hq]
      simp
theorem tree_body (n : Nat) {d a1 a2 a3 : D} {kind : Int} {k : Nat} {rs : List (List Nat)} {ds : List Nat} (hd : IsDeck d) (g : Drawn k rs ds) (hrl : ∀ r ∈ rs, r.length ≤ k) (hk : k ≤ 100) (hk1 : 1 ≤ k) (hkd : 0 ≤ kind ∧ kind < 6) (b8 b9 : Option D) :
    ∃ d' rs' ds' x8 x9, treeBody (Mt (n + 1)) [some d, some a1, some a2, some a3, some (.int kind), some (rowsD rs), some (depsD ds), some (.int (k : Int)), b8, b9]
      = .nx [some d', some a1, some a2, some a3, some (.int kind), some (rowsD rs'), some (depsD ds'), some (.int (k : Int)), some x8, some x9] ∧ IsDeck d' ∧ Drawn (k + 1) rs' ds' ∧ ∀ r ∈ rs', r.length ≤ k + 1 := by
  obtain ⟨r1, d1, e1, hd1, p1, q1⟩ := draw_n n (m := (k : Int)) hd (by omega) (by omega)
  obtain ⟨r2, d2, e2, hd2, p2, q2⟩ := draw_n n (m := 3) hd1 (by omega) (by omega)
  obtain ⟨r3, d3, e3, hd3, p3, q3⟩ := draw_n n (m := if 4 < (k : Int) then 4 else (k : Int)) hd2 (by split <;> omega) (by split <;> omega)
  obtain ⟨x2, hx2, b20, b21⟩ : ∃ x2 : Int, (if r2 < (k : Int) - 1 then (k : Int) - 1 - r2 else 0) = x2 ∧ 0 ≤ x2 ∧ x2 < k := by
    refine ⟨_, rfl, ?_, ?_⟩ <;> split <;> omega
  obtain ⟨h0, hh0, hh1, hh⟩ : ∃ h0 : Int, 0 ≤ h0 ∧ h0 < k ∧ atI [D.int ((k : Int) - 1), D.int r1, D.int x2, D.int 0, D.int (((k : Int) - 1) / 2), D.int r3] kind = some (.int h0) := by
    have hc : kind = 0 ∨ kind = 1 ∨ kind = 2 ∨ kind = 3 ∨ kind = 4 ∨ kind = 5 := by omega
    rcases hc with rfl | rfl | rfl | rfl | rfl | rfl
    · exact ⟨_, by omega, by omega, atI_0 _ _⟩
    · exact ⟨_, p1, q1, atI_1 _ _ _⟩
    · exact ⟨_, b20, b21, atI_2 _ _ _ _⟩
    · exact ⟨_, by omega, by omega, atI_3 _ _ _ _ _⟩
    · exact ⟨_, by omega, by omega, atI_k (k := 4) 4 rfl (by simp)⟩
    · exact ⟨_, p3, by split at q3 <;> omega, atI_k (k := 5) 5 rfl (by simp)⟩
  obtain ⟨dh, hdh, edh⟩ := depth_at (ds := ds) hh0 (by rw [g.ld]; exact hh1)
  have s5 : (5 : Nat) ≤ sizeLine := by decide
  have s6 : (6 : Nat) ≤ sizeLine := by decide
  have s1 : (1 : Nat) ≤ sizeLine := by decide
  have t1 : treeS1 (Mt (n + 1)) [some d, some a1, some a2, some a3, some (.int kind), some (rowsD rs), some (depsD ds), some (.int (k : Int)), b8, b9]
      = .nx [some d2, some a1, some a2, some a3, some (.int kind), some (rowsD rs), some (depsD ds), some (.int (k : Int)), some (.lst [D.int ((k : Int) - 1), D.int r1, D.int x2, D.int 0, D.int (((k : Int) - 1) / 2)]), b9] := by
    unfold treeS1
    simp [ioOf, e1, e2, s5, hx2]
  have t2 : treeS2 (Mt (n + 1)) [some d2, some a1, some a2, some a3, some (.int kind), some (rowsD rs), some (depsD ds), some (.int (k : Int)), some (.lst [D.int ((k : Int) - 1), D.int r1, D.int x2, D.int 0, D.int (((k : Int) - 1) / 2)]), b9]
      = .nx [some d3, some a1, some a2, some a3, some (.int kind), some (rowsD rs), some (depsD ds), some (.int (k : Int)), some (.lst [D.int ((k : Int) - 1), D.int r1, D.int x2, D.int 0, D.int (((k : Int) - 1) / 2)]), some (.int h0)] := by
    unfold treeS2
    simp [ioOf, e3, s6, s1, hh]
  generalize (D.lst [D.int ((k : Int) - 1), D.int r1, D.int x2, D.int 0, D.int (((k : Int) - 1) / 2)]) = x8 at t1 t2
  obtain ⟨d4, h1, hd4, z0, z1, t3⟩ : ∃ (d4 : D) (h1 : Int), IsDeck d4 ∧ 0 ≤ h1 ∧ h1 < k ∧ treeS3 (Mt (n + 1)) [some d3, some a1, some a2, some a3, some (.int kind), some (rowsD rs), some (depsD ds), some (.int (k : Int)), some x8, some (.int h0)]
      = .nx [some d4, some a1, some a2, some a3, some (.int kind), some (rowsD rs), some (depsD ds), some (.int (k : Int)), some x8, some (.int h1)] := by
    by_cases hA : dh ≤ 19
    · refine ⟨d3, h0, hd3, hh0, hh1, ?_⟩
      unfold treeS3
      have : ¬ (19 : Int) < (dh : Int) := by omega
      simp [ioOf, edh, this]
    · obtain ⟨r4, d4, e4, hd4, p4, q4⟩ := draw_n n (m := 19) hd3 (by omega) (by omega)
      refine ⟨d4, r4 % k, hd4, Int.emod_nonneg _ (by omega), Int.emod_lt_of_pos _ (by omega), ?_⟩
      unfold treeS3
      have : (19 : Int) < (dh : Int) := by omega
      have hk0 : 0 < k := hk1
      simp [ioOf, edh, this, e4, hk0]
  obtain ⟨dh1, hdh1, edh1⟩ := depth_at (ds := ds) z0 (by rw [g.ld]; exact z1)
  obtain ⟨h2, y0, y1, y19, t4⟩ : ∃ h2 : Int, 0 ≤ h2 ∧ h2 < k ∧ (∀ dh : Nat, ds[h2.toNat]? = some dh → dh ≤ 19) ∧ treeS4 [some d4, some a1, some a2, some a3, some (.int kind), some (rowsD rs), some (depsD ds), some (.int (k : Int)), some x8, some (.int h1)]
      = .nx [some d4, some a1, some a2, some a3, some (.int kind), some (rowsD rs), some (depsD ds), some (.int (k : Int)), some x8, some (.int h2)] := by
    by_cases hA : dh1 ≤ 19
    · refine ⟨h1, z0, z1, fun x hx => by rw [hdh1] at hx; cases hx; exact hA, ?_⟩
      unfold treeS4
      have : ¬ (19 : Int) < (dh1 : Int) := by omega
      simp [edh1, this]
    · refine ⟨0, by omega, by omega, fun x hx => by rw [show (0 : Int).toNat = 0 from rfl, g.h0] at hx; cases hx; decide, ?_⟩
      unfold treeS4
      have : (19 : Int) < (dh1 : Int) := by omega
      simp [edh1, this]
  obtain ⟨d', rs', ds', t5, w1, w2, w3⟩ := tree_tail n (a1 := a1) (a2 := a2) (a3 := a3) (a4 := .int kind) (a8 := x8) hd4 g hrl hk y0 y1 y19
  exact ⟨d', rs', ds', x8, .int h2, by unfold treeBody; rw [seq_nx t1, seq_nx t2, seq_nx t3, seq_nx t4, t5], w1, w2, w3⟩
end K01
set_option maxRecDepth 100000
set_option maxHeartbeats 400000
namespace K01
open PySem PySem.Spec L2 DM
theorem rg_get {lo : Int} {n i : Nat} {d : D} (h : (rgItems lo 1 n)[i]? = some d) : i < n ∧ d = .int (lo + i) := by
  unfold rgItems at h
  rw [List.getElem?_map] at h
  by_cases hi : i < n
  · rw [List.getElem?_range hi] at h
    simp at h
    exact ⟨hi, h.symm⟩
  · rw [List.getElem?_eq_none (by simpa using Nat.le_of_not_lt hi)] at h
    simp at h
theorem rg_len (lo c : Int) (n : Nat) : (rgItems lo c n).length = n := by unfold rgItems; simp
theorem tree_for (n : Nat) {d a1 a2 a3 : D} {kind : Int} {many : Nat} (hd : IsDeck d) (hm : 1 ≤ many) (hm2 : many ≤ 40) (hkd : 0 ≤ kind ∧ kind < 6) :
    ∃ d' rs ds x7 x8 x9, dFor (tName 7) (treeBody (Mt (n + 1))) (rgItems 1 1 (many - 1)) [some d, some a1, some a2, some a3, some (.int kind), some (rowsD [[]]), some (depsD [1]), none, none, none]
      = .nx [some d', some a1, some a2, some a3, some (.int kind), some (rowsD rs), some (depsD ds), x7, x8, x9] ∧ IsDeck d' ∧ Drawn many rs ds ∧ ∀ r ∈ rs, r.length ≤ many := by
  obtain ⟨δ', e, d', rs, ds, x7, x8, x9, rfl, h1, h2, h3⟩ := dFor_run (tg := tName 7) (body := treeBody (Mt (n + 1))) (fun i δ => ∃ d rs ds x7 x8 x9, δ = [some d, some a1, some a2, some a3, some (.int kind), some (rowsD rs), some (depsD ds), x7, x8, x9] ∧ IsDeck d ∧ Drawn (i + 1) rs ds ∧ ∀ r ∈ rs, r.length ≤ i + 1) (rgItems 1 1 (many - 1)) 0 [some d, some a1, some a2, some a3, some (.int kind), some (rowsD [[]]), some (depsD [1]), none, none, none]
    ⟨d, [[]], [1], none, none, none, rfl, hd, Drawn.one, by simp⟩ fun i x δ hx hI => by
      obtain ⟨hi, rfl⟩ := rg_get hx
      obtain ⟨d, rs, ds, x7, x8, x9, rfl, h1, h2, h3⟩ := hI
      rw [Nat.zero_add] at h2 h3
      obtain ⟨d', rs', ds', y8, y9, e, g1, g2, g3⟩ := tree_body n (a1 := a1) (a2 := a2) (a3 := a3) (kind := kind) h1 h2 h3 (by omega) (by omega) hkd x8 x9
      rw [show ((i + 1 : Nat) : Int) = 1 + (i : Int) by omega] at e
      refine ⟨[some d, some a1, some a2, some a3, some (.int kind), some (rowsD rs), some (depsD ds), some (.int (1 + (i : Int))), x8, x9], _, rfl, .inl e, d', rs', ds', some (.int (1 + (i : Int))), some y8, some y9, rfl, g1, by simpa using g2, by simpa using g3⟩
  rw [rg_len, Nat.zero_add, show many - 1 + 1 = many by omega] at h2
  rw [rg_len, Nat.zero_add, show many - 1 + 1 = many by omega] at h3
  exact ⟨d', rs, ds, x7, x8, x9, e, h1, h2, h3⟩
def treeA1 (C : Fc → Fn) : DEnv → SR := (mAsg 3 (mOp2 (oV (mC (.int 1))) (oV (mOp2 (oV (mLst (mCons (oV (mCall (C .law_draw) (ioOf .law_draw) (mCons (oS 0) (mCons (oV (mOpN (mCons (oV (mVar 1)) (mCons (oV (mC (.int 7))) mNil)) min2D)) mNil)))) (mCons (oV (mCall (C .law_draw) (ioOf .law_draw) (mCons (oS 0) (mCons (oV (mVar 1)) mNil)))) (mCons (oV (mOp2 (oV (mVar 1)) (oV (mC (.int 1))) subD)) mNil))))) (oV (mCall (C .law_draw) (ioOf .law_draw) (mCons (oS 0) (mCons (oV (mC (.int 3))) mNil)))) ixD)) addD))
def treeA2 (C : Fc → Fn) : DEnv → SR := (mAsg 4 (mCall (C .law_draw) (ioOf .law_draw) (mCons (oS 0) (mCons (oV (mC (.int 6))) mNil))))
def treeA3 : DEnv → SR := (mAsg 5 (mLst (mCons (oV (mLst mNil)) mNil)))
def treeA4 : DEnv → SR := (mAsg 6 (mLst (mCons (oV (mC (.int 1))) mNil)))
def treeA5 (C : Fc → Fn) : DEnv → SR := (mFor (mSrcA (mCons (oV (mC (.int 1))) (mCons (oV (mVar 3)) mNil)) range2D) (tName 7) (treeBody C))
def treeA6 (C : Fc → Fn) : DEnv → SR := (mRet (mCall (C .law_grown) (ioOf .law_grown) (mCons (oS 0) (mCons (oV (mMove 5)) (mCons (oV (mVar 2)) (mCons (oV (mC (.int 0))) mNil))))))
theorem tree_eb (C : Fc → Fn) : b_law_tree C = mSeq (treeA1 C) (mSeq (treeA2 C) (mSeq treeA3 (mSeq treeA4 (mSeq (treeA5 C) (treeA6 C))))) := rfl
theorem tree_ok (n : Nat) (hn : 21 ≤ n) {d : D} {most : Int} (m1 : 1 ≤ most) (m2 : most ≤ 40) {L : Str} (hL : IsLet L) (hd : IsDeck d) :
    ∃ (u : T) (d' : D), Mt (n + 3) .law_tree [d, .int most, .str L] = .ok u.dat [d'] ∧ IsDeck d' ∧ u.good ∧ (u.size : Int) ≤ most ∧ u.dep ≤ 20 := by
  obtain ⟨r1, d1, e1, hd1, p1, q1⟩ := draw_n (n + 1) (m := if 7 < most then 7 else most) hd (by split <;> omega) (by split <;> omega)
  obtain ⟨r2, d2, e2, hd2, p2, q2⟩ := draw_n (n + 1) (m := most) hd1 (by omega) (by omega)
  obtain ⟨r3, d3, e3, hd3, p3, q3⟩ := draw_n (n + 1) (m := 3) hd2 (by omega) (by omega)
  obtain ⟨r4, d4, e4, hd4, p4, q4⟩ := draw_n (n + 1) (m := 6) hd3 (by omega) (by omega)
  obtain ⟨mn, hm0, hm1, hm⟩ : ∃ mn : Nat, 1 ≤ mn ∧ (mn : Int) ≤ most ∧ atI [D.int r1, D.int r2, D.int (most - 1)] r3 = some (.int ((mn : Int) - 1)) := by
    have hc : r3 = 0 ∨ r3 = 1 ∨ r3 = 2 := by omega
    rcases hc with rfl | rfl | rfl
    · exact ⟨(r1 + 1).toNat, by omega, by split at q1 <;> omega, by rw [atI_0, show (((r1 + 1).toNat : Int) - 1) = r1 by omega]⟩
    · exact ⟨(r2 + 1).toNat, by omega, by omega, by rw [atI_1, show (((r2 + 1).toNat : Int) - 1) = r2 by omega]⟩
    · exact ⟨most.toNat, by omega, by omega, by rw [atI_2, show ((most.toNat : Int) - 1) = most - 1 by omega]⟩
  obtain ⟨d5, rs, ds, x7, x8, x9, ef, hd5, g, hrl⟩ := tree_for (n + 1) (a1 := .int most) (a2 := .str L) (a3 := .int (mn : Int)) (kind := r4) (many := mn) hd4 hm0 (by omega) ⟨p4, q4⟩
  obtain ⟨t, t0, t1, t2, t3, _⟩ := g.tr
  obtain ⟨u, d6, e6, hd6, g6, s6, p6⟩ := grown_ok hL (fun d hd => (g.le d hd).2) (fun r hr => Nat.le_trans (hrl r hr) (by omega)) t n 1 d5 t1 t2 (by omega) hd5
  refine ⟨u, d6, ?_, hd6, g6, by rw [s6, t3]; exact hm1, by omega⟩
  rw [t0] at e6
  show bdOf (Mt (n + 2)) .law_tree [d, .int most, .str L] = _
  have s3 : (3 : Nat) ≤ sizeLine := by decide
  have s1 : (1 : Nat) ≤ sizeLine := by decide
  have s0 : (0 : Nat) ≤ sizeLine := by decide
  have rg : range2D [.int 1, .int (mn : Int)] = some (rgItems 1 1 (mn - 1)) := by
    have := range2_ok 1 (mn : Int) (by omega) (by omega) (by omega) (by omega)
    rw [this, show ((mn : Int) - 1).toNat = mn - 1 by omega]
  have em : (1 : Int) + ((mn : Int) - 1) = mn := by omega
  have er : rowsD [[]] = .lst [.lst []] := rfl
  have ed : depsD [1] = .lst [.int 1] := rfl
  rw [Int.natCast_zero] at e6
  have t1 : treeA1 (Mt (n + 2)) [some d, some (.int most), some (.str L), none, none, none, none, none, none, none] = .nx [some d3, some (.int most), some (.str L), some (.int (mn : Int)), none, none, none, none, none, none] := by
    unfold treeA1
    simp [ioOf, e1, e2, e3, hm, s3, em]
  have t2 : treeA2 (Mt (n + 2)) [some d3, some (.int most), some (.str L), some (.int (mn : Int)), none, none, none, none, none, none] = .nx [some d4, some (.int most), some (.str L), some (.int (mn : Int)), some (.int r4), none, none, none, none, none] := by
    unfold treeA2
    simp [ioOf, e4]
  have t3' : treeA3 [some d4, some (.int most), some (.str L), some (.int (mn : Int)), some (.int r4), none, none, none, none, none] = .nx [some d4, some (.int most), some (.str L), some (.int (mn : Int)), some (.int r4), some (rowsD [[]]), none, none, none, none] := by
    unfold treeA3
    simp [er, s1, s0]
  have t4 : treeA4 [some d4, some (.int most), some (.str L), some (.int (mn : Int)), some (.int r4), some (rowsD [[]]), none, none, none, none] = .nx [some d4, some (.int most), some (.str L), some (.int (mn : Int)), some (.int r4), some (rowsD [[]]), some (depsD [1]), none, none, none] := by
    unfold treeA4
    simp [ed, s1]
  have t5 : treeA5 (Mt (n + 2)) [some d4, some (.int most), some (.str L), some (.int (mn : Int)), some (.int r4), some (rowsD [[]]), some (depsD [1]), none, none, none] = .nx [some d5, some (.int most), some (.str L), some (.int (mn : Int)), some (.int r4), some (rowsD rs), some (depsD ds), x7, x8, x9] := by
    unfold treeA5
    have src : mSrcA (mCons (oV (mC (.int 1))) (mCons (oV (mVar 3)) mNil)) range2D [some d4, some (.int most), some (.str L), some (.int (mn : Int)), some (.int r4), some (rowsD [[]]), some (depsD [1]), none, none, none] = .ok (rgItems 1 1 (mn - 1), some) [some d4, some (.int most), some (.str L), some (.int (mn : Int)), some (.int r4), some (rowsD [[]]), some (depsD [1]), none, none, none] := by
      refine mSrcA_ok (os := [.v (.int 1), .v (.int (mn : Int))]) (δ1 := [some d4, some (.int most), some (.str L), some (.int (mn : Int)), some (.int r4), some (rowsD [[]]), some (depsD [1]), none, none, none]) (ds := [.int 1, .int (mn : Int)]) (by simp) rfl rfl rg
    rw [mFor_e, src, R.thn_ok]
    show finR some (dFor (tName 7) (treeBody (Mt (n + 1 + 1))) (rgItems 1 1 (mn - 1)) _) = _
    rw [ef]
    rfl
  have t6 : treeA6 (Mt (n + 2)) [some d5, some (.int most), some (.str L), some (.int (mn : Int)), some (.int r4), some (rowsD rs), some (depsD ds), x7, x8, x9] = .rt u.dat [some d6, some (.int most), some (.str L), some (.int (mn : Int)), some (.int r4), none, some (depsD ds), x7, x8, x9] := by
    unfold treeA6
    simp [ioOf, e6]
  show mkF 7 (ioOf .law_tree) (b_law_tree (Mt (n + 2))) [d, .int most, .str L] = _
  rw [mkF_e, tree_eb]
  have e0 : List.map some [d, D.int most, D.str L] ++ List.replicate 7 none = [some d, some (.int most), some (.str L), none, none, none, none, none, none, none] := rfl
  rw [e0, seq_nx t1, seq_nx t2, seq_nx t3', seq_nx t4, seq_nx t5, t6]
  rfl
end K01
set_option maxRecDepth 100000
set_option maxHeartbeats 400000
namespace K01
open PySem PySem.Spec L2 DM
theorem pow18 : powD (.int 10) (.int 18) = some (.int 1000000000000000000) := by
  have h : (0 : Int) ≤ 18 ∧ nb 18 1000000 = true ∧ nb 10 18446744073709551615 = true := by decide
  show (if (0 : Int) ≤ 18 ∧ nb 18 1000000 = true ∧ nb 10 18446744073709551615 = true then some ((10 : Int) ^ (18 : Int).toNat) else none : Option Int).map D.int = _
  rw [if_pos h]
  rfl
def deckBody : DEnv → SR := (mSeq (mAsg 3 (mC (.int 0)))
    (mSeq (mIf (mTest (mOp2 (oV (mVar 2)) (oV (mOpN (mCons (oV (mVar 0)) mNil) lenD)) ltD)) (mAsg 3 (mOp2 (oV (mVar 0)) (oV (mVar 2)) ixD)) mNext)
    (mDrop (mMut (oS 1) (mCons (oV (mLst (mCons (oV (mVar 3)) (mCons (oV (mOpN (mCons (oV (mOp2 (oV (mVar 3)) (oV (mOp2 (oV (mC (.int 10))) (oV (mC (.int 18))) powD)) geD)) mNil) intD)) (mCons (oV (mOp2 (oV (mC (.int 31))) (oV (mVar 2)) mulD)) mNil))))) mNil) appendF))))
theorem deck_body {ns : List Int} {ps : List D} {i : Nat} {x : Option D} (h : ps.length ≤ 100) (hp : ∀ p ∈ ps, IsPool p) : ∃ ps' x', deckBody [some (.scr ns), some (.lst ps), some (.int (i : Int)), x] = .nx [some (.scr ns), some (.lst ps'), some (.int (i : Int)), some x'] ∧ ps'.length = ps.length + 1 ∧ ∀ p ∈ ps', IsPool p := by
  have hs : ps.length < sizeLine := Nat.lt_of_le_of_lt h (by decide)
  have s3 : (3 : Nat) ≤ sizeLine := by decide
  have m31 : mulOk 31 (i : Int) = true := mulOk_l _ _ (by decide)
  have done : ∀ a b c : Int, (ps ++ [D.lst [.int a, .int b, .int c]]).length = ps.length + 1 ∧ ∀ p ∈ ps ++ [D.lst [.int a, .int b, .int c]], IsPool p := fun a b c => ⟨by simp, fun p h => by
    rcases List.mem_append.mp h with h | h
    · exact hp p h
    · simp at h
      exact ⟨a, b, c, h⟩⟩
  by_cases hi : i < ns.length
  · refine ⟨ps ++ [.lst [.int ns[i], .int (if decide (1000000000000000000 ≤ ns[i]) = true then 1 else 0), .int (31 * i)]], .int ns[i], ?_, done _ _ _⟩
    have e : ixD (.scr ns) (.int (i : Int)) = some (.int ns[i]) := by
      rw [ixD_s, atI_nat hi, List.getElem?_eq_getElem hi]
      rfl
    unfold deckBody
    simp [hi, e, pow18, hs, s3, m31]
  · refine ⟨ps ++ [.lst [.int 0, .int (if decide ((1000000000000000000 : Int) ≤ 0) = true then 1 else 0), .int (31 * i)]], .int 0, ?_, done _ _ _⟩
    unfold deckBody
    simp [hi, pow18, hs, s3, m31]
theorem deck_ok (n : Nat) (ns : List Int) (hl : ns.length ≤ 63) : ∃ d, Mt (n + 1) .law_deck [.scr ns] = .ok d [] ∧ IsDeck d := by
  obtain ⟨m, h1, h2, hm⟩ : ∃ m : Nat, 1 ≤ m ∧ m ≤ 63 ∧ (if (1 : Int) < (if (ns.length : Int) < 63 then (ns.length : Int) else 63) then (if (ns.length : Int) < 63 then (ns.length : Int) else 63) else 1) = (m : Int) := by
    by_cases h : 1 < ns.length
    · exact ⟨ns.length, by omega, hl, by split <;> split at * <;> omega⟩
    · exact ⟨1, by omega, by omega, by split <;> split at * <;> omega⟩
  obtain ⟨δ', e, ps, x2, x3, rfl, hps, hp⟩ := dFor_run (tg := tName 2) (body := deckBody) (fun i δ => ∃ ps x2 x3, δ = [some (.scr ns), some (.lst ps), x2, x3] ∧ ps.length = i ∧ ∀ p ∈ ps, IsPool p) (rgItems 0 1 m) 0 [some (.scr ns), some (.lst []), none, none]
    ⟨[], none, none, rfl, rfl, by simp⟩ fun i x δ hx hI => by
      obtain ⟨hi, rfl⟩ := rg_get hx
      obtain ⟨ps, x2, x3, rfl, g1, g2⟩ := hI
      rw [Nat.zero_add] at g1
      obtain ⟨ps', y, e, w1, w2⟩ := deck_body (ns := ns) (i := i) (x := x3) (by omega) g2
      rw [Int.zero_add]
      exact ⟨_, _, rfl, .inl e, ps', _, _, rfl, by omega, w2⟩
  rw [rg_len, Nat.zero_add] at hps
  refine ⟨.lst [.lst ps, .int 0], ?_, ps, 0, rfl, by omega, hp⟩
  have s0 : (0 : Nat) ≤ sizeLine := by decide
  have s2 : (2 : Nat) ≤ sizeLine := by decide
  have src : mSrcA (mCons (oV (mOpN (mCons (oV (mC (.int 1))) (mCons (oV (mOpN (mCons (oV (mC (.int 63))) (mCons (oV (mOpN (mCons (oV (mVar 0)) mNil) lenD)) mNil)) min2D)) mNil)) max2D)) mNil) range1D [some (.scr ns), some (.lst []), none, none] = .ok (rgItems 0 1 m, some) [some (.scr ns), some (.lst []), none, none] := by
    refine mSrcA_ok (os := [.v (.int (m : Int))]) (δ1 := [some (.scr ns), some (.lst []), none, none]) (ds := [.int (m : Int)]) (by simp [hm]) rfl rfl ?_
    rw [range1_ok _ (by omega) (by omega)]
    rfl
  show mkF 3 (ioOf .law_deck) (b_law_deck (Mt n)) [.scr ns] = _
  rw [mkF_e]
  have eb : b_law_deck (Mt n) = mSeq (mAsg 1 (mLst mNil)) (mSeq (mFor (mSrcA (mCons (oV (mOpN (mCons (oV (mC (.int 1))) (mCons (oV (mOpN (mCons (oV (mC (.int 63))) (mCons (oV (mOpN (mCons (oV (mVar 0)) mNil) lenD)) mNil)) min2D)) mNil)) max2D)) mNil) range1D) (tName 2) deckBody) (mRet (mLst (mCons (oV (mMove 1)) (mCons (oV (mNoL (mC (.int 0)))) mNil))))) := rfl
  have e0 : List.map some [D.scr ns] ++ List.replicate 3 none = [some (.scr ns), none, none, none] := rfl
  have t1 : mAsg 1 (mLst mNil) [some (.scr ns), none, none, none] = .nx [some (.scr ns), some (.lst []), none, none] := by simp [s0]
  have t2 : mFor (mSrcA (mCons (oV (mOpN (mCons (oV (mC (.int 1))) (mCons (oV (mOpN (mCons (oV (mC (.int 63))) (mCons (oV (mOpN (mCons (oV (mVar 0)) mNil) lenD)) mNil)) min2D)) mNil)) max2D)) mNil) range1D) (tName 2) deckBody [some (.scr ns), some (.lst []), none, none] = .nx [some (.scr ns), some (.lst ps), x2, x3] := by
    rw [mFor_e, src, R.thn_ok]
    show finR some (dFor (tName 2) deckBody (rgItems 0 1 m) _) = _
    rw [e]
    rfl
  rw [eb, e0, seq_nx t1, seq_nx t2]
  simp [ioOf, s2, D.isLst]
end K01
set_option maxRecDepth 100000
set_option maxHeartbeats 400000
namespace K01
open PySem PySem.Spec L2 DM
theorem sg1 (x : Nat) : (⟨#[x]⟩ : Str).length = 1 := rfl
theorem letter_ok (C : Fc → Fn) {x : Nat} (h : 97 ≤ x ∧ x ≤ 122) : bdOf C .is_letter [.str ⟨#[x]⟩] = .ok (.bl true) [] := by
  have e : inD false (.str ⟨#[x]⟩) (.str "abcdefghijklmnopqrstuvwxyz") = some (.bl true) := by
    show (if (⟨#[x]⟩ : Str).length = 1 then some (D.bl (if false = true then _ else decide ((⟨#[x]⟩ : Str).cps.getD 0 0 ∈ ("abcdefghijklmnopqrstuvwxyz" : Str).cps.toList))) else none) = _
    rw [if_pos (sg1 x)]
    have hx : x ∈ ("abcdefghijklmnopqrstuvwxyz" : Str).cps.toList := by
      have : ∀ k : Nat, k < 26 → 97 + k ∈ ("abcdefghijklmnopqrstuvwxyz" : Str).cps.toList := by decide
      have := this (x - 97) (by omega)
      rwa [show 97 + (x - 97) = x by omega] at this
    have : decide ((⟨#[x]⟩ : Str).cps.getD 0 0 ∈ ("abcdefghijklmnopqrstuvwxyz" : Str).cps.toList) = true := decide_eq_true hx
    rw [this]
    rfl
  have s1 : (1 : Nat) ≤ sizeLine := by decide
  simp [bdOf, b_is_letter, ioOf, e, s1, sg1, eqD_i, Ty.isa]
theorem Mt_e (n : Nat) (x : Fc) : Mt (n + 1) x = bdOf (Mt n) x := rfl
theorem is_tree_ok : ∀ (n : Nat) (t : T), t.good → t.size ≤ 100 → t.dep ≤ n → Mt (n + 1) .is_tree [t.dat] = .ok (.bl true) []
  | 0, .node x cs, _, _, h => by rw [T.dep] at h; omega
  | n + 1, .node x cs, hg, hz, hd => by
    rw [T.good, T.goods_iff] at hg
    rw [T.dep] at hd
    rw [T.size] at hz
    have hl : (T.dats cs).length ≤ sizeLine := by
      rw [T.dats_map, List.length_map]
      exact Nat.le_trans (T.len_le_sizes cs) (Nat.le_trans (by omega) (by decide : 100 ≤ sizeLine))
    have s2 : (2 : Nat) ≤ sizeLine := by decide
    have s0 : (0 : Nat) ≤ sizeLine := by decide
    have lc : mLc (mSrc (oV (mOp2 (oV (mVar 0)) (oV (mC (.int 1))) ixD)) seqD) (tName 1) (mNot (mTest (mCall (Mt (n + 1) .is_tree) (ioOf .is_tree) (mCons (oV (mVar 1)) mNil)))) (mVar 1) [1] [some (.tup [.str ⟨#[x]⟩, .lst (T.dats cs)]), none] = .ok (.lst []) [some (.tup [.str ⟨#[x]⟩, .lst (T.dats cs)]), none] := by
      have := lc1 (src := mSrc (oV (mOp2 (oV (mVar 0)) (oV (mC (.int 1))) ixD)) seqD) (cond := mNot (mTest (mCall (Mt (n + 1) .is_tree) (ioOf .is_tree) (mCons (oV (mVar 1)) mNil)))) (elt := mVar 1) (i := 1) (δ := [some (.tup [.str ⟨#[x]⟩, .lst (T.dats cs)]), none]) (xs := T.dats cs) (p := fun _ => false) (g := fun d => d) (by simp) hl rfl (fun d hd' => ?_) (fun d _ h => by cases h)
      · rw [this]
        simp
      · rw [T.dats_map, List.mem_map] at hd'
        obtain ⟨c, hc, rfl⟩ := hd'
        have h1 := T.dep_le_deps hc
        have h2 := T.size_le_sizes hc
        have ih := is_tree_ok n c (hg.2 c hc) (by omega) (by omega)
        simp [ioOf, ih]
    have hlet := letter_ok (Mt n) hg.1
    show mkF 1 (ioOf .is_tree) (b_is_tree (Mt (n + 1))) [(T.node x cs).dat] = _
    have e0 : Mt (n + 1) .is_letter [.str ⟨#[x]⟩] = .ok (.bl true) [] := hlet
    unfold b_is_tree
    rw [T.dat]
    simp only [ioOf] at lc
    simp [ioOf, e0, lc, s2, s0, eqD_nil, neD_i, Ty.isa]
end K01
set_option maxRecDepth 100000
set_option maxHeartbeats 400000
namespace K01
open PySem PySem.Spec L2 DM
def lowD : D → Bool
  | .str x => lowS x
  | _ => false
theorem low_mem (c : Nat) : decide (c ∈ ("abcdefghijklmnopqrstuvwxyz" : Str).cps.toList) = decide (97 ≤ c ∧ c ≤ 122) := by
  by_cases h : 97 ≤ c ∧ c ≤ 122
  · rw [decide_eq_true h]
    have : ∀ k : Nat, k < 26 → 97 + k ∈ ("abcdefghijklmnopqrstuvwxyz" : Str).cps.toList := by decide
    have := this (c - 97) (by omega)
    rw [show 97 + (c - 97) = c by omega] at this
    exact decide_eq_true this
  · rw [decide_eq_false h]
    have : ∀ d ∈ ("abcdefghijklmnopqrstuvwxyz" : Str).cps.toList, 97 ≤ d ∧ d ≤ 122 := by decide
    exact decide_eq_false fun z => h (this c z)
theorem len1 {x : Str} (h : x.length = 1) : ∃ c, x = ⟨#[c]⟩ := by
  cases x with
  | mk a =>
    have h : a.size = 1 := h
    obtain ⟨l⟩ := a
    match l, h with
    | [c], _ => exact ⟨c, rfl⟩
theorem lowS_1 (c : Nat) : lowS ⟨#[c]⟩ = decide (97 ≤ c ∧ c ≤ 122) := rfl
theorem lowS_ne {x : Str} (h : x.length ≠ 1) : lowS x = false := by
  cases z : lowS x with
  | false => rfl
  | true =>
    obtain ⟨c, rfl, _⟩ := lowS_eq z
    exact absurd rfl h
theorem in_low (c : Nat) : inD false (.str ⟨#[c]⟩) (.str "abcdefghijklmnopqrstuvwxyz") = some (.bl (decide (97 ≤ c ∧ c ≤ 122))) := by
  show (if (⟨#[c]⟩ : Str).length = 1 then some (D.bl (if false = true then _ else decide ((⟨#[c]⟩ : Str).cps.getD 0 0 ∈ ("abcdefghijklmnopqrstuvwxyz" : Str).cps.toList))) else none) = _
  rw [if_pos (sg1 c), if_neg (by simp)]
  have : (⟨#[c]⟩ : Str).cps.getD 0 0 = c := rfl
  rw [this, low_mem]
theorem szF {n w : Nat} (h : n ≤ w) (hw : w ≤ 20000) : n ≤ sizeLine := Nat.le_trans h (Nat.le_trans hw (by decide))
theorem letter_any (C : Fc → Fn) {d : D} {w k : Nat} (h : Fine d w k) (hw : w ≤ 20000) : bdOf C .is_letter [d] = .ok (.bl (lowD d)) [] := by
  cases d with
  | str x =>
    have hl := szF h.strInv hw
    by_cases h1 : x.length = 1
    · obtain ⟨c, rfl⟩ := len1 h1
      have e := in_low c
      have s1 : (1 : Nat) ≤ sizeLine := by decide
      by_cases hc : 97 ≤ c ∧ c ≤ 122
      · simp [bdOf, b_is_letter, ioOf, e, s1, sg1, Ty.isa, lowD, lowS_1, hc]
      · simp [bdOf, b_is_letter, ioOf, e, s1, sg1, Ty.isa, lowD, lowS_1, hc]
    · have : ¬ ((x.length : Int) = 1) := by omega
      simp [bdOf, b_is_letter, ioOf, hl, this, h1, Ty.isa, lowD, lowS_ne h1]
  | dT _ _ => obtain ⟨p, h1, _⟩ := h; cases h1
  | obj _ _ _ => obtain ⟨p, h1, _⟩ := h; cases h1
  | exn _ => obtain ⟨p, h1, _⟩ := h; cases h1
  | scr _ => obtain ⟨p, h1, _⟩ := h; cases h1
  | dK _ _ => rfl
  | _ => simp [bdOf, b_is_letter, ioOf, Ty.isa, lowD]
theorem isT_len {ds : List D} (h : ds.length ≠ 2) : isT (.tup ds) = false := by
  rw [isT.eq_def]
  split
  · rename_i z
    cases z
    exact absurd rfl h
  · rfl
def listT : D → Bool
  | .lst cs => isTs cs
  | _ => false
theorem listT_not {b : D} (h : ¬ ∃ cs, b = .lst cs) : listT b = false := by
  cases b <;> first | rfl | exact absurd ⟨_, rfl⟩ h
theorem isT_two (a b : D) : isT (.tup [a, b]) = (lowD a && listT b) := by
  cases a with
  | str x =>
    cases b with
    | lst cs => rw [isT]; rfl
    | _ => rw [isT.eq_def]; exact (Bool.and_false _).symm
  | _ => rw [isT.eq_def]; rfl
theorem two_of {ds : List D} (h : ds.length = 2) : ∃ a b, ds = [a, b] := by
  match ds, h with
  | [a, b], _ => exact ⟨a, b, rfl⟩
theorem isi_list {b : D} {w k : Nat} (h : Fine b w k) : isiD .list b = some (.bl (match b with
    | .lst _ => true
    | _ => false)) := by
  cases b with
  | dT _ _ => obtain ⟨p, h1, _⟩ := h; cases h1
  | obj _ _ _ => obtain ⟨p, h1, _⟩ := h; cases h1
  | exn _ => obtain ⟨p, h1, _⟩ := h; cases h1
  | scr _ => obtain ⟨p, h1, _⟩ := h; cases h1
  | _ => rfl
theorem isi_tup {b : D} {w k : Nat} (h : Fine b w k) : isiD .tuple b = some (.bl b.isTup) := by
  cases b with
  | dT _ _ => obtain ⟨p, h1, _⟩ := h; cases h1
  | obj _ _ _ => obtain ⟨p, h1, _⟩ := h; cases h1
  | exn _ => obtain ⟨p, h1, _⟩ := h; cases h1
  | scr _ => obtain ⟨p, h1, _⟩ := h; cases h1
  | _ => rfl
theorem isT_not {d : D} (h : d.isTup = false) : isT d = false := by
  cases d <;> first | rfl | cases h
theorem filter_isT (cs : List D) : (cs.filter fun c => !isT c).isEmpty = isTs cs := by
  rw [isTs_all]
  induction cs with
  | nil => rfl
  | cons c cs ih =>
    rw [List.filter_cons, List.all_cons, ← ih]
    cases isT c <;> simp
theorem is_tree_any : ∀ (n : Nat) (d : D) (w k : Nat), Fine d w k → w ≤ 20000 → k ≤ n → Mt (n + 1) .is_tree [d] = .ok (.bl (isT d)) []
  | n, d, w, k, h, hw, hk => by
    show mkF 1 (ioOf .is_tree) (b_is_tree (Mt n)) [d] = _
    rw [e_is_tree, mkF_e]
    have e0 : List.map some [d] ++ List.replicate 1 none = [some d, none] := rfl
    rw [e0]
    have ht := isi_tup h
    cases z : d.isTup with
    | false =>
      rw [z] at ht
      rw [isT_not z]
      have : q_is_tree_1 (Mt n) [some d, none] = .rt (.bl false) [some d, none] := by
        unfold q_is_tree_1 q_is_tree_1t1
        simp [ht]
      rw [mSeq_e, this]
      rfl
    | true =>
      rw [z] at ht
      obtain ⟨ds, rfl⟩ : ∃ ds, d = .tup ds := by
        cases d <;> first | exact ⟨_, rfl⟩ | cases z
      obtain ⟨j, rfl⟩ := Fine.pos (.inr h)
      have hl := szF h.tupInv.len hw
      by_cases h2 : ds.length = 2
      · obtain ⟨a, b, rfl⟩ := two_of h2
        obtain ⟨m, rfl⟩ : ∃ m, n = m + 1 := ⟨n - 1, by omega⟩
        have ha := h.tupInv.mem a (by simp)
        have hb := h.tupInv.mem b (by simp)
        have el : Mt (m + 1) .is_letter [a] = .ok (.bl (lowD a)) [] := letter_any (Mt m) ha hw
        have ei := isi_list hb
        have s2 : (2 : Nat) ≤ sizeLine := by decide
        have s0 : (0 : Nat) ≤ sizeLine := by decide
        have a1 : q_is_tree_1 (Mt (m + 1)) [some (.tup [a, b]), none] = .nx [some (.tup [a, b]), none] := by
          unfold q_is_tree_1 q_is_tree_1t1
          simp [ht, s2]
        rw [seq_nx a1, isT_two]
        cases hlo : lowD a with
        | false =>
          rw [hlo] at el
          have a2 : q_is_tree_2 (Mt (m + 1)) [some (.tup [a, b]), none] = .rt (.bl false) [some (.tup [a, b]), none] := by
            unfold q_is_tree_2 q_is_tree_2t1
            simp [ioOf, el]
          rw [mSeq_e, a2]
          rfl
        | true =>
          rw [hlo] at el
          by_cases hbl : ∃ cs, b = .lst cs
          · obtain ⟨cs, rfl⟩ := hbl
            have a2 : q_is_tree_2 (Mt (m + 1)) [some (.tup [a, .lst cs]), none] = .nx [some (.tup [a, .lst cs]), none] := by
              unfold q_is_tree_2 q_is_tree_2t1
              simp [ioOf, el, ei]
            rw [seq_nx a2]
            obtain ⟨i, rfl⟩ := Fine.pos (.inl hb)
            have hcl := szF hb.lstInv.len hw
            have lc : l_is_tree_1 (Mt (m + 1)) [some (.tup [a, .lst cs]), none] = .ok (.lst (cs.filter fun c => !isT c)) [some (.tup [a, .lst cs]), none] := by
              unfold l_is_tree_1
              have := lc1 (src := li_is_tree_1 (Mt (m + 1))) (cond := lc_is_tree_1 (Mt (m + 1))) (elt := le_is_tree_1 (Mt (m + 1))) (i := 1) (δ := [some (.tup [a, .lst cs]), none]) (xs := cs) (p := fun c => !isT c) (g := fun d => d) (by unfold li_is_tree_1; simp) hcl rfl (fun d hd' => ?_) (fun d _ h => by unfold le_is_tree_1; simp)
              · rw [this]
                simp
              · have ih := is_tree_any m d w i (hb.lstInv.mem d hd') hw (by omega)
                unfold lc_is_tree_1
                simp [ioOf, ih]
            unfold q_is_tree_3
            generalize l_is_tree_1 (Mt (m + 1)) = f at lc
            have fe := filter_isT cs
            simp [lc, s0, ioOf, fe, listT]
          · have hn : isiD .list b = some (.bl false) := by
              rw [ei]
              cases b <;> first | rfl | exact absurd ⟨_, rfl⟩ hbl
            have a2 : q_is_tree_2 (Mt (m + 1)) [some (.tup [a, b]), none] = .rt (.bl false) [some (.tup [a, b]), none] := by
              unfold q_is_tree_2 q_is_tree_2t1
              simp [ioOf, el, hn]
            rw [mSeq_e, a2]
            rw [listT_not hbl]
            rfl
      · rw [isT_len h2]
        have h3 : ¬ ((ds.length : Int) = 2) := by omega
        have : q_is_tree_1 (Mt n) [some (.tup ds), none] = .rt (.bl false) [some (.tup ds), none] := by
          unfold q_is_tree_1 q_is_tree_1t1
          simp [ht, hl, h3, h2]
        rw [mSeq_e, this]
        rfl
end K01
set_option maxRecDepth 100000
set_option maxHeartbeats 400000
namespace K01
open PySem PySem.Spec L2 DM
theorem isi_str {b : D} {w k : Nat} (h : Fine b w k) : isiD .str b = some (.bl (match b with
    | .str _ => true
    | _ => false)) := by
  cases b with
  | dT _ _ => obtain ⟨p, h1, _⟩ := h; cases h1
  | obj _ _ _ => obtain ⟨p, h1, _⟩ := h; cases h1
  | exn _ => obtain ⟨p, h1, _⟩ := h; cases h1
  | scr _ => obtain ⟨p, h1, _⟩ := h; cases h1
  | _ => rfl
@[simp] theorem leD_s (x y : Str) : leD (.str x) (.str y) = some (.bl (!decide (y.cps.toList < x.cps.toList))) := rfl
theorem low_a (c : Nat) : (!decide ((⟨#[c]⟩ : Str).cps.toList < ("a" : Str).cps.toList)) = decide (97 ≤ c) := by
  have e : ("a" : Str).cps.toList = [97] := by decide
  rw [e]
  show (!decide ([c] < [97])) = _
  by_cases h : 97 ≤ c
  · rw [decide_eq_true h, decide_eq_false]
    · rfl
    · intro z
      rw [List.cons_lt_cons_iff] at z
      rcases z with z | ⟨_, z⟩
      · omega
      · exact absurd z (by simp)
  · rw [decide_eq_false h, decide_eq_true]
    · rfl
    · rw [List.cons_lt_cons_iff]
      exact .inl (by omega)
theorem low_z (c : Nat) : (!decide (("z" : Str).cps.toList < (⟨#[c]⟩ : Str).cps.toList)) = decide (c ≤ 122) := by
  have e : ("z" : Str).cps.toList = [122] := by decide
  rw [e]
  show (!decide ([122] < [c])) = _
  by_cases h : c ≤ 122
  · rw [decide_eq_true h, decide_eq_false]
    · rfl
    · intro z
      rw [List.cons_lt_cons_iff] at z
      rcases z with z | ⟨_, z⟩
      · omega
      · exact absurd z (by simp)
  · rw [decide_eq_false h, decide_eq_true]
    · rfl
    · rw [List.cons_lt_cons_iff]
      exact .inl (by omega)
theorem good_any : ∀ (n : Nat) (d : D) (w k : Nat), Fine d w k → w ≤ 20000 → k ≤ n → Mt (n + 1) .law_good [d] = .ok (.bl (isT d)) []
  | n, d, w, k, h, hw, hk => by
    show mkF 1 (ioOf .law_good) (b_law_good (Mt n)) [d] = _
    rw [e_law_good, mkF_e]
    have e0 : List.map some [d] ++ List.replicate 1 none = [some d, none] := rfl
    rw [e0]
    have ht := isi_tup h
    cases z : d.isTup with
    | false =>
      rw [z] at ht
      rw [isT_not z]
      have : q_law_good_1 (Mt n) [some d, none] = .rt (.bl false) [some d, none] := by
        unfold q_law_good_1 q_law_good_1t1
        simp [ht]
      rw [mSeq_e, this]
      rfl
    | true =>
      rw [z] at ht
      obtain ⟨ds, rfl⟩ : ∃ ds, d = .tup ds := by
        cases d <;> first | exact ⟨_, rfl⟩ | cases z
      obtain ⟨j, rfl⟩ := Fine.pos (.inr h)
      have hl := szF h.tupInv.len hw
      by_cases h2 : ds.length = 2
      · obtain ⟨a, b, rfl⟩ := two_of h2
        obtain ⟨m, rfl⟩ : ∃ m, n = m + 1 := ⟨n - 1, by omega⟩
        have ha := h.tupInv.mem a (by simp)
        have hb := h.tupInv.mem b (by simp)
        have es := isi_str ha
        have ei := isi_list hb
        have s2 : (2 : Nat) ≤ sizeLine := by decide
        have s0 : (0 : Nat) ≤ sizeLine := by decide
        have s1 : (1 : Nat) ≤ sizeLine := by decide
        rw [isT_two]
        by_cases hs : ∃ x, a = .str x ∧ x.length = 1
        · obtain ⟨x, rfl, hx⟩ := hs
          obtain ⟨c, rfl⟩ := len1 hx
          have a1 : q_law_good_1 (Mt (m + 1)) [some (.tup [.str ⟨#[c]⟩, b]), none] = .nx [some (.tup [.str ⟨#[c]⟩, b]), none] := by
            unfold q_law_good_1 q_law_good_1t1
            simp [ht, s2, s1, sg1, Ty.isa]
          rw [seq_nx a1]
          have la := low_a c
          have lz := low_z c
          have hlo : lowD (.str ⟨#[c]⟩) = (decide (97 ≤ c) && decide (c ≤ 122)) := by
            show lowS ⟨#[c]⟩ = _
            rw [lowS_1]
            simp
          rw [hlo]
          have ea : leD (.str "a") (.str ⟨#[c]⟩) = some (.bl (decide (97 ≤ c))) := by rw [leD_s, la]
          have ez : leD (.str ⟨#[c]⟩) (.str "z") = some (.bl (decide (c ≤ 122))) := by rw [leD_s, lz]
          cases hca : decide (97 ≤ c) with
          | false =>
            rw [hca] at ea
            have a2 : q_law_good_2 (Mt (m + 1)) [some (.tup [.str ⟨#[c]⟩, b]), none] = .rt (.bl false) [some (.tup [.str ⟨#[c]⟩, b]), none] := by
              unfold q_law_good_2 q_law_good_2t1
              simp only [mIf_e, mOr_e, mNot_e, mTest_e, mChain_e, mC_e, mOp2_e, mOpN_e, mCons_e, oV_e, mVar_e, mNil_e, R.bind_ok, List.getElem?_cons_zero, Option.join_some, R.of_some, gets_cons, gets_nil, get_v, fins_cons, fins_nil, fin_v, un2_e, ixD_t, atI_0, ea]
              simp
            rw [mSeq_e, a2]
            rfl
          | true =>
            rw [hca] at ea
            cases hcz : decide (c ≤ 122) with
            | false =>
              rw [hcz] at ez
              have a2 : q_law_good_2 (Mt (m + 1)) [some (.tup [.str ⟨#[c]⟩, b]), none] = .rt (.bl false) [some (.tup [.str ⟨#[c]⟩, b]), none] := by
                unfold q_law_good_2 q_law_good_2t1
                simp only [mIf_e, mOr_e, mNot_e, mTest_e, mChain_e, mC_e, mOp2_e, mOpN_e, mCons_e, oV_e, mVar_e, mNil_e, R.bind_ok, List.getElem?_cons_zero, Option.join_some, R.of_some, gets_cons, gets_nil, get_v, fins_cons, fins_nil, fin_v, un2_e, ixD_t, atI_0, ea, ez]
                simp
              rw [mSeq_e, a2]
              rfl
            | true =>
              rw [hcz] at ez
              by_cases hbl : ∃ cs, b = .lst cs
              · obtain ⟨cs, rfl⟩ := hbl
                have a2 : q_law_good_2 (Mt (m + 1)) [some (.tup [.str ⟨#[c]⟩, .lst cs]), none] = .nx [some (.tup [.str ⟨#[c]⟩, .lst cs]), none] := by
                  unfold q_law_good_2 q_law_good_2t1
                  simp only [mIf_e, mOr_e, mNot_e, mTest_e, mChain_e, mC_e, mOp2_e, mOpN_e, mCons_e, oV_e, mVar_e, mNil_e, R.bind_ok, List.getElem?_cons_zero, Option.join_some, R.of_some, gets_cons, gets_nil, get_v, fins_cons, fins_nil, fin_v, un2_e, ixD_t, atI_0, ea, ez]
                  simp [ei]
                rw [seq_nx a2]
                obtain ⟨i, rfl⟩ := Fine.pos (.inl hb)
                have hcl := szF hb.lstInv.len hw
                have lc : l_law_good_1 (Mt (m + 1)) [some (.tup [.str ⟨#[c]⟩, .lst cs]), none] = .ok (.lst (cs.filter fun c => !isT c)) [some (.tup [.str ⟨#[c]⟩, .lst cs]), none] := by
                  unfold l_law_good_1
                  have := lc1 (src := li_law_good_1 (Mt (m + 1))) (cond := lc_law_good_1 (Mt (m + 1))) (elt := le_law_good_1 (Mt (m + 1))) (i := 1) (δ := [some (.tup [.str ⟨#[c]⟩, .lst cs]), none]) (xs := cs) (p := fun c => !isT c) (g := fun d => d) (by unfold li_law_good_1; simp) hcl rfl (fun d hd' => ?_) (fun d _ h => by unfold le_law_good_1; simp)
                  · rw [this]
                    simp
                  · have ih := good_any m d w i (hb.lstInv.mem d hd') hw (by omega)
                    unfold lc_law_good_1
                    simp [ioOf, ih]
                unfold q_law_good_3
                generalize l_law_good_1 (Mt (m + 1)) = f at lc
                have fe := filter_isT cs
                simp [lc, s0, ioOf, fe, listT]
              · have hn : isiD .list b = some (.bl false) := by
                  rw [ei]
                  cases b <;> first | rfl | exact absurd ⟨_, rfl⟩ hbl
                have a2 : q_law_good_2 (Mt (m + 1)) [some (.tup [.str ⟨#[c]⟩, b]), none] = .rt (.bl false) [some (.tup [.str ⟨#[c]⟩, b]), none] := by
                  unfold q_law_good_2 q_law_good_2t1
                  simp only [mIf_e, mOr_e, mNot_e, mTest_e, mChain_e, mC_e, mOp2_e, mOpN_e, mCons_e, oV_e, mVar_e, mNil_e, R.bind_ok, List.getElem?_cons_zero, Option.join_some, R.of_some, gets_cons, gets_nil, get_v, fins_cons, fins_nil, fin_v, un2_e, ixD_t, atI_0, ea, ez]
                  simp [hn]
                rw [mSeq_e, a2]
                rw [listT_not hbl]
                rfl
        · have hlo : lowD a = false := by
            cases a with
            | str x => exact lowS_ne fun z => hs ⟨x, rfl, z⟩
            | _ => rfl
          rw [hlo]
          have a1 : q_law_good_1 (Mt (m + 1)) [some (.tup [a, b]), none] = .rt (.bl false) [some (.tup [a, b]), none] := by
            unfold q_law_good_1 q_law_good_1t1
            by_cases hx : ∃ x, a = .str x
            · obtain ⟨x, rfl⟩ := hx
              have hxl := szF ha.strInv hw
              have h3 : ¬ ((x.length : Int) = 1) := fun z => hs ⟨x, rfl, by omega⟩
              have h4 : ¬ (x.length = 1) := fun z => hs ⟨x, rfl, z⟩
              simp [ht, s2, Ty.isa, hxl, h3, h4]
            · have hn : isiD .str a = some (.bl false) := by
                rw [es]
                cases a <;> first | rfl | exact absurd ⟨_, rfl⟩ hx
              simp [ht, s2, hn]
          rw [mSeq_e, a1]
          rfl
      · rw [isT_len h2]
        have h3 : ¬ ((ds.length : Int) = 2) := by omega
        have : q_law_good_1 (Mt n) [some (.tup ds), none] = .rt (.bl false) [some (.tup ds), none] := by
          unfold q_law_good_1 q_law_good_1t1
          simp [ht, hl, h3, h2]
        rw [mSeq_e, this]
        rfl
end K01
set_option maxRecDepth 100000
set_option maxHeartbeats 400000
namespace K01
open PySem PySem.Spec L2 DM
theorem deep_ok : ∀ (n : Nat) (t : T), t.size ≤ 100 → t.dep ≤ n → Mt n .law_deep [t.dat] = .ok t.dat []
  | 0, .node x cs, _, h => by rw [T.dep] at h; omega
  | n + 1, .node x cs, hz, hd => by
    rw [T.dep] at hd
    rw [T.size] at hz
    have hl : (T.dats cs).length ≤ sizeLine := by
      rw [T.dats_map, List.length_map]
      exact Nat.le_trans (T.len_le_sizes cs) (sz100 (by omega))
    have s2 : (2 : Nat) ≤ sizeLine := by decide
    have lc : mLc (mSrc (oV (mOp2 (oV (mVar 0)) (oV (mC (.int 1))) ixD)) seqD) (tName 1) mYes (mCall (Mt n .law_deep) [false] (mCons (oV (mVar 1)) mNil)) [1] [some (.tup [.str ⟨#[x]⟩, .lst (T.dats cs)]), none] = .ok (.lst (T.dats cs)) [some (.tup [.str ⟨#[x]⟩, .lst (T.dats cs)]), none] := by
      have := lc1 (src := mSrc (oV (mOp2 (oV (mVar 0)) (oV (mC (.int 1))) ixD)) seqD) (cond := mYes) (elt := mCall (Mt n .law_deep) [false] (mCons (oV (mVar 1)) mNil)) (i := 1) (δ := [some (.tup [.str ⟨#[x]⟩, .lst (T.dats cs)]), none]) (xs := T.dats cs) (p := fun _ => true) (g := fun d => d) (by simp) hl rfl (fun d hd' => by simp) (fun d hd' _ => ?_)
      · rw [this]
        simp
      · rw [T.dats_map, List.mem_map] at hd'
        obtain ⟨c, hc, rfl⟩ := hd'
        have h1 := T.dep_le_deps hc
        have h2 := T.size_le_sizes hc
        have ih := deep_ok n c (by omega) (by omega)
        simp [ih]
    show mkF 1 (ioOf .law_deep) (b_law_deep (Mt n)) [(T.node x cs).dat] = _
    unfold b_law_deep
    rw [T.dat]
    simp [ioOf, lc, s2]
end K01
set_option maxRecDepth 100000
set_option maxHeartbeats 400000
namespace K01
open PySem PySem.Spec L2 DM
theorem ixD_mem {L : List D} {r : Int} (h0 : 0 ≤ r) (h1 : r < L.length) : ∃ x ∈ L, ixD (.lst L) (.int r) = some x := by
  have hl : r.toNat < L.length := by omega
  refine ⟨L[r.toNat], List.getElem_mem hl, ?_⟩
  rw [ixD_l, atI_k (k := r.toNat) r (by omega) hl]
  exact List.getElem?_eq_getElem hl
theorem ixD_at {L : List D} {r : Int} (h0 : 0 ≤ r) (h1 : r < L.length) : ∃ x, L[r.toNat]? = some x ∧ ixD (.lst L) (.int r) = some x := by
  have hl : r.toNat < L.length := by omega
  refine ⟨L[r.toNat], List.getElem?_eq_getElem hl, ?_⟩
  rw [ixD_l, atI_k (k := r.toNat) r (by omega) hl]
  exact List.getElem?_eq_getElem hl
theorem ixD_str {x : Str} {r : Int} (hz : x.length ≤ sizeLine) (h0 : 0 ≤ r) (h1 : r < x.length) : ∃ c ∈ x.cps.toList, ixD (.str x) (.int r) = some (.str ⟨#[c]⟩) := by
  have hl : r.toNat < x.cps.toList.length := by rw [len_cps]; omega
  refine ⟨x.cps.toList[r.toNat], List.getElem_mem hl, ?_⟩
  show (if x.length ≤ sizeLine then (atI x.cps.toList r).map fun c => D.str ⟨#[c]⟩ else none) = _
  rw [if_pos hz, atI_k (k := r.toNat) r (by omega) hl, List.getElem?_eq_getElem hl]
  rfl
@[simp] theorem addD_s (x y : Str) : addD (.str x) (.str y) = (if x.length + y.length ≤ sizeLine then some (.str (x ++ y)) else none) := rfl
def insL (CH : List D) (r : Int) (x : D) : List D := CH.take r.toNat ++ [x] ++ CH.drop r.toNat
theorem cut_toI {α : Type} (xs : List α) {r : Int} (h : 0 ≤ r) : DM.cut xs none (some r) = xs.take r.toNat := by
  have := cut_to xs r.toNat
  rwa [show ((r.toNat : Nat) : Int) = r by omega] at this
theorem cut_fromI {α : Type} (xs : List α) {r : Int} (h : 0 ≤ r) : DM.cut xs (some r) none = xs.drop r.toNat := by
  have := cut_from xs r.toNat
  rwa [show ((r.toNat : Nat) : Int) = r by omega] at this
theorem mul4 (d : D) : mulD (.lst [d]) (.int 4) = some (.lst [d, d, d, d]) := rfl
theorem str_fine {x : Str} (h : x.length ≤ 4) (hc : ∀ c ∈ x.cps.toList, c < 1114112) (k : Nat) : Fine (.str x) 4 k := (Fine.str h hc).mono (Nat.le_refl _) (Nat.zero_le _)
theorem app_fine {x y : Str} (hx : x.length ≤ 2) (hy : y.length ≤ 2) (cx : ∀ c ∈ x.cps.toList, c < 1114112) (cy : ∀ c ∈ y.cps.toList, c < 1114112) (k : Nat) : Fine (.str (x ++ y)) 4 k := by
  refine str_fine ?_ (fun c hc => ?_) k
  · have : (x ++ y).length = x.length + y.length := PySem.strLen_append x y
    omega
  · have e : (x ++ y).cps.toList = x.cps.toList ++ y.cps.toList := by
      show (x.cps ++ y.cps).toList = _
      rw [Array.toList_append]
    rw [e] at hc
    exact (List.mem_append.mp hc).elim (cx c) (cy c)
def sA : Str := " !#$&'()*+,-./0123456789:;<=>?@ABCDEFGHIJKLMNOPQRSTUVWXYZ[]^_`abcdefghijklmnopqrstuvwxyz{|}~\t\n"
def sB : Str := "\"\\"
theorem sAB : sA.length + sB.length ≤ sizeLine ∧ (sA ++ sB).length = 96 ∧ ∀ c ∈ (sA ++ sB).cps.toList, c < 128 := by decide +kernel
section
variable {d : D} {lt : Str} {CH : List D} {w k : Nat}


def oddS (lt sg : Str) : List D := [.str sg, .str sg, .str (lt ++ sg), .str (sg ++ lt), .str "", .non, .int 1, .bl true, .lst [.str lt], .tup [.str lt], .dK [] [], .str (lt ++ lt)]
def oddL (lt : Str) (CH : List D) (r : Int) : List D := [.tup CH, .non, .str "", .dK [] [], .lst (insL CH r .non), .int 0, .str lt, .lst (insL CH r (.lst [])), .lst (insL CH r (.str lt)), .lst (insL CH r (.tup [])), .dK ((enumKV 0 CH).map (·.1)) CH]
def oddR (lt : Str) (CH : List D) (s l : D) : List D := [.tup [s, .lst CH], .tup [s, .lst CH], .tup [s, .lst CH], .tup [s, .lst CH], .tup [.str lt, l], .tup [.str lt, l], .tup [.str lt, l], .tup [.str lt, l],
  .lst [.str lt, .lst CH], .tup [.str lt], .tup [.str lt, .lst CH, .int 0], .tup [.lst CH, .str lt], .non, .str lt, .lst CH, .tup [], .bl true, .int 7, .dK [] [], .tup [.str lt, .lst CH, .lst CH]]
theorem oddS_fine {sg : Str} (h1 : lt.length ≤ 1) (h2 : sg.length ≤ 1) (c1 : ∀ c ∈ lt.cps.toList, c < 1114112) (c2 : ∀ c ∈ sg.cps.toList, c < 1114112) : ∀ x ∈ oddS lt sg, Fine x 200 2 := by
  intro x hx
  unfold oddS at hx
  simp only [List.mem_cons, List.not_mem_nil, or_false] at hx
  have f1 := str_fine (x := lt) (by omega) c1 1
  rcases hx with rfl | rfl | rfl | rfl | rfl | rfl | rfl | rfl | rfl | rfl | rfl | rfl
  · exact (str_fine (by omega) c2 2).mono (by omega) (by omega)
  · exact (str_fine (by omega) c2 2).mono (by omega) (by omega)
  · exact (app_fine (by omega) (by omega) c1 c2 2).mono (by omega) (by omega)
  · exact (app_fine (by omega) (by omega) c2 c1 2).mono (by omega) (by omega)
  · exact (str_fine (x := "") (by decide) (by decide) 2).mono (by omega) (by omega)
  · exact Fine.non.mono (by omega) (by omega)
  · exact (Fine.int (by decide)).mono (by omega) (by omega)
  · exact (Fine.bl true).mono (by omega) (by omega)
  · exact (FineL.cons f1 (FineL.nil 1)).lst.mono (by omega) (by omega)
  · exact (FineL.cons f1 (FineL.nil 1)).tup.mono (by omega) (by omega)
  · exact (Fine.dict (k := 0) (by simp) (FineL.nil 0)).mono (by simp) (by omega)
  · exact (app_fine (by omega) (by omega) c1 c1 2).mono (by omega) (by omega)
theorem oddL_fine {r : Int} (h1 : lt.length ≤ 1) (c1 : ∀ c ∈ lt.cps.toList, c < 1114112) (hC : FineL CH w k) (hw : w ≤ 160) (hl : CH.length ≤ 40) (hk : 1 ≤ k) : ∀ x ∈ oddL lt CH r, Fine x 5500 (k + 1) := by
  intro x hx
  unfold oddL insL at hx
  simp only [List.mem_cons, List.not_mem_nil, or_false] at hx
  have f1 := str_fine (x := lt) (by omega) c1 k
  rcases hx with rfl | rfl | rfl | rfl | rfl | rfl | rfl | rfl | rfl | rfl | rfl
  · exact hC.tup.mono (by omega) (by omega)
  · exact Fine.non.mono (by omega) (by omega)
  · exact (str_fine (x := "") (by decide) (by decide) 0).mono (by omega) (by omega)
  · exact (Fine.dict (k := 0) (by simp) (FineL.nil 0)).mono (by simp) (by omega)
  · exact (hC.ins _ _ (Fine.non.mono (Nat.le_refl _) (Nat.zero_le _))).lst.mono (by omega) (by omega)
  · exact (Fine.int (by decide)).mono (by omega) (by omega)
  · exact f1.mono (by omega) (by omega)
  · exact (hC.ins _ _ ((FineL.nil 0).lst.mono (Nat.le_refl _) (by omega))).lst.mono (by omega) (by omega)
  · exact (hC.ins _ _ f1).lst.mono (by omega) (by omega)
  · exact (hC.ins _ _ ((FineL.nil 0).tup.mono (Nat.le_refl _) (by omega))).lst.mono (by omega) (by omega)
  · refine (Fine.dict (fun q hq => ?_) hC).mono ?_ (Nat.le_refl _)
    · obtain ⟨i, hi⟩ := List.getElem?_of_mem hq
      obtain ⟨j, _, rfl⟩ := enumKV_mem CH 0 q hq
      refine ⟨_, rfl, ?_⟩
      have hj : j < CH.length := by
        have hm : (Sum.inl (j : Int) : Key) ∈ (enumKV 0 CH).map (·.1) := hq
        clear hi hq
        have gen : ∀ (xs : List D) (b : Nat), (Sum.inl (j : Int) : Key) ∈ (enumKV b xs).map (·.1) → j < b + xs.length := by
          intro xs
          induction xs with
          | nil => intro b h; simp [enumKV] at h
          | cons y ys ih =>
            intro b h
            rw [enumKV, List.map_cons] at h
            rcases List.mem_cons.mp h with h | h
            · injection h with h
              rw [List.length_cons]
              omega
            · have := ih (b + 1) h
              rw [List.length_cons]
              omega
        have := gen CH 0 hm
        omega
      have : (j : Int).natAbs = j := rfl
      rw [this]
      exact Nat.lt_of_lt_of_le (show j < 40 by omega) (by decide)
    · rw [List.length_map, enumKV_len]
      omega
theorem oddR_fine {s l : D} (h1 : lt.length ≤ 1) (c1 : ∀ c ∈ lt.cps.toList, c < 1114112) (hC : FineL CH w k) (hw : w ≤ 160) (hk : 1 ≤ k) (hs : Fine s 200 2) (hl : Fine l 5500 (k + 1)) : ∀ x ∈ oddR lt CH s l, Fine x 6000 (k + 2) := by
  intro x hx
  unfold oddR at hx
  simp only [List.mem_cons, List.not_mem_nil, or_false] at hx
  have f1 := str_fine (x := lt) (by omega) c1 (k + 1)
  have f2 := hC.lst
  have n1 := FineL.nil (k + 1)
  have a1 : Fine (.tup [s, .lst CH]) 6000 (k + 2) := (FineL.cons (hs.mono (Nat.le_refl _) (by omega)) (FineL.cons f2 n1)).tup.mono (by omega) (by omega)
  have a2 : Fine (.tup [.str lt, l]) 6000 (k + 2) := (FineL.cons f1 (FineL.cons hl n1)).tup.mono (by omega) (by omega)
  have i0 : Fine (.int 0) 130 (k + 1) := (Fine.int (by decide)).mono (Nat.le_refl _) (by omega)
  rcases hx with rfl | rfl | rfl | rfl | rfl | rfl | rfl | rfl | rfl | rfl | rfl | rfl | rfl | rfl | rfl | rfl | rfl | rfl | rfl | rfl
  · exact a1
  · exact a1
  · exact a1
  · exact a1
  · exact a2
  · exact a2
  · exact a2
  · exact a2
  · exact (FineL.cons f1 (FineL.cons f2 n1)).lst.mono (by omega) (by omega)
  · exact (FineL.cons f1 n1).tup.mono (by omega) (by omega)
  · exact (FineL.cons f1 (FineL.cons f2 (FineL.cons i0 n1))).tup.mono (by omega) (by omega)
  · exact (FineL.cons f2 (FineL.cons f1 n1)).tup.mono (by omega) (by omega)
  · exact Fine.non.mono (by omega) (by omega)
  · exact f1.mono (by omega) (by omega)
  · exact f2.mono (by omega) (by omega)
  · exact (FineL.nil 0).tup.mono (by omega) (by omega)
  · exact (Fine.bl true).mono (by omega) (by omega)
  · exact (Fine.int (by decide)).mono (by omega) (by omega)
  · exact (Fine.dict (k := 0) (by simp) (FineL.nil 0)).mono (by simp) (by omega)
  · exact (FineL.cons f1 (FineL.cons f2 (FineL.cons f2 n1))).tup.mono (by omega) (by omega)
theorem oddS_tc {sg : Str} : ∀ x ∈ oddS lt sg, x.tc ≤ 1 := by
  intro x hx
  unfold oddS at hx
  simp only [List.mem_cons, List.not_mem_nil, or_false] at hx
  rcases hx with rfl | rfl | rfl | rfl | rfl | rfl | rfl | rfl | rfl | rfl | rfl | rfl <;> simp [D.tc, D.tcs]
theorem oddL_tc {r : Int} : ∀ x ∈ oddL lt CH r, x.tc ≤ D.tcs CH + 1 := by
  intro x hx
  have c := tcs_cut CH r.toNat
  unfold oddL insL at hx
  simp only [List.mem_cons, List.not_mem_nil, or_false] at hx
  rcases hx with rfl | rfl | rfl | rfl | rfl | rfl | rfl | rfl | rfl | rfl | rfl <;> simp [D.tc, D.tcs, tcs_app] <;> omega
theorem oddR_tc {s l : D} (hs : s.tc ≤ 1) (hl : l.tc ≤ D.tcs CH + 1) : ∀ x ∈ oddR lt CH s l, x.tc ≤ 2 * D.tcs CH + 2 := by
  intro x hx
  unfold oddR at hx
  simp only [List.mem_cons, List.not_mem_nil, or_false] at hx
  rcases hx with rfl | rfl | rfl | rfl | rfl | rfl | rfl | rfl | rfl | rfl | rfl | rfl | rfl | rfl | rfl | rfl | rfl | rfl | rfl | rfl <;> simp [D.tc, D.tcs] <;> omega
end
end K01
set_option maxRecDepth 100000
set_option maxHeartbeats 400000
namespace K01
open PySem PySem.Spec L2 DM
section
variable {d : D} {lt : Str} {CH : List D} {w k : Nat}


theorem odd_ok (n : Nat) (hd : IsDeck d) (h1 : lt.length ≤ 1) (c1 : ∀ c ∈ lt.cps.toList, c < 1114112) (hC : FineL CH w k) (hw : w ≤ 160) (hl : CH.length ≤ 40) (hk : 1 ≤ k) :
    ∃ r d', Mt (n + 2) .law_odd [d, .tup [.str lt, .lst CH]] = .ok r [d'] ∧ IsDeck d' ∧ Fine r 6000 (k + 2) ∧ r.tc ≤ 2 * D.tcs CH + 2 := by
  obtain ⟨l1, l2, l3⟩ := sAB
  have lz : (sA ++ sB).length ≤ sizeLine := by rw [l2]; decide
  obtain ⟨r1, d1, e1, hd1, p1, q1⟩ := draw_n n (m := 96) hd (by decide) (by decide)
  obtain ⟨c, hc, es⟩ := ixD_str (x := sA ++ sB) (r := r1) lz p1 (by rw [l2]; exact q1)
  obtain ⟨r2, d2, e2, hd2, p2, q2⟩ := draw_n n (m := (CH.length : Int) + 1) hd1 (by omega) (by omega)
  obtain ⟨r3, d3, e3, hd3, p3, q3⟩ := draw_n n (m := 12) hd2 (by decide) (by decide)
  obtain ⟨r4, d4, e4, hd4, p4, q4⟩ := draw_n n (m := 11) hd3 (by decide) (by decide)
  obtain ⟨r5, d5, e5, hd5, p5, q5⟩ := draw_n n (m := 20) hd4 (by decide) (by decide)
  have hsg : (⟨#[c]⟩ : Str).length ≤ 1 := Nat.le_refl 1
  have csg : ∀ x ∈ (⟨#[c]⟩ : Str).cps.toList, x < 1114112 := fun x hx => by
    simp at hx
    have := l3 c hc
    omega
  obtain ⟨xs, hxs, exs⟩ := ixD_mem (L := oddS lt ⟨#[c]⟩) p3 q3
  obtain ⟨xl, hxl, exl⟩ := ixD_mem (L := oddL lt CH r2) p4 q4
  obtain ⟨xr, hxr, exr⟩ := ixD_mem (L := oddR lt CH xs xl) p5 q5
  have hfin := oddR_fine h1 c1 hC hw hk (oddS_fine h1 hsg c1 csg xs hxs) (oddL_fine h1 c1 hC hw hl hk xl hxl) xr hxr
  refine ⟨xr, d5, ?_, hd5, hfin, oddR_tc (oddS_tc xs hxs) (oddL_tc xl hxl) xr hxr⟩
  have hcl : CH.length ≤ sizeLine := sz100 (by omega)
  have s0 : (0 : Nat) ≤ sizeLine := by decide
  have s1 : (1 : Nat) ≤ sizeLine := by decide
  have s2 : (2 : Nat) ≤ sizeLine := by decide
  have s3 : (3 : Nat) ≤ sizeLine := by decide
  have s4 : (4 : Nat) ≤ sizeLine := by decide
  have s5 : (5 : Nat) ≤ sizeLine := by decide
  have s7 : (7 : Nat) ≤ sizeLine := by decide
  have s8 : (8 : Nat) ≤ sizeLine := by decide
  have s9 : (9 : Nat) ≤ sizeLine := by decide
  have s11 : (11 : Nat) ≤ sizeLine := by decide
  have s11' : (11 : Nat) < sizeLine := by decide
  have s13 : (13 : Nat) ≤ sizeLine := by decide
  have s15 : (15 : Nat) ≤ sizeLine := by decide
  have s20 : (20 : Nat) ≤ sizeLine := by decide
  have a1 : q_law_odd_1 (Mt (n + 1)) [some (d), some (.tup [.str lt, .lst CH]), none, none, none, none, none, none, none, none] = .nx [some (d), some (.tup [.str lt, .lst CH]), some (.str lt), some (.lst CH), none, none, none, none, none, none] := by
    unfold q_law_odd_1
    simp
  have a2 : q_law_odd_2 (Mt (n + 1)) [some (d), some (.tup [.str lt, .lst CH]), some (.str lt), some (.lst CH), none, none, none, none, none, none] = .nx [some (d), some (.tup [.str lt, .lst CH]), some (.str lt), some (.lst CH), some (.str sA), none, none, none, none, none] := rfl
  have a3 : q_law_odd_3 (Mt (n + 1)) [some (d), some (.tup [.str lt, .lst CH]), some (.str lt), some (.lst CH), some (.str sA), none, none, none, none, none] = .nx [some (d), some (.tup [.str lt, .lst CH]), some (.str lt), some (.lst CH), some (.str (sA ++ sB)), none, none, none, none, none] := by
    have e : addD (.str sA) (.str sB) = some (.str (sA ++ sB)) := by rw [addD_s, if_pos l1]
    show mAsg 4 (mOp2 (oV (mVar 4)) (oV (mC (.str sB))) addD) _ = _
    generalize sA ++ sB = z at e
    generalize sA = x at e
    generalize sB = y at e
    simp [e]
  have hll : lenD [.str (sA ++ sB)] = some (.int 96) := by
    rw [lenD_s, if_pos lz, l2]
    rfl
  have a4 : q_law_odd_4 (Mt (n + 1)) [some (d), some (.tup [.str lt, .lst CH]), some (.str lt), some (.lst CH), some (.str (sA ++ sB)), none, none, none, none, none] = .nx [some (d1), some (.tup [.str lt, .lst CH]), some (.str lt), some (.lst CH), some (.str (sA ++ sB)), some (.str ⟨#[c]⟩), none, none, none, none] := by
    unfold q_law_odd_4
    generalize sA ++ sB = z at es hll
    simp [ioOf, e1, hll, es]
  have a5 : q_law_odd_5 (Mt (n + 1)) [some (d1), some (.tup [.str lt, .lst CH]), some (.str lt), some (.lst CH), some (.str (sA ++ sB)), some (.str ⟨#[c]⟩), none, none, none, none] = .nx [some (d2), some (.tup [.str lt, .lst CH]), some (.str lt), some (.lst CH), some (.str (sA ++ sB)), some (.str ⟨#[c]⟩), some (.int r2), none, none, none] := by
    unfold q_law_odd_5
    generalize sA ++ sB = z
    generalize (⟨#[c]⟩ : Str) = sg
    simp [ioOf, e2]
  generalize (⟨#[c]⟩ : Str) = sg at a4 a5 hsg csg hxs exs
  have k1 : lt.length + sg.length ≤ sizeLine := sz100 (by omega)
  have k2 : sg.length + lt.length ≤ sizeLine := sz100 (by omega)
  have k3 : lt.length + lt.length ≤ sizeLine := sz100 (by omega)
  have a6 : q_law_odd_6 (Mt (n + 1)) [some (d2), some (.tup [.str lt, .lst CH]), some (.str lt), some (.lst CH), some (.str (sA ++ sB)), some (.str sg), some (.int r2), none, none, none] = .nx [some (d2), some (.tup [.str lt, .lst CH]), some (.str lt), some (.lst CH), some (.str (sA ++ sB)), some (.str sg), some (.int r2), some (.lst ((oddS lt sg).take 11)), none, none] := by
    unfold q_law_odd_6 oddS
    generalize sA ++ sB = z
    simp [k1, k2, s1, s11, mDK0]
  have a7 : q_law_odd_7 (Mt (n + 1)) [some (d2), some (.tup [.str lt, .lst CH]), some (.str lt), some (.lst CH), some (.str (sA ++ sB)), some (.str sg), some (.int r2), some (.lst ((oddS lt sg).take 11)), none, none] = .nx [some (d2), some (.tup [.str lt, .lst CH]), some (.str lt), some (.lst CH), some (.str (sA ++ sB)), some (.str sg), some (.int r2), some (.lst (oddS lt sg)), none, none] := by
    unfold q_law_odd_7 oddS
    generalize sA ++ sB = z
    simp [k3, s11']
  have hin : ∀ x : D, (addD (.lst (CH.take r2.toNat)) (.lst [x]) = some (.lst (CH.take r2.toNat ++ [x])) ∧ addD (.lst (CH.take r2.toNat ++ [x])) (.lst (CH.drop r2.toNat)) = some (.lst (insL CH r2 x))) := fun x => by
    have t1 : (CH.take r2.toNat).length ≤ 40 := by rw [List.length_take]; omega
    have t2 : (CH.drop r2.toNat).length ≤ 40 := by rw [List.length_drop]; omega
    constructor
    · rw [addD_l, if_pos]
      exact sz100 (by simp; omega)
    · rw [addD_l, if_pos]
      · rfl
      · exact sz100 (by rw [List.length_append]; simp; omega)
  have ct := cut_toI CH p2
  have cf := cut_fromI CH p2
  have hen : enumDD (.lst CH) = some (.dK ((enumKV 0 CH).map (·.1)) CH) := rfl
  have htu : tupleD [.lst CH] = some (.tup CH) := rfl
  have a8 : q_law_odd_8 (Mt (n + 1)) [some (d2), some (.tup [.str lt, .lst CH]), some (.str lt), some (.lst CH), some (.str (sA ++ sB)), some (.str sg), some (.int r2), some (.lst (oddS lt sg)), none, none] = .nx [some (d2), some (.tup [.str lt, .lst CH]), some (.str lt), some (.lst CH), some (.str (sA ++ sB)), some (.str sg), some (.int r2), some (.lst (oddS lt sg)), some (.lst ((oddL lt CH r2).take 7)), none] := by
    have h := hin .non
    unfold q_law_odd_8 oddL
    generalize insL CH r2 .non = i1 at h
    generalize sA ++ sB = z
    generalize oddS lt sg = os
    simp [htu, ct, cf, h.1, h.2, s1, s7, mDK0, -addD_l]
  have a9 : q_law_odd_9 (Mt (n + 1)) [some (d2), some (.tup [.str lt, .lst CH]), some (.str lt), some (.lst CH), some (.str (sA ++ sB)), some (.str sg), some (.int r2), some (.lst (oddS lt sg)), some (.lst ((oddL lt CH r2).take 7)), none] = .nx [some (d2), some (.tup [.str lt, .lst CH]), some (.str lt), some (.lst CH), some (.str (sA ++ sB)), some (.str sg), some (.int r2), some (.lst (oddS lt sg)), some (.lst ((oddL lt CH r2).take 9)), none] := by
    have h := hin (.lst [])
    have g := hin (.str lt)
    unfold q_law_odd_9 oddL
    generalize insL CH r2 (.lst []) = i1 at h
    generalize insL CH r2 (.str lt) = i2 at g
    generalize insL CH r2 .non = i3
    generalize sA ++ sB = z
    generalize oddS lt sg = os
    generalize hT : CH.take r2.toNat ++ [D.str lt] = t1 at g
    generalize hT2 : CH.take r2.toNat ++ [D.lst []] = t2 at h
    generalize CH.take r2.toNat = t3 at ct h g
    generalize CH.drop r2.toNat = t4 at cf h g
    have hfin : ∀ a b c d e f g h i : D, addD (.lst [a, b, c, d, e, f, g]) (.lst [h, i]) = some (.lst [a, b, c, d, e, f, g, h, i]) := fun a b c d e f g h i => rfl
    simp [ct, cf, h.1, h.2, g.1, g.2, s0, s1, s2, hfin, -addD_l]
  have a10 : q_law_odd_10 (Mt (n + 1)) [some (d2), some (.tup [.str lt, .lst CH]), some (.str lt), some (.lst CH), some (.str (sA ++ sB)), some (.str sg), some (.int r2), some (.lst (oddS lt sg)), some (.lst ((oddL lt CH r2).take 9)), none] = .nx [some (d2), some (.tup [.str lt, .lst CH]), some (.str lt), some (.lst CH), some (.str (sA ++ sB)), some (.str sg), some (.int r2), some (.lst (oddS lt sg)), some (.lst (oddL lt CH r2)), none] := by
    have h := hin (.tup [])
    unfold q_law_odd_10 oddL
    generalize insL CH r2 (.lst []) = i1
    generalize insL CH r2 (.str lt) = i2
    generalize insL CH r2 .non = i3
    generalize insL CH r2 (.tup []) = i4 at h
    generalize sA ++ sB = z
    generalize oddS lt sg = os
    generalize hT2 : CH.take r2.toNat ++ [D.tup []] = t2 at h
    generalize CH.take r2.toNat = t3 at ct h
    generalize CH.drop r2.toNat = t4 at cf h
    generalize (enumKV 0 CH).map (·.1) = ek at hen
    have hfin : ∀ a b c d e f g h i j k : D, addD (.lst [a, b, c, d, e, f, g, h, i]) (.lst [j, k]) = some (.lst [a, b, c, d, e, f, g, h, i, j, k]) := fun a b c d e f g h i j k => rfl
    simp [ct, cf, h.1, h.2, s0, s1, s2, hen, hfin, mUnC, -addD_l]
  have a11 : q_law_odd_11 (Mt (n + 1)) [some (d2), some (.tup [.str lt, .lst CH]), some (.str lt), some (.lst CH), some (.str (sA ++ sB)), some (.str sg), some (.int r2), some (.lst (oddS lt sg)), some (.lst (oddL lt CH r2)), none] = .nx [some (d4), some (.tup [.str lt, .lst CH]), some (.str lt), some (.lst CH), some (.str (sA ++ sB)), some (.str sg), some (.int r2), some (.lst (oddS lt sg)), some (.lst (oddL lt CH r2)), some (.lst ((oddR lt CH xs xl).take 8))] := by
    unfold q_law_odd_11 oddR
    generalize sA ++ sB = z
    generalize oddS lt sg = os at exs
    generalize oddL lt CH r2 = ol at exl
    have hfin : ∀ a b c d e f g h : D, addD (.lst [a, b, c, d]) (.lst [e, f, g, h]) = some (.lst [a, b, c, d, e, f, g, h]) := fun a b c d e f g h => rfl
    simp only [mAsg_e, mOp2_e, mOpN_e, mCons_e, oV_e, mLst_e, mTup_e, mNil_e, mCall_e, mC_e, mVar_e, oS_e]
    simp [ioOf, e3, e4, exs, exl, s1, s2, mul4, hfin, -addD_l, -ixD_l]
  have a12 : q_law_odd_12 (Mt (n + 1)) [some (d4), some (.tup [.str lt, .lst CH]), some (.str lt), some (.lst CH), some (.str (sA ++ sB)), some (.str sg), some (.int r2), some (.lst (oddS lt sg)), some (.lst (oddL lt CH r2)), some (.lst ((oddR lt CH xs xl).take 8))] = .nx [some (d4), some (.tup [.str lt, .lst CH]), some (.str lt), some (.lst CH), some (.str (sA ++ sB)), some (.str sg), some (.int r2), some (.lst (oddS lt sg)), some (.lst (oddL lt CH r2)), some (.lst ((oddR lt CH xs xl).take 13))] := by
    unfold q_law_odd_12 oddR
    generalize sA ++ sB = z
    generalize oddS lt sg = os
    generalize oddL lt CH r2 = ol
    simp [s1, s2, s3, s5, s13]
  have a13 : q_law_odd_13 (Mt (n + 1)) [some (d4), some (.tup [.str lt, .lst CH]), some (.str lt), some (.lst CH), some (.str (sA ++ sB)), some (.str sg), some (.int r2), some (.lst (oddS lt sg)), some (.lst (oddL lt CH r2)), some (.lst ((oddR lt CH xs xl).take 13))] = .nx [some (d4), some (.tup [.str lt, .lst CH]), some (.str lt), some (.lst CH), some (.str (sA ++ sB)), some (.str sg), some (.int r2), some (.lst (oddS lt sg)), some (.lst (oddL lt CH r2)), some (.lst ((oddR lt CH xs xl).take 15))] := by
    unfold q_law_odd_13 oddR
    generalize sA ++ sB = z
    generalize oddS lt sg = os
    generalize oddL lt CH r2 = ol
    simp [s2, s15]
  have a14 : q_law_odd_14 (Mt (n + 1)) [some (d4), some (.tup [.str lt, .lst CH]), some (.str lt), some (.lst CH), some (.str (sA ++ sB)), some (.str sg), some (.int r2), some (.lst (oddS lt sg)), some (.lst (oddL lt CH r2)), some (.lst ((oddR lt CH xs xl).take 15))] = .rt xr [some (d5), some (.tup [.str lt, .lst CH]), some (.str lt), some (.lst CH), some (.str (sA ++ sB)), some (.str sg), some (.int r2), some (.lst (oddS lt sg)), some (.lst (oddL lt CH r2)), some (.lst ((oddR lt CH xs xl).take 15))] := by
    have hcat : addD (.lst ((oddR lt CH xs xl).take 15)) (.lst [.tup [], .bl true, .int 7, .dK [] [], .tup [.str lt, .lst CH, .lst CH]]) = some (.lst (oddR lt CH xs xl)) := rfl
    unfold q_law_odd_14
    generalize (oddR lt CH xs xl).take 15 = o15 at hcat
    generalize oddR lt CH xs xl = oR at hcat exr
    generalize sA ++ sB = z
    generalize oddS lt sg = os
    generalize oddL lt CH r2 = ol
    simp [ioOf, e5, s0, s3, s5, hcat, exr, mDK0, -addD_l, -ixD_l]
  show mkF 8 (ioOf .law_odd) (b_law_odd (Mt (n + 1))) [d, .tup [.str lt, .lst CH]] = _
  have e0 : List.map some [d, .tup [.str lt, .lst CH]] ++ List.replicate 8 none = [some (d), some (.tup [.str lt, .lst CH]), none, none, none, none, none, none, none, none] := rfl
  rw [mkF_e, e_law_odd, e0, seq_nx a1, seq_nx a2, seq_nx a3, seq_nx a4, seq_nx a5, seq_nx a6, seq_nx a7, seq_nx a8, seq_nx a9, seq_nx a10, seq_nx a11, seq_nx a12, seq_nx a13, a14]
  rfl
end
end K01
set_option maxRecDepth 100000
set_option maxHeartbeats 400000
namespace K01
open PySem PySem.Spec L2 DM
section
theorem spoilt_ok : ∀ (n : Nat) (t : T) (d : D), t.good → t.size ≤ 40 → t.dep ≤ n → t.dep ≤ 20 → IsDeck d →
    ∃ r d', Mt (n + 2) .law_spoilt [d, t.dat] = .ok r [d'] ∧ IsDeck d' ∧ Fine r (6000 + 340 * t.dep) (2 * t.dep + 1) ∧ r.tc ≤ 2 * t.size + 2
  | 0, .node x cs, _, _, _, h, _, _ => by rw [T.dep] at h; omega
  | n + 1, .node x cs, d, hg, hz, hdp, hdp2, hd => by
    have hg0 := hg
    rw [T.good, T.goods_iff] at hg
    rw [T.dep] at hdp hdp2
    rw [T.size] at hz
    have hlen : (T.dats cs).length ≤ 40 := by
      rw [T.dats_map, List.length_map]
      have := T.len_le_sizes cs
      omega
    have hC := FineL.trees cs (T.goods_iff.mpr hg.2)
    have hlt : (⟨#[x]⟩ : Str).length ≤ 1 := Nat.le_refl 1
    have clt : ∀ c ∈ (⟨#[x]⟩ : Str).cps.toList, c < 1114112 := fun c hc => by
      simp at hc
      omega
    have s0 : (0 : Nat) ≤ sizeLine := by decide
    have s1 : (1 : Nat) ≤ sizeLine := by decide
    have s2 : (2 : Nat) ≤ sizeLine := by decide
    have hcl : (T.dats cs).length ≤ sizeLine := sz100 (by omega)
    have odd : ∀ d, IsDeck d → ∃ r d', Mt (n + 2) .law_odd [d, .tup [.str ⟨#[x]⟩, .lst (T.dats cs)]] = .ok r [d'] ∧ IsDeck d' ∧ Fine r (6000 + 340 * (T.deps cs + 1)) (2 * (T.deps cs + 1) + 1) ∧ r.tc ≤ 2 * (T.sizes cs + 1) + 2 := fun d hd => by
      by_cases hk : 1 ≤ T.deps cs
      · obtain ⟨r, d', e, h1, h2, h3⟩ := odd_ok (k := 2 * T.deps cs) n hd hlt clt hC (by omega) hlen (by omega)
        exact ⟨r, d', e, h1, h2.mono (by omega) (by omega), by rw [tcs_trees] at h3; omega⟩
      · obtain ⟨r, d', e, h1, h2, h3⟩ := odd_ok (k := 1) n hd hlt clt (hC.mono (Nat.le_refl _) (by omega)) (by omega) hlen (by omega)
        exact ⟨r, d', e, h1, h2.mono (by omega) (by omega), by rw [tcs_trees] at h3; omega⟩
    show ∃ r d', mkF 1 (ioOf .law_spoilt) (b_law_spoilt (Mt (n + 2))) [d, (T.node x cs).dat] = .ok r [d'] ∧ IsDeck d' ∧ _
    rw [T.dat, T.dep, T.size, mkF_e, e_law_spoilt]
    have e0 : List.map some [d, .tup [.str ⟨#[x]⟩, .lst (T.dats cs)]] ++ List.replicate 1 none = [some d, some (.tup [.str ⟨#[x]⟩, .lst (T.dats cs)]), none] := rfl
    rw [e0]
    by_cases hcs : cs = []
    · subst hcs
      obtain ⟨r, d', e, h1, h2⟩ := odd d hd
      have a1 : q_law_spoilt_1 (Mt (n + 2)) [some d, some (.tup [.str ⟨#[x]⟩, .lst (T.dats [])]), none] = .rt r [some d', some (.tup [.str ⟨#[x]⟩, .lst (T.dats [])]), none] := by
        unfold q_law_spoilt_1 q_law_spoilt_1t1
        rw [T.dats] at e ⊢
        simp [ioOf, e, s0]
      refine ⟨r, d', ?_, h1, h2⟩
      rw [mSeq_e, a1]
      rfl
    · have hne : (T.dats cs).isEmpty = false := by
        cases cs with
        | nil => exact absurd rfl hcs
        | cons c cs => rw [T.dats]; rfl
      have hpos : 0 < (T.dats cs).length := by
        cases cs with
        | nil => exact absurd rfl hcs
        | cons c cs => rw [T.dats]; simp
      obtain ⟨r1, d1, e1, hd1, p1, q1⟩ := draw_n (n + 1) (m := 4) hd (by decide) (by decide)
      by_cases hr : r1 = 0
      · subst hr
        obtain ⟨r, d', e, h1, h2⟩ := odd d1 hd1
        have a1 : q_law_spoilt_1 (Mt (n + 2)) [some d, some (.tup [.str ⟨#[x]⟩, .lst (T.dats cs)]), none] = .rt r [some d', some (.tup [.str ⟨#[x]⟩, .lst (T.dats cs)]), none] := by
          unfold q_law_spoilt_1 q_law_spoilt_1t1
          generalize T.dats cs = CH at e hne
          simp [ioOf, e, e1, s0, hne]
        refine ⟨r, d', ?_, h1, h2⟩
        rw [mSeq_e, a1]
        rfl
      · have a1 : q_law_spoilt_1 (Mt (n + 2)) [some d, some (.tup [.str ⟨#[x]⟩, .lst (T.dats cs)]), none] = .nx [some d1, some (.tup [.str ⟨#[x]⟩, .lst (T.dats cs)]), none] := by
          unfold q_law_spoilt_1 q_law_spoilt_1t1
          generalize T.dats cs = CH at hne
          simp [ioOf, e1, s0, hne, hr]
        obtain ⟨r2, d2, e2, hd2, p2, q2⟩ := draw_n (n + 1) (m := ((T.dats cs).length : Int)) hd1 (by omega) (by omega)
        have a2 : q_law_spoilt_2 (Mt (n + 2)) [some d1, some (.tup [.str ⟨#[x]⟩, .lst (T.dats cs)]), none] = .nx [some d2, some (.tup [.str ⟨#[x]⟩, .lst (T.dats cs)]), some (.int r2)] := by
          unfold q_law_spoilt_2
          generalize T.dats cs = CH at e2
          simp [ioOf, e2]
        obtain ⟨y, hy0, ey⟩ := ixD_at (L := T.dats cs) p2 q2
        have hy := List.mem_of_getElem? hy0
        have htc := tcs_at hy0
        rw [T.dats_map, List.mem_map] at hy
        obtain ⟨c, hc, rfl⟩ := hy
        have h3 := T.dep_le_deps hc
        have h4 := T.size_le_sizes hc
        rw [tc_tree, tcs_trees] at htc
        obtain ⟨r, d3, e3, hd3, hf, hft⟩ := spoilt_ok n c d2 (hg.2 c hc) (by omega) (by omega) (by omega) hd2
        have ct := cut_toI (T.dats cs) p2
        have cf := cut_fromI (T.dats cs) (r := r2 + 1) (by omega)
        have t1 : (List.take r2.toNat (T.dats cs)).length ≤ 40 := by rw [List.length_take]; omega
        have t2 : (List.drop (r2 + 1).toNat (T.dats cs)).length ≤ 40 := by rw [List.length_drop]; omega
        have k1 : addD (.lst ((T.dats cs).take r2.toNat)) (.lst [r]) = some (.lst ((T.dats cs).take r2.toNat ++ [r])) := by
          rw [addD_l, if_pos]
          exact sz100 (by simp; omega)
        have k2 : addD (.lst ((T.dats cs).take r2.toNat ++ [r])) (.lst ((T.dats cs).drop (r2 + 1).toNat)) = some (.lst ((T.dats cs).take r2.toNat ++ [r] ++ (T.dats cs).drop (r2 + 1).toNat)) := by
          rw [addD_l, if_pos]
          exact sz100 (by rw [List.length_append]; simp; omega)
        have fin : Fine (.tup [.str ⟨#[x]⟩, .lst ((T.dats cs).take r2.toNat ++ [r] ++ (T.dats cs).drop (r2 + 1).toNat)]) (6000 + 340 * (T.deps cs + 1)) (2 * (T.deps cs + 1) + 1) := by
          have hr' : Fine r (6000 + 340 * T.deps cs) (2 * T.deps cs + 1) := hf.mono (by omega) (by omega)
          obtain ⟨w1, w1', v1, a1, _⟩ := FineL.cut r2.toNat hC
          obtain ⟨w2, w2', v2, _, b2⟩ := FineL.cut (r2 + 1).toNat hC
          have m1 := ((a1.mono (Nat.le_refl _) (by omega : 2 * T.deps cs ≤ 2 * T.deps cs + 1)).append (FineL.cons hr' (FineL.nil _))).append (b2.mono (Nat.le_refl _) (by omega : 2 * T.deps cs ≤ 2 * T.deps cs + 1))
          have f1 := str_fine (x := ⟨#[x]⟩) (by decide : (1 : Nat) ≤ 4) clt (2 * T.deps cs + 1 + 1)
          refine (FineL.cons f1 (FineL.cons m1.lst (FineL.nil _))).tup.mono ?_ (by omega)
          omega
        have htn : (r2 + 1).toNat = r2.toNat + 1 := by omega
        refine ⟨_, d3, ?_, hd3, fin, ?_⟩
        rotate_left
        · rw [D.tc, D.tcs, D.tcs, D.tcs, D.tc, tcs_app, tcs_app, D.tcs, D.tcs, htn]
          have : D.tc (.str ⟨#[x]⟩) = 0 := by rw [D.tc] <;> simp
          omega
        rw [seq_nx a1, seq_nx a2]
        have a3 : q_law_spoilt_3 (Mt (n + 2)) [some d2, some (.tup [.str ⟨#[x]⟩, .lst (T.dats cs)]), some (.int r2)] = .rt (.tup [.str ⟨#[x]⟩, .lst ((T.dats cs).take r2.toNat ++ [r] ++ (T.dats cs).drop (r2 + 1).toNat)]) [some d3, some (.tup [.str ⟨#[x]⟩, .lst (T.dats cs)]), some (.int r2)] := by
          unfold q_law_spoilt_3
          generalize hG : (T.dats cs).take r2.toNat ++ [r] ++ (T.dats cs).drop (r2 + 1).toNat = G at k2
          generalize hG1 : (T.dats cs).take r2.toNat ++ [r] = G1 at k1 k2
          generalize (T.dats cs).take r2.toNat = G2 at ct k1
          generalize (T.dats cs).drop (r2 + 1).toNat = G3 at cf k2
          generalize T.dats cs = CH at ct cf ey
          generalize c.dat = cd at e3 ey
          simp [ioOf, e3, ey, ct, cf, k1, k2, s1, s2, -addD_l, -ixD_l]
        rw [a3]
        rfl
end
end K01
set_option maxRecDepth 100000
set_option maxHeartbeats 400000
namespace K01
open PySem PySem.Spec L2 DM
theorem right_ok {d : D} {v k : Nat} (h : Fine d v k) (hv : v ≤ 20000) (hk : k ≤ 50) : Mt 59 .law_right [d] = .ok (.bl true) [] := by
  obtain ⟨x, hx⟩ := h.shows (by omega) (by omega)
  have e1 := is_tree_any 57 d v k h hv (by omega)
  have e2 := good_any 57 d v k h hv (by omega)
  generalize isT d = b at e1 e2
  show mkF 2 (ioOf .law_right) (b_law_right (Mt 58)) [d] = _
  have e0 : List.map some [d] ++ List.replicate 2 none = [some (d), none, none] := rfl
  have a1 : q_law_right_1 (Mt 58) [some (d), none, none] = .nx [some (d), some (.str x), none] := by
    unfold q_law_right_1
    simp [hx]
  have a2 : q_law_right_2 (Mt 58) [some (d), some (.str x), none] = .nx [some (d), some (.str x), some (.bl b)] := by
    unfold q_law_right_2
    simp [ioOf, e1]
  have a3 : q_law_right_3 (Mt 58) [some (d), some (.str x), some (.bl b)] = .rt (.bl true) [some (d), some (.str x), some (.bl b)] := by
    unfold q_law_right_3
    simp [ioOf, e2, hx, Ty.isa]
  rw [mkF_e, e_law_right, e0, seq_nx a1, seq_nx a2, a3]
  rfl

theorem law_round {s d : D} {ok o3 o4 o5 : Option D} (hd : IsDeck d) : ∃ d' o3' o4', IsDeck d' ∧ Q_law_2b (Mt 59) [some (s), some (d), ok, o3, o4, o5] = .nx [some (s), some (d'), ok, o3', o4', o5] := by
  obtain ⟨z, d1, e1, hd1, hz⟩ := let_ok 57 hd
  obtain ⟨t, d2, e2, hd2, hg, hs, hdp⟩ := tree_ok 56 (by omega) (most := 40) (by omega) (by omega) hz hd1
  have hs' : t.size ≤ 40 := by omega
  have e4 := deep_ok 59 t (by omega) (by omega)
  have e5 := is_tree_ok 58 t hg (by omega) (by omega)
  have a1 : q_law_2b1 (Mt 59) [some (s), some (d), ok, o3, o4, o5] = .nx [some (s), some (d2), ok, some (t.dat), o4, o5] := by
    unfold q_law_2b1
    simp [ioOf, e1, e2]
  have nb : notBD (.bl true) (.bl true) = some (.bl false) := rfl
  have a2 : q_law_2b2 (Mt 59) [some (s), some (d2), ok, some (t.dat), o4, o5] = .nx [some (s), some (d2), ok, some (t.dat), o4, o5] := by
    unfold q_law_2b2 q_law_2b2t1
    generalize t.dat = tt at e4 e5
    simp [ioOf, e4, e5, nb]
  obtain ⟨δ', ef, d', o4', rfl, hd'⟩ := dFor_run (tg := tName 4) (body := q_law_2b3b1 (Mt 59)) (fun _ δ => ∃ d' o4, δ = [some (s), some (d'), ok, some (t.dat), o4, o5] ∧ IsDeck d') (rgItems 0 1 10) 0 [some (s), some (d2), ok, some (t.dat), o4, o5] ⟨d2, o4, rfl, hd2⟩ fun j y δ hy hI => by
    obtain ⟨hj, rfl⟩ := rg_get hy
    obtain ⟨d5, o9, rfl, h5⟩ := hI
    obtain ⟨r, d6, e6, hd6, hf, ht⟩ := spoilt_ok 57 t d5 hg hs' (by omega) hdp h5
    have er := right_ok hf (by omega) (by omega)
    refine ⟨_, _, rfl, .inl (?_ : q_law_2b3b1 (Mt 59) [some (s), some (d5), ok, some (t.dat), some (.int (0 + (j : Int))), o5] = .nx [some (s), some (d6), ok, some (t.dat), some (.int (0 + (j : Int))), o5]), d6, _, rfl, hd6⟩
    unfold q_law_2b3b1 q_law_2b3b1t1
    generalize t.dat = tt at e6
    generalize (0 + (j : Int)) = jj
    simp [ioOf, e6, er]
  have src : i_law_2b3 (Mt 59) [some (s), some (d2), ok, some (t.dat), o4, o5] = .ok (rgItems 0 1 10, some) [some (s), some (d2), ok, some (t.dat), o4, o5] := mSrcA_ok (os := [.v (.int 10)]) (δ1 := [some (s), some (d2), ok, some (t.dat), o4, o5]) (ds := [.int 10]) rfl rfl rfl (range1_ok 10 (by omega) (by omega))
  have a3 : q_law_2b3 (Mt 59) [some (s), some (d2), ok, some (t.dat), o4, o5] = .nx [some (s), some (d'), ok, some (t.dat), o4', o5] := by
    unfold q_law_2b3
    rw [mFor_e, src, DM.R.thn_ok]
    show finR some (dFor (tName 4) _ (rgItems 0 1 10) _) = _
    rw [ef]
    rfl
  refine ⟨d', some t.dat, o4', hd', ?_⟩
  unfold Q_law_2b
  rw [seq_nx a1, seq_nx a2, a3]
def thgs : List D := [.non, .int 0, .bl true, .str "a", .str "", .str "a(b)", .lst [], .tup [], .dK [] [], .tup [.str "a"], .lst [.str "a", .lst []], .tup [.str "a", .tup []], .tup [.str "ab", .lst []], .tup [.str "a", .lst []]]
theorem thgs_fine : ∀ x ∈ thgs, Fine x 200 5 := by
  intro x hx
  unfold thgs at hx
  simp only [List.mem_cons, List.not_mem_nil, or_false] at hx
  have sa : ∀ k, Fine (.str "a") 4 k := fun k => str_fine (by decide) (by decide) k
  have sA : ∀ k, Fine (.str "ab") 4 k := fun k => str_fine (by decide) (by decide) k
  have n0 := FineL.nil 0
  have n1 := FineL.nil 1
  have l0 : Fine (.lst []) 0 1 := n0.lst
  have t0 : Fine (.tup []) 0 1 := n0.tup
  rcases hx with rfl | rfl | rfl | rfl | rfl | rfl | rfl | rfl | rfl | rfl | rfl | rfl | rfl | rfl
  · exact Fine.non.mono (by omega) (by omega)
  · exact (Fine.int (by decide)).mono (by omega) (by omega)
  · exact (Fine.bl true).mono (by omega) (by omega)
  · exact (sa 0).mono (by omega) (by omega)
  · exact (str_fine (x := "") (by decide) (by decide) 0).mono (by omega) (by omega)
  · exact (str_fine (x := "a(b)") (by decide) (by decide) 0).mono (by omega) (by omega)
  · exact l0.mono (by omega) (by omega)
  · exact t0.mono (by omega) (by omega)
  · exact (Fine.dict (k := 0) (by simp) n0).mono (by simp) (by omega)
  · exact (FineL.cons (sa 0) n0).tup.mono (by omega) (by omega)
  · exact (FineL.cons (sa 1) (FineL.cons l0 n1)).lst.mono (by omega) (by omega)
  · exact (FineL.cons (sa 1) (FineL.cons t0 n1)).tup.mono (by omega) (by omega)
  · exact (FineL.cons (sA 1) (FineL.cons l0 n1)).tup.mono (by omega) (by omega)
  · exact (FineL.cons (sa 1) (FineL.cons l0 n1)).tup.mono (by omega) (by omega)
theorem law_true (ns : List Int) (hl : ns.length ≤ 63) : Mt 60 .law [.scr ns] = .ok (.bl true) [] := by
  obtain ⟨d, e1, hd⟩ := deck_ok 58 ns hl
  have a1 : q_law_1 (Mt 59) [some (.scr ns), none, none, none, none, none] = .nx [some (.scr ns), some (d), none, none, none, none] := by
    unfold q_law_1
    simp [ioOf, e1]
  obtain ⟨δ', ef, d3, o2, o3, o4, rfl, hd3⟩ := dFor_run (tg := tName 2) (body := Q_law_2b (Mt 59)) (fun _ δ => ∃ d o2 o3 o4, δ = [some (.scr ns), some (d), o2, o3, o4, none] ∧ IsDeck d) (rgItems 0 1 6) 0 [some (.scr ns), some (d), none, none, none, none] ⟨d, none, none, none, rfl, hd⟩ fun i y δ hy hI => by
    obtain ⟨hi, rfl⟩ := rg_get hy
    obtain ⟨d, o2, o3, o4, rfl, h⟩ := hI
    obtain ⟨d', o3', o4', h', e⟩ := law_round (s := .scr ns) (ok := some (.int (0 + (i : Int)))) (o3 := o3) (o4 := o4) (o5 := none) h
    exact ⟨_, _, rfl, .inl e, d', _, _, _, rfl, h'⟩
  have src : i_law_2 (Mt 59) [some (.scr ns), some (d), none, none, none, none] = .ok (rgItems 0 1 6, some) [some (.scr ns), some (d), none, none, none, none] := mSrcA_ok (os := [.v (.int 6)]) (δ1 := [some (.scr ns), some (d), none, none, none, none]) (ds := [.int 6]) rfl rfl rfl (range1_ok 6 (by omega) (by omega))
  have a2 : q_law_2 (Mt 59) [some (.scr ns), some (d), none, none, none, none] = .nx [some (.scr ns), some (d3), o2, o3, o4, none] := by
    unfold q_law_2
    rw [mFor_e, src, DM.R.thn_ok]
    show finR some (dFor (tName 2) _ (rgItems 0 1 6) _) = _
    rw [ef]
    rfl
  obtain ⟨δ2, ef2, o6, rfl⟩ := dFor_same (tg := tName 5) (body := q_law_3b1 (Mt 59)) (δ := [some (.scr ns), none, none, none, none, none]) (fun δ => ∃ o6, δ = [some (.scr ns), some (d3), o2, o3, o4, o6]) thgs [some (.scr ns), some (d3), o2, o3, o4, none] ⟨none, rfl⟩ fun x δ hx hI => by
    obtain ⟨o6, rfl⟩ := hI
    have er := right_ok (thgs_fine x hx) (by omega) (by omega)
    refine ⟨_, _, rfl, .inl (?_ : q_law_3b1 (Mt 59) [some (.scr ns), some (d3), o2, o3, o4, some (x)] = .nx [some (.scr ns), some (d3), o2, o3, o4, some (x)]), _, rfl⟩
    unfold q_law_3b1 q_law_3b1t1
    simp [ioOf, er]
  have s0 : (0 : Nat) ≤ sizeLine := by decide
  have s1 : (1 : Nat) ≤ sizeLine := by decide
  have s2 : (2 : Nat) ≤ sizeLine := by decide
  have s14 : (14 : Nat) ≤ sizeLine := by decide
  have src3 : i_law_3 (Mt 59) [some (.scr ns), some (d3), o2, o3, o4, none] = .ok (thgs, some) [some (.scr ns), some (d3), o2, o3, o4, none] := by
    unfold i_law_3 thgs
    simp [s0, s1, s2, s14, mDK0]
  have a3 : q_law_3 (Mt 59) [some (.scr ns), some (d3), o2, o3, o4, none] = .nx [some (.scr ns), some (d3), o2, o3, o4, o6] := by
    unfold q_law_3
    rw [mFor_e, src3, DM.R.thn_ok]
    show finR some (dFor (tName 5) _ thgs _) = _
    rw [ef2]
    rfl
  show mkF 5 (ioOf .law) (b_law (Mt 59)) [.scr ns] = _
  have e0 : List.map some [D.scr ns] ++ List.replicate 5 none = [some (.scr ns), none, none, none, none, none] := rfl
  rw [mkF_e, e_law, e0, seq_nx a1, seq_nx a2, seq_nx a3]
  rfl
end K01
set_option maxRecDepth 100000
set_option maxHeartbeats 4000000
open PySem PySem.Spec L2 DM
namespace K01
open PySem PySem.Spec L2 DM
/-- what the top has left -/
theorem all_mk (hlaw : ∀ ns : List Int, ns.length ≤ 63 → Mt 60 .law [.scr ns] = .ok (.bl true) []) {l : PySem.W.OpenLaw} {w : World} {K : PySem.W.Frag} {h : Heap} {mg : Str → Option Value} {fa : Addr}
    {f0 f1 f2 f3 f4 f5 f6 f7 f8 f9 f10 f11 f12 : Addr} {od0 an0 od1 an1 od2 an2 od3 an3 od4 an4 od5 an5 od6 an6 od7 an7 od8 an8 od9 an9 od10 an10 od11 an11 od12 an12 : Option Addr} {sl0 sl1 sl2 sl3 sl4 sl5 sl6 sl7 sl8 sl9 sl10 sl11 sl12 : Array (Option Value)} {oc0 kV0 dc0 pm0 cd0 ct0 oc1 kV1 dc1 pm1 cd1 ct1 oc2 kV2 dc2 pm2 cd2 ct2 oc3 kV3 dc3 pm3 cd3 ct3 oc4 kV4 dc4 pm4 cd4 ct4 oc5 kV5 dc5 pm5 cd5 ct5 oc6 kV6 dc6 pm6 cd6 ct6 oc7 kV7 dc7 pm7 cd7 ct7 oc8 kV8 dc8 pm8 cd8 ct8 oc9 kV9 dc9 pm9 cd9 ct9 oc10 kV10 dc10 pm10 cd10 ct10 oc11 kV11 dc11 pm11 cd11 ct11 oc12 kV12 dc12 pm12 cd12 ct12 : Value}
    {tk_LETTERS : Tok}
    (X : K.In h) (G : h.Ns mainGlobals mg) (hfa : mg "law" = some (.ref fa))
    (a0 : PySem.W.nsIn K mainGlobals "is_letter" = some (some (.ref f0))) (l0 : K.lookup f0 = some ⟨oc0, od0, .func (PySem.W.fnOf "is_letter" "is_letter" (defArgs s_is_letter) (defBody s_is_letter) (defScope s_is_letter) .none kV0 dc0 pm0 an0 cd0 ct0), sl0⟩) (c0 : PySem.W.codeIn K cd0 "is_letter" = true) (k0 : PySem.W.keepIn K (.ref f0) = true)
    (a1 : PySem.W.nsIn K mainGlobals "is_tree" = some (some (.ref f1))) (l1 : K.lookup f1 = some ⟨oc1, od1, .func (PySem.W.fnOf "is_tree" "is_tree" (defArgs s_is_tree) (defBody s_is_tree) (defScope s_is_tree) .none kV1 dc1 pm1 an1 cd1 ct1), sl1⟩) (c1 : PySem.W.codeIn K cd1 "is_tree" = true) (k1 : PySem.W.keepIn K (.ref f1) = true)
    (a2 : PySem.W.nsIn K mainGlobals "_law_deck" = some (some (.ref f2))) (l2 : K.lookup f2 = some ⟨oc2, od2, .func (PySem.W.fnOf "_law_deck" "_law_deck" (defArgs s_law_deck) (defBody s_law_deck) (defScope s_law_deck) .none kV2 dc2 pm2 an2 cd2 ct2), sl2⟩) (c2 : PySem.W.codeIn K cd2 "_law_deck" = true) (k2 : PySem.W.keepIn K (.ref f2) = true)
    (a3 : PySem.W.nsIn K mainGlobals "_law_draw" = some (some (.ref f3))) (l3 : K.lookup f3 = some ⟨oc3, od3, .func (PySem.W.fnOf "_law_draw" "_law_draw" (defArgs s_law_draw) (defBody s_law_draw) (defScope s_law_draw) .none kV3 dc3 pm3 an3 cd3 ct3), sl3⟩) (c3 : PySem.W.codeIn K cd3 "_law_draw" = true) (k3 : PySem.W.keepIn K (.ref f3) = true)
    (a4 : PySem.W.nsIn K mainGlobals "_law_letters" = some (some (.ref f4))) (l4 : K.lookup f4 = some ⟨oc4, od4, .func (PySem.W.fnOf "_law_letters" "_law_letters" (defArgs s_law_letters) (defBody s_law_letters) (defScope s_law_letters) .none kV4 dc4 pm4 an4 cd4 ct4), sl4⟩) (c4 : PySem.W.codeIn K cd4 "_law_letters" = true) (k4 : PySem.W.keepIn K (.ref f4) = true)
    (a5 : PySem.W.nsIn K mainGlobals "_law_grown" = some (some (.ref f5))) (l5 : K.lookup f5 = some ⟨oc5, od5, .func (PySem.W.fnOf "_law_grown" "_law_grown" (defArgs s_law_grown) (defBody s_law_grown) (defScope s_law_grown) .none kV5 dc5 pm5 an5 cd5 ct5), sl5⟩) (c5 : PySem.W.codeIn K cd5 "_law_grown" = true) (k5 : PySem.W.keepIn K (.ref f5) = true)
    (a6 : PySem.W.nsIn K mainGlobals "_law_tree" = some (some (.ref f6))) (l6 : K.lookup f6 = some ⟨oc6, od6, .func (PySem.W.fnOf "_law_tree" "_law_tree" (defArgs s_law_tree) (defBody s_law_tree) (defScope s_law_tree) .none kV6 dc6 pm6 an6 cd6 ct6), sl6⟩) (c6 : PySem.W.codeIn K cd6 "_law_tree" = true) (k6 : PySem.W.keepIn K (.ref f6) = true)
    (a7 : PySem.W.nsIn K mainGlobals "_law_deep" = some (some (.ref f7))) (l7 : K.lookup f7 = some ⟨oc7, od7, .func (PySem.W.fnOf "_law_deep" "_law_deep" (defArgs s_law_deep) (defBody s_law_deep) (defScope s_law_deep) .none kV7 dc7 pm7 an7 cd7 ct7), sl7⟩) (c7 : PySem.W.codeIn K cd7 "_law_deep" = true) (k7 : PySem.W.keepIn K (.ref f7) = true)
    (a8 : PySem.W.nsIn K mainGlobals "_law_odd" = some (some (.ref f8))) (l8 : K.lookup f8 = some ⟨oc8, od8, .func (PySem.W.fnOf "_law_odd" "_law_odd" (defArgs s_law_odd) (defBody s_law_odd) (defScope s_law_odd) .none kV8 dc8 pm8 an8 cd8 ct8), sl8⟩) (c8 : PySem.W.codeIn K cd8 "_law_odd" = true) (k8 : PySem.W.keepIn K (.ref f8) = true)
    (a9 : PySem.W.nsIn K mainGlobals "_law_spoilt" = some (some (.ref f9))) (l9 : K.lookup f9 = some ⟨oc9, od9, .func (PySem.W.fnOf "_law_spoilt" "_law_spoilt" (defArgs s_law_spoilt) (defBody s_law_spoilt) (defScope s_law_spoilt) .none kV9 dc9 pm9 an9 cd9 ct9), sl9⟩) (c9 : PySem.W.codeIn K cd9 "_law_spoilt" = true) (k9 : PySem.W.keepIn K (.ref f9) = true)
    (a10 : PySem.W.nsIn K mainGlobals "_law_good" = some (some (.ref f10))) (l10 : K.lookup f10 = some ⟨oc10, od10, .func (PySem.W.fnOf "_law_good" "_law_good" (defArgs s_law_good) (defBody s_law_good) (defScope s_law_good) .none kV10 dc10 pm10 an10 cd10 ct10), sl10⟩) (c10 : PySem.W.codeIn K cd10 "_law_good" = true) (k10 : PySem.W.keepIn K (.ref f10) = true)
    (a11 : PySem.W.nsIn K mainGlobals "_law_right" = some (some (.ref f11))) (l11 : K.lookup f11 = some ⟨oc11, od11, .func (PySem.W.fnOf "_law_right" "_law_right" (defArgs s_law_right) (defBody s_law_right) (defScope s_law_right) .none kV11 dc11 pm11 an11 cd11 ct11), sl11⟩) (c11 : PySem.W.codeIn K cd11 "_law_right" = true) (k11 : PySem.W.keepIn K (.ref f11) = true)
    (a12 : PySem.W.nsIn K mainGlobals "law" = some (some (.ref f12))) (l12 : K.lookup f12 = some ⟨oc12, od12, .func (PySem.W.fnOf "law" "law" (defArgs s_law) (defBody s_law) (defScope s_law) .none kV12 dc12 pm12 an12 cd12 ct12), sl12⟩) (c12 : PySem.W.codeIn K cd12 "law" = true) (k12 : PySem.W.keepIn K (.ref f12) = true)
    (z_bool : PySem.W.nsIn K mainGlobals "bool" = some none)
    (z_dict : PySem.W.nsIn K mainGlobals "dict" = some none)
    (z_enumerate : PySem.W.nsIn K mainGlobals "enumerate" = some none)
    (z_int : PySem.W.nsIn K mainGlobals "int" = some none)
    (z_isinstance : PySem.W.nsIn K mainGlobals "isinstance" = some none)
    (z_len : PySem.W.nsIn K mainGlobals "len" = some none)
    (z_list : PySem.W.nsIn K mainGlobals "list" = some none)
    (z_max : PySem.W.nsIn K mainGlobals "max" = some none)
    (z_min : PySem.W.nsIn K mainGlobals "min" = some none)
    (z_range : PySem.W.nsIn K mainGlobals "range" = some none)
    (z_repr : PySem.W.nsIn K mainGlobals "repr" = some none)
    (z_str : PySem.W.nsIn K mainGlobals "str" = some none)
    (z_tuple : PySem.W.nsIn K mainGlobals "tuple" = some none)
    (g_LETTERS : PySem.W.nsIn K mainGlobals "LETTERS" = some (some (.str "abcdefghijklmnopqrstuvwxyz" tk_LETTERS))) :
    ∃ fd : FuncData, (∀ (s : Shared) (v : Value), BindsTo s fd ⟨[v], []⟩ [("script", v)]) ∧ ∀ base : Heap, K.In base → base.Ns mainGlobals mg → SysB base → FnOkG l.prog w K mg base (L2.CX l.prog w) 120 fa fd ["script"] (spLaw K) := by
  have e := hfa.symm.trans (PySem.W.mg_of X G a12)
  cases e
  have T : Tx0 K mg (.str "abcdefghijklmnopqrstuvwxyz" tk_LETTERS) := { z_bool := PySem.W.mg_none_of X G z_bool, z_dict := PySem.W.mg_none_of X G z_dict, z_enumerate := PySem.W.mg_none_of X G z_enumerate, z_int := PySem.W.mg_none_of X G z_int, z_isinstance := PySem.W.mg_none_of X G z_isinstance, z_len := PySem.W.mg_none_of X G z_len, z_list := PySem.W.mg_none_of X G z_list, z_max := PySem.W.mg_none_of X G z_max, z_min := PySem.W.mg_none_of X G z_min, z_range := PySem.W.mg_none_of X G z_range, z_repr := PySem.W.mg_none_of X G z_repr, z_str := PySem.W.mg_none_of X G z_str, z_tuple := PySem.W.mg_none_of X G z_tuple, g_LETTERS := ⟨⟨_, rfl⟩, PySem.W.mg_of X G g_LETTERS⟩ }
  have hF : ∀ x, hfOf K mg x := by
    intro x
    cases x with
    | is_letter =>
      have F := fun_mk (st := s_is_letter) l0 c0 k0
      exact ⟨f0, _, PySem.W.mg_of X G a0, k0, F.binds (ps := psOf .is_letter) (fun _ _ _ _ _ _ us hl => match us, hl with | [_], _ => rfl), F⟩
    | is_tree =>
      have F := fun_mk (st := s_is_tree) l1 c1 k1
      exact ⟨f1, _, PySem.W.mg_of X G a1, k1, F.binds (ps := psOf .is_tree) (fun _ _ _ _ _ _ us hl => match us, hl with | [_], _ => rfl), F⟩
    | law_deck =>
      have F := fun_mk (st := s_law_deck) l2 c2 k2
      exact ⟨f2, _, PySem.W.mg_of X G a2, k2, F.binds (ps := psOf .law_deck) (fun _ _ _ _ _ _ us hl => match us, hl with | [_], _ => rfl), F⟩
    | law_draw =>
      have F := fun_mk (st := s_law_draw) l3 c3 k3
      exact ⟨f3, _, PySem.W.mg_of X G a3, k3, F.binds (ps := psOf .law_draw) (fun _ _ _ _ _ _ us hl => match us, hl with | [_, _], _ => rfl), F⟩
    | law_letters =>
      have F := fun_mk (st := s_law_letters) l4 c4 k4
      exact ⟨f4, _, PySem.W.mg_of X G a4, k4, F.binds (ps := psOf .law_letters) (fun _ _ _ _ _ _ us hl => match us, hl with | [_], _ => rfl), F⟩
    | law_grown =>
      have F := fun_mk (st := s_law_grown) l5 c5 k5
      exact ⟨f5, _, PySem.W.mg_of X G a5, k5, F.binds (ps := psOf .law_grown) (fun _ _ _ _ _ _ us hl => match us, hl with | [_, _, _, _], _ => rfl), F⟩
    | law_tree =>
      have F := fun_mk (st := s_law_tree) l6 c6 k6
      exact ⟨f6, _, PySem.W.mg_of X G a6, k6, F.binds (ps := psOf .law_tree) (fun _ _ _ _ _ _ us hl => match us, hl with | [_, _, _], _ => rfl), F⟩
    | law_deep =>
      have F := fun_mk (st := s_law_deep) l7 c7 k7
      exact ⟨f7, _, PySem.W.mg_of X G a7, k7, F.binds (ps := psOf .law_deep) (fun _ _ _ _ _ _ us hl => match us, hl with | [_], _ => rfl), F⟩
    | law_odd =>
      have F := fun_mk (st := s_law_odd) l8 c8 k8
      exact ⟨f8, _, PySem.W.mg_of X G a8, k8, F.binds (ps := psOf .law_odd) (fun _ _ _ _ _ _ us hl => match us, hl with | [_, _], _ => rfl), F⟩
    | law_spoilt =>
      have F := fun_mk (st := s_law_spoilt) l9 c9 k9
      exact ⟨f9, _, PySem.W.mg_of X G a9, k9, F.binds (ps := psOf .law_spoilt) (fun _ _ _ _ _ _ us hl => match us, hl with | [_, _], _ => rfl), F⟩
    | law_good =>
      have F := fun_mk (st := s_law_good) l10 c10 k10
      exact ⟨f10, _, PySem.W.mg_of X G a10, k10, F.binds (ps := psOf .law_good) (fun _ _ _ _ _ _ us hl => match us, hl with | [_], _ => rfl), F⟩
    | law_right =>
      have F := fun_mk (st := s_law_right) l11 c11 k11
      exact ⟨f11, _, PySem.W.mg_of X G a11, k11, F.binds (ps := psOf .law_right) (fun _ _ _ _ _ _ us hl => match us, hl with | [_], _ => rfl), F⟩
    | law =>
      have F := fun_mk (st := s_law) l12 c12 k12
      exact ⟨fa, _, PySem.W.mg_of X G a12, k12, F.binds (ps := psOf .law) (fun _ _ _ _ _ _ us hl => match us, hl with | [_], _ => rfl), F⟩
  have F := fun_mk (st := s_law) l12 c12 k12
  exact ⟨PySem.W.fnOf "law" "law" (defArgs s_law) (defBody s_law) (defScope s_law) .none kV12 dc12 pm12 an12 cd12 ct12, fun s v => .of_eq rfl, fun base _ _ B => DM.FnOkG.law (fn := Mt 60 .law) (k_law T B (tab (P := l.prog) (w := w) (base := base) T B hF 59) F) hlaw⟩
theorem walk {l : PySem.W.OpenLaw} {q : Program} {loose : List Str} {XP : (Str → Option Value) → Heap → Prop} {YP : World → Heap → Prop} {d : DefRec} {K : Params → PySem.W.Frag} (hi : PyProof.Rows.importsNone q = true) (hn : l.most = some 63) (hdf : d.params.defaults = [])
    (hY : ∀ (w : World) (h : Heap), YP w h → (K w.params).In h)
    (F : ∀ (w : World) (mg : Str → Option Value) (fa : Addr) (h : Heap), (K w.params).In h → h.Ns mainGlobals mg → mg d.name = some (.ref fa) →
      ∃ fd : FuncData, (∀ (s : Shared) (u : Value), BindsTo s fd ⟨[u], []⟩ [("script", u)]) ∧ ∀ base : Heap, (K w.params).In base → base.Ns mainGlobals mg → SysB base → FnOkG l.prog w (K w.params) mg base (L2.CX l.prog w) 120 fa fd ["script"] (spLaw (K w.params))) :
    PySem.W.WalkO q loose XP YP l.row.toRowW d [] (fun f vs => PySem.call f vs) :=
  DM.walk_ofG (n := 63) (k := 120) (x := "script") (CX := fun w => L2.CX l.prog w) (sp := fun w => spLaw (K w.params)) hi hn (by decide) hdf ⟨rfl, by decide, by decide⟩ hY F (fun _ H a ns hl _ hS => ⟨a, ns, rfl, hS, hl, fun _ => rfl⟩) fun _ H s e s' z => noX H s e s' z
end K01
open PySem PySem.W PyProof.Rows
set_option maxRecDepth 100000 in
set_option maxHeartbeats 0 in
theorem PySem.Challenge.cw_twigfinds_k01_what_is_a_tree_holds : PySem.Challenge.rw_twigfinds_k01_what_is_a_tree.Holds := by
  w_on; o_law; k_head; (case hw => w_witness2)
  k_fill
  refine K01.walk (l := PySem.Challenge.rw_twigfinds_k01_what_is_a_tree) (by decide +kernel) rfl rfl (fun w h Y => PySem.W.kIn_of Y) ?F
  case F =>
    intro w mg fa h KX G hmg
    refine' K01.all_mk K01.law_true KX G hmg ?a0 ?l0 ?c0 ?k0 ?a1 ?l1 ?c1 ?k1 ?a2 ?l2 ?c2 ?k2 ?a3 ?l3 ?c3 ?k3 ?a4 ?l4 ?c4 ?k4 ?a5 ?l5 ?c5 ?k5 ?a6 ?l6 ?c6 ?k6 ?a7 ?l7 ?c7 ?k7 ?a8 ?l8 ?c8 ?k8 ?a9 ?l9 ?c9 ?k9 ?a10 ?l10 ?c10 ?k10 ?a11 ?l11 ?c11 ?k11 ?a12 ?l12 ?c12 ?k12 ?z_bool ?z_dict ?z_enumerate ?z_int ?z_isinstance ?z_len ?z_list ?z_max ?z_min ?z_range ?z_repr ?z_str ?z_tuple ?g_LETTERS
    (case a0 => k_is)
    (case l0 => k_is)
    (case c0 => k_is)
    (case k0 => k_is)
    (case a1 => k_is)
    (case l1 => k_is)
    (case c1 => k_is)
    (case k1 => k_is)
    (case a2 => k_is)
    (case l2 => k_is)
    (case c2 => k_is)
    (case k2 => k_is)
    (case a3 => k_is)
    (case l3 => k_is)
    (case c3 => k_is)
    (case k3 => k_is)
    (case a4 => k_is)
    (case l4 => k_is)
    (case c4 => k_is)
    (case k4 => k_is)
    (case a5 => k_is)
    (case l5 => k_is)
    (case c5 => k_is)
    (case k5 => k_is)
    (case a6 => k_is)
    (case l6 => k_is)
    (case c6 => k_is)
    (case k6 => k_is)
    (case a7 => k_is)
    (case l7 => k_is)
    (case c7 => k_is)
    (case k7 => k_is)
    (case a8 => k_is)
    (case l8 => k_is)
    (case c8 => k_is)
    (case k8 => k_is)
    (case a9 => k_is)
    (case l9 => k_is)
    (case c9 => k_is)
    (case k9 => k_is)
    (case a10 => k_is)
    (case l10 => k_is)
    (case c10 => k_is)
    (case k10 => k_is)
    (case a11 => k_is)
    (case l11 => k_is)
    (case c11 => k_is)
    (case k11 => k_is)
    (case a12 => k_is)
    (case l12 => k_is)
    (case c12 => k_is)
    (case k12 => k_is)
    (case z_bool => k_is)
    (case z_dict => k_is)
    (case z_enumerate => k_is)
    (case z_int => k_is)
    (case z_isinstance => k_is)
    (case z_len => k_is)
    (case z_list => k_is)
    (case z_max => k_is)
    (case z_min => k_is)
    (case z_range => k_is)
    (case z_repr => k_is)
    (case z_str => k_is)
    (case z_tuple => k_is)
    (case g_LETTERS => k_is)
