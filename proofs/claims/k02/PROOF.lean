import PyProof.Rows.All
import Wide.All
import OpenK.AllK
import Wide.FinOn
import PySem.Challenge.RW_piecestay_k02_texts_run_through_scripts
import HandS.ForMost
import HandS.ForExc
import HandS.Wide
import HandS.TupAny
import HandS.IsInst
import HandS.Conv
import PyProof.ListStr
import PyProof.StrBlock2
import HandS.Style
import HandS.Zip
import HandS.TryOnly
import HandS.ExcInit
import KE.KExcSuper
import HandS.ExcField
import KE.KExcIs
import HandS.ExcIs
import HandS.More
import HandS.WrittenGet
import PyProof.EnumMake
import PyProof.Draws
import PyProof.TupleIter
import KE.GoesMore
import HandS.Defaults
import HandS.RaiseMore
import HandS.TupMul
import HandS.Codes
import PyProof.ReprLen
import KE.RegKSuper
set_option Elab.async false
set_option linter.all false
section
set_option linter.all false
set_option maxRecDepth 100000
set_option maxHeartbeats 4000000
/-! VL 0: defs whose callers print nothing at the moment (no guard of a repr stands below). -/
namespace VL
open PySem PySem.Spec PyProof.Rows L2
/-- room for k calls, and nobody below is within a repr -/
structure RoomG (k : Nat) (A : Around) : Prop where
  r : Room k A
  g : A.guards = some []
theorem RoomG.mono {j k : Nat} {A : Around} (r : RoomG k A) (h : j ≤ k) : RoomG j A := ⟨r.r.mono h, r.g⟩
theorem RoomG.deeper {k : Nat} {A : Around} (r : RoomG (k + 1) A) (env : Env) : RoomG k (A.deeper env) := ⟨r.r.deeper env, r.g⟩
structure FnG (P : Program) (w : World) (K : PySem.W.Frag) (mg : Str → Option Value) (base : Heap) (k : Nat) (f : Addr) (fd : FuncData) (ps : List Str) (sp : Sp) : Prop where
  len : ∀ vs H Q E, sp vs H Q E → vs.length = ps.length
  go : ∀ (A : Around) (outer : List Env) (s : Shared) (H : Hp) (args : Args) (us : List Value) (vs : List V) (Q : VK) (E : XK), RoomG k A → Env0 P w K mg base A outer s H →
    BindsTo s fd args (ps.zip us) → Vals vs us → sp vs H Q E → codeAny (model P w) A (.call (.ref f) args) (CR (L2.CX P w) outer P w H s Q E) s
section
variable {P : Program} {w : World} {K : PySem.W.Frag} {mg : Str → Option Value} {base : Heap} {k j : Nat} {f : Addr} {fd : FuncData} {ps : List Str} {sp : Sp}
theorem FnG.mono (F : FnG P w K mg base j f fd ps sp) (h : j ≤ k) : FnG P w K mg base k f fd ps sp := ⟨F.len, fun A o s H a us vs Q E r => F.go A o s H a us vs Q E (r.mono h)⟩
theorem FnG.imp {sp' : Sp} (F : FnG P w K mg base k f fd ps sp) (h : ∀ vs H Q E, sp' vs H Q E → sp vs H Q E) : FnG P w K mg base k f fd ps sp' :=
  ⟨fun vs H Q E q => F.len _ _ _ _ (h vs H Q E q), fun A o s H a us vs Q E r e b v q => F.go A o s H a us vs Q E r e b v (h _ _ _ _ q)⟩
theorem FnG.of (F : FnOk P w K mg base (L2.CX P w) k f fd ps sp) : FnG P w K mg base k f fd ps sp := ⟨F.len, fun A o s H a us vs Q E r => F.run A o s H a us vs Q E r.r⟩
/-- a def by its body, where no guard stands below -/
theorem fnG_of {name qual : Str} {params : Arguments} {body : List Stmt} {scope : Scope} {dV kV doc pm cdv ct oc : Value} {an od : Option Addr} {osl : Array (Option Value)} {N : List Str}
    (lk : K.lookup f = some ⟨oc, od, .func (PySem.W.fnOf name qual params body scope dV kV doc pm an cdv ct), osl⟩) (hcd : PySem.W.codeIn K cdv qual = true) (S : FnScope N ps scope) (len : ∀ vs H Q E, sp vs H Q E → vs.length = ps.length)
    (B : ∀ (A : Around) (outer : List Env) (s : Shared) (H : Hp) (vs : List V) (Q : VK) (E : XK), RoomG k (A.deeper (envOfC qual scope s.heap.objs.size f cdv)) → sp vs H Q E →
      ∃ t, PSs (cxOf (L2.CX P w) P w K mg base N qual scope f cdv A outer s H E) body t ∧ t { nx := fun _ H' => Q .non H', rt := Q } (L2.start N vs) H) :
    FnG P w K mg base (k + 1) f (PySem.W.fnOf name qual params body scope dV kV doc pm an cdv ct) ps sp := by
  constructor
  · exact len
  intro A outer s H args us vs Q E rg e0 bind r q0
  obtain ⟨t, ht, hq⟩ := B A outer s H vs Q E (rg.deeper _) q0
  have KX : K.In s.heap := e0.mod.kin.keeps (fun b o z => (e0.bs b o z).left)
  have lim : s.heap.NoLimit := e0.mod.nolimit.keeps (fun b o z => (e0.bs b o z).left)
  have kinds : ∀ y ∈ ps.zip us, scope.names.lookup y.1 = some .local ∨ (scope.names.lookup y.1 = some .cell ∧ ((cellsFrom (s.heap.objs.size + 1) scope.names []).lookup y.1).isSome = true) := by
    rintro ⟨n, v⟩ hy
    have hn := S.par n (List.of_mem_zip hy).left
    rcases hn with z | z
    · left; exact z
    · right; exact ⟨z, PySem.W.cellsFrom_some _ _ _ (Or.inl z)⟩
  apply codeAny_call_function rg.r.depth (KX _ _ lk) rfl S.co S.gen rfl (PySem.W.codeRec_of KX hcd)
  apply bind
  apply wpAny_newFunctionEnv_cells S.kind kinds
  rintro env rfl s1 x
  constructor
  · exact lim.keeps x.toInCall.keep
  apply codeAny_func
  have I := inv_start (CX := L2.CX P w) (P := P) (w := w) (mg := mg) (E := E) S rg.r.hd e0 (len _ _ _ _ q0) r x
  have run := ht.run [] s1 _ H _ I hq
  apply wpAny_mono run
  · intro fl s' h
    rcases fl with _ | _ | _ | u
    all_goals first
      | (obtain ⟨_, _, _, z⟩ := h; exact z.elim)
      | skip
    · obtain ⟨σ', H', J, z⟩ := h
      exact ⟨V.non, H', J.os, J.bare, J.base, J.hok, rfl, z⟩
    · obtain ⟨v, σ', H', J, rv, z⟩ := h
      exact ⟨v, H', J.os, J.bare, J.base, J.hok, rv, z⟩
  · intro e s' h
    exact h
end
section
variable {X : Cx} {k : Nat} {f : Addr} {fd : FuncData} {ps : List Str} {sp : Sp} {dvs : List V} {ds : List Value} {E : XK} {x : Str} {p pos : Pos} {e : Expr} {es : List Expr} {t : TA}
theorem runG {pins : List (Addr × Obj)} {σ : L2.St} {H : Hp} {s : Shared} {Q : VK} {us : List Value} {vs : List V} (F : FnG X.prog X.w X.K X.mg X.base k f fd ps sp) (hr : RoomG k X.A) (hb : Binds X.K fd ps ds) (hd : Vals dvs ds) (hx : Passes (L2.CX X.prog X.w) X E)
    (I : Inv X pins σ H s) (r : Vals vs us) (h : sp (vs ++ dvs) H Q E) : wpAny (model X.prog X.w) X.A (PySem.call (.ref f) us) (EP X pins σ Q) X.xe s := by
  have rr := r.append hd
  have ll := rr.length
  rw [F.len _ _ _ _ h] at ll
  have go := F.go X.A X.stack s H ⟨us, []⟩ (us ++ ds) (vs ++ dvs) Q E hr I.env0 (hb s us I.kIn ll.symm) rr h
  apply wpAny_call
  apply codeAny_mono go
  rintro (er | fl) s' z
  · exact hx pins σ H s er s' I z
  · rcases fl with _ | _ | _ | u
    · exact z.elim
    · exact z.elim
    · exact z.elim
    · exact I.after z
theorem pe_callG (F : FnG X.prog X.w X.K X.mg X.base k f fd ps sp) (hr : RoomG k X.A) (hg : Gl X x) (hm : X.mg x = some (.ref f)) (hk : PySem.W.keepIn X.K (.ref f) = true) (hb : Binds X.K fd ps ds) (hd : Vals dvs ds) (hx : Passes (L2.CX X.prog X.w) X E)
    (ha : PA X (e :: es) t) (hdb : (x == ("__debug__" : Str)) = false) (he : starEach (e :: es) X.env = (false, eval e X.env) :: starEach es X.env) (hpl : (backTo pos (starEach es X.env)).any (·.1) = false) :
    PE X (.Call (.Name x p) (e :: es) [] pos) (tCall sp dvs E t) := by
  constructor
  intro pins s σ H Q I h
  apply wpAny_Call_Name_kw
  apply ld_glob I hg hm _ hdb
  apply PySem.W.callWith_K (h₀ := X.base) I.ok.mod.kin hk _ he hpl
  apply thn (ha.run pos pins s σ H _ I h)
  rintro us s1 ⟨vs, H1, I1, r, q⟩
  exact ⟨I1.kIn, runG F hr hb hd hx I1 r q⟩
end
section
variable {P : Program} {w : World} {K : PySem.W.Frag} {mg : Str → Option Value}
/-- the script alone is known -/
def scrH (K : PySem.W.Frag) (a : Addr) (o : Obj) (xs : List V) : Hp := fun b => if b = a ∧ K.lookup a = none then some (.frz o (.lst xs)) else none
theorem scrH_some {a b : Addr} {o : Obj} {xs : List V} {u : HO} (h : scrH K a o xs b = some u) : b = a ∧ K.lookup a = none ∧ u = .frz o (.lst xs) := by
  unfold scrH at h
  split at h
  · rename_i z
    cases h
    exact ⟨z.1, z.2, rfl⟩
  · cases h
theorem top_callG {mb : Str → Option Value} {k : Nat} {fa a : Addr} {fd : FuncData} {x : Str} {sp : Sp} {s₁ : Shared} {vs : List Value} {ns : List Int}
    (KX : K.In s₁.heap) (hns : s₁.heap.Ns mainGlobals mg) (hb : s₁.heap.Ns builtinsNs mb) (hbb : ∀ x : Str, x ≠ "__name__" → mb x = bootBuiltins x) (hlim : s₁.heap.NoLimit) (hg : s₁.gens = #[])
    (ha : s₁.heap.get? a = some { cls := .type "list", data := .seq vs.toArray }) (hi : IntsAre vs ns) (hl : ns.length ≤ sizeLine) (hr : RoomG k callerA)
    (F : ∀ base : Heap, K.In base → base.Ns mainGlobals mg → FnG P w K mg base k fa fd [x] sp) (hbind : ∀ (s : Shared) (u : Value), BindsTo s fd ⟨[u], []⟩ [(x, u)])
    (hsp : ∀ H : Hp, SqL K H a (ns.map V.int) → sp [.ref a] H (fun v _ => v = .bl true) fun _ _ _ => False) :
    codeAny (model P w) callerA (.call (.ref fa) ⟨[.ref a], []⟩) (fun r s' => r = .ok (.ret (.bool true)) ∧ OldK s₁.heap s'.heap ∧ s'.os = s₁.os ∧ AllBare s'.gens) s₁ := by
  have rv := vals_ints hi
  have hvl := hi.length
  obtain ⟨H, hH⟩ : ∃ H, H = scrH K a { cls := .type "list", data := .seq vs.toArray } (ns.map V.int) := ⟨_, rfl⟩
  have get : ∀ {b : Addr} {u : HO}, H b = some u → b = a ∧ K.lookup a = none ∧ u = .frz { cls := .type "list", data := .seq vs.toArray } (.lst (ns.map V.int)) := fun z => scrH_some (hH ▸ z)
  have hS : SqL K H a (ns.map V.int) := by
    cases hk : K.lookup a with
    | none =>
      left; right
      refine ⟨{ cls := .type "list", data := .seq vs.toArray }, ?_⟩
      rw [hH]
      exact if_pos ⟨rfl, hk⟩
    | some o =>
      right
      have z := KX a o hk
      rw [ha] at z
      cases z
      exact ⟨_, vs.toArray, _, hk, rfl, rfl, rfl, by rw [List.size_toArray, hvl]; exact hl, by simpa using rv⟩
  have free : ∀ {b : Addr} {o : Obj}, s₁.heap.get? b = some o → (∀ us n, o.data ≠ .seq us n) → H b = none := fun {b o} z nd => by
    cases q : H b with
    | none => rfl
    | some u =>
      obtain ⟨rfl, _, _⟩ := get q
      rw [ha] at z
      cases z
      exact absurd rfl (nd _ _)
  have ns' : ∀ {b : Addr} {m : Str → Option Value}, s₁.heap.Ns b m → (hidT s₁.heap H).Ns b m := by
    rintro b m ⟨o, es, ep, z, dd, r⟩
    exact ⟨o, es, ep, hidT_get z (free z fun us n q => by rw [dd] at q; cases q), dd, r⟩
  have kb : K.In (hidT s₁.heap H) := fun b o z => hidT_get (KX b o z) (by
    cases q : H b with
    | none => rfl
    | some u =>
      obtain ⟨rfl, z2, _⟩ := get q
      rw [z2] at z
      cases z)
  have hok : HOk P w H s₁.heap := fun b u z => by
    obtain ⟨rfl, _, rfl⟩ := get z
    exact ⟨ha, by rw [List.length_map]; exact hl, vs, _, rv, ha⟩
  obtain ⟨mc, lim1, lim2⟩ := hlim
  have e0 : Env0 P w K mg (hidT s₁.heap H) callerA [] s₁ H :=
    { frames := rfl, mod := ⟨kb, ns' hns, ⟨mb, ns' hb, hbb⟩, ⟨mc, ns' lim1, lim2⟩⟩, bs := fun b o z => of_hidT z, bsz := Nat.le_of_eq (hidT_size _ _), funs := trivial, frf := fun b z => by simp [frs] at z, hok := hok, bare := .of_eq hg }
  have go := (F _ kb (ns' hns)).go callerA [] s₁ H ⟨[.ref a], []⟩ [.ref a] [.ref a] _ _ hr e0 (hbind s₁ (.ref a)) (.cons rfl .nil) (hsp H hS)
  apply codeAny_mono go
  rintro (er | fl) s' h
  · obtain ⟨_, _, _, _, _, _, _, _, _, _, _, _, z⟩ := h
    exact z.elim
  · rcases fl with _ | _ | _ | u
    · exact h.elim
    · exact h.elim
    · exact h.elim
    obtain ⟨v, H', os, bare, un, hok', r', q⟩ := h
    subst q
    obtain rfl : u = Value.bool true := r'
    refine ⟨rfl, OldK.of_keep fun b o z => ?_, os, bare⟩
    cases q : H b with
    | none => exact un.keep b o z q (by simp [frs]) (by simp)
    | some w2 =>
      obtain ⟨rfl, _, rfl⟩ := get q
      have z2 := (hok' _ _ (un.frzs _ _ _ q)).1
      rw [ha] at z
      cases z
      exact z2
end
/-- the goal that the head leaves, from the law's promise -/
theorem walk_ofG {l : PySem.W.OpenLaw} {n k : Nat} {q : Program} {loose : List Str} {XP : (Str → Option Value) → Heap → Prop} {YP : World → Heap → Prop} {d : DefRec} {K : Params → PySem.W.Frag} {sp : World → Sp} {x : Str}
    (hn : l.most = some n) (hn2 : n ≤ sizeLine) (hdf : d.params.defaults = []) (hr : RoomG k callerA) (hY : ∀ (w : World) (h : Heap), YP w h → (K w.params).In h)
    (F : ∀ (w : World) (mg : Str → Option Value) (fa : Addr) (h : Heap), (K w.params).In h → h.Ns mainGlobals mg → mg d.name = some (.ref fa) →
      ∃ fd : FuncData, (∀ (s : Shared) (u : Value), BindsTo s fd ⟨[u], []⟩ [(x, u)]) ∧ ∀ base : Heap, (K w.params).In base → base.Ns mainGlobals mg → FnG l.prog w (K w.params) mg base k fa fd [x] (sp w))
    (hsp : ∀ (w : World) (H : Hp) (a : Addr) (ns : List Int), ns.length ≤ n → SqL (K w.params) H a (ns.map V.int) → sp w [.ref a] H (fun v _ => v = .bl true) fun _ _ _ => False) :
    PySem.W.WalkO q loose XP YP l.row.toRowW d [] (fun f vs => PySem.call f vs) := by
  apply Att.attach_call hn hdf
  intro w s₀ s₁ mg mb fa o pm cd doc a vs ns G Y _ _ _ hm hobj hints hlen hg
  obtain ⟨fd, hb, hF⟩ := F w mg fa _ (hY w _ Y) G.T.g hm
  exact top_callG (hY w _ Y) G.T.g G.T.b G.T.builtins G.T.nolimit hg hobj hints (Nat.le_trans hlen hn2) hr hF hb fun H hS => hsp w H a ns hlen hS
end VL

end

section
set_option linter.all false
set_option maxRecDepth 100000
set_option maxHeartbeats 4000000
/-! VL 1: data, what stands for it in the heap, frames' cells, what an expression does to them. -/
namespace VL
open PySem PySem.Spec PyProof.Rows L2

/-- data: what a value stands for, all through -/
inductive D where
  | non
  | bl (b : Bool)
  | int (i : Int)
  | str (s : Str)
  | lst (xs : List D)
  | tup (xs : List D)
  | ins (C : Addr) (fs : List (Str × D))
  /-- a caught exception of an own class, its fields -/
  | exc (C : Addr) (fs : List (Str × D))
  /-- a list of ints that nobody changes (the script) -/
  | scr (ns : List Int)
/-- the object of an exception of the class at C that was caught, its dict at dd -/
def ExK (C dd a : Addr) : HO := .ext fun h => ∃ (oe : Obj) (vs : Array Value), h.get? a = some oe ∧ Zc (.ref C) (some dd) oe ∧ oe.data = .fields vs

mutual
inductive Rep (K : PySem.W.Frag) (H : Hp) : V → D → Prop
  | non : Rep K H .non .non
  | bl (b : Bool) : Rep K H (.bl b) (.bl b)
  | int (i : Int) : Rep K H (.int i) (.int i)
  | str (x : Str) : Rep K H (.str x) (.str x)
  | lst {a : Addr} {xs : List V} {ds : List D} : H a = some (.lst xs) → RepA K H xs ds → Rep K H (.ref a) (.lst ds)
  | tup {a : Addr} {xs : List V} {ds : List D} : SqT K H a xs → RepA K H xs ds → Rep K H (.ref a) (.tup ds)
  | ins {a C dx : Addr} {fs : List (Str × V)} {gs : List (Str × D)} : H a = some (.ins C dx fs) → RepF K H fs gs → Rep K H (.ref a) (.ins C gs)
  | exc {a C dd : Addr} {fs : List (Str × V)} {gs : List (Str × D)} : H a = some (ExK C dd a) → H dd = some (.xd fs) → RepF K H fs gs → Rep K H (.ref a) (.exc C gs)
  | scr {a : Addr} {ns : List Int} : SqL K H a (ns.map V.int) → Rep K H (.ref a) (.scr ns)
inductive RepA (K : PySem.W.Frag) (H : Hp) : List V → List D → Prop
  | nil : RepA K H [] []
  | cons {v : V} {vs : List V} {d : D} {ds : List D} : Rep K H v d → RepA K H vs ds → RepA K H (v :: vs) (d :: ds)
inductive RepF (K : PySem.W.Frag) (H : Hp) : List (Str × V) → List (Str × D) → Prop
  | nil : RepF K H [] []
  | cons {f : Str} {v : V} {vs : List (Str × V)} {d : D} {ds : List (Str × D)} : Rep K H v d → RepF K H vs ds → RepF K H ((f, v) :: vs) ((f, d) :: ds)
end

/-- G within H -/
def Le (G H : Hp) : Prop := ∀ a o, G a = some o → H a = some o
theorem Le.refl (G : Hp) : Le G G := fun _ _ h => h
theorem Le.trans {F G H : Hp} (a : Le F G) (b : Le G H) : Le F H := fun x o h => b x o (a x o h)
theorem Le.new {G : Hp} {p : Addr} {o : HO} (h : G p = none) : Le G (upd G p o) := fun a u e => by
  rw [upd_ne (ne_of_none e h)]
  exact e
theorem le_rd {H H' : Hp} {a : Addr} {u : HO} (e : Le H H') (h : Rd H a u) : Rd H' a u := by
  rcases h with h | ⟨o, h⟩
  · exact Or.inl (e a _ h)
  · exact Or.inr ⟨o, e a _ h⟩
theorem le_t {K : PySem.W.Frag} {H H' : Hp} {a : Addr} {xs : List V} (e : Le H H') (h : SqT K H a xs) : SqT K H' a xs := by
  rcases h with h | h
  · exact Or.inl (le_rd e h)
  · exact Or.inr h

theorem le_l {K : PySem.W.Frag} {H H' : Hp} {a : Addr} {xs : List V} (e : Le H H') (h : SqL K H a xs) : SqL K H' a xs := by
  rcases h with h | h
  · exact Or.inl (le_rd e h)
  · exact Or.inr h

mutual
theorem Rep.mono {K : PySem.W.Frag} {G H : Hp} (e : Le G H) : ∀ (d : D) (v : V), Rep K G v d → Rep K H v d
  | .non, _, h => by cases h; exact .non
  | .bl b, _, h => by cases h; exact .bl b
  | .int i, _, h => by cases h; exact .int i
  | .str x, _, h => by cases h; exact .str x
  | .lst ds, _, h => by
    cases h with
    | lst h1 h2 => exact .lst (e _ _ h1) (RepA.mono e ds _ h2)
  | .tup ds, _, h => by
    cases h with
    | tup h1 h2 => exact .tup (le_t e h1) (RepA.mono e ds _ h2)
  | .ins C gs, _, h => by
    cases h with
    | ins h1 h2 => exact .ins (e _ _ h1) (RepF.mono e gs _ h2)
  | .exc C gs, _, h => by
    cases h with
    | exc h1 h0 h2 => exact .exc (e _ _ h1) (e _ _ h0) (RepF.mono e gs _ h2)
  | .scr ns, _, h => by
    cases h with
    | scr h1 => exact .scr (le_l e h1)
theorem RepA.mono {K : PySem.W.Frag} {G H : Hp} (e : Le G H) : ∀ (ds : List D) (vs : List V), RepA K G vs ds → RepA K H vs ds
  | [], _, h => by cases h; exact .nil
  | d :: ds, _, h => by
    cases h with
    | cons h1 h2 => exact .cons (Rep.mono e d _ h1) (RepA.mono e ds _ h2)
theorem RepF.mono {K : PySem.W.Frag} {G H : Hp} (e : Le G H) : ∀ (ds : List (Str × D)) (vs : List (Str × V)), RepF K G vs ds → RepF K H vs ds
  | [], _, h => by cases h; exact .nil
  | (f, d) :: ds, _, h => by
    cases h with
    | cons h1 h2 => exact .cons (Rep.mono e d _ h1) (RepF.mono e ds _ h2)
end
theorem Rep.up {K : PySem.W.Frag} {G H : Hp} {d : D} {v : V} (h : Rep K G v d) (e : Le G H) : Rep K H v d := Rep.mono e d v h
theorem RepA.up {K : PySem.W.Frag} {G H : Hp} {d : List D} {v : List V} (h : RepA K G v d) (e : Le G H) : RepA K H v d := RepA.mono e d v h
theorem RepF.up {K : PySem.W.Frag} {G H : Hp} {d : List (Str × D)} {v : List (Str × V)} (h : RepF K G v d) (e : Le G H) : RepF K H v d := RepF.mono e d v h
section
variable {K : PySem.W.Frag} {G H : Hp}
theorem RepA.length : ∀ {vs : List V} {ds : List D}, RepA K G vs ds → vs.length = ds.length
  | _, _, .nil => rfl
  | _, _, .cons _ t => by rw [List.length_cons, List.length_cons, RepA.length t]
theorem RepA.get : ∀ {vs : List V} {ds : List D} {i : Nat} {v : V}, RepA K G vs ds → vs[i]? = some v → ∃ d, ds[i]? = some d ∧ Rep K G v d
  | _, _, _, _, .nil, e => by simp at e
  | _, _, 0, _, .cons r _, e => by simp at e; subst e; exact ⟨_, rfl, r⟩
  | _, _, i + 1, v, .cons _ t, e => by
    obtain ⟨u, h1, h2⟩ := RepA.get (i := i) (v := v) t (by simpa using e)
    exact ⟨u, by simpa using h1, h2⟩
theorem RepA.getD : ∀ {vs : List V} {ds : List D} {i : Nat} {d : D}, RepA K G vs ds → ds[i]? = some d → ∃ v, vs[i]? = some v ∧ Rep K G v d
  | _, _, _, _, .nil, e => by simp at e
  | _, _, 0, _, .cons r _, e => by simp at e; subst e; exact ⟨_, rfl, r⟩
  | _, _, i + 1, v, .cons _ t, e => by
    obtain ⟨u, h1, h2⟩ := RepA.getD (i := i) (d := v) t (by simpa using e)
    exact ⟨u, by simpa using h1, h2⟩
theorem RepA.append : ∀ {xs ys : List V} {us ws : List D}, RepA K G xs us → RepA K G ys ws → RepA K G (xs ++ ys) (us ++ ws)
  | _, _, _, _, .nil, s => s
  | _, _, _, _, .cons r t, s => .cons r (RepA.append t s)
theorem RepA.take : ∀ {xs : List V} {us : List D} (n : Nat), RepA K G xs us → RepA K G (xs.take n) (us.take n)
  | _, _, 0, _ => .nil
  | _, _, _ + 1, .nil => .nil
  | _, _, n + 1, .cons r t => .cons r (RepA.take n t)
theorem RepA.drop : ∀ {xs : List V} {us : List D} (n : Nat), RepA K G xs us → RepA K G (xs.drop n) (us.drop n)
  | _, _, 0, r => r
  | _, _, _ + 1, .nil => .nil
  | _, _, n + 1, .cons _ t => RepA.drop n t
theorem RepA.set {x : V} {u : D} (r : Rep K G x u) : ∀ {xs : List V} {us : List D} (i : Nat), RepA K G xs us → RepA K G (xs.set i x) (us.set i u)
  | _, _, _, .nil => .nil
  | _, _, 0, .cons _ t => .cons r t
  | _, _, i + 1, .cons q t => .cons q (RepA.set r i t)
theorem RepA.dropLast : ∀ {xs : List V} {us : List D}, RepA K G xs us → RepA K G xs.dropLast us.dropLast
  | _, _, .nil => .nil
  | _, _, .cons r .nil => .nil
  | _, _, .cons r (.cons q t) => .cons r (RepA.dropLast (.cons q t))
theorem RepA.map_int : ∀ {vs : List V} {ns : List Int}, RepA K G vs (ns.map D.int) → vs = ns.map V.int
  | _, [], .nil => rfl
  | _, n :: ns, .cons r t => by
    cases r
    rw [List.map_cons, RepA.map_int t]
theorem RepA.map_bl : ∀ {vs : List V} {ns : List Bool}, RepA K G vs (ns.map D.bl) → vs = ns.map V.bl
  | _, [], .nil => rfl
  | _, n :: ns, .cons r t => by
    cases r
    rw [List.map_cons, RepA.map_bl t]
theorem RepA.map_str : ∀ {vs : List V} {ns : List Str}, RepA K G vs (ns.map D.str) → vs = ns.map V.str
  | _, [], .nil => rfl
  | _, n :: ns, .cons r t => by
    cases r
    rw [List.map_cons, RepA.map_str t]
theorem RepA.of_int : ∀ (ns : List Int), RepA K G (ns.map V.int) (ns.map D.int)
  | [] => .nil
  | n :: ns => .cons (.int n) (RepA.of_int ns)
theorem RepA.of_str : ∀ (ns : List Str), RepA K G (ns.map V.str) (ns.map D.str)
  | [] => .nil
  | n :: ns => .cons (.str n) (RepA.of_str ns)
theorem RepA.rep {xs : List V} {us : List D} (h : RepA K G xs us) : ∀ k : Nat, RepA K G (List.replicate k xs).flatten (List.replicate k us).flatten
  | 0 => .nil
  | k + 1 => by rw [List.replicate_succ, List.replicate_succ, List.flatten_cons, List.flatten_cons]; exact h.append (RepA.rep h k)
theorem RepF.look : ∀ {vs : List (Str × V)} {ds : List (Str × D)} {f : Str} {d : D}, RepF K G vs ds → ds.lookup f = some d → ∃ v, vs.lookup f = some v ∧ Rep K G v d
  | _, _, _, _, .nil, e => by simp at e
  | _, _, f, d, .cons (f := g) (v := v) (d := d') r t, e => by
    by_cases h : f == g
    · rw [List.lookup_cons, h] at e
      simp at e
      subst e
      exact ⟨v, by rw [List.lookup_cons, h], r⟩
    · have h' : (f == g) = false := by simpa using h
      rw [List.lookup_cons, h'] at e
      obtain ⟨u, h1, h2⟩ := RepF.look t e
      exact ⟨u, by rw [List.lookup_cons, h']; exact h1, h2⟩
theorem RepF.none : ∀ {vs : List (Str × V)} {ds : List (Str × D)} {f : Str}, RepF K G vs ds → ds.lookup f = none → vs.lookup f = none
  | _, _, _, .nil, _ => rfl
  | _, _, f, .cons (f := g) (v := v) (d := d') r t, e => by
    by_cases h : f == g
    · rw [List.lookup_cons, h] at e
      simp at e
    · have h' : (f == g) = false := by simpa using h
      rw [List.lookup_cons, h'] at e
      rw [List.lookup_cons, h']
      exact RepF.none t e
end

/-! ### a frame's slots as data -/
inductive Cell where
  /-- nothing is known -/
  | un
  /-- a value that stays -/
  | pv (d : D)
  /-- a list that this frame alone may change; b: made here -/
  | ol (b : Bool) (ds : List D)
abbrev Sl := List Cell
/-- a body's entry: the heap, what of it is data that stays, the lists that are lent -/
structure Ent where
  H0 : Hp
  G0 : Hp
  J : Addr → Prop

structure ERep (K : PySem.W.Frag) (c : Ent) (O : Addr → Prop) (G H : Hp) (σ : L2.St) (ρ : Sl) : Prop where
  sub : Le G H
  g0 : Le c.G0 G
  nw : ∀ a o, G a = some o → c.G0 a = some o ∨ c.H0 a = none
  keep : ∀ a o, c.H0 a = some o → ¬ c.J a → H a = some o
  dom : ∀ a, c.H0 a ≠ none → H a ≠ none
  og : ∀ a, O a → G a = none
  oj : ∀ a, O a → c.J a ∨ c.H0 a = none
  oh : ∀ a, O a → H a ≠ none
  len : ρ.length = σ.length
  pv : ∀ (i : Nat) (d : D), ρ[i]? = some (.pv d) → ∃ v, σ[i]? = some (some v) ∧ Rep K G v d
  ol : ∀ (i : Nat) (b : Bool) (ds : List D), ρ[i]? = some (.ol b ds) → ∃ a xs, σ[i]? = some (some (.ref a)) ∧ O a ∧ (if b = true then c.H0 a = none else c.J a) ∧ H a = some (.lst xs) ∧ RepA K G xs ds
  dist : ∀ (i j : Nat) (b b' : Bool) (ds ds' : List D) (a : Addr), i ≠ j → ρ[i]? = some (.ol b ds) → ρ[j]? = some (.ol b' ds') → σ[i]? = some (some (.ref a)) → σ[j]? ≠ some (some (.ref a))

/-- what an expression may do -/
structure Ext (O : Addr → Prop) (G H G' H' : Hp) : Prop where
  g : Le G G'
  k : ∀ a o, H a = some o → ¬ O a → H' a = some o
  n : ∀ a o, G' a = some o → G a = some o ∨ H a = none
  d : ∀ a, H a ≠ none → H' a ≠ none
theorem Ext.refl {O : Addr → Prop} {G H : Hp} : Ext O G H G H := ⟨Le.refl _, fun _ _ h _ => h, fun _ _ h => .inl h, fun _ h => h⟩
theorem Ext.trans {O : Addr → Prop} {G H G1 H1 G2 H2 : Hp} (a : Ext O G H G1 H1) (b : Ext O G1 H1 G2 H2) : Ext O G H G2 H2 :=
  ⟨a.g.trans b.g, fun x o h n => b.k x o (a.k x o h n) n, fun x o h => by
    rcases b.n x o h with z | z
    · exact a.n x o z
    · refine .inr ?_
      cases q : H x with
      | none => rfl
      | some u => exact absurd z (a.d x (by rw [q]; simp)), fun x h => b.d x (a.d x h)⟩

/-- new objects that stay -/
inductive Grw (G H : Hp) : Hp → Hp → Prop
  | refl : Grw G H G H
  | new {G1 H1 : Hp} {p : Addr} {o : HO} : Grw G H G1 H1 → H1 p = none → Grw G H (upd G1 p o) (upd H1 p o)
theorem Grw.one {G H : Hp} {p : Addr} {o : HO} (h : H p = none) : Grw G H (upd G p o) (upd H p o) := .new .refl h
theorem none_of_le {G H : Hp} (e : Le G H) {p : Addr} (h : H p = none) : G p = none := by
  cases q : G p with
  | none => rfl
  | some o => rw [e p o q] at h; cases h
section
variable {K : PySem.W.Frag} {c : Ent} {O : Addr → Prop} {G H G' H' : Hp} {σ : L2.St} {ρ : Sl}
theorem ERep.fresh (e : ERep K c O G H σ ρ) {p : Addr} (h : H p = none) : c.H0 p = none ∧ G p = none ∧ ¬ O p := by
  refine ⟨?_, none_of_le e.sub h, fun o => e.oh p o h⟩
  cases q : c.H0 p with
  | none => rfl
  | some o => exact absurd h (e.dom p (by rw [q]; simp))
/-- an object of ours that is none of the data -/
theorem ERep.newH (e : ERep K c O G H σ ρ) {p : Addr} {o : HO} (h : H p = none) : ERep K c O G (upd H p o) σ ρ := by
  obtain ⟨f1, f2, f3⟩ := e.fresh h
  have up : ∀ a u, H a = some u → upd H p o a = some u := fun a u q => by rw [upd_ne (ne_of_none q h)]; exact q
  have nn : ∀ a, H a ≠ none → upd H p o a ≠ none := fun a q => by
    by_cases z : a = p
    · subst z; exact absurd h q
    · rw [upd_ne z]; exact q
  exact ⟨fun a u q => up a u (e.sub a u q), e.g0, e.nw, fun a u q n => up a u (e.keep a u q n), fun a q => nn a (e.dom a q), e.og, e.oj, fun a q => nn a (e.oh a q), e.len, e.pv,
    fun i b ds q => by obtain ⟨a, xs, h1, h2, h3, h4, h5⟩ := e.ol i b ds q; exact ⟨a, xs, h1, h2, h3, up a _ h4, h5⟩, e.dist⟩
/-- an object that is data from now on -/
theorem ERep.newG (e : ERep K c O G H σ ρ) {p : Addr} {o : HO} (h1 : c.H0 p = none) (h2 : ¬ O p) (h3 : G p = none) (h4 : H p = some o) : ERep K c O (upd G p o) H σ ρ := by
  have le : Le G (upd G p o) := Le.new h3
  refine ⟨fun a u q => ?_, e.g0.trans le, fun a u q => ?_, e.keep, e.dom, fun a q => ?_, e.oj, e.oh, e.len, fun i d q => ?_, fun i b ds q => ?_, e.dist⟩
  · by_cases z : a = p
    · subst z; rw [upd_same] at q; cases q; exact h4
    · rw [upd_ne z] at q; exact e.sub a u q
  · by_cases z : a = p
    · subst z; exact .inr h1
    · rw [upd_ne z] at q; exact e.nw a u q
  · have z : a ≠ p := fun w => h2 (w ▸ q)
    rw [upd_ne z]; exact e.og a q
  · obtain ⟨v, q1, q2⟩ := e.pv i d q; exact ⟨v, q1, q2.up le⟩
  · obtain ⟨a, xs, q1, q2, q3, q4, q5⟩ := e.ol i b ds q; exact ⟨a, xs, q1, q2, q3, q4, q5.up le⟩
theorem ERep.new (e : ERep K c O G H σ ρ) {p : Addr} {o : HO} (h : H p = none) : ERep K c O (upd G p o) (upd H p o) σ ρ := by
  obtain ⟨f1, f2, f3⟩ := e.fresh h
  exact (e.newH h).newG f1 f3 f2 upd_same
theorem Ext.newH {p : Addr} {o : HO} (h : H p = none) : Ext O G H G (upd H p o) :=
  ⟨Le.refl _, fun a u q _ => by rw [upd_ne (ne_of_none q h)]; exact q, fun _ _ q => .inl q, fun a q => by
    by_cases z : a = p
    · subst z; exact absurd h q
    · rw [upd_ne z]; exact q⟩
theorem Ext.new {p : Addr} {o : HO} (s : Le G H) (h : H p = none) : Ext O G H (upd G p o) (upd H p o) :=
  ⟨Le.new (none_of_le s h), (Ext.newH (O := O) (G := G) h).k, fun a u q => by
    by_cases z : a = p
    · subst z; exact .inr h
    · rw [upd_ne z] at q; exact .inl q, (Ext.newH (O := O) (G := G) h).d⟩
theorem ERep.grw (e : ERep K c O G H σ ρ) (g : Grw G H G' H') : ERep K c O G' H' σ ρ ∧ Ext O G H G' H' := by
  induction g with
  | refl => exact ⟨e, Ext.refl⟩
  | new g h ih => exact ⟨ih.1.new h, ih.2.trans (Ext.new ih.1.sub h)⟩
theorem Grw.le (s : Le G H) (g : Grw G H G' H') : Le G G' ∧ Le G' H' := by
  induction g with
  | refl => exact ⟨Le.refl _, s⟩
  | @new G1 H1 p o g h ih =>
    refine ⟨ih.1.trans (Le.new (none_of_le ih.2 h)), fun a u q => ?_⟩
    by_cases z : a = p
    · subst z; rw [upd_same] at q ⊢; exact q
    · rw [upd_ne z] at q ⊢; exact ih.2 a u q
end

/-! ### values -/
/-- shapes of cells: own ones stay own ones -/
def Shp (ρ ρ' : Sl) : Prop := ∀ (i : Nat) (b : Bool) (ds : List D), ρ[i]? = some (.ol b ds) → ∃ ds', ρ'[i]? = some (.ol b ds')
theorem Shp.refl (ρ : Sl) : Shp ρ ρ := fun _ _ ds h => ⟨ds, h⟩
theorem Shp.trans {ρ ρ' ρ'' : Sl} (a : Shp ρ ρ') (b : Shp ρ' ρ'') : Shp ρ ρ'' := fun i f ds h => by
  obtain ⟨ds', h'⟩ := a i f ds h
  exact b i f ds' h'
inductive Val where
  | d (d : D)
  | own (i : Nat)
def VRep (K : PySem.W.Frag) (G : Hp) (σ : L2.St) (ρ : Sl) (x : V) : Val → Prop
  | .d d => Rep K G x d
  | .own i => σ[i]? = some (some x) ∧ ∃ b ds, ρ[i]? = some (.ol b ds)
def rd (ρ : Sl) : Val → Option D
  | .d d => some d
  | .own i => match ρ[i]? with
    | some (.ol _ ds) => some (.lst ds)
    | _ => none
/-- a value at hand: its top stands in H, what it holds is data -/
inductive RepT (K : PySem.W.Frag) (G H : Hp) : V → D → Prop
  | non : RepT K G H .non .non
  | bl (b : Bool) : RepT K G H (.bl b) (.bl b)
  | int (i : Int) : RepT K G H (.int i) (.int i)
  | str (x : Str) : RepT K G H (.str x) (.str x)
  | lst {a : Addr} {xs : List V} {ds : List D} : H a = some (.lst xs) → RepA K G xs ds → RepT K G H (.ref a) (.lst ds)
  | tup {a : Addr} {xs : List V} {ds : List D} : SqT K G a xs → RepA K G xs ds → RepT K G H (.ref a) (.tup ds)
  | ins {a C dx : Addr} {fs : List (Str × V)} {gs : List (Str × D)} : G a = some (.ins C dx fs) → RepF K G fs gs → RepT K G H (.ref a) (.ins C gs)
  | exc {a C dd : Addr} {fs : List (Str × V)} {gs : List (Str × D)} : G a = some (ExK C dd a) → G dd = some (.xd fs) → RepF K G fs gs → RepT K G H (.ref a) (.exc C gs)
  | scr {a : Addr} {ns : List Int} : SqL K G a (ns.map V.int) → RepT K G H (.ref a) (.scr ns)
section
variable {K : PySem.W.Frag} {c : Ent} {O : Addr → Prop} {G H G' H' : Hp} {σ : L2.St} {ρ : Sl}
theorem Rep.top {x : V} {d : D} (h : Rep K G x d) (s : Le G H) : RepT K G H x d := by
  cases h with
  | non => exact .non
  | bl b => exact .bl b
  | int i => exact .int i
  | str x => exact .str x
  | lst h1 h2 => exact .lst (s _ _ h1) h2
  | tup h1 h2 => exact .tup h1 h2
  | ins h1 h2 => exact .ins h1 h2
  | exc h1 h0 h2 => exact .exc h1 h0 h2
  | scr h1 => exact .scr h1
theorem RepT.rep {x : V} {d : D} (h : RepT K G H x d) (s : Le G H) : Rep K H x d := by
  cases h with
  | non => exact .non
  | bl b => exact .bl b
  | int i => exact .int i
  | str x => exact .str x
  | lst h1 h2 => exact .lst h1 (h2.up s)
  | tup h1 h2 => exact .tup (le_t s h1) (h2.up s)
  | ins h1 h2 => exact .ins (s _ _ h1) (h2.up s)
  | exc h1 h0 h2 => exact .exc (s _ _ h1) (s _ _ h0) (h2.up s)
  | scr h1 => exact .scr (le_l s h1)
theorem ERep.topV (e : ERep K c O G H σ ρ) {x : V} {v : Val} {d : D} (h : VRep K G σ ρ x v) (r : rd ρ v = some d) : RepT K G H x d := by
  cases v with
  | d d' =>
    have r' : some d' = some d := r
    cases r'
    exact Rep.top h e.sub
  | own i =>
    obtain ⟨h1, b, ds, h2⟩ := h
    have r' : (match ρ[i]? with | some (.ol _ ds) => some (D.lst ds) | _ => none) = some d := r
    rw [h2] at r'
    cases r'
    obtain ⟨a, xs, q1, q2, q3, q4, q5⟩ := e.ol i b ds h2
    rw [h1] at q1
    cases q1
    exact .lst q4 q5
theorem VRep.up {ρ' : Sl} {x : V} {v : Val} (h : VRep K G σ ρ x v) (e : Le G G') (hs : Shp ρ ρ') : VRep K G' σ ρ' x v := by
  cases v with
  | d d => exact Rep.up h e
  | own i =>
    obtain ⟨h1, b, ds, h2⟩ := h
    obtain ⟨ds', h3⟩ := hs i b ds h2
    exact ⟨h1, b, ds', h3⟩
end

/-- an exception's data: its class, its fields -/
structure Ex where
  C : Addr
  fs : List (Str × D)
def ExR (K : PySem.W.Frag) (G : Hp) (cls : Value) (dd : Option Addr) (x : Ex) : Prop :=
  cls = .ref x.C ∧ ∃ (d : Addr) (fs : List (Str × V)), dd = some d ∧ G d = some (.xd fs) ∧ RepF K G fs x.fs

/-- what code comes to -/
inductive Res (α : Type) where
  | ok (a : α) (ρ : Sl)
  | exc (x : Ex) (ρ : Sl)
  | stuck
def Res.bind {α β : Type} (r : Res α) (k : α → Sl → Res β) : Res β := match r with
  | .ok v ρ => k v ρ
  | .exc x ρ => .exc x ρ
  | .stuck => .stuck
def Post {α β : Type} (K : PySem.W.Frag) (W : XK) (c : Ent) (O : Addr → Prop) (G H : Hp) (σ : L2.St) (ρ : Sl) (rel : Hp → Sl → β → α → Prop) (Q : β → Hp → Prop) : Res α → Prop
  | .ok v ρ' => ∀ x G' H', ERep K c O G' H' σ ρ' → Ext O G H G' H' → Shp ρ ρ' → rel G' ρ' x v → Q x H'
  | .exc x ρ' => ∀ cls dd G' H', ERep K c O G' H' σ ρ' → Ext O G H G' H' → Shp ρ ρ' → ExR K G' cls dd x → W cls dd H'
  | .stuck => False
/-- the reading t does what f says -/
def Vv {α β : Type} (K : PySem.W.Frag) (W : XK) (rel : L2.St → Hp → Sl → β → α → Prop) (t : L2.St → Hp → (β → Hp → Prop) → Prop) (f : Sl → Res α) : Prop :=
  ∀ (c : Ent) (O : Addr → Prop) (G H : Hp) (σ : L2.St) (ρ : Sl), ERep K c O G H σ ρ → ∀ Q : β → Hp → Prop, Post K W c O G H σ ρ (rel σ) Q (f ρ) → t σ H Q
/-- a value; a truth; a list of values -/
def relE (K : PySem.W.Frag) : L2.St → Hp → Sl → V → Val → Prop := fun σ G ρ x v => VRep K G σ ρ x v
def relT : L2.St → Hp → Sl → Bool → Bool → Prop := fun _ _ _ b b' => b = b'
def relA (K : PySem.W.Frag) : L2.St → Hp → Sl → List V → List Val → Prop := fun σ G ρ xs vs => Paired (VRep K G σ ρ) xs vs
section
variable {α β α' β' : Type} {K : PySem.W.Frag} {W : XK} {c : Ent} {O : Addr → Prop} {G H G1 H1 : Hp} {σ : L2.St} {ρ ρ1 : Sl}
theorem Post.mono {rel : Hp → Sl → β → α → Prop} {Q : β → Hp → Prop} {r : Res α} (e : Ext O G H G1 H1) (s : Shp ρ ρ1) (h : Post K W c O G H σ ρ rel Q r) : Post K W c O G1 H1 σ ρ1 rel Q r := by
  cases r with
  | ok v ρ' => exact fun x G' H' e1 e2 s1 r => h x G' H' e1 (e.trans e2) (s.trans s1) r
  | exc x ρ' => exact fun cl dd G' H' e1 e2 s1 r => h cl dd G' H' e1 (e.trans e2) (s.trans s1) r
  | stuck => exact h
/-- one after the other -/
theorem Vv.thn {rel : L2.St → Hp → Sl → β → α → Prop} {rel2 : Hp → Sl → β' → α' → Prop} {t : L2.St → Hp → (β → Hp → Prop) → Prop} {f : Sl → Res α} {k : α → Sl → Res α'} {R : β → Hp → Prop} {Q : β' → Hp → Prop}
    (h : Vv K W rel t f) (e : ERep K c O G H σ ρ) (hp : Post K W c O G H σ ρ rel2 Q ((f ρ).bind k))
    (hr : ∀ a ρ1 x G1 H1, ERep K c O G1 H1 σ ρ1 → Ext O G H G1 H1 → Shp ρ ρ1 → rel σ G1 ρ1 x a → Post K W c O G1 H1 σ ρ1 rel2 Q (k a ρ1) → R x H1) : t σ H R := by
  refine h c O G H σ ρ e R ?_
  cases q : f ρ with
  | ok v ρ1 =>
    rw [q] at hp
    intro x G1 H1 e1 x1 s1 r1
    exact hr v ρ1 x G1 H1 e1 x1 s1 r1 (Post.mono x1 s1 hp)
  | exc x ρ1 =>
    rw [q] at hp
    exact hp
  | stuck =>
    rw [q] at hp
    exact hp
theorem Post.now {d : D} {x : V} {Q : VK} (e : ERep K c O G H σ ρ) (g : Grw G H G1 H1) (r : Rep K G1 x d) (h : Post K W c O G H σ ρ (relE K σ) Q (.ok (.d d) ρ)) : Q x H1 :=
  let ⟨e1, e2⟩ := e.grw g
  h x G1 H1 e1 e2 (Shp.refl ρ) r
theorem Post.val {v : Val} {x : V} {Q : VK} (e : ERep K c O G H σ ρ) (r : VRep K G σ ρ x v) (h : Post K W c O G H σ ρ (relE K σ) Q (.ok v ρ)) : Q x H := h x G H e Ext.refl (Shp.refl ρ) r
theorem Post.tst {b : Bool} {Q : Bool → Hp → Prop} (e : ERep K c O G H σ ρ) (h : Post K W c O G H σ ρ (relT σ) Q (.ok b ρ)) : Q b H := h b G H e Ext.refl (Shp.refl ρ) rfl
end
end VL

end

section
set_option linter.all false
set_option maxRecDepth 100000
set_option maxHeartbeats 4000000
/-! VL 2: operators and built-in calls on data. -/
namespace VL
open PySem PySem.Spec PyProof.Rows L2

/-- the longest list, tuple or text -/
abbrev SZ : Nat := 16777216
theorem sz_of {n : Nat} (h : n ≤ SZ) : n ≤ sizeLine := by rw [sizeLine_eq]; exact h
theorem sz_lt {n : Nat} (h : n < SZ) : n < sizeLine := by rw [sizeLine_eq]; exact h
theorem of_sz {n : Nat} (h : n ≤ sizeLine) : n ≤ SZ := by rw [sizeLine_eq] at h; exact h

/-! ### what a two-place rule does to data -/
def ROk (K : PySem.W.Frag) (r : R2) (g : D → D → Option D) : Prop :=
  ∀ (G H : Hp) (x y : V) (dx dy d : D) (Q : VK), Le G H → RepT K G H x dx → RepT K G H y dy → g dx dy = some d →
    (∀ z G' H', Grw G H G' H' → Rep K G' z d → Q z H') → r x y H Q
def OpD (X : Cx) (f : Value → Value → Sem Value) (g : D → D → Option D) : Prop := ∃ r : R2, OpR X f r ∧ ROk X.K r g
def COk (K : PySem.W.Frag) (r : List V → Hp → VK → Prop) (g : List D → Option D) : Prop :=
  ∀ (G H : Hp) (xs : List V) (ds : List D) (d : D) (Q : VK), Le G H → Paired (RepT K G H) xs ds → g ds = some d →
    (∀ z G' H', Grw G H G' H' → Rep K G' z d → Q z H') → r xs H Q
def CallD (X : Cx) (f : Value) (g : List D → Option D) : Prop := ∃ r, CallR X f r ∧ COk X.K r g

section
variable {K : PySem.W.Frag} {G H : Hp}
theorem new_lst {ds : List D} {xs : List V} {Q : VK} {p : Addr} (s : Le G H) (hp : H p = none) (r : RepA K G xs ds) (h : ∀ z G' H', Grw G H G' H' → Rep K G' z (.lst ds) → Q z H') : Q (.ref p) (upd H p (.lst xs)) :=
  h (.ref p) (upd G p (.lst xs)) _ (.one hp) (.lst upd_same (r.up (Le.new (none_of_le s hp))))
theorem new_tup {ds : List D} {xs : List V} {Q : VK} {p : Addr} (s : Le G H) (hp : H p = none) (r : RepA K G xs ds) (h : ∀ z G' H', Grw G H G' H' → Rep K G' z (.tup ds) → Q z H') : Q (.ref p) (upd H p (.tup xs)) :=
  h (.ref p) (upd G p (.tup xs)) _ (.one hp) (.tup (.inl (.inl upd_same)) (r.up (Le.new (none_of_le s hp))))
theorem as_is {d : D} {x : V} {Q : VK} (r : Rep K G x d) (h : ∀ z G' H', Grw G H G' H' → Rep K G' z d → Q z H') : Q x H := h x G H .refl r
theorem RepT.i {x : V} {i : Int} (h : RepT K G H x (.int i)) : x = .int i := by cases h; rfl
theorem RepT.b {x : V} {i : Bool} (h : RepT K G H x (.bl i)) : x = .bl i := by cases h; rfl
theorem RepT.s {x : V} {i : Str} (h : RepT K G H x (.str i)) : x = .str i := by cases h; rfl
theorem RepT.n {x : V} (h : RepT K G H x .non) : x = .non := by cases h; rfl
theorem RepT.l {x : V} {ds : List D} (h : RepT K G H x (.lst ds)) : ∃ a xs, x = .ref a ∧ H a = some (.lst xs) ∧ RepA K G xs ds := by
  cases h with
  | lst h1 h2 => exact ⟨_, _, rfl, h1, h2⟩
theorem RepT.t {x : V} {ds : List D} (h : RepT K G H x (.tup ds)) : ∃ a xs, x = .ref a ∧ SqT K G a xs ∧ RepA K G xs ds := by
  cases h with
  | tup h1 h2 => exact ⟨_, _, rfl, h1, h2⟩
theorem RepA.nil_iff {xs : List V} {ds : List D} (h : RepA K G xs ds) : xs = [] ↔ ds = [] := by
  cases h <;> simp
end

/-! ### + - * // % ** -/
def dAdd : D → D → Option D
  | .int i, .int j => some (.int (i + j))
  | .str a, .str b => if a.length + b.length ≤ SZ then some (.str (a ++ b)) else none
  | .lst a, .lst b => if a.length + b.length ≤ SZ then some (.lst (a ++ b)) else none
  | .tup a, .tup b => if a.length + b.length ≤ SZ then some (.tup (a ++ b)) else none
  | _, _ => none
theorem opd_add {X : Cx} : OpD X (binaryOp .Add) dAdd := by
  refine ⟨_, (op_add.or (op_add_str.or (op_cat.or op_catA))), ?_⟩
  intro G H x y dx dy d Q s rx ry hg hq
  cases dx <;> cases dy <;> simp only [dAdd] at hg <;> first | (cases hg; done) | skip
  · cases hg
    exact .inl ⟨_, _, rx.i, ry.i, as_is (.int _) hq⟩
  · split at hg
    · rename_i h
      cases hg
      exact .inr (.inl ⟨_, _, rx.s, ry.s, sz_of h, as_is (.str _) hq⟩)
    · cases hg
  · split at hg
    · rename_i h
      cases hg
      obtain ⟨a, xs, rfl, h1, h2⟩ := rx.l
      obtain ⟨b, ys, rfl, h3, h4⟩ := ry.l
      exact .inr (.inr (.inl ⟨a, b, xs, ys, rfl, rfl, h1, h3, by rw [h2.length, h4.length]; exact sz_of h, fun p hp => new_lst s hp (h2.append h4) hq⟩))
    · cases hg
  · split at hg
    · rename_i h
      cases hg
      obtain ⟨a, xs, rfl, h1, h2⟩ := rx.t
      obtain ⟨b, ys, rfl, h3, h4⟩ := ry.t
      refine .inr (.inr (.inr ⟨a, b, xs, ys, rfl, rfl, le_t s h1, le_t s h3, by rw [h2.length, h4.length]; exact sz_of h, fun e => ?_, fun _ e => ?_, fun _ _ p hp => new_tup s hp (h2.append h4) hq⟩))
      · have e' := h2.nil_iff.mp e
        rw [e', List.nil_append] at hq
        exact as_is (.tup h3 h4) hq
      · have e' := h4.nil_iff.mp e
        rw [e', List.append_nil] at hq
        exact as_is (.tup h1 h2) hq
    · cases hg
def dSub : D → D → Option D
  | .int i, .int j => some (.int (i - j))
  | _, _ => none
theorem opd_sub {X : Cx} : OpD X (binaryOp .Sub) dSub := by
  refine ⟨_, op_sub, ?_⟩
  intro G H x y dx dy d Q s rx ry hg hq
  cases dx <;> cases dy <;> simp only [dSub] at hg <;> first | (cases hg; done) | skip
  cases hg
  exact ⟨_, _, rx.i, ry.i, as_is (.int _) hq⟩
/-- one factor below 2 ^ 64 -/
def mulOk (i j : Int) : Bool := decide ((-(2 ^ 64) < i ∧ i < 2 ^ 64) ∨ (-(2 ^ 64) < j ∧ j < 2 ^ 64))
def dMulI : D → D → Option D
  | .int i, .int j => if mulOk i j = true then some (.int (i * j)) else none
  | _, _ => none
theorem opd_mulI {X : Cx} : OpD X (binaryOp .Mult) dMulI := by
  refine ⟨_, op_mul, ?_⟩
  intro G H x y dx dy d Q s rx ry hg hq
  cases dx <;> cases dy <;> simp only [dMulI] at hg <;> first | (cases hg; done) | skip
  split at hg
  · rename_i h
    cases hg
    have h' : CMul _ _ := of_decide_eq_true (p := (-(2 ^ 64) < _ ∧ _ < 2 ^ 64) ∨ (-(2 ^ 64) < _ ∧ _ < 2 ^ 64)) h
    exact ⟨_, _, rx.i, ry.i, h', as_is (.int _) hq⟩
  · cases hg
def dMod : D → D → Option D
  | .int i, .int j => if 0 < j then some (.int (i % j)) else none
  | _, _ => none
theorem opd_mod {X : Cx} : OpD X (binaryOp .Mod) dMod := by
  refine ⟨_, op_mod, ?_⟩
  intro G H x y dx dy d Q s rx ry hg hq
  cases dx <;> cases dy <;> simp only [dMod] at hg <;> first | (cases hg; done) | skip
  split at hg
  · rename_i h
    cases hg
    exact ⟨_, _, rx.i, ry.i, h, as_is (.int _) hq⟩
  · cases hg
def dDiv : D → D → Option D
  | .int i, .int j => if 0 < j ∧ j < 2 ^ 64 then some (.int (i / j)) else none
  | _, _ => none
theorem opd_div {X : Cx} : OpD X (binaryOp .FloorDiv) dDiv := by
  refine ⟨_, op_fdivW, ?_⟩
  intro G H x y dx dy d Q s rx ry hg hq
  cases dx <;> cases dy <;> simp only [dDiv] at hg <;> first | (cases hg; done) | skip
  split at hg
  · rename_i i j h
    cases hg
    have h1 : j.natAbs < 2 ^ 64 := by omega
    exact ⟨i, j, rx.i, ry.i, wide_div h.1 h1 (by decide) (by decide), as_is (.int _) hq⟩
  · cases hg
def dPow : D → D → Option D
  | .int i, .int j => if 0 ≤ j ∧ j ≤ 1000 ∧ i.natAbs < 2 ^ 512 then some (.int (i ^ j.toNat)) else none
  | _, _ => none
theorem bits_512 {i : Int} (h : i.natAbs < 2 ^ 512) : Builtin.Int.intBits i ≤ 513 := by
  unfold Builtin.Int.intBits
  split
  · exact Nat.zero_le _
  · rename_i hz
    have hz' : i.natAbs ≠ 0 := fun e => hz (by have := Int.natAbs_eq_zero.mp e; subst this; rfl)
    have : i.natAbs.log2 < 512 := (Nat.log2_lt hz').mpr h
    omega
theorem op_powW {X : Cx} : OpR X (binaryOp .Pow) (rI (fun i j => 0 ≤ j ∧ j ≤ 1000 ∧ i.natAbs < 2 ^ 512) fun i j => .int (i ^ j.toNat)) := opI fun i j _ _ _ _ _ hc q => by
  have hb := bits_512 hc.2.2
  refine PyProof.Rows.pow_int hc.1 ?_ q
  have h1 : (Builtin.Int.intBits i : Int) * j ≤ 513 * 1000 := by
    have a1 : (Builtin.Int.intBits i : Int) * j ≤ (Builtin.Int.intBits i : Int) * 1000 := Int.mul_le_mul_of_nonneg_left hc.2.1 (by omega)
    omega
  omega
theorem opd_pow {X : Cx} : OpD X (binaryOp .Pow) dPow := by
  refine ⟨_, op_powW, ?_⟩
  intro G H x y dx dy d Q s rx ry hg hq
  cases dx <;> cases dy <;> simp only [dPow] at hg <;> first | (cases hg; done) | skip
  split at hg
  · rename_i h
    cases hg
    exact ⟨_, _, rx.i, ry.i, h, as_is (.int _) hq⟩
  · cases hg

/-! ### comparisons -/
mutual
def D.py : D → Option PyData
  | .non => some .none
  | .bl b => some (.bool b)
  | .int i => some (.int i)
  | .str x => some (.str x)
  | .lst xs => (D.pyA xs).map .list
  | .tup xs => (D.pyA xs).map .tuple
  | .ins _ _ => none
  | .exc _ _ => none
  | .scr _ => none
def D.pyA : List D → Option (List PyData)
  | [] => some []
  | d :: ds => match D.py d, D.pyA ds with
    | some p, some ps => some (p :: ps)
    | _, _ => none
end
mutual
theorem Rep.dp {K : PySem.W.Frag} {H : Hp} : ∀ (d : D) (v : V) (p : PyData), Rep K H v d → d.py = some p → Dp K H v p
  | .non, _, _, h, e => by cases h; cases e; exact .non
  | .bl b, _, _, h, e => by cases h; cases e; exact .bl b
  | .int i, _, _, h, e => by cases h; cases e; exact .int i
  | .str x, _, _, h, e => by cases h; cases e; exact .str x
  | .lst ds, _, p, h, e => by
    cases h with
    | lst h1 h2 =>
      rw [D.py] at e
      cases q : D.pyA ds with
      | none => rw [q] at e; cases e
      | some ps =>
        rw [q] at e
        cases e
        exact .lst (SqL.of h1) (RepA.dp ds _ ps h2 q)
  | .tup ds, _, p, h, e => by
    cases h with
    | tup h1 h2 =>
      rw [D.py] at e
      cases q : D.pyA ds with
      | none => rw [q] at e; cases e
      | some ps =>
        rw [q] at e
        cases e
        exact .tup h1 (RepA.dp ds _ ps h2 q)
  | .ins _ _, _, _, _, e => by rw [D.py] at e; cases e
  | .exc _ _, _, _, _, e => by rw [D.py] at e; cases e
  | .scr _, _, _, _, e => by rw [D.py] at e; cases e
theorem RepA.dp {K : PySem.W.Frag} {H : Hp} : ∀ (ds : List D) (vs : List V) (ps : List PyData), RepA K H vs ds → D.pyA ds = some ps → DpAll K H vs ps
  | [], _, _, h, e => by cases h; rw [D.pyA] at e; cases e; exact .nil
  | d :: ds, _, ps, h, e => by
    cases h with
    | cons h1 h2 =>
      rw [D.pyA] at e
      cases q1 : d.py with
      | none => rw [q1] at e; cases e
      | some p =>
        cases q2 : D.pyA ds with
        | none => rw [q1, q2] at e; cases e
        | some qs =>
          rw [q1, q2] at e
          cases e
          exact .cons (Rep.dp d _ p h1 q1) (RepA.dp ds _ qs h2 q2)
end
/-- == of data, where the model has it -/
def eqB (x y : D) : Option Bool := match x.py, y.py with
  | some p, some q => if SeqAt.shaped p = true ∧ SeqAt.shaped q = true then some (PyData.eqv p q) else none
  | _, _ => none
def dEq (x y : D) : Option D := (eqB x y).map .bl
def dNe (x y : D) : Option D := (eqB x y).map fun b => .bl (!b)
theorem eqB_of {K : PySem.W.Frag} {G H : Hp} {x y : V} {dx dy : D} {b : Bool} (s : Le G H) (rx : RepT K G H x dx) (ry : RepT K G H y dy) (h : eqB dx dy = some b) :
    ∃ p q, Dp K H x p ∧ Dp K H y q ∧ SeqAt.shaped p = true ∧ SeqAt.shaped q = true ∧ PyData.eqv p q = b := by
  unfold eqB at h
  cases q1 : dx.py with
  | none => rw [q1] at h; cases h
  | some p =>
    cases q2 : dy.py with
    | none => rw [q1, q2] at h; cases h
    | some q =>
      rw [q1, q2] at h
      simp only at h
      split at h
      · rename_i z
        cases h
        exact ⟨p, q, Rep.dp _ _ _ (rx.rep s) q1, Rep.dp _ _ _ (ry.rep s) q2, z.1, z.2, rfl⟩
      · cases h
theorem opd_eq {X : Cx} (hu : X.A.units + 64 < cLine) : OpD X (compareOp .Eq) dEq := by
  refine ⟨_, op_eqD hu, ?_⟩
  intro G H x y dx dy d Q s rx ry hg hq
  unfold dEq at hg
  cases q : eqB dx dy with
  | none => rw [q] at hg; cases hg
  | some b =>
    rw [q] at hg
    cases hg
    obtain ⟨p, q', h1, h2, h3, h4, rfl⟩ := eqB_of s rx ry q
    exact ⟨p, q', h1, h2, h3, h4, as_is (.bl _) hq⟩
theorem opd_ne {X : Cx} (hu : X.A.units + 64 < cLine) : OpD X (compareOp .NotEq) dNe := by
  refine ⟨_, op_neD hu, ?_⟩
  intro G H x y dx dy d Q s rx ry hg hq
  unfold dNe at hg
  cases q : eqB dx dy with
  | none => rw [q] at hg; cases hg
  | some b =>
    rw [q] at hg
    cases hg
    obtain ⟨p, q', h1, h2, h3, h4, rfl⟩ := eqB_of s rx ry q
    exact ⟨p, q', h1, h2, h3, h4, as_is (.bl _) hq⟩
def dCmp (p : Int → Int → Bool) : D → D → Option D
  | .int i, .int j => some (.bl (p i j))
  | _, _ => none
theorem opd_cmp {X : Cx} {f : Value → Value → Sem Value} {p : Int → Int → Bool} (h : OpR X f (rI0 fun i j => .bl (p i j))) : OpD X f (dCmp p) := by
  refine ⟨_, h, ?_⟩
  intro G H x y dx dy d Q s rx ry hg hq
  cases dx <;> cases dy <;> simp only [dCmp] at hg <;> first | (cases hg; done) | skip
  cases hg
  exact ⟨_, _, rx.i, ry.i, as_is (.bl _) hq⟩
/-- is None -/
def dIsN : D → D → Option D
  | x, .non => some (.bl (match x with | .non => true | _ => false))
  | _, _ => none
def dNotN : D → D → Option D
  | x, .non => some (.bl (match x with | .non => false | _ => true))
  | _, _ => none
theorem opd_isN {X : Cx} : OpD X (compareOp .Is) dIsN := by
  refine ⟨_, op_isN, ?_⟩
  intro G H x y dx dy d Q s rx ry hg hq
  cases dy <;> simp only [dIsN] at hg <;> first | (cases hg; done) | skip
  cases hg
  refine ⟨ry.n, as_is ?_ hq⟩
  cases rx <;> simp only [reduceCtorEq, decide_false, decide_true] <;> exact .bl _
theorem opd_notN {X : Cx} : OpD X (compareOp .IsNot) dNotN := by
  refine ⟨_, op_notN, ?_⟩
  intro G H x y dx dy d Q s rx ry hg hq
  cases dy <;> simp only [dNotN] at hg <;> first | (cases hg; done) | skip
  cases hg
  refine ⟨ry.n, as_is ?_ hq⟩
  cases rx <;> simp only [reduceCtorEq, decide_false, decide_true, Bool.not_true, Bool.not_false] <;> exact .bl _

/-! ### in -/
def flatD : D → Bool
  | .non => true
  | .bl _ => true
  | .int _ => true
  | .str _ => true
  | _ => false
def eqF : D → D → Bool
  | .non, .non => true
  | .bl a, .bl b => a == b
  | .bl a, .int b => (if a then 1 else 0) == b
  | .int a, .bl b => a == (if b then 1 else 0)
  | .int a, .int b => a == b
  | .str a, .str b => a == b
  | _, _ => false
def inF (x : D) (xs : List D) : Bool := xs.any fun y => eqF y x
def inB : D → D → Option Bool
  | x, .lst ys => if flatD x = true ∧ ys.all flatD = true then some (inF x ys) else none
  | x, .tup ys => if flatD x = true ∧ ys.all flatD = true then some (inF x ys) else none
  | .str x, .str y => match x.cps.toList with
    | [c] => some (decide (c ∈ y.cps.toList))
    | _ => none
  | _, _ => none
def dIn (x y : D) : Option D := (inB x y).map .bl
def dNotIn (x y : D) : Option D := (inB x y).map fun b => .bl (!b)
section
variable {K : PySem.W.Frag} {G H : Hp}
theorem flat_of {x : V} {d : D} (r : RepT K G H x d) (f : flatD d = true) : flatV x = true := by
  cases r <;> first | rfl | (simp [flatD] at f; done)
theorem flat_ofR {x : V} {d : D} (r : Rep K G x d) (f : flatD d = true) : flatV x = true := by
  cases r <;> first | rfl | (simp [flatD] at f; done)
theorem flatA_of : ∀ {xs : List V} {ds : List D}, RepA K G xs ds → ds.all flatD = true → xs.all flatV = true
  | _, _, .nil, _ => rfl
  | _, _, .cons r t, f => by
    rw [List.all_cons, Bool.and_eq_true] at f
    rw [List.all_cons, flat_ofR r f.1, flatA_of t f.2]
    rfl
theorem eqF_of {x y : V} {dx dy : D} (rx : RepT K G H x dx) (ry : Rep K G y dy) (fx : flatD dx = true) (fy : flatD dy = true) : eqV y x = eqF dy dx := by
  cases rx <;> first | (simp [flatD] at fx; done) | (cases ry <;> first | rfl | (simp [flatD] at fy; done))
theorem inF_of {x : V} {dx : D} (rx : RepT K G H x dx) (fx : flatD dx = true) : ∀ {xs : List V} {ds : List D}, RepA K G xs ds → ds.all flatD = true → inV x xs = inF dx ds
  | _, _, .nil, _ => rfl
  | _, _, .cons r t, f => by
    rw [List.all_cons, Bool.and_eq_true] at f
    have ih := inF_of rx fx t f.2
    unfold inV inF at ih ⊢
    rw [List.any_cons, List.any_cons, ih, eqF_of rx r fx f.1]
end
theorem one_sign {x : Str} {c : Nat} (h : x.cps.toList = [c]) : x = ⟨#[c]⟩ := by
  cases x with
  | mk cps =>
    cases cps with
    | mk l =>
      have h' : l = [c] := h
      rw [h']
theorem inB_of {K : PySem.W.Frag} {G H : Hp} {x y : V} {dx dy : D} {b : Bool} (s : Le G H) (rx : RepT K G H x dx) (ry : RepT K G H y dy) (h : inB dx dy = some b) :
    (∃ p xs, y = .ref p ∧ (SqL K H p xs ∨ SqT K H p xs) ∧ flatV x = true ∧ xs.all flatV = true ∧ inV x xs = b) ∨ ∃ (c : Nat) (z : Str), x = .str ⟨#[c]⟩ ∧ y = .str z ∧ decide (c ∈ z.cps.toList) = b := by
  cases dy with
  | lst ys =>
    have h' : (if flatD dx = true ∧ ys.all flatD = true then some (inF dx ys) else none) = some b := by cases dx <;> exact h
    split at h'
    · rename_i f
      cases h'
      obtain ⟨a, xs, rfl, h1, h2⟩ := ry.l
      exact .inl ⟨a, xs, rfl, .inl (SqL.of h1), flat_of rx f.1, flatA_of h2 f.2, inF_of rx f.1 h2 f.2⟩
    · cases h'
  | tup ys =>
    have h' : (if flatD dx = true ∧ ys.all flatD = true then some (inF dx ys) else none) = some b := by cases dx <;> exact h
    split at h'
    · rename_i f
      cases h'
      obtain ⟨a, xs, rfl, h1, h2⟩ := ry.t
      exact .inl ⟨a, xs, rfl, .inr (le_t s h1), flat_of rx f.1, flatA_of h2 f.2, inF_of rx f.1 h2 f.2⟩
    · cases h'
  | str y =>
    cases dx with
    | str z =>
      simp only [inB] at h
      split at h
      · rename_i c hc
        cases h
        have e := one_sign hc
        subst e
        exact .inr ⟨c, y, rx.s, ry.s, rfl⟩
      · cases h
    | _ => exact absurd h (by simp [inB])
  | _ => exact absurd h (by cases dx <;> simp [inB])
theorem opd_in {X : Cx} : OpD X (compareOp .In) dIn := by
  refine ⟨_, op_in_seq.or op_in_sign, ?_⟩
  intro G H x y dx dy d Q s rx ry hg hq
  unfold dIn at hg
  cases q : inB dx dy with
  | none => rw [q] at hg; cases hg
  | some b =>
    rw [q] at hg
    cases hg
    rcases inB_of s rx ry q with ⟨p, xs, h1, h2, h3, h4, h5⟩ | ⟨c, z, h1, h2, h3⟩
    · exact .inl ⟨p, xs, h1, h2, h3, h4, by rw [h5]; exact as_is (.bl _) hq⟩
    · exact .inr ⟨c, z, h1, h2, by rw [h3]; exact as_is (.bl _) hq⟩
theorem opd_notIn {X : Cx} : OpD X (compareOp .NotIn) dNotIn := by
  refine ⟨_, op_notIn_seq.or op_notIn_sign, ?_⟩
  intro G H x y dx dy d Q s rx ry hg hq
  unfold dNotIn at hg
  cases q : inB dx dy with
  | none => rw [q] at hg; cases hg
  | some b =>
    rw [q] at hg
    cases hg
    rcases inB_of s rx ry q with ⟨p, xs, h1, h2, h3, h4, h5⟩ | ⟨c, z, h1, h2, h3⟩
    · exact .inl ⟨p, xs, h1, h2, h3, h4, by rw [h5]; exact as_is (.bl _) hq⟩
    · exact .inr ⟨c, z, h1, h2, by rw [h3]; exact as_is (.bl _) hq⟩

/-! ### items and slices -/
def dIx : D → D → Option D
  | .lst xs, .int i => atI xs i
  | .tup xs, .int i => atI xs i
  | .str z, .int i => if z.length ≤ SZ then (atI z.cps.toList i).map fun c => .str ⟨#[c]⟩ else none
  | .scr ns, .int i => (atI ns i).map .int
  | _, _ => none
theorem atI_map {α β : Type} (f : α → β) {xs : List α} {i : Int} : atI (xs.map f) i = (atI xs i).map f := by
  unfold atI
  rw [List.length_map]
  cases ixN xs.length i with
  | none => rfl
  | some j => exact List.getElem?_map
theorem atI_rep {K : PySem.W.Frag} {G : Hp} {xs : List V} {ds : List D} {i : Int} {d : D} (r : RepA K G xs ds) (h : atI ds i = some d) : ∃ v, atI xs i = some v ∧ Rep K G v d := by
  unfold atI at h ⊢
  rw [r.length]
  cases q : ixN ds.length i with
  | none => rw [q] at h; cases h
  | some j =>
    rw [q] at h
    obtain ⟨v, h1, h2⟩ := r.getD (show ds[j]? = some d from h)
    exact ⟨v, h1, h2⟩
theorem rok_ix {K : PySem.W.Frag} : ROk K (rIx K) dIx := by
  intro G H x y dx dy d Q s rx ry hg hq
  cases dx <;> cases dy <;> simp only [dIx] at hg <;> first | (cases hg; done) | skip
  · split at hg
    · rename_i z i h
      cases q : atI z.cps.toList i with
      | none => rw [q] at hg; cases hg
      | some c =>
        rw [q] at hg
        cases hg
        exact .inr (.inr ⟨_, _, c, rx.s, ry.i, sz_of h, q, as_is (.str _) hq⟩)
    · cases hg
  · obtain ⟨a, xs, rfl, h1, h2⟩ := rx.l
    obtain ⟨v, h3, h4⟩ := atI_rep h2 hg
    exact .inl ⟨a, xs, _, v, rfl, ry.i, SqL.of h1, h3, as_is h4 hq⟩
  · obtain ⟨a, xs, rfl, h1, h2⟩ := rx.t
    obtain ⟨v, h3, h4⟩ := atI_rep h2 hg
    exact .inr (.inl ⟨a, xs, _, v, rfl, ry.i, le_t s h1, h3, as_is h4 hq⟩)
  · cases rx with
    | @scr a ns h1 =>
      obtain ⟨n, h2, rfl⟩ := Option.map_eq_some_iff.mp hg
      exact .inl ⟨a, _, _, .int n, rfl, ry.i, le_l s h1, by rw [atI_map, h2]; rfl, as_is (.int _) hq⟩
def cutD (xs : List D) (lo hi : Option Int) : List D := (xs.drop (HT.sIx xs.length 0 lo)).take (HT.sIx xs.length xs.length hi - HT.sIx xs.length 0 lo)
def dCut : D → Option Int → Option Int → Option D
  | .lst xs, lo, hi => some (.lst (cutD xs lo hi))
  | .tup xs, lo, hi => some (.tup (cutD xs lo hi))
  | .str z, lo, hi => if z.length ≤ SZ then some (.str (cutS z lo hi)) else none
  | _, _, _ => none
def rSl (K : PySem.W.Frag) : V → Option Int → Option Int → Hp → VK → Prop := fun x lo hi H Q => rSlL K x lo hi H Q ∨ rSlA K x lo hi H Q ∨ ∃ z, x = .str z ∧ z.length ≤ sizeLine ∧ Q (.str (cutS z lo hi)) H
theorem cut_rep {K : PySem.W.Frag} {G : Hp} {xs : List V} {ds : List D} {lo hi : Option Int} (r : RepA K G xs ds) : RepA K G (cutV xs lo hi) (cutD ds lo hi) := by
  unfold cutV cutD
  rw [r.length]
  exact (r.drop _).take _
theorem cutD_whole {ds : List D} {lo hi : Option Int} (h : HT.sIx ds.length 0 lo = 0 ∧ HT.sIx ds.length ds.length hi = ds.length) : cutD ds lo hi = ds := by
  unfold cutD
  rw [h.1, h.2, List.drop_zero, Nat.sub_zero, List.take_length]
theorem rok_cut {K : PySem.W.Frag} {G H : Hp} {x : V} {lo hi : Option Int} {dx d : D} {Q : VK} (s : Le G H) (rx : RepT K G H x dx) (hg : dCut dx lo hi = some d)
    (hq : ∀ z G' H', Grw G H G' H' → Rep K G' z d → Q z H') : rSl K x lo hi H Q := by
  cases dx <;> simp only [dCut] at hg <;> first | (cases hg; done) | skip
  · split at hg
    · rename_i h
      cases hg
      exact .inr (.inr ⟨_, rx.s, sz_of h, as_is (.str _) hq⟩)
    · cases hg
  · cases hg
    obtain ⟨a, xs, rfl, h1, h2⟩ := rx.l
    exact .inl ⟨a, xs, rfl, SqL.of h1, fun p hp => new_lst s hp (cut_rep h2) hq⟩
  · cases hg
    obtain ⟨a, xs, rfl, h1, h2⟩ := rx.t
    refine .inr (.inl ⟨a, xs, rfl, le_t s h1, fun w => ?_, fun _ p hp => new_tup s hp (cut_rep h2) hq⟩)
    rw [h2.length] at w
    rw [cutD_whole w] at hq
    exact as_is (.tup h1 h2) hq
end VL

end

section
set_option linter.all false
set_option maxRecDepth 100000
set_option maxHeartbeats 4000000
/-! VL 3: built-in calls on data. -/
namespace VL
open PySem PySem.Spec PyProof.Rows L2
section
variable {K : PySem.W.Frag} {G H : Hp}
theorem args1 {xs : List V} {d : D} (h : Paired (RepT K G H) xs [d]) : ∃ x, xs = [x] ∧ RepT K G H x d := by
  cases h with
  | cons r t => cases t; exact ⟨_, rfl, r⟩
theorem args2 {xs : List V} {d e : D} (h : Paired (RepT K G H) xs [d, e]) : ∃ x y, xs = [x, y] ∧ RepT K G H x d ∧ RepT K G H y e := by
  cases h with
  | cons r t =>
    cases t with
    | cons r2 t2 => cases t2; exact ⟨_, _, rfl, r, r2⟩
end
def dLen : List D → Option D
  | [.str z] => if z.length ≤ SZ then some (.int z.length) else none
  | [.lst xs] => some (.int xs.length)
  | [.tup xs] => some (.int xs.length)
  | [.scr ns] => some (.int ns.length)
  | _ => none
theorem cd_len {X : Cx} : CallD X (.builtin "len") dLen := by
  refine ⟨_, call_len, ?_⟩
  intro G H xs ds d Q s rp hg hq
  unfold dLen at hg
  split at hg
  · split at hg
    · rename_i z h
      cases hg
      obtain ⟨x, rfl, r⟩ := args1 rp
      rw [r.s]
      exact ⟨_, z.length, rfl, ⟨sz_of h, rfl⟩, as_is (.int _) hq⟩
    · cases hg
  · cases hg
    obtain ⟨x, rfl, r⟩ := args1 rp
    obtain ⟨a, ys, rfl, h1, h2⟩ := r.l
    exact ⟨_, _, rfl, .inl ⟨ys, SqL.of h1, h2.length.symm⟩, as_is (.int _) hq⟩
  · cases hg
    obtain ⟨x, rfl, r⟩ := args1 rp
    obtain ⟨a, ys, rfl, h1, h2⟩ := r.t
    exact ⟨_, _, rfl, .inr ⟨ys, le_t s h1, h2.length.symm⟩, as_is (.int _) hq⟩
  · cases hg
    obtain ⟨x, rfl, r⟩ := args1 rp
    cases r with
    | @scr a ns h1 => exact ⟨_, _, rfl, .inl ⟨_, le_l s h1, (List.length_map _).symm⟩, as_is (.int _) hq⟩
  · cases hg
def dAbs : List D → Option D
  | [.int i] => some (.int (if i < 0 then -i else i))
  | _ => none
theorem cd_abs {X : Cx} : CallD X (.builtin "abs") dAbs := by
  refine ⟨_, call_abs, ?_⟩
  intro G H xs ds d Q s rp hg hq
  unfold dAbs at hg
  split at hg
  · cases hg
    obtain ⟨x, rfl, r⟩ := args1 rp
    rw [r.i]
    exact ⟨_, rfl, as_is (.int _) hq⟩
  · cases hg
def dInt : List D → Option D
  | [.int i] => some (.int i)
  | [.bl b] => some (.int (if b then 1 else 0))
  | _ => none
theorem cd_int {X : Cx} : CallD X (.type "int") dInt := by
  refine ⟨_, call_int1, ?_⟩
  intro G H xs ds d Q s rp hg hq
  unfold dInt at hg
  split at hg
  · cases hg
    obtain ⟨x, rfl, r⟩ := args1 rp
    rw [r.i]
    exact .inl ⟨_, rfl, as_is (.int _) hq⟩
  · cases hg
    obtain ⟨x, rfl, r⟩ := args1 rp
    rw [r.b]
    exact .inr ⟨_, rfl, as_is (.int _) hq⟩
  · cases hg
def dMin : List D → Option D
  | [.int i, .int j] => some (.int (if j < i then j else i))
  | _ => none
def dMax : List D → Option D
  | [.int i, .int j] => some (.int (if j > i then j else i))
  | _ => none
theorem cd_min {X : Cx} (hc : X.calm = true) : CallD X (.builtin "min") dMin := by
  refine ⟨_, call_min2 hc, ?_⟩
  intro G H xs ds d Q s rp hg hq
  unfold dMin at hg
  split at hg
  · cases hg
    obtain ⟨x, y, rfl, r1, r2⟩ := args2 rp
    rw [r1.i, r2.i]
    exact ⟨_, _, rfl, as_is (.int _) hq⟩
  · cases hg
theorem cd_max {X : Cx} (hc : X.calm = true) : CallD X (.builtin "max") dMax := by
  refine ⟨_, call_max2 hc, ?_⟩
  intro G H xs ds d Q s rp hg hq
  unfold dMax at hg
  split at hg
  · cases hg
    obtain ⟨x, y, rfl, r1, r2⟩ := args2 rp
    rw [r1.i, r2.i]
    exact ⟨_, _, rfl, as_is (.int _) hq⟩
  · cases hg
/-- the signs of a text -/
def signsV (z : Str) : List V := z.cps.toList.map fun c => V.str ⟨#[c]⟩
def signsD (z : Str) : List D := z.cps.toList.map fun c => D.str ⟨#[c]⟩
theorem signs_rep {K : PySem.W.Frag} {G : Hp} (z : Str) : RepA K G (signsV z) (signsD z) := by
  unfold signsV signsD
  generalize z.cps.toList = l
  induction l with
  | nil => exact .nil
  | cons c r ih => exact .cons (.str _) ih
theorem call_list_text {X : Cx} (hc : X.calm = true) : CallR X (.type "list") (fun xs H Q => ∃ z, xs = [.str z] ∧ z.length ≤ sizeLine ∧ ∀ p, H p = none → Q (.ref p) (upd H p (.lst (signsV z)))) := by
  intro pins s σ H xs us Q I r h
  obtain ⟨z, rfl, hz, q⟩ := h
  obtain ⟨u, rfl, rx⟩ := vals1 r
  obtain ⟨t, rfl⟩ := rx
  refine call_list_str (I.ok.hd hc) z t (hn := hz) fun h' tk acc' c' hk hS' hacc => ?_
  have hl : (signsV z).length = z.length := by unfold signsV; rw [List.length_map, Array.length_toList]; rfl
  refine ⟨.ref s.heap.objs.size, _, I.laid (t' := tk) (o := .lst (signsV z)) hk (Nat.le_refl _) ⟨by rw [hl]; exact hz, acc'.toList, c', ?_, by simpa using hS'⟩, rfl, q _ (I.hok.fresh (Nat.le_refl _))⟩
  refine vals_of_at (by rw [hl]; simp only [Array.length_toList]; exact hacc.1.symm) fun j x u hx hu => ?_
  obtain ⟨c, t', hc', rfl⟩ := hacc.2 j u (by simpa using hu)
  unfold signsV at hx
  rw [List.getElem?_map] at hx
  have e : z.cps.toList[j]? = some c := by simpa using hc'
  rw [e] at hx
  cases hx
  exact ⟨t', rfl⟩
def dList : List D → Option D
  | [.lst xs] => some (.lst xs)
  | [.tup xs] => some (.lst xs)
  | [.str z] => if z.length ≤ SZ then some (.lst (signsD z)) else none
  | _ => none
theorem cd_list {X : Cx} (hc : X.calm = true) : CallD X (.type "list") dList := by
  refine ⟨_, call_list_of.or (call_list_text hc), ?_⟩
  intro G H xs ds d Q s rp hg hq
  unfold dList at hg
  split at hg
  · cases hg
    obtain ⟨x, rfl, r⟩ := args1 rp
    obtain ⟨a, ys, rfl, h1, h2⟩ := r.l
    exact .inl ⟨a, ys, rfl, .inl (SqL.of h1), fun p hp => new_lst s hp h2 hq⟩
  · cases hg
    obtain ⟨x, rfl, r⟩ := args1 rp
    obtain ⟨a, ys, rfl, h1, h2⟩ := r.t
    exact .inl ⟨a, ys, rfl, .inr (le_t s h1), fun p hp => new_lst s hp h2 hq⟩
  · split at hg
    · rename_i z h
      cases hg
      obtain ⟨x, rfl, r⟩ := args1 rp
      rw [r.s]
      exact .inr ⟨z, rfl, sz_of h, fun p hp => new_lst s hp (signs_rep z) hq⟩
    · cases hg
  · cases hg
def dTuple : List D → Option D
  | [.lst xs] => some (.tup xs)
  | [.tup xs] => some (.tup xs)
  | _ => none
theorem cd_tuple {X : Cx} : CallD X (.type "tuple") dTuple := by
  refine ⟨_, call_tuple_of, ?_⟩
  intro G H xs ds d Q s rp hg hq
  unfold dTuple at hg
  split at hg
  · cases hg
    obtain ⟨x, rfl, r⟩ := args1 rp
    obtain ⟨a, ys, rfl, h1, h2⟩ := r.l
    exact ⟨a, ys, rfl, .inl ⟨SqL.of h1, fun p hp => new_tup s hp h2 hq⟩⟩
  · cases hg
    obtain ⟨x, rfl, r⟩ := args1 rp
    obtain ⟨a, ys, rfl, h1, h2⟩ := r.t
    exact ⟨a, ys, rfl, .inr ⟨le_t s h1, as_is (.tup h1 h2) hq⟩⟩
  · cases hg
/-- a list of truths, of ints, of texts -/
def blsOf : List D → Option (List Bool)
  | [] => some []
  | .bl b :: r => (blsOf r).map (b :: ·)
  | _ => none
def intsOf : List D → Option (List Int)
  | [] => some []
  | .int b :: r => (intsOf r).map (b :: ·)
  | _ => none
def strsOf : List D → Option (List Str)
  | [] => some []
  | .str b :: r => (strsOf r).map (b :: ·)
  | _ => none
theorem blsOf_some : ∀ {ds : List D} {bs : List Bool}, blsOf ds = some bs → ds = bs.map D.bl
  | [], _, h => by cases h; rfl
  | d :: r, bs, h => by
    cases d <;> simp only [blsOf] at h <;> first | (cases h; done) | skip
    rename_i b
    cases q : blsOf r with
    | none => rw [q] at h; cases h
    | some cs => rw [q] at h; cases h; rw [List.map_cons, blsOf_some q]
theorem intsOf_some : ∀ {ds : List D} {bs : List Int}, intsOf ds = some bs → ds = bs.map D.int
  | [], _, h => by cases h; rfl
  | d :: r, bs, h => by
    cases d <;> simp only [intsOf] at h <;> first | (cases h; done) | skip
    rename_i b
    cases q : intsOf r with
    | none => rw [q] at h; cases h
    | some cs => rw [q] at h; cases h; rw [List.map_cons, intsOf_some q]
theorem strsOf_some : ∀ {ds : List D} {bs : List Str}, strsOf ds = some bs → ds = bs.map D.str
  | [], _, h => by cases h; rfl
  | d :: r, bs, h => by
    cases d <;> simp only [strsOf] at h <;> first | (cases h; done) | skip
    rename_i b
    cases q : strsOf r with
    | none => rw [q] at h; cases h
    | some cs => rw [q] at h; cases h; rw [List.map_cons, strsOf_some q]
@[simp] theorem blsOf_map (bs : List Bool) : blsOf (bs.map D.bl) = some bs := by
  induction bs with
  | nil => rfl
  | cons b r ih => rw [List.map_cons, blsOf, ih]; rfl
@[simp] theorem intsOf_map (bs : List Int) : intsOf (bs.map D.int) = some bs := by
  induction bs with
  | nil => rfl
  | cons b r ih => rw [List.map_cons, intsOf, ih]; rfl
@[simp] theorem strsOf_map (bs : List Str) : strsOf (bs.map D.str) = some bs := by
  induction bs with
  | nil => rfl
  | cons b r ih => rw [List.map_cons, strsOf, ih]; rfl
def dAll : List D → Option D
  | [.lst xs] => (blsOf xs).map fun bs => .bl (bs.all id)
  | _ => none
def dAny : List D → Option D
  | [.lst xs] => (blsOf xs).map fun bs => .bl (bs.any id)
  | _ => none
def dSum : List D → Option D
  | [.lst xs] => (intsOf xs).map fun bs => .int bs.sum
  | _ => none
theorem cd_all {X : Cx} (hc : X.calm = true) : CallD X (.builtin "all") dAll := by
  refine ⟨_, cr_all hc, ?_⟩
  intro G H xs ds d Q s rp hg hq
  unfold dAll at hg
  split at hg
  · rename_i ys
    obtain ⟨x, rfl, r⟩ := args1 rp
    obtain ⟨a, vs, rfl, h1, h2⟩ := r.l
    cases q : blsOf ys with
    | none => rw [q] at hg; cases hg
    | some bs =>
      rw [q] at hg
      cases hg
      rw [blsOf_some q] at h2
      rw [h2.map_bl] at h1
      exact ⟨a, bs, rfl, SqL.of h1, as_is (.bl _) hq⟩
  · cases hg
theorem cd_any {X : Cx} (hc : X.calm = true) : CallD X (.builtin "any") dAny := by
  refine ⟨_, cr_any hc, ?_⟩
  intro G H xs ds d Q s rp hg hq
  unfold dAny at hg
  split at hg
  · rename_i ys
    obtain ⟨x, rfl, r⟩ := args1 rp
    obtain ⟨a, vs, rfl, h1, h2⟩ := r.l
    cases q : blsOf ys with
    | none => rw [q] at hg; cases hg
    | some bs =>
      rw [q] at hg
      cases hg
      rw [blsOf_some q] at h2
      rw [h2.map_bl] at h1
      exact ⟨a, bs, rfl, SqL.of h1, as_is (.bl _) hq⟩
  · cases hg
theorem cd_sum {X : Cx} (hc : X.calm = true) : CallD X (.builtin "sum") dSum := by
  refine ⟨_, cr_sum hc, ?_⟩
  intro G H xs ds d Q s rp hg hq
  unfold dSum at hg
  split at hg
  · rename_i ys
    obtain ⟨x, rfl, r⟩ := args1 rp
    obtain ⟨a, vs, rfl, h1, h2⟩ := r.l
    cases q : intsOf ys with
    | none => rw [q] at hg; cases hg
    | some bs =>
      rw [q] at hg
      cases hg
      rw [intsOf_some q] at h2
      rw [h2.map_int] at h1
      exact ⟨a, bs, rfl, SqL.of h1, as_is (.int _) hq⟩
  · cases hg

/-! ### text * n -/
def repS (x : Str) (n : Nat) : Str := ⟨((List.replicate n x.cps.toList).flatten).toArray⟩
theorem mul_repS (x : Str) (n : Int) : Txt.mul x n = repS x n.toNat := by
  have fold : ∀ (k : Nat) (acc : Array Nat), ((List.replicate k x.cps).foldl (· ++ ·) acc).toList = acc.toList ++ (List.replicate k x.cps.toList).flatten := by
    intro k
    induction k with
    | zero => intro acc; simp
    | succ k ih => intro acc; rw [List.replicate_succ, List.foldl_cons, ih, Array.toList_append, List.replicate_succ, List.flatten_cons, List.append_assoc]
  unfold Txt.mul repS
  split
  · rename_i h
    have e : n.toNat = 0 := by omega
    rw [e]
    rfl
  · rename_i h
    split
    · rename_i h2
      rw [Bool.or_eq_true] at h2
      rcases h2 with h2 | h2
      · have e : n = 1 := by simpa using h2
        subst e
        show x = _
        simp
      · have e : x.cps.size = 0 := by simpa [Str.length] using h2
        have e2 : x.cps = #[] := Array.eq_empty_of_size_eq_zero e
        obtain ⟨cps⟩ := x
        simp only at e2
        subst e2
        have : ∀ k : Nat, (List.replicate k ([] : List Nat)).flatten = [] := by
          intro k
          induction k with
          | zero => rfl
          | succ k ih => rw [List.replicate_succ, List.flatten_cons, ih]; rfl
        simp [this]
    · apply congrArg Str.mk
      apply Array.toList_inj.mp
      rw [fold]
      simp
theorem op_mul_str {X : Cx} : OpR X (binaryOp .Mult) (fun x y H Q => ∃ z n, x = .str z ∧ y = .int n ∧ 0 ≤ n ∧ n ≤ 100000 ∧ z.length ≤ 100 ∧ Q (.str (repS z n.toNat)) H) := by
  intro pins s σ H x y v u Q I rx ry h
  obtain ⟨z, n, rfl, rfl, h0, h1, h2, q⟩ := h
  obtain ⟨t, rfl⟩ := rx
  obtain ⟨t', rfl⟩ := ry
  refine SB.mul ⟨?_, fun h3 h4 => ?_, fun h3 h4 => ?_⟩ fun t2 k => ⟨.str _, H, I.tok k, ⟨t2, by rw [mul_repS]⟩, q⟩
  · rw [decide_eq_false (by omega), decide_eq_false (by omega)]
    rfl
  · have a1 : (101 : Int) ≤ (2 ^ 63 - 1) / n := Int.le_ediv_of_mul_le (by omega) (by omega)
    omega
  · unfold Builtin.Str.tooLong
    have a1 : z.length * n.toNat ≤ 100 * 100000 := Nat.mul_le_mul h2 (by omega)
    have a2 : (sizeLine : Nat) = 16777216 := sizeLine_eq
    simp only [decide_eq_false_iff_not]
    omega
def dMul : D → D → Option D
  | .int i, .int j => if mulOk i j = true then some (.int (i * j)) else none
  | .str z, .int n => if 0 ≤ n ∧ n ≤ 100000 ∧ z.length ≤ 100 then some (.str (repS z n.toNat)) else none
  | _, _ => none
theorem opd_mul {X : Cx} : OpD X (binaryOp .Mult) dMul := by
  refine ⟨_, op_mul.or op_mul_str, ?_⟩
  intro G H x y dx dy d Q s rx ry hg hq
  cases dx <;> cases dy <;> simp only [dMul] at hg <;> first | (cases hg; done) | skip
  · split at hg
    · rename_i h
      cases hg
      have h' : CMul _ _ := of_decide_eq_true (p := (-(2 ^ 64) < _ ∧ _ < 2 ^ 64) ∨ (-(2 ^ 64) < _ ∧ _ < 2 ^ 64)) h
      exact .inl ⟨_, _, rx.i, ry.i, h', as_is (.int _) hq⟩
    · cases hg
  · split at hg
    · rename_i h
      cases hg
      exact .inr ⟨_, _, rx.s, ry.i, h.1, h.2.1, h.2.2, as_is (.str _) hq⟩
    · cases hg

/-! ### sep.join(..) -/
def joinOk (a : Str) (ys : List Str) : Bool := decide ((ys.map (·.length)).sum + ys.length * a.length ≤ 16777216)
def dJoin : D → D → Option D
  | .str a, .lst ys => match strsOf ys with
    | some zs => if joinOk a zs = true then some (.str (Txt.join a zs)) else none
    | none => none
  | .str a, .tup ys => match strsOf ys with
    | some zs => if joinOk a zs = true then some (.str (Txt.join a zs)) else none
    | none => none
  | _, _ => none
def rJoin (K : PySem.W.Frag) : V → List V → Hp → VK → Prop := fun x xs H Q => ∃ a p, ∃ ys : List Str, x = .str a ∧ xs = [.ref p] ∧ (SqL K H p (ys.map V.str) ∨ SqT K H p (ys.map V.str)) ∧
  (ys.map (·.length)).sum + ys.length * a.length ≤ 16777216 ∧ Q (.str (Txt.join a ys)) H
theorem rok_join {K : PySem.W.Frag} {G H : Hp} {x y : V} {dx dy d : D} {Q : VK} (s : Le G H) (rx : RepT K G H x dx) (ry : RepT K G H y dy) (hg : dJoin dx dy = some d)
    (hq : ∀ z G' H', Grw G H G' H' → Rep K G' z d → Q z H') : (∃ a, x = .str a) ∧ rJoin K x [y] H Q := by
  cases dx <;> cases dy <;> simp only [dJoin] at hg <;> first | (cases hg; done) | skip
  all_goals
    split at hg
    · rename_i zs q
      split at hg
      · rename_i h
        cases hg
        refine ⟨⟨_, rx.s⟩, ?_⟩
        first
          | (obtain ⟨a, vs, rfl, h1, h2⟩ := ry.l
             rw [strsOf_some q] at h2
             rw [h2.map_str] at h1
             exact ⟨_, a, zs, rx.s, rfl, .inl (SqL.of h1), of_decide_eq_true h, as_is (.str _) hq⟩)
          | (obtain ⟨a, vs, rfl, h1, h2⟩ := ry.t
             rw [strsOf_some q] at h2
             rw [h2.map_str] at h1
             exact ⟨_, a, zs, rx.s, rfl, .inr (le_t s h1), of_decide_eq_true h, as_is (.str _) hq⟩)
      · cases hg
    · cases hg

/-! ### isinstance(x, T) -/
def tyD : D → Option String
  | .non => some "NoneType"
  | .bl _ => some "bool"
  | .int _ => some "int"
  | .str _ => some "str"
  | .lst _ => some "list"
  | .tup _ => some "tuple"
  | .ins _ _ => none
  | .exc _ _ => none
  | .scr _ => none
end VL

end

section
set_option linter.all false
set_option maxRecDepth 100000
set_option maxHeartbeats 4000000
/-! VL 4: expressions: each form's rule, as a function on cells. -/
namespace VL
open PySem PySem.Spec PyProof.Rows L2

structure VE (X : Cx) (W : XK) (e : Expr) (f : Sl → Res Val) : Prop where
  ex : ∃ t, PE X e t ∧ Vv X.K W (relE X.K) t f
structure VT (X : Cx) (W : XK) (e : Expr) (f : Sl → Res Bool) : Prop where
  ex : ∃ t, PT X e t ∧ Vv X.K W relT t f
structure VA (X : Cx) (W : XK) (es : List Expr) (f : Sl → Res (List Val)) : Prop where
  ex : ∃ t, PA X es t ∧ Vv X.K W (relA X.K) t f

section
variable {X : Cx} {W : XK} {e a b c : Expr} {es : List Expr} {pos : Pos} {fa fb fc : Sl → Res Val}

/-! ### what is not carried -/
def mStk {α : Type} : Sl → Res α := fun _ => .stuck
theorem ve_stuck : VE X W e mStk := ⟨fun _ _ _ => False, ⟨fun _ _ _ _ _ _ h => h.elim⟩, fun _ _ _ _ _ _ _ _ h => h⟩
theorem vt_stuck : VT X W e mStk := ⟨fun _ _ _ => False, ⟨fun _ _ _ _ _ _ h => h.elim⟩, fun _ _ _ _ _ _ _ _ h => h⟩
theorem va_stuck : VA X W es mStk := ⟨fun _ _ _ => False, ⟨fun _ _ _ _ _ _ _ h => h.elim⟩, fun _ _ _ _ _ _ _ _ h => h⟩

/-! ### names, constants -/
def mC (d : D) : Sl → Res Val := fun ρ => .ok (.d d) ρ
theorem ve_c {v : V} {d : D} (he : PE X e (tC v)) (r : ∀ G, Rep X.K G v d) : VE X W e (mC d) :=
  ⟨_, he, fun c O G H σ ρ e Q h => Post.now e .refl (r G) h⟩
theorem ve_int {i : Int} {j : Nat} : VE X W (.Constant (.int i) j pos) (mC (.int i)) := ve_c pe_int fun _ => .int i
theorem ve_bl {i : Bool} {j : Nat} : VE X W (.Constant (.bool i) j pos) (mC (.bl i)) := ve_c pe_bl fun _ => .bl i
theorem ve_str {i : Str} {j : Nat} : VE X W (.Constant (.str i) j pos) (mC (.str i)) := ve_c pe_str fun _ => .str i
theorem ve_non {j : Nat} : VE X W (.Constant .none j pos) (mC .non) := ve_c pe_non fun _ => .non
theorem ve_glob {x : Str} {v : V} {u : Value} {d : D} (hg : Gl X x) (hm : X.mg x = some u) (r : RelV v u) (hr : ∀ G, Rep X.K G v d) (hd : (x == ("__debug__" : Str)) = false) : VE X W (.Name x pos) (mC d) :=
  ve_c (pe_glob hg hm r hd) hr
def mVar (i : Nat) : Sl → Res Val := fun ρ => match ρ[i]? with
  | some (.pv d) => .ok (.d d) ρ
  | some (.ol _ _) => .ok (.own i) ρ
  | _ => .stuck
theorem ve_var {i : Nat} {x : Str} (hN : X.N[i]? = some x) (hv : Vis X.env.scope x) (hd : (x == ("__debug__" : Str)) = false) (hcd : (x == ("__classdict__" : Str)) = false) : VE X W (.Name x pos) (mVar i) := by
  refine ⟨_, pe_var hN hv hd hcd, fun c O G H σ ρ e Q h => ?_⟩
  unfold mVar at h
  split at h
  · rename_i d q
    obtain ⟨v, h1, h2⟩ := e.pv i d q
    exact ⟨v, h1, Post.now e .refl h2 h⟩
  · rename_i b ds q
    obtain ⟨a, xs, h1, h2⟩ := e.ol i b ds q
    exact ⟨.ref a, h1, Post.val (v := .own i) e (show VRep X.K G σ ρ (.ref a) (.own i) from ⟨h1, b, ds, q⟩) h⟩
  · exact h.elim

/-! ### operators -/
def ro2 (g : D → D → Option D) (x y : Val) (ρ : Sl) : Res Val := match rd ρ x, rd ρ y with
  | some d, some e => match g d e with
    | some z => .ok (.d z) ρ
    | none => .stuck
  | _, _ => .stuck
def m2 (g : D → D → Option D) (fa fb : Sl → Res Val) : Sl → Res Val := fun ρ => (fa ρ).bind fun x ρ1 => (fb ρ1).bind fun y ρ2 => ro2 g x y ρ2
theorem vv_op {K : PySem.W.Frag} {ta tb : TE} {r : R2} {g : D → D → Option D} (hr : ROk K r g) (ha : Vv K W (relE K) ta fa) (hb : Vv K W (relE K) tb fb) : Vv K W (relE K) (tOp r ta tb) (m2 g fa fb) := by
  intro c O G H σ ρ e Q h
  refine ha.thn e h fun x ρ1 v G1 H1 e1 x1 s1 r1 h1 => ?_
  refine hb.thn e1 h1 fun y ρ2 u G2 H2 e2 x2 s2 r2 h2 => ?_
  unfold ro2 at h2
  split at h2
  · rename_i d1 d2 q1 q2
    split at h2
    · rename_i z qz
      exact hr G2 H2 v u d1 d2 z Q e2.sub (e2.topV (VRep.up r1 x2.g s2) q1) (e2.topV r2 q2) qz fun w G' H' gr rw' => Post.now e2 gr rw' h2
    · exact h2.elim
  · exact h2.elim
theorem ve_bin {op : Operator} {g : D → D → Option D} (ho : OpD X (binaryOp op) g) (ha : VE X W a fa) (hb : VE X W b fb) : VE X W (.BinOp a op b pos) (m2 g fa fb) := by
  obtain ⟨r, h1, h2⟩ := ho
  obtain ⟨ta, a1, a2⟩ := ha.ex
  obtain ⟨tb, b1, b2⟩ := hb.ex
  exact ⟨_, pe_op h1 a1 b1, vv_op h2 a2 b2⟩
theorem ve_cmp {op : CmpOp} {g : D → D → Option D} (ho : OpD X (compareOp op) g) (ha : VE X W a fa) (hb : VE X W b fb) (hm : behindInMarks op b = false) : VE X W (.Compare a [op] [b] pos) (m2 g fa fb) := by
  obtain ⟨r, h1, h2⟩ := ho
  obtain ⟨ta, a1, a2⟩ := ha.ex
  obtain ⟨tb, b1, b2⟩ := hb.ex
  exact ⟨_, pe_cmpR h1 a1 b1 hm, vv_op h2 a2 b2⟩
/-- a truth out of a value that is one -/
def asB (f : Sl → Res Val) : Sl → Res Bool := fun ρ => (f ρ).bind fun v ρ1 => match v with
  | .d (.bl b) => .ok b ρ1
  | _ => .stuck
theorem vv_test {K : PySem.W.Frag} {ta : TE} (ha : Vv K W (relE K) ta fa) : Vv K W relT (tTest ta) (asB fa) := by
  intro c O G H σ ρ e Q h
  refine ha.thn e h fun x ρ1 v G1 H1 e1 x1 s1 r1 h1 => ?_
  split at h1
  · rename_i b
    have r1' : Rep K G1 v (.bl b) := r1
    cases r1'
    exact ⟨b, rfl, Post.tst e1 h1⟩
  · exact h1.elim
theorem vt_cmp {op : CmpOp} {g : D → D → Option D} (ho : OpD X (compareOp op) g) (ha : VE X W a fa) (hb : VE X W b fb) (hm : behindInMarks op b = false) : VT X W (.Compare a [op] [b] pos) (asB (m2 g fa fb)) := by
  obtain ⟨r, h1, h2⟩ := ho
  obtain ⟨ta, a1, a2⟩ := ha.ex
  obtain ⟨tb, b1, b2⟩ := hb.ex
  exact ⟨_, pt_cmpR h1 a1 b1 hm, vv_test (vv_op h2 a2 b2)⟩
/-- a op b op c -/
def mChn (g g' : D → D → Option D) (fa fb fc : Sl → Res Val) : Sl → Res Val := fun ρ => (fa ρ).bind fun x ρ1 => (fb ρ1).bind fun y ρ2 => (ro2 g x y ρ2).bind fun k ρ3 => match k with
  | .d (.bl true) => (fc ρ3).bind fun z ρ4 => ro2 g' y z ρ4
  | .d (.bl false) => .ok (.d (.bl false)) ρ3
  | _ => .stuck
theorem vv_chain {K : PySem.W.Frag} {ta tb tc : TE} {r r' : R2} {g g' : D → D → Option D} (hr : ROk K r g) (hr' : ROk K r' g') (ha : Vv K W (relE K) ta fa) (hb : Vv K W (relE K) tb fb) (hc : Vv K W (relE K) tc fc) :
    Vv K W (relE K) (tChain r r' ta tb tc) (mChn g g' fa fb fc) := by
  intro c O G H σ ρ e Q h
  refine ha.thn e h fun x ρ1 v G1 H1 e1 x1 s1 r1 h1 => ?_
  refine hb.thn e1 h1 fun y ρ2 u G2 H2 e2 x2 s2 r2 h2 => ?_
  unfold ro2 at h2
  split at h2
  · rename_i d1 d2 q1 q2
    split at h2
    · rename_i z qz
      refine hr G2 H2 v u d1 d2 z _ e2.sub (e2.topV (VRep.up r1 x2.g s2) q1) (e2.topV r2 q2) qz fun w G' H' gr rw' => ?_
      obtain ⟨e3, x3⟩ := e2.grw gr
      have h2' : Post K W c O G' H' σ ρ2 (relE K σ) Q (match Val.d z with
        | .d (.bl true) => (fc ρ2).bind fun z ρ4 => ro2 g' y z ρ4
        | .d (.bl false) => .ok (.d (.bl false)) ρ2
        | _ => .stuck) := Post.mono x3 (Shp.refl _) h2
      split at h2'
      · rename_i qq
        cases qq
        cases rw'
        refine ⟨true, rfl, ?_⟩
        rw [if_pos rfl]
        refine hc.thn e3 h2' fun zz ρ4 w4 G4 H4 e4 x4 s4 r4 h4 => ?_
        unfold ro2 at h4
        split at h4
        · rename_i d3 d4 q3 q4
          split at h4
          · rename_i z4 qz4
            exact hr' G4 H4 u w4 d3 d4 z4 Q e4.sub (e4.topV (VRep.up (VRep.up r2 x3.g (Shp.refl _)) x4.g s4) q3) (e4.topV r4 q4) qz4 fun w5 G5 H5 gr5 rw5 => Post.now e4 gr5 rw5 h4
          · exact h4.elim
        · exact h4.elim
      · rename_i qq
        cases qq
        cases rw'
        refine ⟨false, rfl, ?_⟩
        rw [if_neg Bool.false_ne_true]
        exact Post.now e3 .refl (.bl false) h2'
      · exact h2'.elim
    · exact h2.elim
  · exact h2.elim
theorem ve_chain {op op' : CmpOp} {g g' : D → D → Option D} (ho : OpD X (compareOp op) g) (ho' : OpD X (compareOp op') g') (ha : VE X W a fa) (hb : VE X W b fb) (hc : VE X W c fc) (hm : lastMarks [op, op'] [b, c] = false) :
    VE X W (.Compare a [op, op'] [b, c] pos) (mChn g g' fa fb fc) := by
  obtain ⟨r, h1, h2⟩ := ho
  obtain ⟨r', h1', h2'⟩ := ho'
  obtain ⟨ta, a1, a2⟩ := ha.ex
  obtain ⟨tb, b1, b2⟩ := hb.ex
  obtain ⟨tc, c1, c2⟩ := hc.ex
  exact ⟨_, pe_chain h1 h1' a1 b1 c1 hm, vv_chain h2 h2' a2 b2 c2⟩
theorem vt_chain {op op' : CmpOp} {g g' : D → D → Option D} (ho : OpD X (compareOp op) g) (ho' : OpD X (compareOp op') g') (ha : VE X W a fa) (hb : VE X W b fb) (hc : VE X W c fc) (hm : lastMarks [op, op'] [b, c] = false) :
    VT X W (.Compare a [op, op'] [b, c] pos) (asB (mChn g g' fa fb fc)) := by
  obtain ⟨r, h1, h2⟩ := ho
  obtain ⟨r', h1', h2'⟩ := ho'
  obtain ⟨ta, a1, a2⟩ := ha.ex
  obtain ⟨tb, b1, b2⟩ := hb.ex
  obtain ⟨tc, c1, c2⟩ := hc.ex
  exact ⟨_, pt_chain h1 h1' a1 b1 c1 hm, vv_test (vv_chain h2 h2' a2 b2 c2)⟩
/-- - a -/
def dNeg : D → Option D
  | .int i => some (.int (-i))
  | _ => none
def ro1 (g : D → Option D) (x : Val) (ρ : Sl) : Res Val := match rd ρ x with
  | some d => match g d with
    | some z => .ok (.d z) ρ
    | none => .stuck
  | _ => .stuck
def m1 (g : D → Option D) (fa : Sl → Res Val) : Sl → Res Val := fun ρ => (fa ρ).bind fun x ρ1 => ro1 g x ρ1
theorem ve_neg (ha : VE X W a fa) : VE X W (.UnaryOp .USub a pos) (m1 dNeg fa) := by
  obtain ⟨ta, a1, a2⟩ := ha.ex
  refine ⟨_, pe_un un_neg a1, fun c O G H σ ρ e Q h => ?_⟩
  refine a2.thn e h fun x ρ1 v G1 H1 e1 x1 s1 r1 h1 => ?_
  unfold ro1 at h1
  split at h1
  · rename_i d1 q1
    split at h1
    · rename_i z qz
      have t1 := e1.topV r1 q1
      cases d1 <;> simp only [dNeg] at qz <;> first | (cases qz; done) | skip
      cases qz
      exact ⟨_, t1.i, Post.now e1 .refl (.int _) h1⟩
    · exact h1.elim
  · exact h1.elim

/-! ### truth -/
def truD : D → Option Bool
  | .non => some false
  | .bl b => some b
  | .int i => some (i != 0)
  | .str z => if z.length ≤ SZ then some ((z.length : Int) != 0) else none
  | .lst xs => some (!xs.isEmpty)
  | .tup xs => some (!xs.isEmpty)
  | .ins _ _ => none
  | .exc _ _ => none
  | .scr _ => none
def mTru (f : Sl → Res Val) : Sl → Res Bool := fun ρ => (f ρ).bind fun v ρ1 => match rd ρ1 v with
  | some d => match truD d with
    | some b => .ok b ρ1
    | none => .stuck
  | none => .stuck
theorem RepA.isEmpty {K : PySem.W.Frag} {G : Hp} {xs : List V} {ds : List D} (h : RepA K G xs ds) : xs.isEmpty = ds.isEmpty := by cases h <;> rfl
theorem vt_truth (ha : VE X W a fa) (he : ∀ whole, isTrue a X.env whole = (do let v ← whole; standAt a.pos; holding [v] (truthy v))) : VT X W a (mTru fa) := by
  obtain ⟨ta, a1, a2⟩ := ha.ex
  refine ⟨_, pt_truth a1 he, fun c O G H σ ρ e Q h => ?_⟩
  refine a2.thn e h fun x ρ1 v G1 H1 e1 x1 s1 r1 h1 => ?_
  split at h1
  · rename_i d q
    split at h1
    · rename_i b qb
      refine ⟨b, ?_, Post.tst e1 h1⟩
      have t1 := e1.topV r1 q
      cases t1 with
      | non => cases qb; rfl
      | bl b' => cases qb; rfl
      | int i => cases qb; rfl
      | str z =>
        simp only [truD] at qb
        split at qb
        · rename_i hz
          cases qb
          exact ⟨sz_of hz, rfl⟩
        · cases qb
      | lst g1 g2 =>
        simp only [truD] at qb
        cases qb
        exact .inl ⟨_, SqL.of g1, by rw [g2.isEmpty]⟩
      | tup g1 g2 =>
        simp only [truD] at qb
        cases qb
        exact .inr (.inl ⟨_, le_t e1.sub g1, by rw [g2.isEmpty]⟩)
      | ins h1 h2 => simp only [truD] at qb; cases qb
      | exc h1 h0 h2 => simp only [truD] at qb; cases qb
      | scr h1 => simp only [truD] at qb; cases qb
    · exact h1.elim
  · exact h1.elim

/-! ### and, or, not, if -/
variable {tA tB' : Sl → Res Bool} {rest : List Expr}
def mAndT (f g : Sl → Res Bool) : Sl → Res Bool := fun ρ => (f ρ).bind fun b ρ1 => if b = true then g ρ1 else .ok false ρ1
def mOrT (f g : Sl → Res Bool) : Sl → Res Bool := fun ρ => (f ρ).bind fun b ρ1 => if b = true then .ok true ρ1 else g ρ1
def mNotT (f : Sl → Res Bool) : Sl → Res Bool := fun ρ => (f ρ).bind fun b ρ1 => .ok (!b) ρ1
structure VW (X : Cx) (W : XK) (e : Expr) (f : Sl → Res Bool) : Prop where
  ex : ∃ t, PW X e t ∧ Vv X.K W relT t f
theorem VW.vt (h : VW X W e tA) : VT X W e tA := let ⟨t, h1, h2⟩ := h.ex; ⟨t, h1.pt, h2⟩
theorem vw_and1 (h : VT X W a tA) : VW X W (.BoolOp .And [a] pos) tA := let ⟨t, h1, h2⟩ := h.ex; ⟨t, pw_and1 h1, h2⟩
theorem vw_or1 (h : VT X W a tA) : VW X W (.BoolOp .Or [a] pos) tA := let ⟨t, h1, h2⟩ := h.ex; ⟨t, pw_or1 h1, h2⟩
theorem vw_and (h : VT X W a tA) (hb : VW X W (.BoolOp .And (b :: rest) pos) tB') : VW X W (.BoolOp .And (a :: b :: rest) pos) (mAndT tA tB') := by
  obtain ⟨ta, a1, a2⟩ := h.ex
  obtain ⟨tb, b1, b2⟩ := hb.ex
  refine ⟨_, pw_and a1 b1, fun c O G H σ ρ e Q h => ?_⟩
  refine a2.thn e h fun x ρ1 v G1 H1 e1 x1 s1 r1 h1 => ?_
  cases (show v = x from r1)
  by_cases hx : x = true
  · rw [if_pos hx] at h1
    rw [if_pos hx]
    exact b2 c O G1 H1 σ ρ1 e1 Q h1
  · rw [if_neg hx] at h1
    rw [if_neg hx]
    exact Post.tst e1 h1
theorem vw_or (h : VT X W a tA) (hb : VW X W (.BoolOp .Or (b :: rest) pos) tB') : VW X W (.BoolOp .Or (a :: b :: rest) pos) (mOrT tA tB') := by
  obtain ⟨ta, a1, a2⟩ := h.ex
  obtain ⟨tb, b1, b2⟩ := hb.ex
  refine ⟨_, pw_or a1 b1, fun c O G H σ ρ e Q h => ?_⟩
  refine a2.thn e h fun x ρ1 v G1 H1 e1 x1 s1 r1 h1 => ?_
  cases (show v = x from r1)
  by_cases hx : x = true
  · rw [if_pos hx] at h1
    rw [if_pos hx]
    exact Post.tst e1 h1
  · rw [if_neg hx] at h1
    rw [if_neg hx]
    exact b2 c O G1 H1 σ ρ1 e1 Q h1
theorem vt_not (h : VT X W a tA) : VT X W (.UnaryOp .Not a pos) (mNotT tA) := by
  obtain ⟨ta, a1, a2⟩ := h.ex
  refine ⟨_, pt_not a1, fun c O G H σ ρ e Q h => ?_⟩
  refine a2.thn e h fun x ρ1 v G1 H1 e1 x1 s1 r1 h1 => ?_
  cases (show v = x from r1)
  exact Post.tst e1 h1
/-- as values, all but the last one truths -/
def mAnd (f g : Sl → Res Val) : Sl → Res Val := fun ρ => (f ρ).bind fun v ρ1 => match v with
  | .d (.bl true) => g ρ1
  | .d (.bl false) => .ok (.d (.bl false)) ρ1
  | _ => .stuck
def mOr (f g : Sl → Res Val) : Sl → Res Val := fun ρ => (f ρ).bind fun v ρ1 => match v with
  | .d (.bl true) => .ok (.d (.bl true)) ρ1
  | .d (.bl false) => g ρ1
  | _ => .stuck
def mNot (f : Sl → Res Val) : Sl → Res Val := fun ρ => (f ρ).bind fun v ρ1 => match v with
  | .d (.bl b) => .ok (.d (.bl (!b))) ρ1
  | _ => .stuck
theorem ve_one {op : BoolOp} (h : VE X W a fa) : VE X W (.BoolOp op [a] pos) fa := let ⟨t, h1, h2⟩ := h.ex; ⟨t, pe_one h1, h2⟩
theorem ve_and (h : VE X W a fa) (hb : VE X W (.BoolOp .And (b :: rest) pos) fb) : VE X W (.BoolOp .And (a :: b :: rest) pos) (mAnd fa fb) := by
  obtain ⟨ta, a1, a2⟩ := h.ex
  obtain ⟨tb, b1, b2⟩ := hb.ex
  refine ⟨_, pe_and a1 b1, fun c O G H σ ρ e Q h => ?_⟩
  refine a2.thn e h fun x ρ1 v G1 H1 e1 x1 s1 r1 h1 => ?_
  split at h1
  · have r1' : Rep X.K G1 v (.bl true) := r1
    cases r1'
    refine ⟨true, rfl, ?_⟩
    rw [if_pos rfl]
    exact b2 c O G1 H1 σ ρ1 e1 Q h1
  · have r1' : Rep X.K G1 v (.bl false) := r1
    cases r1'
    refine ⟨false, rfl, ?_⟩
    rw [if_neg Bool.false_ne_true]
    exact Post.now e1 .refl (.bl false) h1
  · exact h1.elim
theorem ve_or (h : VE X W a fa) (hb : VE X W (.BoolOp .Or (b :: rest) pos) fb) : VE X W (.BoolOp .Or (a :: b :: rest) pos) (mOr fa fb) := by
  obtain ⟨ta, a1, a2⟩ := h.ex
  obtain ⟨tb, b1, b2⟩ := hb.ex
  refine ⟨_, pe_or a1 b1, fun c O G H σ ρ e Q h => ?_⟩
  refine a2.thn e h fun x ρ1 v G1 H1 e1 x1 s1 r1 h1 => ?_
  split at h1
  · have r1' : Rep X.K G1 v (.bl true) := r1
    cases r1'
    refine ⟨true, rfl, ?_⟩
    rw [if_pos rfl]
    exact Post.now e1 .refl (.bl true) h1
  · have r1' : Rep X.K G1 v (.bl false) := r1
    cases r1'
    refine ⟨false, rfl, ?_⟩
    rw [if_neg Bool.false_ne_true]
    exact b2 c O G1 H1 σ ρ1 e1 Q h1
  · exact h1.elim
theorem ve_not (h : VE X W a fa) : VE X W (.UnaryOp .Not a pos) (mNot fa) := by
  obtain ⟨ta, a1, a2⟩ := h.ex
  refine ⟨_, pe_not a1, fun c O G H σ ρ e Q h => ?_⟩
  refine a2.thn e h fun x ρ1 v G1 H1 e1 x1 s1 r1 h1 => ?_
  split at h1
  · rename_i b'
    have r1' : Rep X.K G1 v (.bl b') := r1
    cases r1'
    exact ⟨_, rfl, Post.now e1 .refl (.bl _) h1⟩
  · exact h1.elim
def mIf {α : Type} (t : Sl → Res Bool) (f g : Sl → Res α) : Sl → Res α := fun ρ => (t ρ).bind fun b ρ1 => if b = true then f ρ1 else g ρ1
theorem ve_if (hc : VT X W c tA) (ha : VE X W a fa) (hb : VE X W b fb) : VE X W (.IfExp c a b pos) (mIf tA fa fb) := by
  obtain ⟨tc, c1, c2⟩ := hc.ex
  obtain ⟨ta, a1, a2⟩ := ha.ex
  obtain ⟨tb, b1, b2⟩ := hb.ex
  refine ⟨_, pe_ifExp c1 a1 b1, fun c O G H σ ρ e Q h => ?_⟩
  refine c2.thn e h fun x ρ1 v G1 H1 e1 x1 s1 r1 h1 => ?_
  cases (show v = x from r1)
  by_cases hx : x = true
  · rw [if_pos hx] at h1
    rw [if_pos hx]
    exact a2 _ O G1 H1 σ ρ1 e1 Q h1
  · rw [if_neg hx] at h1
    rw [if_neg hx]
    exact b2 _ O G1 H1 σ ρ1 e1 Q h1

/-! ### argument lists, displays -/
def mNil : Sl → Res (List Val) := fun ρ => .ok [] ρ
def mCons (f : Sl → Res Val) (g : Sl → Res (List Val)) : Sl → Res (List Val) := fun ρ => (f ρ).bind fun v ρ1 => (g ρ1).bind fun vs ρ2 => .ok (v :: vs) ρ2
theorem va_nil : VA X W [] mNil := ⟨_, pa_nil, fun c O G H σ ρ e Q h => h [] G H e Ext.refl (Shp.refl ρ) .nil⟩
theorem va_cons {g : Sl → Res (List Val)} (h : VE X W a fa) (hr : VA X W es g) (hs : starEach (a :: es) X.env = (false, eval a X.env) :: starEach es X.env) : VA X W (a :: es) (mCons fa g) := by
  obtain ⟨ta, a1, a2⟩ := h.ex
  obtain ⟨tb, b1, b2⟩ := hr.ex
  refine ⟨_, pa_cons a1 b1 hs, fun c O G H σ ρ e Q h => ?_⟩
  refine a2.thn e h fun x ρ1 v G1 H1 e1 x1 s1 r1 h1 => ?_
  refine b2.thn e1 h1 fun y ρ2 u G2 H2 e2 x2 s2 r2 h2 => ?_
  exact h2 (v :: u) G2 H2 e2 Ext.refl (Shp.refl _) (.cons (VRep.up r1 x2.g s2) r2)
/-- values that are data -/
def datas : List Val → Option (List D)
  | [] => some []
  | .d d :: r => (datas r).map (d :: ·)
  | .own _ :: _ => none
theorem datas_rep {K : PySem.W.Frag} {G : Hp} {σ : L2.St} {ρ : Sl} : ∀ {xs : List V} {vs : List Val} {ds : List D}, Paired (VRep K G σ ρ) xs vs → datas vs = some ds → RepA K G xs ds
  | _, _, _, .nil, h => by cases h; exact .nil
  | _, _, ds, .cons (b := v) r t, h => by
    cases v with
    | own i => cases h
    | d d =>
      simp only [datas] at h
      cases q : datas _ with
      | none => rw [q] at h; cases h
      | some es => rw [q] at h; cases h; exact .cons r (datas_rep t q)
def mTup (f : Sl → Res (List Val)) : Sl → Res Val := fun ρ => (f ρ).bind fun vs ρ1 => match datas vs with
  | some ds => if ds.length ≤ SZ then .ok (.d (.tup ds)) ρ1 else .stuck
  | none => .stuck
def mLst (f : Sl → Res (List Val)) : Sl → Res Val := fun ρ => (f ρ).bind fun vs ρ1 => match datas vs with
  | some ds => if ds.length ≤ SZ then .ok (.d (.lst ds)) ρ1 else .stuck
  | none => .stuck
theorem ve_tup {k : Nat} {g : Sl → Res (List Val)} (h : VA X W es g) : VE X W (.Tuple es k pos) (mTup g) := by
  obtain ⟨tb, b1, b2⟩ := h.ex
  refine ⟨_, pe_tup b1, fun c O G H σ ρ e Q h => ?_⟩
  refine b2.thn e h fun y ρ1 u G1 H1 e1 x1 s1 r1 h1 => ?_
  split at h1
  · rename_i ds q
    split at h1
    · rename_i hz
      have ra := datas_rep r1 q
      exact ⟨by rw [ra.length]; exact sz_of hz, fun p hp => new_tup e1.sub hp ra fun z G' H' gr rr => Post.now e1 gr rr h1⟩
    · exact h1.elim
  · exact h1.elim
theorem ve_lst {g : Sl → Res (List Val)} (h : VA X W es g) : VE X W (.List es pos) (mLst g) := by
  obtain ⟨tb, b1, b2⟩ := h.ex
  refine ⟨_, pe_lst b1, fun c O G H σ ρ e Q h => ?_⟩
  refine b2.thn e h fun y ρ1 u G1 H1 e1 x1 s1 r1 h1 => ?_
  split at h1
  · rename_i ds q
    split at h1
    · rename_i hz
      have ra := datas_rep r1 q
      exact ⟨by rw [ra.length]; exact sz_of hz, fun p hp => new_lst e1.sub hp ra fun z G' H' gr rr => Post.now e1 gr rr h1⟩
    · exact h1.elim
  · exact h1.elim

/-! ### items, slices -/
theorem ve_ix (ha : VE X W a fa) (hb : VE X W b fb) (hs : PlainIx b) : VE X W (.Subscript a b pos) (m2 dIx fa fb) := by
  obtain ⟨ta, a1, a2⟩ := ha.ex
  obtain ⟨tb, b1, b2⟩ := hb.ex
  exact ⟨_, pe_ix ix_seq a1 b1 hs, vv_op rok_ix a2 b2⟩
/-- a slice's end -/
structure VO (X : Cx) (W : XK) (e : Option Expr) (f : Sl → Res (Option Int)) : Prop where
  ex : ∃ t, PO X e t ∧ Vv X.K W (fun _ _ _ (o : Option Int) (o' : Option Int) => o = o') t f
def mNoP : Sl → Res (Option Int) := fun ρ => .ok none ρ
def mPart (f : Sl → Res Val) : Sl → Res (Option Int) := fun ρ => (f ρ).bind fun v ρ1 => match v with
  | .d (.int i) => .ok (some i) ρ1
  | _ => .stuck
theorem vo_none : VO X W none mNoP := ⟨_, po_none, fun c O G H σ ρ e Q h => h none G H e Ext.refl (Shp.refl ρ) rfl⟩
theorem vo_some (ha : VE X W a fa) : VO X W (some a) (mPart fa) := by
  obtain ⟨ta, a1, a2⟩ := ha.ex
  refine ⟨_, po_some a1, fun c O G H σ ρ e Q h => ?_⟩
  refine a2.thn e h fun x ρ1 v G1 H1 e1 x1 s1 r1 h1 => ?_
  split at h1
  · rename_i i
    have r1' : Rep X.K G1 v (.int i) := r1
    cases r1'
    exact ⟨i, rfl, h1 (some i) G1 H1 e1 Ext.refl (Shp.refl _) rfl⟩
  · exact h1.elim
theorem sl_all : SlR X (rSl X.K) := sl_list.or (sl_tupA.or sl_str)
def mCut (f : Sl → Res Val) (lo hi : Sl → Res (Option Int)) : Sl → Res Val := fun ρ => (f ρ).bind fun v ρ1 => (lo ρ1).bind fun l ρ2 => (hi ρ2).bind fun u ρ3 => match rd ρ3 v with
  | some d => match dCut d l u with
    | some z => .ok (.d z) ρ3
    | none => .stuck
  | none => .stuck
theorem ve_cut {lo hi : Option Expr} {p2 : Pos} {flo fhi : Sl → Res (Option Int)} (ha : VE X W a fa) (hl : VO X W lo flo) (hh : VO X W hi fhi) : VE X W (.Subscript a (.Slice lo hi none p2) pos) (mCut fa flo fhi) := by
  obtain ⟨ta, a1, a2⟩ := ha.ex
  obtain ⟨tl, l1, l2⟩ := hl.ex
  obtain ⟨th, h1, h2⟩ := hh.ex
  refine ⟨_, pe_slice sl_all a1 l1 h1, fun c O G H σ ρ e Q h => ?_⟩
  refine a2.thn e h fun x ρ1 v G1 H1 e1 x1 s1 r1 q1 => ?_
  refine l2.thn e1 q1 fun l ρ2 l' G2 H2 e2 x2 s2 r2 q2 => ?_
  refine h2.thn e2 q2 fun u ρ3 u' G3 H3 e3 x3 s3 r3 q3 => ?_
  cases (show l' = l from r2)
  cases (show u' = u from r3)
  split at q3
  · rename_i d qd
    split at q3
    · rename_i z qz
      exact rok_cut e3.sub (e3.topV (VRep.up (VRep.up r1 x2.g s2) x3.g s3) qd) qz fun w G' H' gr rr => Post.now e3 gr rr q3
    · exact q3.elim
  · exact q3.elim

/-! ### built-in calls -/
def rdA (ρ : Sl) : List Val → Option (List D)
  | [] => some []
  | v :: vs => match rd ρ v, rdA ρ vs with
    | some d, some ds => some (d :: ds)
    | _, _ => none
theorem rdA_rep {K : PySem.W.Frag} {c : Ent} {O : Addr → Prop} {G H : Hp} {σ : L2.St} {ρ : Sl} (e : ERep K c O G H σ ρ) : ∀ {xs : List V} {vs : List Val} {ds : List D}, Paired (VRep K G σ ρ) xs vs → rdA ρ vs = some ds → Paired (RepT K G H) xs ds
  | _, _, _, .nil, h => by cases h; exact .nil
  | _, _, ds, .cons (b := v) r t, h => by
    simp only [rdA] at h
    split at h
    · rename_i d es q1 q2
      cases h
      exact .cons (e.topV r q1) (rdA_rep e t q2)
    · cases h
def mCall (g : List D → Option D) (f : Sl → Res (List Val)) : Sl → Res Val := fun ρ => (f ρ).bind fun vs ρ1 => match rdA ρ1 vs with
  | some ds => match g ds with
    | some d => .ok (.d d) ρ1
    | none => .stuck
  | none => .stuck
theorem vv_call {K : PySem.W.Frag} {r : List V → Hp → VK → Prop} {g : List D → Option D} {t : TA} {f : Sl → Res (List Val)} (hr : COk K r g) (ha : Vv K W (relA K) t f) : Vv K W (relE K) (tCB r t) (mCall g f) := by
  intro c O G H σ ρ e Q h
  refine ha.thn e h fun x ρ1 v G1 H1 e1 x1 s1 r1 h1 => ?_
  split at h1
  · rename_i ds q
    split at h1
    · rename_i d qd
      exact hr G1 H1 v ds d Q e1.sub (rdA_rep e1 r1 q) qd fun z G' H' gr rr => Post.now e1 gr rr h1
    · exact h1.elim
  · exact h1.elim
theorem ve_callB {x : Str} {id : String} {p : Pos} {g : List D → Option D} {f : Sl → Res (List Val)} (hc : CallD X (.builtin id) g) (hg : Gl X x) (hm : X.mg x = none) (hv : bootBuiltins x = some (.builtin id)) (ha : VA X W (e :: es) f) (hn : x ≠ "__name__") (hdb : (x == ("__debug__" : Str)) = false)
    (he : starEach (e :: es) X.env = (false, eval e X.env) :: starEach es X.env) (hpl : (backTo pos (starEach es X.env)).any (·.1) = false) : VE X W (.Call (.Name x p) (e :: es) [] pos) (mCall g f) := by
  obtain ⟨r, h1, h2⟩ := hc
  obtain ⟨ta, a1, a2⟩ := ha.ex
  exact ⟨_, pe_callB h1 hg hm hv a1 hn hdb he hpl, vv_call h2 a2⟩
theorem ve_callTy {x : Str} {id : String} {p : Pos} {g : List D → Option D} {f : Sl → Res (List Val)} (hc : CallD X (.type id) g) (hg : Gl X x) (hm : X.mg x = none) (hv : bootBuiltins x = some (.type id)) (ha : VA X W (e :: es) f) (hn : x ≠ "__name__") (hdb : (x == ("__debug__" : Str)) = false)
    (he : starEach (e :: es) X.env = (false, eval e X.env) :: starEach es X.env) (hpl : (backTo pos (starEach es X.env)).any (·.1) = false) : VE X W (.Call (.Name x p) (e :: es) [] pos) (mCall g f) := by
  obtain ⟨r, h1, h2⟩ := hc
  obtain ⟨ta, a1, a2⟩ := ha.ex
  exact ⟨_, pe_callTy h1 hg hm hv a1 hn hdb he hpl, vv_call h2 a2⟩
def mJoin (fa fb : Sl → Res Val) : Sl → Res Val := fun ρ => (fa ρ).bind fun x ρ1 => match x with
  | .d (.str z) => (fb ρ1).bind fun y ρ2 => ro2 dJoin (.d (.str z)) y ρ2
  | _ => .stuck
theorem ve_join {apos : Pos} (ha : VE X W a fa) (hb : VE X W b fb) (hs : starEach [b] X.env = [(false, eval b X.env)]) (hbase : attributeBase a "join" X.env (eval a X.env) = eval a X.env) (hline : (apos.endLine == pos.line) = true) :
    VE X W (.Call (.Attribute a "join" apos) [b] [] pos) (mJoin fa fb) := by
  obtain ⟨ta, a1, a2⟩ := ha.ex
  obtain ⟨tb, b1, b2⟩ := hb.ex
  refine ⟨_, pe_join a1 b1 hs hbase hline, fun c O G H σ ρ e Q h => ?_⟩
  refine a2.thn e h fun x ρ1 v G1 H1 e1 x1 s1 r1 h1 => ?_
  split at h1
  · rename_i z
    have r1' : Rep X.K G1 v (.str z) := r1
    cases r1'
    refine ⟨⟨z, rfl⟩, b2.thn e1 h1 fun y ρ2 u G2 H2 e2 x2 s2 r2 h2 => ?_⟩
    unfold ro2 at h2
    split at h2
    · rename_i d1 d2 q1 q2
      split at h2
      · rename_i z' qz
        cases q1
        exact (rok_join e2.sub (.str z) (e2.topV r2 q2) qz fun w G' H' gr rr => Post.now e2 gr rr h2).2
      · exact h2.elim
    · exact h2.elim
  · exact h1.elim
end
end VL

end

section
set_option linter.all false
set_option maxRecDepth 100000
set_option maxHeartbeats 4000000
/-! VL 5: lists of a frame's own, calls of the text's defs. -/
namespace VL
open PySem PySem.Spec PyProof.Rows L2

/-! ### a list of the frame's own changes -/
section
variable {K : PySem.W.Frag} {c : Ent} {O : Addr → Prop} {G H : Hp} {σ : L2.St} {ρ : Sl}
theorem getset_ol {ρ : Sl} {i j : Nat} {b b' : Bool} {ds ds' ds2 : List D} (h : ρ[i]? = some (.ol b ds)) (h2 : (ρ.set i (.ol b ds'))[j]? = some (.ol b' ds2)) : ∃ ds3, ρ[j]? = some (.ol b' ds3) ∧ (j ≠ i → ds3 = ds2) ∧ (j = i → b' = b ∧ ds2 = ds') := by
  by_cases e : i = j
  · subst e
    have hl : i < ρ.length := (List.getElem?_eq_some_iff.mp h).1
    rw [List.getElem?_set_self hl] at h2
    cases h2
    exact ⟨ds, h, fun z => absurd rfl z, fun _ => ⟨rfl, rfl⟩⟩
  · rw [List.getElem?_set_ne e] at h2
    exact ⟨ds2, h2, fun _ => rfl, fun z => absurd z.symm e⟩
theorem shp_set {ρ : Sl} {i : Nat} {b : Bool} {ds ds' : List D} (h : ρ[i]? = some (.ol b ds)) : Shp ρ (ρ.set i (.ol b ds')) := fun j b' es q => by
  by_cases e : i = j
  · subst e
    rw [h] at q
    cases q
    exact ⟨ds', List.getElem?_set_self (List.getElem?_eq_some_iff.mp h).1⟩
  · exact ⟨es, by rw [List.getElem?_set_ne e]; exact q⟩
theorem ERep.setOl {i : Nat} {b : Bool} {ds ds' : List D} {a : Addr} {xs xs' : List V} (e : ERep K c O G H σ ρ) (hi : ρ[i]? = some (.ol b ds)) (hs : σ[i]? = some (some (.ref a))) (hH : H a = some (.lst xs)) (r : RepA K G xs' ds') :
    ERep K c O G (upd H a (.lst xs')) σ (ρ.set i (.ol b ds')) ∧ Ext O G H G (upd H a (.lst xs')) ∧ Shp ρ (ρ.set i (.ol b ds')) := by
  obtain ⟨a', xs0, q1, q2, q3, q4, q5⟩ := e.ol i b ds hi
  rw [hs] at q1
  cases q1
  have nn : ∀ x, H x ≠ none → upd H a (.lst xs') x ≠ none := fun x q => by
    by_cases z : x = a
    · subst z; rw [upd_same]; simp
    · rw [upd_ne z]; exact q
  have ga : G a = none := e.og a q2
  refine ⟨⟨fun x o q => ?_, e.g0, e.nw, fun x o q n => ?_, fun x q => nn x (e.dom x q), e.og, e.oj, fun x q => nn x (e.oh x q), by rw [List.length_set]; exact e.len, fun j d q => ?_, fun j b' es q => ?_, fun j k b1 b2 d1 d2 x hne q1 q2 q3 => ?_⟩, ⟨Le.refl _, fun x o q n => ?_, fun _ _ q => .inl q, nn⟩, shp_set hi⟩
  · have z : x ≠ a := fun w => by rw [w, ga] at q; cases q
    rw [upd_ne z]; exact e.sub x o q
  · have z : x ≠ a := fun w => by
      subst w
      rcases e.oj x q2 with w | w
      · exact n w
      · rw [w] at q; cases q
    rw [upd_ne z]; exact e.keep x o q n
  · by_cases z : i = j
    · subst z
      rw [List.getElem?_set_self (List.getElem?_eq_some_iff.mp hi).1] at q
      cases q
    · rw [List.getElem?_set_ne z] at q
      exact e.pv j d q
  · obtain ⟨ds3, h1, h2, h3⟩ := getset_ol hi q
    obtain ⟨x, ys, p1, p2, p3, p4, p5⟩ := e.ol j b' ds3 h1
    by_cases z : j = i
    · subst z
      obtain ⟨rfl, rfl⟩ := h3 rfl
      rw [hs] at p1
      cases p1
      exact ⟨a, xs', hs, p2, p3, upd_same, r⟩
    · rw [h2 z] at p5
      have za : x ≠ a := fun w => by
        subst w
        exact e.dist i j b b' ds ds3 x (Ne.symm z) hi h1 hs p1
      exact ⟨x, ys, p1, p2, p3, by rw [upd_ne za]; exact p4, p5⟩
  · obtain ⟨d3, h1, _, _⟩ := getset_ol hi q1
    obtain ⟨d4, h2, _, _⟩ := getset_ol hi q2
    exact e.dist j k b1 b2 d3 d4 x hne h1 h2 q3
  · have z : x ≠ a := fun w => by subst w; exact n q2
    rw [upd_ne z]; exact q
end

section
variable {X : Cx} {W : XK} {e a b : Expr} {es : List Expr} {pos : Pos} {fa fb fc : Sl → Res Val}
/-- x.append(e), x of our own -/
def mApp (i : Nat) (f : Sl → Res Val) : Sl → Res Val := fun ρ => match ρ[i]? with
  | some (.ol _ _) => (f ρ).bind fun v ρ2 => match v, ρ2[i]? with
    | .d d, some (.ol b ds) => if ds.length < SZ then .ok (.d .non) (ρ2.set i (.ol b (ds ++ [d]))) else .stuck
    | _, _ => .stuck
  | _ => .stuck
theorem tyV_own {K : PySem.W.Frag} {a : Addr} {xs : List V} {H : Hp} (h : H a = some (.lst xs)) : tyV K "list" (.ref a) H := .inl ⟨rfl, xs, SqL.of h⟩
theorem ve_append {i : Nat} {x : Str} {p apos cpos : Pos} (hN : X.N[i]? = some x) (hv : Vis X.env.scope x) (hd : (x == ("__debug__" : Str)) = false) (hcd : (x == ("__classdict__" : Str)) = false) (ha : VE X W e fa) (hline : (apos.endLine == cpos.line) = true) (hs : starEach [e] X.env = (false, eval e X.env) :: starEach [] X.env) :
    VE X W (.Call (.Attribute (.Name x p) "append" apos) [e] [] cpos) (mApp i fa) := by
  obtain ⟨ta, a1, a2⟩ := ha.ex
  have hst : starEach [e] X.env = [(false, eval e X.env)] := hs
  refine ⟨_, pe_bm PySem.F.plainAttrs_list PySem.F.slot_list_append PySem.F.type_list_append mt_append (pe_var hN hv hd hcd) (pa_cons a1 pa_nil hs) rfl (by rw [hst]; rfl) hline hs rfl, fun c O G H σ ρ e0 Q h => ?_⟩
  unfold mApp at h
  split at h
  · rename_i b0 ds0 q0
    obtain ⟨a, xs, p1, p2, p3, p4, p5⟩ := e0.ol i b0 ds0 q0
    refine ⟨.ref a, p1, tyV_own p4, ?_⟩
    refine a2.thn e0 h fun v ρ2 xv G1 H1 e1 x1 s1 r1 h1 => ?_
    split at h1
    · rename_i d b ds q1
      obtain ⟨a', xs', g1, g2, g3, g4, g5⟩ := e1.ol i b ds q1
      rw [p1] at g1
      cases g1
      split at h1
      · rename_i hz
        obtain ⟨f1, f2, f3⟩ := e1.setOl q1 p1 g4 (g5.append (.cons r1 .nil))
        exact ⟨a, xs', xv, rfl, rfl, g4, by rw [g5.length]; exact sz_lt hz, h1 .non G1 _ f1 f2 f3 .non⟩
      · exact h1.elim
    · exact h1.elim
  · exact h.elim
/-- x.extend(e), e a new list -/
def mExt (i : Nat) (f : Sl → Res Val) : Sl → Res Val := fun ρ => match ρ[i]? with
  | some (.ol _ _) => (f ρ).bind fun v ρ2 => match v, ρ2[i]? with
    | .d (.lst es), some (.ol b ds) => if ds.length + es.length ≤ SZ then .ok (.d .non) (ρ2.set i (.ol b (ds ++ es))) else .stuck
    | _, _ => .stuck
  | _ => .stuck
theorem ve_extend {i : Nat} {x : Str} {p apos cpos : Pos} (hN : X.N[i]? = some x) (hv : Vis X.env.scope x) (hd : (x == ("__debug__" : Str)) = false) (hcd : (x == ("__classdict__" : Str)) = false) (ha : VE X W e fa) (hline : (apos.endLine == cpos.line) = true) (hs : starEach [e] X.env = (false, eval e X.env) :: starEach [] X.env) :
    VE X W (.Call (.Attribute (.Name x p) "extend" apos) [e] [] cpos) (mExt i fa) := by
  obtain ⟨ta, a1, a2⟩ := ha.ex
  have hst : starEach [e] X.env = [(false, eval e X.env)] := hs
  refine ⟨_, pe_bm PySem.F.plainAttrs_list PySem.F.slot_list_extend PySem.F.type_list_extend mt_extend (pe_var hN hv hd hcd) (pa_cons a1 pa_nil hs) rfl (by rw [hst]; rfl) hline hs rfl, fun c O G H σ ρ e0 Q h => ?_⟩
  unfold mExt at h
  split at h
  · rename_i b0 ds0 q0
    obtain ⟨a, xs, p1, p2, p3, p4, p5⟩ := e0.ol i b0 ds0 q0
    refine ⟨.ref a, p1, tyV_own p4, ?_⟩
    refine a2.thn e0 h fun v ρ2 xv G1 H1 e1 x1 s1 r1 h1 => ?_
    split at h1
    · rename_i es b ds q1
      obtain ⟨a', xs', g1, g2, g3, g4, g5⟩ := e1.ol i b ds q1
      rw [p1] at g1
      cases g1
      split at h1
      · rename_i hz
        have r1' : Rep X.K G1 xv (.lst es) := r1
        cases r1' with
        | @lst l zs _ k1 k2 =>
          obtain ⟨f1, f2, f3⟩ := e1.setOl q1 p1 g4 (g5.append k2)
          exact ⟨a, l, xs', zs, rfl, rfl, g4, e1.sub _ _ k1, by rw [g5.length, k2.length]; exact sz_of hz, h1 .non G1 _ f1 f2 f3 .non⟩
      · exact h1.elim
    · exact h1.elim
  · exact h.elim
/-- x.pop(), x of our own -/
def mPop (i : Nat) : Sl → Res Val := fun ρ => match ρ[i]? with
  | some (.ol b ds) => match ds[ds.length - 1]? with
    | some d => .ok (.d d) (ρ.set i (.ol b ds.dropLast))
    | none => .stuck
  | _ => .stuck
theorem mtR_pop {X : Cx} : MtR X "list.pop" rPop := fun pins s σ H x xs v us Q I rx rs h => mt_pop pins s σ H x xs v us Q I rx rs h
theorem ve_pop {i : Nat} {x : Str} {p apos cpos : Pos} (hN : X.N[i]? = some x) (hv : Vis X.env.scope x) (hd : (x == ("__debug__" : Str)) = false) (hcd : (x == ("__classdict__" : Str)) = false) (hline : (apos.endLine == cpos.line) = true) :
    VE X W (.Call (.Attribute (.Name x p) "pop" apos) [] [] cpos) (mPop i) := by
  refine ⟨_, pe_bm0 PySem.F.plainAttrs_list PySem.F.slot_list_pop PySem.F.type_list_pop mtR_pop (pe_var hN hv hd hcd) rfl hline, fun c O G H σ ρ e0 Q h => ?_⟩
  unfold mPop at h
  split at h
  · rename_i b ds q0
    obtain ⟨a, xs, p1, p2, p3, p4, p5⟩ := e0.ol i b ds q0
    split at h
    · rename_i d qd
      obtain ⟨v, k1, k2⟩ := p5.getD qd
      obtain ⟨f1, f2, f3⟩ := e0.setOl q0 p1 p4 p5.dropLast
      exact ⟨.ref a, p1, tyV_own p4, a, xs, v, rfl, rfl, p4, by rw [p5.length]; exact k1, h v G _ f1 f2 f3 k2⟩
    · exact h.elim
  · exact h.elim
end

/-! ### calls of the text's defs -/
inductive FR where
  | ret (d : D) (j : List D)
  /-- a new list, nobody else's -/
  | own (ds : List D) (j : List D)
  | exc (x : Ex) (j : List D)
  | stuck
def isOl : Cell → Bool
  | .ol _ _ => true
  | _ => false
inductive ArgR (K : PySem.W.Frag) (G H : Hp) (ja : Option Addr) : V → Cell → Prop
  | pv {v : V} {d : D} : Rep K G v d → ArgR K G H ja v (.pv d)
  | ol {a : Addr} {xs : List V} {ds : List D} : ja = some a → H a = some (.lst xs) → RepA K G xs ds → ArgR K G H ja (.ref a) (.ol false ds)
structure FExt (ja : Option Addr) (G H G' H' : Hp) : Prop where
  g : Le G G'
  s : Le G' H'
  k : ∀ b o, H b = some o → ja ≠ some b → H' b = some o
  n : ∀ b o, G' b = some o → G b = some o ∨ H b = none
  d : ∀ b, H b ≠ none → H' b ≠ none
/-- the promise: it does what M says -/
def spM (K : PySem.W.Frag) (M : List Cell → FR) : Sp := fun vs H Q E => ∃ (G : Hp) (ja : Option Addr) (cs : List Cell), Le G H ∧ Paired (ArgR K G H ja) vs cs ∧ (∀ a, ja = some a → G a = none ∧ H a ≠ none ∧ cs.any isOl = true) ∧ (cs.filter isOl).length ≤ 1 ∧
  match M cs with
  | .ret d j => ∀ v G' H', FExt ja G H G' H' → (∀ a, ja = some a → ∃ xs, H' a = some (.lst xs) ∧ RepA K G' xs j) → Rep K G' v d → Q v H'
  | .own ds j => ∀ v G' H', FExt ja G H G' H' → (∀ a, ja = some a → ∃ xs, H' a = some (.lst xs) ∧ RepA K G' xs j) → (∃ p xs, v = .ref p ∧ H p = none ∧ G' p = none ∧ H' p = some (.lst xs) ∧ RepA K G' xs ds) → Q v H'
  | .exc x j => ∀ cls dd G' H', FExt ja G H G' H' → (∀ a, ja = some a → ∃ xs, H' a = some (.lst xs) ∧ RepA K G' xs j) → ExR K G' cls dd x → E cls dd H'
  | .stuck => False
theorem Paired.len {α β : Type} {F : α → β → Prop} : ∀ {l₁ : List α} {l₂ : List β}, Paired F l₁ l₂ → l₁.length = l₂.length
  | _, _, .nil => rfl
  | _, _, .cons _ t => by rw [List.length_cons, List.length_cons, Paired.len t]

/-- the cells handed over, and which of ours is lent -/
def cellsOf (ρ : Sl) : List Val → Option (List Cell × Option Nat)
  | [] => some ([], none)
  | .d d :: r => match cellsOf ρ r with
    | some (cs, o) => some (.pv d :: cs, o)
    | none => none
  | .own i :: r => match ρ[i]?, cellsOf ρ r with
    | some (.ol _ ds), some (cs, none) => some (.ol false ds :: cs, some i)
    | _, _ => none
def backOf (ρ : Sl) (o : Option Nat) (j : List D) : Sl := match o with
  | none => ρ
  | some i => match ρ[i]? with
    | some (.ol b _) => ρ.set i (.ol b j)
    | _ => ρ
def outOf (ρ : Sl) (o : Option Nat) : FR → Res Val
  | .ret d j => .ok (.d d) (backOf ρ o j)
  | .own ds j => .ok (.d (.lst ds)) (backOf ρ o j)
  | .exc x j => .exc x (backOf ρ o j)
  | .stuck => .stuck
def mFn (M : List Cell → FR) (dds : List D) (f : Sl → Res (List Val)) : Sl → Res Val := fun ρ => (f ρ).bind fun vs ρ1 => match cellsOf ρ1 vs with
  | some (cs, o) => outOf ρ1 o (M (cs ++ dds.map .pv))
  | none => .stuck
section
variable {K : PySem.W.Frag} {c : Ent} {O : Addr → Prop} {G H : Hp} {σ : L2.St} {ρ : Sl}
theorem cells_noOl : ∀ {vs : List Val} {cs : List Cell}, cellsOf ρ vs = some (cs, none) → cs.filter isOl = []
  | [], cs, h => by cases h; rfl
  | .d d :: r, cs, h => by
    simp only [cellsOf] at h
    split at h
    · rename_i cs' o q
      cases h
      rw [List.filter_cons, if_neg (by simp [isOl])]
      exact cells_noOl q
    · cases h
  | .own i :: r, cs, h => by
    simp only [cellsOf] at h
    split at h
    · cases h
    · cases h
theorem cells_one : ∀ {vs : List Val} {cs : List Cell} {o : Option Nat}, cellsOf ρ vs = some (cs, o) → (cs.filter isOl).length ≤ 1
  | [], cs, o, h => by cases h; decide
  | .d d :: r, cs, o, h => by
    simp only [cellsOf] at h
    split at h
    · rename_i cs' o' q
      cases h
      rw [List.filter_cons, if_neg (by simp [isOl])]
      exact cells_one q
    · cases h
  | .own i :: r, cs, o, h => by
    simp only [cellsOf] at h
    split at h
    · rename_i b ds cs' q1 q2
      cases h
      rw [List.filter_cons, if_pos (show isOl (.ol false ds) = true from rfl), cells_noOl q2]
      exact Nat.le_refl 1
    · cases h
theorem cells_any : ∀ {vs : List Val} {cs : List Cell} {i : Nat}, cellsOf ρ vs = some (cs, some i) → cs.any isOl = true
  | [], cs, i, h => by cases h
  | .d d :: r, cs, i, h => by
    simp only [cellsOf] at h
    split at h
    · rename_i cs' o' q
      cases h
      rw [List.any_cons, cells_any q, Bool.or_true]
    · cases h
  | .own k :: r, cs, i, h => by
    simp only [cellsOf] at h
    split at h
    · rename_i b ds cs' q1 q2
      cases h
      rfl
    · cases h
/-- the address of what is lent -/
def lentAt (σ : L2.St) : Option Nat → Option Addr
  | none => none
  | some i => match σ[i]? with
    | some (some (.ref a)) => some a
    | _ => none
theorem cells_own : ∀ {vs : List Val} {cs : List Cell} {i : Nat}, cellsOf ρ vs = some (cs, some i) → ∃ b ds, ρ[i]? = some (.ol b ds)
  | [], cs, i, h => by cases h
  | .d d :: r, cs, i, h => by
    simp only [cellsOf] at h
    split at h
    · rename_i cs' o' q
      cases h
      exact cells_own q
    · cases h
  | .own k :: r, cs, i, h => by
    simp only [cellsOf] at h
    split at h
    · rename_i b ds cs' q1 q2
      cases h
      exact ⟨b, ds, q1⟩
    · cases h
theorem cells_rep (e : ERep K c O G H σ ρ) : ∀ {xs : List V} {vs : List Val} {cs : List Cell} {o : Option Nat}, Paired (VRep K G σ ρ) xs vs → cellsOf ρ vs = some (cs, o) → Paired (ArgR K G H (lentAt σ o)) xs cs
  | _, [], _, _, .nil, h => by cases h; exact .nil
  | _, .d d :: r, cs, o, .cons p t, h => by
    simp only [cellsOf] at h
    split at h
    · rename_i cs' o' q
      cases h
      exact .cons (.pv p) (cells_rep e t q)
    · cases h
  | _, .own i :: r, cs, o, .cons p t, h => by
    simp only [cellsOf] at h
    split at h
    · rename_i b ds cs' q1 q2
      cases h
      obtain ⟨a, ys, p1, p2, p3, p4, p5⟩ := e.ol i b ds q1
      have hp : σ[i]? = some (some _) := p.1
      rw [p1] at hp
      cases hp
      have ih := cells_rep e t q2
      have la : lentAt σ (some i) = some a := by simp only [lentAt, p1]
      refine .cons (.ol la p4 p5) ?_
      rw [la]
      exact L2.Paired.mapP ih fun v cc r => by
        cases r with
        | pv r => exact .pv r
        | ol z _ _ => cases z
    · cases h
/-- behind a call: what is lent holds j now, all else is as it was -/
theorem ERep.called {G' H' : Hp} {o : Option Nat} {j : List D} (e : ERep K c O G H σ ρ) (ho : ∀ i, o = some i → ∃ b ds, ρ[i]? = some (Cell.ol b ds)) (x : FExt (lentAt σ o) G H G' H')
    (hj : ∀ a, lentAt σ o = some a → ∃ xs, H' a = some (.lst xs) ∧ RepA K G' xs j) : ERep K c O G' H' σ (backOf ρ o j) ∧ Ext O G H G' H' ∧ Shp ρ (backOf ρ o j) := by
  have inO : ∀ a, lentAt σ o = some a → O a := fun a ha => by
    cases o with
    | none => cases ha
    | some i =>
      obtain ⟨b, ds, q⟩ := ho i rfl
      obtain ⟨a', xs, p1, p2, p3, p4, p5⟩ := e.ol i b ds q
      simp only [lentAt, p1] at ha
      cases ha
      exact p2
  have og : ∀ a, O a → G' a = none := fun a ha => by
    cases q : G' a with
    | none => rfl
    | some u =>
      rcases x.n a u q with z | z
      · rw [e.og a ha] at z; cases z
      · exact absurd z (e.oh a ha)
  have ex : Ext O G H G' H' := ⟨x.g, fun a u q n => x.k a u q fun z => n (inO a z), x.n, x.d⟩
  have core : ∀ ρ' : Sl, ρ'.length = ρ.length → (∀ (i : Nat) (d : D), ρ'[i]? = some (Cell.pv d) → ρ[i]? = some (Cell.pv d)) →
      (∀ (i : Nat) (b : Bool) (ds : List D), ρ'[i]? = some (Cell.ol b ds) → (∃ ds', ρ[i]? = some (Cell.ol b ds')) ∧ ∃ a xs, σ[i]? = some (some (V.ref a)) ∧ H' a = some (.lst xs) ∧ RepA K G' xs ds) → ERep K c O G' H' σ ρ' := fun ρ' hl hp ho' => by
    refine ⟨x.s, e.g0.trans x.g, fun a u q => ?_, fun a u q n => ?_, fun a q => x.d a (e.dom a q), og, e.oj, fun a q => x.d a (e.oh a q), hl.trans e.len, fun i d q => ?_, fun i b ds q => ?_, fun i k b b' ds ds' a hne q1 q2 q3 => ?_⟩
    · rcases x.n a u q with z | z
      · exact e.nw a u z
      · refine .inr ?_
        cases q2 : c.H0 a with
        | none => rfl
        | some v => exact absurd z (e.dom a (by rw [q2]; simp))
    · refine x.k a u (e.keep a u q n) fun z => ?_
      rcases e.oj a (inO a z) with w | w
      · exact n w
      · rw [w] at q; cases q
    · obtain ⟨v, h1, h2⟩ := e.pv i d (hp i d q)
      exact ⟨v, h1, h2.up x.g⟩
    · obtain ⟨⟨ds', h1⟩, a, xs, h2, h3, h4⟩ := ho' i b ds q
      obtain ⟨a', ys, p1, p2, p3, p4, p5⟩ := e.ol i b ds' h1
      rw [h2] at p1
      cases p1
      exact ⟨a, xs, h2, p2, p3, h3, h4⟩
    · obtain ⟨⟨d1, h1⟩, _⟩ := ho' i b ds q1
      obtain ⟨⟨d2, h2⟩, _⟩ := ho' k b' ds' q2
      exact e.dist i k b b' d1 d2 a hne h1 h2 q3
  -- an own list that isn't lent
  have stay : ∀ (i : Nat) (b : Bool) (ds : List D), o ≠ some i → ρ[i]? = some (Cell.ol b ds) → ∃ a xs, σ[i]? = some (some (V.ref a)) ∧ H' a = some (.lst xs) ∧ RepA K G' xs ds := fun i b ds ne q => by
    obtain ⟨a, ys, p1, p2, p3, p4, p5⟩ := e.ol i b ds q
    refine ⟨a, ys, p1, x.k a _ p4 fun z => ?_, p5.up x.g⟩
    cases o with
    | none => cases z
    | some k =>
      obtain ⟨b', ds', q'⟩ := ho k rfl
      obtain ⟨a', zs, r1, r2, r3, r4, r5⟩ := e.ol k b' ds' q'
      simp only [lentAt, r1] at z
      cases z
      exact e.dist i k b b' ds ds' a (fun w => ne (by rw [w])) q q' p1 r1
  cases o with
  | none =>
    refine ⟨core ρ rfl (fun _ _ q => q) fun i b ds q => ⟨⟨ds, q⟩, stay i b ds (fun z => by cases z) q⟩, ex, Shp.refl ρ⟩
  | some k =>
    obtain ⟨b0, ds0, q0⟩ := ho k rfl
    have eb : backOf ρ (some k) j = ρ.set k (.ol b0 j) := by simp only [backOf, q0]
    rw [eb]
    refine ⟨core _ (by rw [List.length_set]) (fun i d q => ?_) fun i b ds q => ?_, ex, shp_set q0⟩
    · by_cases z : k = i
      · subst z
        rw [List.getElem?_set_self (List.getElem?_eq_some_iff.mp q0).1] at q
        cases q
      · rw [List.getElem?_set_ne z] at q
        exact q
    · obtain ⟨ds3, h1, h2, h3⟩ := getset_ol q0 q
      refine ⟨⟨ds3, h1⟩, ?_⟩
      by_cases z : i = k
      · subst z
        obtain ⟨rfl, rfl⟩ := h3 rfl
        obtain ⟨a, ys, p1, p2, p3, p4, p5⟩ := e.ol i b ds0 q0
        obtain ⟨xs, k1, k2⟩ := hj a (by simp only [lentAt, p1])
        exact ⟨a, xs, p1, k1, k2⟩
      · rw [← h2 z]
        exact stay i b ds3 (fun w => z (Option.some.inj w).symm) h1
theorem args_append {ja : Option Addr} : ∀ {xs : List V} {cs : List Cell}, Paired (ArgR K G H ja) xs cs → ∀ {ys : List V} {ds : List Cell}, Paired (ArgR K G H ja) ys ds → Paired (ArgR K G H ja) (xs ++ ys) (cs ++ ds)
  | _, _, .nil, _, _, s => s
  | _, _, .cons r t, _, _, s => .cons r (args_append t s)
theorem args_dflt {ja : Option Addr} : ∀ {ys : List V} {ds : List D}, Paired (fun v d => ∀ G, Rep K G v d) ys ds → Paired (ArgR K G H ja) ys (ds.map .pv)
  | _, _, .nil => .nil
  | _, _, .cons r t => .cons (.pv (r G)) (args_dflt t)
theorem noOl_map (ds : List D) : (ds.map Cell.pv).filter isOl = [] := by
  induction ds with
  | nil => rfl
  | cons d r ih => rw [List.map_cons, List.filter_cons, if_neg (by simp [isOl]), ih]
end
section
variable {X : Cx} {W : XK} {e : Expr} {es : List Expr} {pos p : Pos} {x : Str} {f : Addr} {fd : FuncData} {ps : List Str} {k : Nat} {M : List Cell → FR} {ds : List Value} {dvs : List V} {dds : List D} {g : Sl → Res (List Val)}
theorem vv_fn {t : TA} (hd : Paired (fun v d => ∀ G, Rep X.K G v d) dvs dds) (ha : Vv X.K W (relA X.K) t g) : Vv X.K W (relE X.K) (tCall (spM X.K M) dvs W t) (mFn M dds g) := by
  intro c O G H σ ρ e Q h
  refine ha.thn e h fun vs ρ1 xs G1 H1 e1 x1 s1 r1 h1 => ?_
  split at h1
  · rename_i cs o q
    have hop : ∀ i, o = some i → ∃ b ds, ρ1[i]? = some (Cell.ol b ds) := fun i z => cells_own (cs := cs) (by rw [← z]; exact q)
    refine ⟨G1, lentAt σ o, cs ++ dds.map .pv, e1.sub, args_append (cells_rep e1 r1 q) (args_dflt hd), fun a za => ?_, by rw [List.filter_append, noOl_map, List.append_nil]; exact cells_one q, ?_⟩
    · cases o with
      | none => cases za
      | some i =>
        obtain ⟨b, ds, qi⟩ := hop i rfl
        obtain ⟨a', ys, p1, p2, p3, p4, p5⟩ := e1.ol i b ds qi
        simp only [lentAt, p1] at za
        cases za
        exact ⟨e1.og a p2, by rw [p4]; simp, by rw [List.any_append, cells_any q]; rfl⟩
    · cases qm : M (cs ++ dds.map .pv) with
      | ret d j =>
        rw [qm] at h1
        intro v G' H' fx hj rv
        obtain ⟨e2, x2, s2⟩ := e1.called hop fx hj
        exact h1 v G' H' e2 x2 s2 rv
      | own ds j =>
        rw [qm] at h1
        rintro v G' H' fx hj ⟨p, xs', rfl, n0, n3, n4, n5⟩
        obtain ⟨e2, x2, s2⟩ := e1.called hop fx hj
        obtain ⟨f1, f2, f3⟩ := e1.fresh n0
        have le : Le G' (upd G' p (.lst xs')) := Le.new n3
        refine h1 (.ref p) (upd G' p (.lst xs')) H' (e2.newG f1 f3 n3 n4) ⟨x2.g.trans le, x2.k, fun a u z => ?_, x2.d⟩ s2 (.lst upd_same (n5.up le))
        by_cases w : a = p
        · subst w
          exact .inr n0
        · rw [upd_ne w] at z
          exact x2.n a u z
      | exc x j =>
        rw [qm] at h1
        intro cls dd G' H' fx hj rv
        obtain ⟨e2, x2, s2⟩ := e1.called hop fx hj
        exact h1 cls dd G' H' e2 x2 s2 rv
      | stuck =>
        rw [qm] at h1
        exact h1
  · exact h1.elim
theorem ve_fn (F : FnG X.prog X.w X.K X.mg X.base k f fd ps (spM X.K M)) (hr : RoomG k X.A) (tk : Takes X fun cls d _ H => W cls d H) (hg : Gl X x) (hm : X.mg x = some (.ref f)) (hk : PySem.W.keepIn X.K (.ref f) = true) (hb : Binds X.K fd ps ds) (hd : Vals dvs ds)
    (hdd : Paired (fun v d => ∀ G, Rep X.K G v d) dvs dds) (ha : VA X W (e :: es) g) (hdb : (x == ("__debug__" : Str)) = false) (he : starEach (e :: es) X.env = (false, eval e X.env) :: starEach es X.env) (hpl : (backTo pos (starEach es X.env)).any (·.1) = false) :
    VE X W (.Call (.Name x p) (e :: es) [] pos) (mFn M dds g) := by
  obtain ⟨t, a1, a2⟩ := ha.ex
  exact ⟨_, pe_callG F hr hg hm hk hb hd (passes_call tk fun _ _ _ _ h => h) a1 hdb he hpl, vv_fn hdd a2⟩
end
end VL

end

section
set_option linter.all false
set_option maxRecDepth 100000
set_option maxHeartbeats 4000000
/-! VL 6: statements. -/
namespace VL
open PySem PySem.Spec PyProof.Rows L2

/-! ### slots stored -/
section
variable {K : PySem.W.Frag} {c : Ent} {O : Addr → Prop} {G H : Hp} {σ : L2.St} {ρ : Sl}
theorem set_get {α : Type} {l : List α} {i j : Nat} {x y : α} (h : (l.set i x)[j]? = some y) : (j = i ∧ y = x ∧ i < l.length) ∨ (j ≠ i ∧ l[j]? = some y) := by
  by_cases e : i = j
  · subst e
    by_cases hl : i < l.length
    · rw [List.getElem?_set_self hl] at h
      cases h
      exact .inl ⟨rfl, rfl, hl⟩
    · rw [List.getElem?_eq_none (by rw [List.length_set]; omega)] at h
      cases h
  · rw [List.getElem?_set_ne e] at h
    exact .inr ⟨fun z => e z.symm, h⟩
theorem ERep.setPv {i : Nat} {v : V} {d : D} (e : ERep K c O G H σ ρ) (r : Rep K G v d) : ERep K c O G H (σ.set i (some v)) (ρ.set i (.pv d)) := by
  refine ⟨e.sub, e.g0, e.nw, e.keep, e.dom, e.og, e.oj, e.oh, by rw [List.length_set, List.length_set]; exact e.len, fun j d' q => ?_, fun j b ds q => ?_, fun j k b b' ds ds' a hne q1 q2 q3 => ?_⟩
  · rcases set_get q with ⟨rfl, h2, hl⟩ | ⟨hne, q⟩
    · cases h2
      exact ⟨v, List.getElem?_set_self (by rw [← e.len]; exact hl), r⟩
    · obtain ⟨u, h1, h2⟩ := e.pv j d' q
      exact ⟨u, by rw [List.getElem?_set_ne (Ne.symm hne)]; exact h1, h2⟩
  · rcases set_get q with ⟨rfl, h2, hl⟩ | ⟨hne, q⟩
    · cases h2
    · obtain ⟨a, xs, h1, h2⟩ := e.ol j b ds q
      exact ⟨a, xs, by rw [List.getElem?_set_ne (Ne.symm hne)]; exact h1, h2⟩
  · rcases set_get q1 with ⟨_, h2, _⟩ | ⟨hn1, q1⟩
    · cases h2
    · rcases set_get q2 with ⟨_, h2, _⟩ | ⟨hn2, q2⟩
      · cases h2
      · rw [List.getElem?_set_ne (Ne.symm hn1)] at q3
        rw [List.getElem?_set_ne (Ne.symm hn2)]
        exact e.dist j k b b' ds ds' a hne q1 q2 q3
/-- a list of ours that nobody else knows -/
theorem ERep.setOwn {i : Nat} {p : Addr} {xs : List V} {ds : List D} (e : ERep K c O G H σ ρ) (h1 : c.H0 p = none) (h2 : ¬ O p) (h3 : G p = none) (h4 : H p = some (.lst xs)) (r : RepA K G xs ds) :
    ERep K c (fun a => O a ∨ a = p) G H (σ.set i (some (.ref p))) (ρ.set i (.ol true ds)) := by
  refine ⟨e.sub, e.g0, e.nw, e.keep, e.dom, fun a q => ?_, fun a q => ?_, fun a q => ?_, by rw [List.length_set, List.length_set]; exact e.len, fun j d' q => ?_, fun j b es q => ?_, fun j k b b' d1 d2 a hne q1 q2 q3 => ?_⟩
  · rcases q with q | rfl
    · exact e.og a q
    · exact h3
  · rcases q with q | rfl
    · exact e.oj a q
    · exact .inr h1
  · rcases q with q | rfl
    · exact e.oh a q
    · rw [h4]; simp
  · rcases set_get q with ⟨rfl, h2, hl⟩ | ⟨hne, q⟩
    · cases h2
    · obtain ⟨u, g1, g2⟩ := e.pv j d' q
      exact ⟨u, by rw [List.getElem?_set_ne (Ne.symm hne)]; exact g1, g2⟩
  · rcases set_get q with ⟨rfl, g2, hl⟩ | ⟨hne, q⟩
    · cases g2
      exact ⟨p, xs, List.getElem?_set_self (by rw [← e.len]; exact hl), .inr rfl, by rw [if_pos rfl]; exact h1, h4, r⟩
    · obtain ⟨a, ys, g1, g2, g3, g4, g5⟩ := e.ol j b es q
      exact ⟨a, ys, by rw [List.getElem?_set_ne (Ne.symm hne)]; exact g1, .inl g2, g3, g4, g5⟩
  · rcases set_get q1 with ⟨z1, w1, hl⟩ | ⟨hn1, p1⟩
    · rw [z1, List.getElem?_set_self (by rw [← e.len]; exact hl)] at q3
      cases q3
      rcases set_get q2 with ⟨z2, w2, _⟩ | ⟨hn2, p2⟩
      · exact absurd (z1.trans z2.symm) hne
      · rw [List.getElem?_set_ne (Ne.symm hn2)]
        obtain ⟨a', ys, g1, g2, _⟩ := e.ol k b' d2 p2
        intro z
        rw [z] at g1
        cases g1
        exact h2 g2
    · rw [List.getElem?_set_ne (Ne.symm hn1)] at q3
      rcases set_get q2 with ⟨z2, w2, hl⟩ | ⟨hn2, p2⟩
      · rw [z2, List.getElem?_set_self (by rw [← e.len]; exact hl)]
        obtain ⟨a', ys, g1, g2, _⟩ := e.ol j b d1 p1
        rw [q3] at g1
        cases g1
        intro z
        cases z
        exact h2 g2
      · rw [List.getElem?_set_ne (Ne.symm hn2)]
        exact e.dist j k b b' d1 d2 a hne p1 p2 q3
/-- a list of ours is data from now on -/
def frz (i : Nat) (ρ : Sl) : Sl := match ρ[i]? with
  | some (.ol true ds) => ρ.set i (.pv (.lst ds))
  | _ => ρ
theorem ERep.frz (i : Nat) (e : ERep K c O G H σ ρ) : ∃ O' G', ERep K c O' G' H σ (frz i ρ) ∧ Le G G' := by
  unfold VL.frz
  split
  · rename_i ds q
    obtain ⟨a, xs, h1, h2, h3, h4, h5⟩ := e.ol i true ds q
    rw [if_pos rfl] at h3
    have ga : G a = none := e.og a h2
    have le : Le G (upd G a (.lst xs)) := Le.new ga
    refine ⟨fun x => O x ∧ x ≠ a, upd G a (.lst xs), ?_, le⟩
    refine ⟨fun x u w => ?_, e.g0.trans le, fun x u w => ?_, e.keep, e.dom, fun x w => by rw [upd_ne w.2]; exact e.og x w.1, fun x w => e.oj x w.1, fun x w => e.oh x w.1, by rw [List.length_set]; exact e.len, fun j d w => ?_, fun j b es w => ?_, fun j k b b' d1 d2 x hne q1 q2 q3 => ?_⟩
    · by_cases z : x = a
      · subst z; rw [upd_same] at w; cases w; exact h4
      · rw [upd_ne z] at w; exact e.sub x u w
    · by_cases z : x = a
      · subst z; exact .inr h3
      · rw [upd_ne z] at w; exact e.nw x u w
    · rcases set_get w with ⟨rfl, g2, hl⟩ | ⟨hne, w⟩
      · cases g2
        exact ⟨.ref a, h1, .lst upd_same (h5.up le)⟩
      · obtain ⟨u, g1, g2⟩ := e.pv j d w
        exact ⟨u, g1, g2.up le⟩
    · rcases set_get w with ⟨rfl, g2, hl⟩ | ⟨hne, w⟩
      · cases g2
      · obtain ⟨x, ys, g1, g2, g3, g4, g5⟩ := e.ol j b es w
        exact ⟨x, ys, g1, ⟨g2, fun z => by subst z; exact e.dist i j true b ds es x (Ne.symm hne) q w h1 g1⟩, g3, g4, g5.up le⟩
    · rcases set_get q1 with ⟨_, w2, _⟩ | ⟨hn1, q1⟩
      · cases w2
      · rcases set_get q2 with ⟨_, w2, _⟩ | ⟨hn2, q2⟩
        · cases w2
        · exact e.dist j k b b' d1 d2 x hne q1 q2 q3
  · exact ⟨O, G, e, Le.refl G⟩
end

/-! ### what statements come to -/
inductive SR where
  | nx (ρ : Sl)
  | rt (d : D) (ρ : Sl)
  | ro (ds : List D) (ρ : Sl)
  | bk (ρ : Sl)
  | ct (ρ : Sl)
  | exc (x : Ex) (ρ : Sl)
  | stuck
def SPost (K : PySem.W.Frag) (W : XK) (c : Ent) (G : Hp) (D' : Ends) : SR → Prop
  | .nx ρ' => ∀ O' G' H' σ', ERep K c O' G' H' σ' ρ' → Le G G' → D'.nx σ' H'
  | .bk ρ' => ∀ O' G' H' σ', ERep K c O' G' H' σ' ρ' → Le G G' → D'.bk σ' H'
  | .ct ρ' => ∀ O' G' H' σ', ERep K c O' G' H' σ' ρ' → Le G G' → D'.ct σ' H'
  | .rt d ρ' => ∀ x O' G' H' σ', ERep K c O' G' H' σ' ρ' → Le G G' → Rep K G' x d → D'.rt x H'
  | .ro ds ρ' => ∀ p xs O' G' H' σ', ERep K c O' G' H' σ' ρ' → Le G G' → c.H0 p = none → G' p = none → H' p = some (.lst xs) → RepA K G' xs ds → D'.rt (.ref p) H'
  | .exc x ρ' => ∀ cls dd O' G' H' σ', ERep K c O' G' H' σ' ρ' → Le G G' → ExR K G' cls dd x → W cls dd H'
  | .stuck => False
def SVv (K : PySem.W.Frag) (W : XK) (t : TS) (f : Sl → SR) : Prop :=
  ∀ (c : Ent) (O : Addr → Prop) (G H : Hp) (σ : L2.St) (ρ : Sl), ERep K c O G H σ ρ → ∀ D' : Ends, SPost K W c G D' (f ρ) → t D' σ H
structure VS (X : Cx) (W : XK) (st : Stmt) (f : Sl → SR) : Prop where
  ex : ∃ t, PS X st t ∧ SVv X.K W t f
structure VB (X : Cx) (W : XK) (st : List Stmt) (f : Sl → SR) : Prop where
  ex : ∃ t, PSs X st t ∧ SVv X.K W t f
def Res.sb {α : Type} (r : Res α) (k : α → Sl → SR) : SR := match r with
  | .ok v ρ => k v ρ
  | .exc x ρ => .exc x ρ
  | .stuck => .stuck
section
variable {α β : Type} {K : PySem.W.Frag} {W : XK} {c : Ent} {O : Addr → Prop} {G H G1 H1 : Hp} {σ : L2.St} {ρ ρ1 : Sl} {D' : Ends}
theorem SPost.mono {r : SR} (e : Le G G1) (h : SPost K W c G D' r) : SPost K W c G1 D' r := by
  cases r with
  | nx ρ' => exact fun O' G' H' σ' r l => h O' G' H' σ' r (e.trans l)
  | bk ρ' => exact fun O' G' H' σ' r l => h O' G' H' σ' r (e.trans l)
  | ct ρ' => exact fun O' G' H' σ' r l => h O' G' H' σ' r (e.trans l)
  | rt d ρ' => exact fun x O' G' H' σ' r l => h x O' G' H' σ' r (e.trans l)
  | ro d ρ' => exact fun x xs O' G' H' σ' r l => h x xs O' G' H' σ' r (e.trans l)
  | exc x ρ' => exact fun x' dd O' G' H' σ' r l => h x' dd O' G' H' σ' r (e.trans l)
  | stuck => exact h
theorem Vv.thnS {rel : L2.St → Hp → Sl → β → α → Prop} {t : L2.St → Hp → (β → Hp → Prop) → Prop} {f : Sl → Res α} {k : α → Sl → SR} {R : β → Hp → Prop}
    (h : Vv K W rel t f) (e : ERep K c O G H σ ρ) (hp : SPost K W c G D' ((f ρ).sb k))
    (hr : ∀ a ρ1 x G1 H1, ERep K c O G1 H1 σ ρ1 → Ext O G H G1 H1 → Shp ρ ρ1 → rel σ G1 ρ1 x a → SPost K W c G1 D' (k a ρ1) → R x H1) : t σ H R := by
  refine h c O G H σ ρ e R ?_
  cases q : f ρ with
  | ok v ρ1 =>
    rw [q] at hp
    intro x G1 H1 e1 x1 s1 r1
    exact hr v ρ1 x G1 H1 e1 x1 s1 r1 (SPost.mono x1.g hp)
  | exc x ρ1 =>
    rw [q] at hp
    intro cls dd G1 H1 e1 x1 s1 r1
    exact hp cls dd O G1 H1 σ e1 x1.g r1
  | stuck =>
    rw [q] at hp
    exact hp
end
section
variable {X : Cx} {W : XK} {st : Stmt} {sts a b : List Stmt} {e c : Expr} {pos : Pos} {f g : Sl → SR} {fe : Sl → Res Val} {ft : Sl → Res Bool}
def sStk : Sl → SR := fun _ => .stuck
theorem vs_stuck : VS X W st sStk := ⟨_, ps_never, fun _ _ _ _ _ _ _ _ h => h⟩
theorem vb_stuck : VB X W sts sStk := ⟨_, pss_never, fun _ _ _ _ _ _ _ _ h => h⟩
def sNx : Sl → SR := fun ρ => .nx ρ
theorem vb_nil : VB X W [] sNx := ⟨_, pss_nil, fun c O G H σ ρ e D' h => h O G H σ e (Le.refl G)⟩
def sSeq (f g : Sl → SR) : Sl → SR := fun ρ => match f ρ with
  | .nx ρ1 => g ρ1
  | r => r
theorem vb_cons (h1 : VS X W st f) (h2 : VB X W sts g) : VB X W (st :: sts) (sSeq f g) := by
  obtain ⟨t, a1, a2⟩ := h1.ex
  obtain ⟨u, b1, b2⟩ := h2.ex
  refine ⟨_, pss_cons a1 b1, fun c O G H σ ρ e D' h => a2 c O G H σ ρ e _ ?_⟩
  unfold sSeq at h
  cases q : f ρ with
  | nx ρ1 =>
    rw [q] at h
    exact fun O' G' H' σ' e1 l => b2 c O' G' H' σ' ρ1 e1 D' (SPost.mono l h)
  | rt d ρ1 => rw [q] at h; exact h
  | ro d ρ1 => rw [q] at h; exact h
  | bk ρ1 => rw [q] at h; exact h
  | ct ρ1 => rw [q] at h; exact h
  | exc x ρ1 => rw [q] at h; exact h
  | stuck => rw [q] at h; exact h
def sPass : Sl → SR := fun ρ => .nx ρ
theorem vs_pass : VS X W (.Pass pos) sPass := ⟨_, ps_pass, fun c O G H σ ρ e D' h => h O G H σ e (Le.refl G)⟩
theorem vs_break : VS X W (.Break pos) (fun ρ => .bk ρ) := ⟨_, ps_break, fun c O G H σ ρ e D' h => h O G H σ e (Le.refl G)⟩
theorem vs_continue : VS X W (.Continue pos) (fun ρ => .ct ρ) := ⟨_, ps_continue, fun c O G H σ ρ e D' h => h O G H σ e (Le.refl G)⟩
def sDrop (f : Sl → Res Val) : Sl → SR := fun ρ => (f ρ).sb fun _ ρ1 => .nx ρ1
theorem vs_expr (h : VE X W e fe) (hs : swapsWith e none pos.line X.env = pure false) : VS X W (.Expr e pos) (sDrop fe) := by
  obtain ⟨t, a1, a2⟩ := h.ex
  refine ⟨_, ps_expr a1 hs, fun c O G H σ ρ e0 D' h => ?_⟩
  exact a2.thnS e0 h fun v ρ1 x G1 H1 e1 x1 s1 r1 h1 => h1 O G1 H1 σ e1 (Le.refl _)
/-- a value handed back: a list of our own is data then -/
def sRet (f : Sl → Res Val) : Sl → SR := fun ρ => (f ρ).sb fun v ρ1 => match v with
  | .d d => .rt d ρ1
  | .own i => match ρ1[i]? with
    | some (.ol true ds) => .rt (.lst ds) (ρ1.set i (.pv (.lst ds)))
    | _ => .stuck
theorem vs_ret (h : VE X W e fe) : VS X W (.Return (some e) pos) (sRet fe) := by
  obtain ⟨t, a1, a2⟩ := h.ex
  refine ⟨_, ps_ret a1, fun c O G H σ ρ e0 D' h => ?_⟩
  refine a2.thnS e0 h fun v ρ1 x G1 H1 e1 x1 s1 r1 h1 => ?_
  cases v with
  | d d => exact h1 x O G1 H1 σ e1 (Le.refl _) r1
  | own i =>
    have h1' : SPost X.K W c G1 D' (match ρ1[i]? with
      | some (.ol true ds) => .rt (.lst ds) (ρ1.set i (.pv (.lst ds)))
      | _ => .stuck) := h1
    split at h1'
    · rename_i ds q
      obtain ⟨O', G', e2, l⟩ := e1.frz i
      have ef : frz i ρ1 = ρ1.set i (.pv (.lst ds)) := by unfold frz; rw [q]
      rw [ef] at e2
      obtain ⟨u, k1, k2⟩ := e2.pv i (.lst ds) (List.getElem?_set_self (List.getElem?_eq_some_iff.mp q).1)
      have k3 : σ[i]? = some (some x) := r1.1
      rw [k3] at k1
      cases k1
      exact h1' x O' G' H1 σ e2 l k2
    · exact h1'.elim
theorem vs_retN : VS X W (.Return none pos) (fun ρ => .rt .non ρ) := ⟨_, ps_retN, fun c O G H σ ρ e D' h => h .non O G H σ e (Le.refl G) .non⟩
def sIf (t : Sl → Res Bool) (f g : Sl → SR) : Sl → SR := fun ρ => (t ρ).sb fun b ρ1 => if b = true then f ρ1 else g ρ1
theorem vs_if (hc : VT X W c ft) (ha : VB X W a f) (hb : VB X W b g) : VS X W (.If c a b pos) (sIf ft f g) := by
  obtain ⟨t, a1, a2⟩ := hc.ex
  obtain ⟨u, b1, b2⟩ := ha.ex
  obtain ⟨w, c1, c2⟩ := hb.ex
  refine ⟨_, ps_if a1 b1 c1, fun c O G H σ ρ e0 D' h => ?_⟩
  refine a2.thnS e0 h fun v ρ1 x G1 H1 e1 x1 s1 r1 h1 => ?_
  cases (show x = v from r1)
  by_cases hx : v = true
  · rw [if_pos hx] at h1
    rw [if_pos hx]
    exact b2 c O G1 H1 σ ρ1 e1 D' h1
  · rw [if_neg hx] at h1
    rw [if_neg hx]
    exact c2 c O G1 H1 σ ρ1 e1 D' h1
/-- a list of ours becomes data ahead of a statement -/
def sFrz (i : Nat) (f : Sl → SR) : Sl → SR := fun ρ => f (frz i ρ)
theorem svv_frz {K : PySem.W.Frag} {t : TS} {i : Nat} (h : SVv K W t f) : SVv K W t (sFrz i f) := fun c O G H σ ρ e D' hp => by
  obtain ⟨O', G', e2, l⟩ := e.frz i
  exact h c O' G' H σ _ e2 D' (SPost.mono l hp)
theorem vs_frz {i : Nat} (h : VS X W st f) : VS X W st (sFrz i f) := let ⟨t, a1, a2⟩ := h.ex; ⟨t, a1, svv_frz a2⟩

/-! ### name = value -/
def sSet (i : Nat) (f : Sl → Res Val) : Sl → SR := fun ρ => (f ρ).sb fun v ρ1 => match v with
  | .d d => .nx (ρ1.set i (.pv d))
  | _ => .stuck
theorem svv_set {K : PySem.W.Frag} {te : TE} {i : Nat} (h : Vv K W (relE K) te fe) : SVv K W (tAsg te (gName i)) (sSet i fe) := fun c O G H σ ρ e0 D' hp => by
  refine h.thnS e0 hp fun v ρ1 x G1 H1 e1 x1 s1 r1 h1 => ?_
  cases v with
  | d d => exact h1 O G1 H1 _ (e1.setPv r1) (Le.refl _)
  | own i => exact h1.elim
theorem vs_set {i : Nat} {x : Str} {pos' : Pos} (hN : X.N.Nodup) (hi : X.N[i]? = some x) (hx : Loc X.env.scope x) (h : VE X W e fe) (hs : swapsWith e (some (.Name x pos')) pos.line X.env = pure false) (hf : X.fn x = true ∨ X.env.scope.names.lookup x = some .local) :
    VS X W (.Assign [.Name x pos'] e pos) (sSet i fe) := by
  obtain ⟨t, a1, a2⟩ := h.ex
  exact ⟨_, ps_set hN hi hx a1 hs hf, svv_set a2⟩

/-! ### a new list, nobody else's -/
def relN (K : PySem.W.Frag) (H : Hp) : Hp → Hp → V → List D → Prop := fun G' H' x ds => ∃ p xs, x = .ref p ∧ H p = none ∧ G' p = none ∧ H' p = some (.lst xs) ∧ RepA K G' xs ds
def NPost (K : PySem.W.Frag) (W : XK) (c : Ent) (O : Addr → Prop) (G H : Hp) (σ : L2.St) (ρ : Sl) (Q : VK) : Res (List D) → Prop
  | .ok ds ρ' => ∀ x G' H', ERep K c O G' H' σ ρ' → Ext O G H G' H' → Shp ρ ρ' → relN K H G' H' x ds → Q x H'
  | .exc x ρ' => ∀ cls dd G' H', ERep K c O G' H' σ ρ' → Ext O G H G' H' → Shp ρ ρ' → ExR K G' cls dd x → W cls dd H'
  | .stuck => False
def NVv (K : PySem.W.Frag) (W : XK) (te : TE) (f : Sl → Res (List D)) : Prop :=
  ∀ (c : Ent) (O : Addr → Prop) (G H : Hp) (σ : L2.St) (ρ : Sl), ERep K c O G H σ ρ → ∀ Q : VK, NPost K W c O G H σ ρ Q (f ρ) → te σ H Q
structure VN (X : Cx) (W : XK) (e : Expr) (f : Sl → Res (List D)) : Prop where
  ex : ∃ t, PE X e t ∧ NVv X.K W t f
variable {fl : Sl → Res (List D)}
def nVal (f : Sl → Res (List D)) : Sl → Res Val := fun ρ => (f ρ).bind fun ds ρ1 => .ok (.d (.lst ds)) ρ1
theorem nvv_val {K : PySem.W.Frag} {te : TE} (h : NVv K W te fl) : Vv K W (relE K) te (nVal fl) := fun c O G H σ ρ e0 Q hp => by
  refine h c O G H σ ρ e0 Q ?_
  unfold nVal at hp
  cases q : fl ρ with
  | ok ds ρ1 =>
    rw [q] at hp
    rintro x G' H' e1 x1 s1 ⟨p, xs, rfl, n0, n3, n4, n5⟩
    obtain ⟨n1, n6, n2⟩ := e0.fresh n0
    have le : Le G' (upd G' p (.lst xs)) := Le.new n3
    refine hp (.ref p) (upd G' p (.lst xs)) H' (e1.newG n1 n2 n3 n4) ⟨x1.g.trans le, x1.k, fun a o z => ?_, x1.d⟩ s1 (.lst upd_same (n5.up le))
    by_cases w : a = p
    · subst w
      exact .inr n0
    · rw [upd_ne w] at z
      exact x1.n a o z
  | exc x ρ1 => rw [q] at hp; exact hp
  | stuck => rw [q] at hp; exact hp
theorem VN.ve (h : VN X W e fl) : VE X W e (nVal fl) := let ⟨t, a1, a2⟩ := h.ex; ⟨t, a1, nvv_val a2⟩
/-- x = a new list, ours -/
def sOwn (i : Nat) (f : Sl → Res (List D)) : Sl → SR := fun ρ => (f ρ).sb fun ds ρ1 => .nx (ρ1.set i (.ol true ds))
theorem svv_own {K : PySem.W.Frag} {te : TE} {i : Nat} (h : NVv K W te fl) : SVv K W (tAsg te (gName i)) (sOwn i fl) := fun c O G H σ ρ e0 D' hp => by
  refine h c O G H σ ρ e0 _ ?_
  unfold sOwn at hp
  cases q : fl ρ with
  | ok ds ρ1 =>
    rw [q] at hp
    rintro x G' H' e1 x1 s1 ⟨p, xs, rfl, n0, n3, n4, n5⟩
    obtain ⟨n1, n6, n2⟩ := e0.fresh n0
    exact hp _ G' H' _ (e1.setOwn (i := i) n1 n2 n3 n4 n5) x1.g
  | exc x ρ1 =>
    rw [q] at hp
    intro cls dd G' H' e1 x1 s1 r1
    exact hp cls dd O G' H' σ e1 x1.g r1
  | stuck => rw [q] at hp; exact hp
theorem vs_own {i : Nat} {x : Str} {pos' : Pos} (hN : X.N.Nodup) (hi : X.N[i]? = some x) (hx : Loc X.env.scope x) (h : VN X W e fl) (hs : swapsWith e (some (.Name x pos')) pos.line X.env = pure false) (hf : X.fn x = true ∨ X.env.scope.names.lookup x = some .local) :
    VS X W (.Assign [.Name x pos'] e pos) (sOwn i fl) := by
  obtain ⟨t, a1, a2⟩ := h.ex
  exact ⟨_, ps_set hN hi hx a1 hs hf, svv_own a2⟩
/-- [a, b, ..] as a new list -/
def nLst (f : Sl → Res (List Val)) : Sl → Res (List D) := fun ρ => (f ρ).bind fun vs ρ1 => match datas vs with
  | some ds => if ds.length ≤ SZ then .ok ds ρ1 else .stuck
  | none => .stuck
theorem vn_lst {es : List Expr} {h' : Sl → Res (List Val)} (h : VA X W es h') : VN X W (.List es pos) (nLst h') := by
  obtain ⟨tb, b1, b2⟩ := h.ex
  refine ⟨_, pe_lst b1, fun c O G H σ ρ e Q hp => ?_⟩
  have hp' : NPost X.K W c O G H σ ρ Q ((h' ρ).bind fun vs ρ1 => match datas vs with
    | some ds => if ds.length ≤ SZ then .ok ds ρ1 else .stuck
    | none => .stuck) := hp
  refine b2 c O G H σ ρ e _ ?_
  cases q : h' ρ with
  | ok vs ρ1 =>
    rw [q] at hp'
    intro xs G1 H1 e1 x1 s1 r1
    have hp2 : NPost X.K W c O G H σ ρ Q (match datas vs with
      | some ds => if ds.length ≤ SZ then .ok ds ρ1 else .stuck
      | none => .stuck) := hp'
    split at hp2
    · rename_i ds qd
      split at hp2
      · rename_i hz
        have ra := datas_rep r1 qd
        refine ⟨by rw [ra.length]; exact sz_of hz, fun p hpn => ?_⟩
        have hp0 : H p = none := by
          cases z : H p with
          | none => rfl
          | some o => exact absurd hpn (x1.d p (by rw [z]; simp))
        have x2 : Ext O G1 H1 G1 (upd H1 p (.lst xs)) := Ext.newH hpn
        exact hp2 (.ref p) G1 _ (e1.newH hpn) (x1.trans x2) s1 ⟨p, xs, rfl, hp0, none_of_le e1.sub hpn, upd_same, ra⟩
      · exact hp2.elim
    · exact hp2.elim
  | exc x ρ1 => rw [q] at hp'; exact hp'
  | stuck => rw [q] at hp'; exact hp'
/-- a new list handed back -/
def sRetN (f : Sl → Res (List D)) : Sl → SR := fun ρ => (f ρ).sb fun ds ρ1 => .ro ds ρ1
theorem vs_retNew (h : VN X W e fl) : VS X W (.Return (some e) pos) (sRetN fl) := by
  obtain ⟨t, a1, a2⟩ := h.ex
  refine ⟨_, ps_ret a1, fun c O G H σ ρ e0 D' hp => ?_⟩
  refine a2 c O G H σ ρ e0 _ ?_
  unfold sRetN at hp
  cases q : fl ρ with
  | ok ds ρ1 =>
    rw [q] at hp
    rintro x G' H' e1 x1 s1 ⟨p, xs, rfl, n0, n3, n4, n5⟩
    obtain ⟨n1, n6, n2⟩ := e0.fresh n0
    exact hp p xs O G' H' σ e1 x1.g n1 n3 n4 n5
  | exc x ρ1 =>
    rw [q] at hp
    intro cls dd G' H' e1 x1 s1 r1
    exact hp cls dd O G' H' σ e1 x1.g r1
  | stuck => rw [q] at hp; exact hp
/-- a list of our own handed back -/
def sRetO (f : Sl → Res Val) : Sl → SR := fun ρ => (f ρ).sb fun v ρ1 => match v with
  | .own i => match ρ1[i]? with
    | some (.ol true ds) => .ro ds ρ1
    | _ => .stuck
  | .d _ => .stuck
theorem vs_retOwn (h : VE X W e fe) : VS X W (.Return (some e) pos) (sRetO fe) := by
  obtain ⟨t, a1, a2⟩ := h.ex
  refine ⟨_, ps_ret a1, fun c O G H σ ρ e0 D' h => ?_⟩
  refine a2.thnS e0 h fun v ρ1 x G1 H1 e1 x1 s1 r1 h1 => ?_
  cases v with
  | d d => exact h1.elim
  | own i =>
    have h1' : SPost X.K W c G1 D' (match ρ1[i]? with
      | some (.ol true ds) => .ro ds ρ1
      | _ => .stuck) := h1
    split at h1'
    · rename_i ds q
      obtain ⟨a, xs, k1, k2, k3, k4, k5⟩ := e1.ol i true ds q
      have k6 : σ[i]? = some (some x) := r1.1
      rw [k1] at k6
      cases k6
      rw [if_pos rfl] at k3
      exact h1' a xs O G1 H1 σ e1 (Le.refl _) k3 (e1.og a k2) k4 k5
    · exact h1'.elim
/-- a call whose new list is ours -/
def nFn (M : List Cell → FR) (dds : List D) (f : Sl → Res (List Val)) : Sl → Res (List D) := fun ρ => (f ρ).bind fun vs ρ1 => match cellsOf ρ1 vs with
  | some (cs, o) => (match M (cs ++ dds.map .pv) with
    | .own ds j => .ok ds (backOf ρ1 o j)
    | .exc x j => .exc x (backOf ρ1 o j)
    | _ => .stuck)
  | none => .stuck
theorem nvv_fn {K : PySem.W.Frag} {M : List Cell → FR} {dvs : List V} {dds : List D} {g : Sl → Res (List Val)} {t : TA} (hd : Paired (fun v d => ∀ G, Rep K G v d) dvs dds) (ha : Vv K W (relA K) t g) : NVv K W (tCall (spM K M) dvs W t) (nFn M dds g) := by
  intro c O G H σ ρ e Q h
  refine ha c O G H σ ρ e _ ?_
  unfold nFn at h
  cases qg : g ρ with
  | exc x ρ1 => rw [qg] at h; exact h
  | stuck => rw [qg] at h; exact h
  | ok vs ρ1 =>
    rw [qg] at h
    intro xs G1 H1 e1 x1 s1 r1
    have h1 : NPost K W c O G H σ ρ Q (match cellsOf ρ1 vs with
      | some (cs, o) => (match M (cs ++ dds.map .pv) with
        | .own ds j => .ok ds (backOf ρ1 o j)
        | .exc x j => .exc x (backOf ρ1 o j)
        | _ => .stuck)
      | none => .stuck) := h
    split at h1
    · rename_i cs o q
      have hop : ∀ i, o = some i → ∃ b ds, ρ1[i]? = some (Cell.ol b ds) := fun i z => cells_own (cs := cs) (by rw [← z]; exact q)
      refine ⟨G1, lentAt σ o, cs ++ dds.map .pv, e1.sub, args_append (cells_rep e1 r1 q) (args_dflt hd), fun a za => ?_, by rw [List.filter_append, noOl_map, List.append_nil]; exact cells_one q, ?_⟩
      · cases o with
        | none => cases za
        | some i =>
          obtain ⟨b, ds, qi⟩ := hop i rfl
          obtain ⟨a', ys, p1, p2, p3, p4, p5⟩ := e1.ol i b ds qi
          simp only [lentAt, p1] at za
          cases za
          exact ⟨e1.og a p2, by rw [p4]; simp, by rw [List.any_append, cells_any q]; rfl⟩
      · cases qm : M (cs ++ dds.map .pv) with
        | ret d j => rw [qm] at h1; exact h1.elim
        | stuck => rw [qm] at h1; exact h1.elim
        | own ds j =>
          rw [qm] at h1
          rintro v G' H' fx hj ⟨p, ys, rfl, n0, n3, n4, n5⟩
          obtain ⟨e2, x2, s2⟩ := e1.called hop fx hj
          refine h1 (.ref p) G' H' e2 (x1.trans x2) (s1.trans s2) ⟨p, ys, rfl, ?_, n3, n4, n5⟩
          cases z : H p with
          | none => rfl
          | some o => exact absurd n0 (x1.d p (by rw [z]; simp))
        | exc x j =>
          rw [qm] at h1
          intro cls dd G' H' fx hj rv
          obtain ⟨e2, x2, s2⟩ := e1.called hop fx hj
          exact h1 cls dd G' H' e2 (x1.trans x2) (s1.trans s2) rv
    · exact h1.elim
theorem vn_fn {es : List Expr} {p : Pos} {x : Str} {f : Addr} {fd : FuncData} {ps : List Str} {k : Nat} {M : List Cell → FR} {ds : List Value} {dvs : List V} {dds : List D} {g : Sl → Res (List Val)} (F : FnG X.prog X.w X.K X.mg X.base k f fd ps (spM X.K M)) (hr : RoomG k X.A) (tk : Takes X fun cls d _ H => W cls d H) (hg : Gl X x) (hm : X.mg x = some (.ref f)) (hk : PySem.W.keepIn X.K (.ref f) = true) (hb : Binds X.K fd ps ds) (hd : Vals dvs ds)
    (hdd : Paired (fun v d => ∀ G, Rep X.K G v d) dvs dds) (ha : VA X W (e :: es) g) (hdb : (x == ("__debug__" : Str)) = false) (he : starEach (e :: es) X.env = (false, eval e X.env) :: starEach es X.env) (hpl : (backTo pos (starEach es X.env)).any (·.1) = false) :
    VN X W (.Call (.Name x p) (e :: es) [] pos) (nFn M dds g) := by
  obtain ⟨t, a1, a2⟩ := ha.ex
  exact ⟨_, pe_callG F hr hg hm hk hb hd (passes_call tk fun _ _ _ _ h => h) a1 hdb he hpl, nvv_fn hdd a2⟩
end
end VL

end

section
set_option linter.all false
set_option maxRecDepth 100000
set_option maxHeartbeats 4000000
/-! VL 7: targets, loops. -/
namespace VL
open PySem PySem.Spec PyProof.Rows L2

/-! ### targets: names, tuples of names -/
/-- the heap is as it was; slots but sl as they were -/
def GVv (K : PySem.W.Frag) (g : TG) (sl : List Nat) (f : D → Sl → Option Sl) : Prop :=
  ∀ (c : Ent) (O : Addr → Prop) (G H : Hp) (σ : L2.St) (ρ : Sl), ERep K c O G H σ ρ → ∀ (x : V) (d : D) (ρ' : Sl), Rep K G x d → f d ρ = some ρ' → ∀ Q : L2.St → Hp → Prop,
    (∀ σ', ERep K c O G H σ' ρ' → σ'.length = σ.length → (∀ j, j ∉ sl → σ'[j]? = σ[j]? ∧ ρ'[j]? = ρ[j]?) → Q σ' H) → g x σ H Q
def GsVv (K : PySem.W.Frag) (g : TGs) (sl : List Nat) (f : List D → Sl → Option Sl) : Prop :=
  ∀ (c : Ent) (O : Addr → Prop) (G H : Hp) (σ : L2.St) (ρ : Sl), ERep K c O G H σ ρ → ∀ (xs : List V) (ds : List D) (ρ' : Sl), RepA K G xs ds → f ds ρ = some ρ' → ∀ Q : L2.St → Hp → Prop,
    (∀ σ', ERep K c O G H σ' ρ' → σ'.length = σ.length → (∀ j, j ∉ sl → σ'[j]? = σ[j]? ∧ ρ'[j]? = ρ[j]?) → Q σ' H) → g xs σ H Q
structure VG (X : Cx) (tg : Expr) (sl : List Nat) (f : D → Sl → Option Sl) : Prop where
  ex : ∃ g, PG X tg g ∧ GVv X.K g sl f
/-- the reading of names alone -/
inductive TgF where
  | nm (i : Nat)
  | tp (is : List Nat)
def setAll : List Nat → List D → Sl → Option Sl
  | [], [], ρ => some ρ
  | i :: is, d :: ds, ρ => setAll is ds (ρ.set i (.pv d))
  | _, _, _ => none
def TgF.run : TgF → D → Sl → Option Sl
  | .nm i, d, ρ => some (ρ.set i (.pv d))
  | .tp is, .tup ds, ρ => if ds.length = is.length then setAll is ds ρ else none
  | .tp is, .lst ds, ρ => if ds.length = is.length then setAll is ds ρ else none
  | .tp _, _, _ => none
def TgF.sl : TgF → List Nat
  | .nm i => [i]
  | .tp is => is
def gNames : List Nat → TGs
  | [] => gNil
  | i :: is => gCons (gName i) (gNames is)
def TgF.g (K : PySem.W.Frag) : TgF → TG
  | .nm i => gName i
  | .tp is => fun v σ H Q => gTup K is.length (gNames is) v σ H Q ∨ gLst K is.length (gNames is) v σ H Q
theorem gv_name {K : PySem.W.Frag} (i : Nat) : GVv K (gName i) [i] (TgF.nm i).run := fun c O G H σ ρ e x d ρ' r h Q q => by
  cases h
  refine q _ (e.setPv r) (by rw [List.length_set]) fun j hj => ?_
  have hne : i ≠ j := fun z => hj (by rw [z]; exact List.mem_singleton.mpr rfl)
  exact ⟨List.getElem?_set_ne hne, List.getElem?_set_ne hne⟩
theorem gsv_names {K : PySem.W.Frag} : ∀ is : List Nat, GsVv K (gNames is) is (setAll is)
  | [], c, O, G, H, σ, ρ, e, xs, ds, ρ', r, h, Q, q => by
    cases r with
    | nil => cases h; exact ⟨rfl, q σ e rfl fun _ _ => ⟨rfl, rfl⟩⟩
    | cons _ _ => cases h
  | i :: is, c, O, G, H, σ, ρ, e, xs, ds, ρ', r, h, Q, q => by
    cases r with
    | nil => cases h
    | @cons v vs d ds r t =>
      refine ⟨v, vs, rfl, ?_⟩
      show gNames is vs (σ.set i (some v)) H Q
      refine gsv_names is c O G H _ _ (e.setPv r) vs ds ρ' t h Q fun σ' e' hl hs => q σ' e' (by rw [hl, List.length_set]) fun j hj => ?_
      have hne : i ≠ j := fun z => hj (by rw [z]; exact List.mem_cons_self)
      obtain ⟨h1, h2⟩ := hs j fun z => hj (List.mem_cons_of_mem _ z)
      exact ⟨h1.trans (List.getElem?_set_ne hne), h2.trans (List.getElem?_set_ne hne)⟩
theorem gv_tg {K : PySem.W.Frag} (t : TgF) : GVv K (t.g K) t.sl t.run := by
  cases t with
  | nm i => exact gv_name i
  | tp is =>
    intro c O G H σ ρ e x d ρ' r h Q q
    cases d <;> simp only [TgF.run] at h <;> first | (cases h; done) | skip
    · rename_i ds
      split at h
      · rename_i hl
        cases r with
        | @lst a xs _ k1 k2 =>
          exact .inr ⟨a, xs, rfl, SqL.of (e.sub _ _ k1), by rw [k2.length]; exact hl, gsv_names is c O G H σ ρ e xs ds ρ' k2 h Q q⟩
      · cases h
    · rename_i ds
      split at h
      · rename_i hl
        cases r with
        | @tup a xs _ k1 k2 =>
          exact .inl ⟨a, xs, rfl, le_t e.sub k1, by rw [k2.length]; exact hl, gsv_names is c O G H σ ρ e xs ds ρ' k2 h Q q⟩
      · cases h
/-- the names of a target -/
structure VTg (X : Cx) (tg : Expr) (t : TgF) : Prop where
  pg : PG X tg (t.g X.K)
theorem vtg_name {X : Cx} {i : Nat} {x : Str} {pos : Pos} (hN : X.N.Nodup) (hi : X.N[i]? = some x) (hx : Loc X.env.scope x) (hf : X.fn x = true ∨ X.env.scope.names.lookup x = some .local) : VTg X (.Name x pos) (.nm i) := ⟨pg_name hN hi hx hf⟩

/-- names in a row -/
structure VNs (X : Cx) (es : List Expr) (is : List Nat) : Prop where
  pg : PGs X es (gNames is)
theorem vns_nil {X : Cx} : VNs X [] [] := ⟨pgs_nil⟩
theorem vns_cons {X : Cx} {i : Nat} {is : List Nat} {x : Str} {es : List Expr} {pos : Pos} (hN : X.N.Nodup) (hi : X.N[i]? = some x) (hx : Loc X.env.scope x) (hf : X.fn x = true ∨ X.env.scope.names.lookup x = some .local) (h : VNs X es is)
    (hs : (assignEach (.Name x pos :: es) X.env).map (·.2) = assign (.Name x pos) X.env :: (assignEach es X.env).map (·.2)) : VNs X (.Name x pos :: es) (i :: is) := ⟨pgs_cons (pg_name hN hi hx hf) h.pg hs⟩
theorem vtg_tup {X : Cx} {es : List Expr} {is : List Nat} {k : Nat} {pos : Pos} (hc : X.calm = true) (h : VNs X es is) (hn : (assignEach es X.env).length = is.length) (hst : (assignEach es X.env).findIdx? (·.1) = none) : VTg X (.Tuple es k pos) (.tp is) := by
  refine ⟨⟨fun pins s σ H v u Q I r q => ?_⟩⟩
  rcases q with q | q
  · exact (pg_tup hc h.pg hn hst).run pins s σ H v u Q I r q
  · exact (pg_lst hc h.pg hn hst).run pins s σ H v u Q I r q

/-! ### iterables -/
/-- J yields what stands for the items -/
def Yld (K : PySem.W.Frag) (G : Hp) (J : It) (items : List D) : Prop := ∀ G' H', Le G G' → Le G' H' →
  (∀ (i : Nat) (d : D), items[i]? = some d → J.go i H' ∧ ∀ x H'', J.yld i H' x H'' → ∃ G'', Grw G' H' G'' H'' ∧ Rep K G'' x d) ∧ (∀ i, items.length ≤ i → J.stop i H')
def relI (K : PySem.W.Frag) : L2.St → Hp → Sl → It → List D → Prop := fun _ G _ J items => Yld K G J items
structure VI (X : Cx) (W : XK) (tg iter : Expr) (f : Sl → Res (List D)) : Prop where
  ex : ∃ wi, PI X tg iter wi ∧ Vv X.K W (relI X.K) wi f
section
variable {K : PySem.W.Frag} {G : Hp}
theorem yld_list {a : Addr} {xs : List V} {ds : List D} (h : G a = some (.lst xs)) (r : RepA K G xs ds) : Yld K G (Itl K a) ds := fun G' H' l1 l2 => by
  have hs : SqL K H' a xs := SqL.of (l2 _ _ (l1 _ _ h))
  refine ⟨fun i d q => ?_, fun i q => ⟨xs, hs, by rw [r.length]; exact q⟩⟩
  obtain ⟨v, k1, k2⟩ := r.getD q
  refine ⟨⟨xs, v, hs, k1⟩, fun x H'' y => ?_⟩
  obtain ⟨rfl, y⟩ := y
  have e := y xs hs
  rw [k1] at e
  cases e
  exact ⟨G', .refl, k2.up l1⟩
theorem yld_tup {a : Addr} {xs : List V} {ds : List D} (h : SqT K G a xs) (r : RepA K G xs ds) : Yld K G (Itt K a) ds := fun G' H' l1 l2 => by
  have hs : SqT K H' a xs := le_t (l1.trans l2) h
  refine ⟨fun i d q => ?_, fun i q => ⟨xs, hs, by rw [r.length]; exact q⟩⟩
  obtain ⟨v, k1, k2⟩ := r.getD q
  refine ⟨⟨xs, v, hs, k1⟩, fun x H'' y => ?_⟩
  obtain ⟨rfl, y⟩ := y
  have e := y xs hs
  rw [k1] at e
  cases e
  exact ⟨G', .refl, k2.up l1⟩
def rangeD (lo : Int) (n : Nat) : List D := (List.range n).map fun (i : Nat) => D.int (lo + (i : Int))
theorem yld_range {lo : Int} {n : Nat} : Yld K G (Itr lo n) (rangeD lo n) := fun G' H' l1 l2 => by
  refine ⟨fun i d q => ?_, fun i q => ?_⟩
  · unfold rangeD at q
    rw [List.getElem?_map] at q
    by_cases hi : i < n
    · rw [List.getElem?_range hi] at q
      cases q
      refine ⟨hi, fun x H'' y => ?_⟩
      obtain ⟨rfl, rfl⟩ := y
      exact ⟨G', .refl, .int _⟩
    · rw [List.getElem?_eq_none (by rw [List.length_range]; omega)] at q
      cases q
  · unfold rangeD at q
    rw [List.length_map, List.length_range] at q
    exact q
theorem yld_str {z : Str} : Yld K G (Its z) (signsD z) := fun G' H' l1 l2 => by
  refine ⟨fun i d q => ?_, fun i q => ?_⟩
  · unfold signsD at q
    rw [List.getElem?_map] at q
    cases h : z.cps.toList[i]? with
    | none => rw [h] at q; cases q
    | some c =>
      rw [h] at q
      cases q
      have h' : z.cps[i]? = some c := by simpa using h
      refine ⟨(Array.getElem?_eq_some_iff.mp h').1, fun x H'' y => ?_⟩
      obtain ⟨rfl, c', h2, rfl⟩ := y
      rw [h'] at h2
      cases h2
      exact ⟨G', .refl, .str _⟩
  · unfold signsD at q
    rw [List.length_map, Array.length_toList] at q
    exact q
def zipD (xs ys : List D) : List D := List.zipWith (fun a b => D.tup [a, b]) xs ys
theorem pair_rep {G' H' : Hp} {T : Addr} {x y : V} {dx dy : D} (l : Le G' H') (hT : H' T = none) (rx : Rep K G' x dx) (ry : Rep K G' y dy) : Rep K (upd G' T (.tup [x, y])) (.ref T) (.tup [dx, dy]) := by
  have le : Le G' (upd G' T (.tup [x, y])) := Le.new (none_of_le l hT)
  exact .tup (.inl (.inl upd_same)) (.cons (rx.up le) (.cons (ry.up le) .nil))
theorem yld_zipL {a b : Addr} {xs ys : List V} {ds es : List D} (h1 : G a = some (.lst xs)) (h2 : G b = some (.lst ys)) (r1 : RepA K G xs ds) (r2 : RepA K G ys es) : Yld K G (Itz K a b) (zipD ds es) := fun G' H' l1 l2 => by
  have s1 : SqL K H' a xs := SqL.of (l2 _ _ (l1 _ _ h1))
  have s2 : SqL K H' b ys := SqL.of (l2 _ _ (l1 _ _ h2))
  refine ⟨fun i d q => ?_, fun i q => ⟨xs, ys, s1, s2, ?_⟩⟩
  · unfold zipD at q
    rw [List.getElem?_zipWith] at q
    cases q1 : ds[i]? with
    | none => rw [q1] at q; cases q
    | some d1 =>
      cases q2 : es[i]? with
      | none => rw [q1, q2] at q; cases q
      | some d2 =>
        rw [q1, q2] at q
        cases q
        obtain ⟨v, k1, k2⟩ := r1.getD q1
        obtain ⟨u, k3, k4⟩ := r2.getD q2
        refine ⟨⟨xs, ys, v, u, s1, s2, k1, k3⟩, fun x H'' y => ?_⟩
        obtain ⟨T, x1, y1, rfl, hT, rfl, w1, w2⟩ := y
        have e1 := w1 xs s1
        have e2 := w2 ys s2
        rw [k1] at e1
        rw [k3] at e2
        cases e1
        cases e2
        exact ⟨_, .one hT, pair_rep l2 hT (k2.up l1) (k4.up l1)⟩
  · unfold zipD at q
    rw [List.length_zipWith] at q
    rw [r1.length, r2.length]
    omega
theorem yld_zipT {a b : Addr} {xs ys : List V} {ds es : List D} (h1 : SqT K G a xs) (h2 : SqT K G b ys) (r1 : RepA K G xs ds) (r2 : RepA K G ys es) : Yld K G (RZ.ItzT K a b) (zipD ds es) := fun G' H' l1 l2 => by
  have s1 : SqT K H' a xs := le_t (l1.trans l2) h1
  have s2 : SqT K H' b ys := le_t (l1.trans l2) h2
  refine ⟨fun i d q => ?_, fun i q => ⟨xs, ys, s1, s2, ?_⟩⟩
  · unfold zipD at q
    rw [List.getElem?_zipWith] at q
    cases q1 : ds[i]? with
    | none => rw [q1] at q; cases q
    | some d1 =>
      cases q2 : es[i]? with
      | none => rw [q1, q2] at q; cases q
      | some d2 =>
        rw [q1, q2] at q
        cases q
        obtain ⟨v, k1, k2⟩ := r1.getD q1
        obtain ⟨u, k3, k4⟩ := r2.getD q2
        refine ⟨⟨xs, ys, v, u, s1, s2, k1, k3⟩, fun x H'' y => ?_⟩
        obtain ⟨T, x1, y1, rfl, hT, rfl, w1, w2⟩ := y
        have e1 := w1 xs s1
        have e2 := w2 ys s2
        rw [k1] at e1
        rw [k3] at e2
        cases e1
        cases e2
        exact ⟨_, .one hT, pair_rep l2 hT (k2.up l1) (k4.up l1)⟩
  · unfold zipD at q
    rw [List.length_zipWith] at q
    rw [r1.length, r2.length]
    omega
def enumD (xs : List D) : List D := xs.mapIdx fun (i : Nat) d => D.tup [.int (i : Int), d]
theorem yld_enum {a : Addr} {xs : List V} {ds : List D} (h1 : G a = some (.lst xs)) (r1 : RepA K G xs ds) : Yld K G (Ite K a) (enumD ds) := fun G' H' l1 l2 => by
  have s1 : SqL K H' a xs := SqL.of (l2 _ _ (l1 _ _ h1))
  refine ⟨fun i d q => ?_, fun i q => ⟨xs, s1, ?_⟩⟩
  · unfold enumD at q
    rw [List.getElem?_mapIdx] at q
    cases q1 : ds[i]? with
    | none => rw [q1] at q; cases q
    | some d1 =>
      rw [q1] at q
      cases q
      obtain ⟨v, k1, k2⟩ := r1.getD q1
      refine ⟨⟨xs, v, s1, k1⟩, fun x H'' y => ?_⟩
      obtain ⟨T, x1, rfl, hT, rfl, w1⟩ := y
      have e1 := w1 xs s1
      rw [k1] at e1
      cases e1
      exact ⟨_, .one hT, pair_rep l2 hT (.int _) (k2.up l1)⟩
  · unfold enumD at q
    rw [List.length_mapIdx] at q
    rw [r1.length]
    exact q
end
section
variable {X : Cx} {W : XK} {tg e a b : Expr} {pos p : Pos} {fe fa fb : Sl → Res Val} {fl : Sl → Res (List Val)}
/-- a list, a tuple, a text that stays -/
def itemsD : D → Option (List D)
  | .lst xs => some xs
  | .tup xs => some xs
  | .str z => some (signsD z)
  | _ => none
def iSeq (f : Sl → Res Val) : Sl → Res (List D) := fun ρ => (f ρ).bind fun v ρ1 => match v with
  | .d (.lst xs) => .ok xs ρ1
  | _ => .stuck
def iTupF (f : Sl → Res Val) : Sl → Res (List D) := fun ρ => (f ρ).bind fun v ρ1 => match v with
  | .d (.tup xs) => .ok xs ρ1
  | _ => .stuck
/-- list, tuple or text: one iterator for all three -/
def iAny (K : PySem.W.Frag) (te : TE) : TI := fun σ H R => te σ H fun x H1 => (∃ a, x = .ref a ∧ (∃ xs, SqL K H1 a xs) ∧ R (Itl K a) H1) ∨ (∃ a, x = .ref a ∧ (∃ xs, SqT K H1 a xs) ∧ R (Itt K a) H1) ∨ ∃ z, x = .str z ∧ R (Its z) H1
theorem pi_any {te : TE} (he : PE X e te) : PI X tg e (iAny X.K te) := by
  refine ⟨fun pins s σ H R I h => ?_⟩
  refine thn (he.run pins s σ H _ I h) fun v s1 ⟨x, H1, I1, r1, q1⟩ => ?_
  rcases q1 with ⟨a, e, ⟨xs, hq⟩, q⟩ | ⟨a, e, ⟨xs, hq⟩, q⟩ | ⟨z, e, q⟩
  · subst e
    cases r1
    obtain ⟨its, rv, p, hz⟩ := I1.list hq
    refine wpAny_pyIter_list p.isList ?_
    refine ⟨s1.heap.objs.size, [s1.heap.objs.size], _, _, H1, rfl, I1.kept (t' := s1.toks) fun b o e => Heap.get?_push_of_some _ e, turn_list a _, ⟨_, Heap.get?_push_size _ rfl, rfl, rfl⟩, fun b hb => ?_, q⟩
    have e : b = s1.heap.objs.size := by simpa using hb
    subst e
    exact I1.fpOk (Nat.le_refl _) (I1.hok.fresh (Nat.le_refl _))
  · subst e
    cases r1
    obtain ⟨its, rv, p, hz⟩ := I1.tuple hq
    refine wpAny_pyIter_tuple (show s1.heap.IsTuple a its.toArray from p) ?_
    refine ⟨s1.heap.objs.size, [s1.heap.objs.size], _, _, H1, rfl, I1.kept (t' := s1.toks) fun b o e => Heap.get?_push_of_some _ e, turn_tuple a _, ⟨_, Heap.get?_push_size _ rfl, rfl, rfl⟩, fun b hb => ?_, q⟩
    have e : b = s1.heap.objs.size := by simpa using hb
    subst e
    exact I1.fpOk (Nat.le_refl _) (I1.hok.fresh (Nat.le_refl _))
  · subst e
    obtain ⟨t, rfl⟩ := r1
    cases ha : z.cps.all (· < 128)
    · exact wpAny_pyIter_wide ha (pi_one (tk := s1.toks) I1 _ (turn_str _ z t "str_iterator" (.inr rfl)) ⟨_, Heap.get?_push_size _ rfl, rfl, rfl⟩ q)
    · exact wpAny_pyIter_ascii ha (pi_one (tk := s1.toks) I1 _ (turn_str _ z t "str_ascii_iterator" (.inl rfl)) ⟨_, Heap.get?_push_size _ rfl, rfl, rfl⟩ q)
def mItems (f : Sl → Res Val) : Sl → Res (List D) := fun ρ => (f ρ).bind fun v ρ1 => match v with
  | .d d => match itemsD d with
    | some ds => .ok ds ρ1
    | none => .stuck
  | _ => .stuck
theorem vi_any (h : VE X W e fe) : VI X W tg e (mItems fe) := by
  obtain ⟨t, a1, a2⟩ := h.ex
  refine ⟨_, pi_any a1, fun c O G H σ ρ e0 Q hp => ?_⟩
  refine a2.thn e0 hp fun v ρ1 x G1 H1 e1 x1 s1 r1 h1 => ?_
  split at h1
  · rename_i d
    have r1' : Rep X.K G1 x d := r1
    cases r1' with
    | lst k1 k2 => exact .inl ⟨_, rfl, ⟨_, SqL.of (e1.sub _ _ k1)⟩, h1 _ G1 H1 e1 Ext.refl (Shp.refl _) (yld_list k1 k2)⟩
    | tup k1 k2 => exact .inr (.inl ⟨_, rfl, ⟨_, le_t e1.sub k1⟩, h1 _ G1 H1 e1 Ext.refl (Shp.refl _) (yld_tup k1 k2)⟩)
    | str z => exact .inr (.inr ⟨z, rfl, h1 _ G1 H1 e1 Ext.refl (Shp.refl _) yld_str⟩)
    | _ => exact h1.elim
  · exact h1.elim
def mRng1 (f : Sl → Res (List Val)) : Sl → Res (List D) := fun ρ => (f ρ).bind fun vs ρ1 => match vs with
  | [.d (.int j)] => if -(2 ^ 62) ≤ j ∧ j < 2 ^ 62 then .ok (rangeD 0 j.toNat) ρ1 else .stuck
  | _ => .stuck
def mRng2 (f : Sl → Res (List Val)) : Sl → Res (List D) := fun ρ => (f ρ).bind fun vs ρ1 => match vs with
  | [.d (.int i), .d (.int j)] => if -(2 ^ 62) ≤ i ∧ i < 2 ^ 62 ∧ -(2 ^ 62) ≤ j ∧ j < 2 ^ 62 then .ok (rangeD i (j - i).toNat) ρ1 else .stuck
  | _ => .stuck
theorem vi_range1 (h : VA X W [a] fl) (hg : Gl X "range") (hm : X.mg "range" = none) (hs : starEach [a] X.env = [(false, eval a X.env)]) : VI X W tg (.Call (.Name "range" p) [a] [] pos) (mRng1 fl) := by
  obtain ⟨t, a1, a2⟩ := h.ex
  refine ⟨_, pi_range1 hg hm a1 hs, fun c O G H σ ρ e0 Q hp => ?_⟩
  refine a2.thn e0 hp fun v ρ1 xs G1 H1 e1 x1 s1 r1 h1 => ?_
  split at h1
  · rename_i j
    split at h1
    · rename_i hb
      cases r1 with
      | cons r t =>
        cases t
        have r' : Rep X.K G1 _ (.int j) := r
        cases r'
        exact ⟨j, rfl, hb.1, hb.2, h1 _ G1 H1 e1 Ext.refl (Shp.refl _) yld_range⟩
    · exact h1.elim
  · exact h1.elim
theorem vi_range2 (h : VA X W [a, b] fl) (hg : Gl X "range") (hm : X.mg "range" = none) (hs : starEach [a, b] X.env = [(false, eval a X.env), (false, eval b X.env)]) (hs2 : starEach [b] X.env = [(false, eval b X.env)]) : VI X W tg (.Call (.Name "range" p) [a, b] [] pos) (mRng2 fl) := by
  obtain ⟨t, a1, a2⟩ := h.ex
  refine ⟨_, pi_range2 hg hm a1 hs hs2, fun c O G H σ ρ e0 Q hp => ?_⟩
  refine a2.thn e0 hp fun v ρ1 xs G1 H1 e1 x1 s1 r1 h1 => ?_
  split at h1
  · rename_i i j
    split at h1
    · rename_i hb
      cases r1 with
      | cons r t =>
        cases t with
        | cons r2 t2 =>
          cases t2
          have r' : Rep X.K G1 _ (.int i) := r
          have r2' : Rep X.K G1 _ (.int j) := r2
          cases r'
          cases r2'
          exact ⟨i, j, rfl, ⟨hb.1, hb.2.1, hb.2.2.1, hb.2.2.2⟩, h1 _ G1 H1 e1 Ext.refl (Shp.refl _) yld_range⟩
    · exact h1.elim
  · exact h1.elim
def mZip (f : Sl → Res (List Val)) : Sl → Res (List D) := fun ρ => (f ρ).bind fun vs ρ1 => match vs with
  | [.d (.lst xs), .d (.lst ys)] => .ok (zipD xs ys) ρ1
  | [.d (.tup xs), .d (.tup ys)] => .ok (zipD xs ys) ρ1
  | _ => .stuck
theorem vi_zip {elts : List Expr} {kk : Nat} {tpos : Pos} (h : VA X W [a, b] fl) (hg : Gl X "zip") (hm : X.mg "zip" = none) (hs : starEach [a, b] X.env = (false, eval a X.env) :: starEach [b] X.env) (hpl : (backTo pos (starEach [b] X.env)).any (·.1) = false) :
    VI X W (.Tuple elts kk tpos) (.Call (.Name "zip" p) [a, b] [] pos) (mZip fl) := by
  obtain ⟨t, a1, a2⟩ := h.ex
  refine ⟨_, RZ.pi_zipA hg hm a1 hs hpl, fun c O G H σ ρ e0 Q hp => ?_⟩
  refine a2.thn e0 hp fun v ρ1 xs G1 H1 e1 x1 s1 r1 h1 => ?_
  split at h1
  · rename_i ds es
    cases r1 with
    | cons r t =>
      cases t with
      | cons r2 t2 =>
        cases t2
        have r' : Rep X.K G1 _ (.lst ds) := r
        have r2' : Rep X.K G1 _ (.lst es) := r2
        cases r' with
        | lst k1 k2 =>
          cases r2' with
          | lst k3 k4 => exact ⟨_, _, _, _, rfl, .inl ⟨SqL.of (e1.sub _ _ k1), SqL.of (e1.sub _ _ k3), h1 _ G1 H1 e1 Ext.refl (Shp.refl _) (yld_zipL k1 k3 k2 k4)⟩⟩
  · rename_i ds es
    cases r1 with
    | cons r t =>
      cases t with
      | cons r2 t2 =>
        cases t2
        have r' : Rep X.K G1 _ (.tup ds) := r
        have r2' : Rep X.K G1 _ (.tup es) := r2
        cases r' with
        | tup k1 k2 =>
          cases r2' with
          | tup k3 k4 => exact ⟨_, _, _, _, rfl, .inr ⟨le_t e1.sub k1, le_t e1.sub k3, h1 _ G1 H1 e1 Ext.refl (Shp.refl _) (yld_zipT k1 k3 k2 k4)⟩⟩
  · exact h1.elim

/-! ### for -/
def forL (t : TgF) (body : Sl → SR) : List D → Sl → SR
  | [], ρ => .nx ρ
  | d :: ds, ρ => match t.run d ρ with
    | none => .stuck
    | some ρ1 => match body ρ1 with
      | .nx ρ2 => forL t body ds ρ2
      | .ct ρ2 => forL t body ds ρ2
      | .bk ρ2 => .nx ρ2
      | .rt d ρ2 => .rt d ρ2
      | .ro d ρ2 => .ro d ρ2
      | .exc x ρ2 => .exc x ρ2
      | .stuck => .stuck
def sFor (t : TgF) (f : Sl → Res (List D)) (body : Sl → SR) : Sl → SR := fun ρ => (f ρ).sb fun ds ρ1 => forL t body ds ρ1
variable {fi : Sl → Res (List D)} {body : List Stmt} {fb' : Sl → SR} {iter : Expr} {t : TgF}
theorem vs_for (hp : PassesOwn (model X.prog X.w) X.A X.env X.xe) (hc : X.calm = true) (hi : VI X W tg iter fi) (hg : VTg X tg t) (hb : VB X W body fb') (hs : ∀ x, foldedSetIterable iter X.env x = pure x) :
    VS X W (.For tg iter body [] pos) (sFor t fi fb') := by
  obtain ⟨wi, i1, i2⟩ := hi.ex
  obtain ⟨tb, b1, b2⟩ := hb.ex
  refine ⟨_, ps_for hp hc i1 hg.pg b1 hs, fun c O G H σ ρ e0 D' h => ?_⟩
  refine i2.thnS e0 h fun ds ρ1 J G1 H1 e1 x1 s1 y h1 => ?_
  refine ⟨fun i m σ' H' => m = ds.length - i ∧ i ≤ ds.length ∧ ∃ O' G' ρ', ERep X.K c O' G' H' σ' ρ' ∧ Le G1 G' ∧ SPost X.K W c G' D' (forL t fb' (ds.drop i) ρ'), ⟨ds.length, by simp, Nat.zero_le _, O, G1, ρ1, e1, Le.refl _, h1⟩, ?_⟩
  rintro i m σ' H' ⟨rfl, hi, O', G', ρ', e2, l2, h2⟩
  obtain ⟨y1, y2⟩ := y G' H' l2 e2.sub
  by_cases hlt : i < ds.length
  · have hd : ds[i]? = some ds[i] := List.getElem?_eq_getElem hlt
    obtain ⟨go, yl⟩ := y1 i _ hd
    have hdr : ds.drop i = ds[i] :: ds.drop (i + 1) := List.drop_eq_getElem_cons hlt
    rw [hdr] at h2
    refine .inr ⟨go, fun σ'' H'' => (ds.length - (i + 1)) < ds.length - i ∧ i + 1 ≤ ds.length ∧ ∃ O' G' ρ', ERep X.K c O' G' H'' σ'' ρ' ∧ Le G1 G' ∧ SPost X.K W c G' D' (forL t fb' (ds.drop (i + 1)) ρ'), fun σ'' H'' ⟨q1, q2, q3⟩ => ⟨_, q1, rfl, q2, q3⟩, fun x H3 yy => ?_⟩
    obtain ⟨G3, gr, rx⟩ := yl x H3 yy
    obtain ⟨e3, x3⟩ := e2.grw gr
    have h3 := SPost.mono x3.g h2
    unfold forL at h3
    cases q : t.run ds[i] ρ' with
    | none => rw [q] at h3; exact h3.elim
    | some ρ3 =>
      rw [q] at h3
      refine gv_tg t c O' G3 H3 σ' ρ' e3 x _ ρ3 rx q _ fun σ4 e4 _ _ => ?_
      refine b2 c O' G3 H3 σ4 ρ3 e4 _ ?_
      have again : ∀ ρ5, SPost X.K W c G3 D' (forL t fb' (ds.drop (i + 1)) ρ5) → ∀ O5 G5 H5 σ5, ERep X.K c O5 G5 H5 σ5 ρ5 → Le G3 G5 →
          (ds.length - (i + 1)) < ds.length - i ∧ i + 1 ≤ ds.length ∧ ∃ O' G' ρ', ERep X.K c O' G' H5 σ5 ρ' ∧ Le G1 G' ∧ SPost X.K W c G' D' (forL t fb' (ds.drop (i + 1)) ρ') := fun ρ5 h5 O5 G5 H5 σ5 e5 l5 =>
        ⟨by omega, hlt, O5, G5, ρ5, e5, (l2.trans x3.g).trans l5, SPost.mono l5 h5⟩
      simp only at h3
      cases qb : fb' ρ3 with
      | nx ρ5 => rw [qb] at h3; exact again ρ5 h3
      | ct ρ5 => rw [qb] at h3; exact again ρ5 h3
      | bk ρ5 => rw [qb] at h3; exact h3
      | rt d ρ5 => rw [qb] at h3; exact h3
      | ro d ρ5 => rw [qb] at h3; exact h3
      | exc x ρ5 => rw [qb] at h3; exact h3
      | stuck => rw [qb] at h3; exact h3
  · have e : i = ds.length := by omega
    subst e
    rw [List.drop_length] at h2
    exact .inl ⟨y2 _ (Nat.le_refl _), h2 O' G' H' σ' e2 (Le.refl _)⟩

/-! ### while -/
def whL (ft : Sl → Res Bool) (body : Sl → SR) : Nat → Sl → SR
  | 0, _ => .stuck
  | n + 1, ρ => (ft ρ).sb fun b ρ1 => if b = true then (match body ρ1 with
      | .nx ρ2 => whL ft body n ρ2
      | .ct ρ2 => whL ft body n ρ2
      | .bk ρ2 => .nx ρ2
      | .rt d ρ2 => .rt d ρ2
      | .ro d ρ2 => .ro d ρ2
      | .exc x ρ2 => .exc x ρ2
      | .stuck => .stuck) else .nx ρ1
variable {ft : Sl → Res Bool} {cnd : Expr} {n : Nat}
theorem vs_while (hp : PassesOwn (model X.prog X.w) X.A X.env X.xe) (hc : VT X W cnd ft) (hb : VB X W body fb') : VS X W (.While cnd body [] pos) (whL ft fb' n) := by
  obtain ⟨tc, i1, i2⟩ := hc.ex
  obtain ⟨tb, b1, b2⟩ := hb.ex
  refine ⟨_, ps_while hp i1 b1, fun c O G H σ ρ e0 D' h => ?_⟩
  refine ⟨fun m σ' H' => ∃ O' G' ρ', ERep X.K c O' G' H' σ' ρ' ∧ SPost X.K W c G' D' (whL ft fb' m ρ'), ⟨n, O, G, ρ, e0, h⟩, ?_⟩
  rintro m σ' H' ⟨O', G', ρ', e2, h2⟩
  cases m with
  | zero => exact h2.elim
  | succ m =>
    unfold whL at h2
    refine i2.thnS e2 h2 fun b ρ1 b' G1 H1 e1 x1 s1 r1 h1 => ?_
    cases (show b' = b from r1)
    by_cases hb : b = true
    · rw [if_pos hb] at h1
      rw [if_pos hb]
      refine ⟨fun σ'' H'' => ∃ O' G' ρ', ERep X.K c O' G' H'' σ'' ρ' ∧ SPost X.K W c G' D' (whL ft fb' m ρ'), fun σ'' H'' q => ⟨m, Nat.lt_succ_self _, q⟩, ?_⟩
      refine b2 c O' G1 H1 σ' ρ1 e1 _ ?_
      cases qb : fb' ρ1 with
      | nx ρ5 => rw [qb] at h1; exact fun O5 G5 H5 σ5 e5 l5 => ⟨O5, G5, ρ5, e5, SPost.mono l5 h1⟩
      | ct ρ5 => rw [qb] at h1; exact fun O5 G5 H5 σ5 e5 l5 => ⟨O5, G5, ρ5, e5, SPost.mono l5 h1⟩
      | bk ρ5 => rw [qb] at h1; exact h1
      | rt d ρ5 => rw [qb] at h1; exact h1
      | ro d ρ5 => rw [qb] at h1; exact h1
      | exc x ρ5 => rw [qb] at h1; exact h1
      | stuck => rw [qb] at h1; exact h1
    · rw [if_neg hb] at h1
      rw [if_neg hb]
      exact h1 O' G1 H1 σ' e1 (Le.refl _)
end
end VL

end

section
set_option linter.all false
set_option maxRecDepth 100000
set_option maxHeartbeats 4000000
/-! VL 8: comprehensions. -/
namespace VL
open PySem PySem.Spec PyProof.Rows L2

abbrev W0 : XK := fun _ _ _ => False
/-- a form's reading by what it comes to, wherever it stands -/
def cE (K : PySem.W.Frag) (f : Sl → Res Val) : TE := fun σ H Q => ∃ c O G ρ, ERep K c O G H σ ρ ∧ Post K W0 c O G H σ ρ (relE K σ) Q (f ρ)
def cT (K : PySem.W.Frag) (f : Sl → Res Bool) : TT := fun σ H Q => ∃ c O G ρ, ERep K c O G H σ ρ ∧ Post K W0 c O G H σ ρ (relT σ) Q (f ρ)
theorem VE.pe {X : Cx} {e : Expr} {f : Sl → Res Val} (h : VE X W0 e f) : PE X e (cE X.K f) := by
  obtain ⟨t, a1, a2⟩ := h.ex
  exact ⟨fun pins s σ H Q I ⟨c, O, G, ρ, e, p⟩ => a1.run pins s σ H Q I (a2 c O G H σ ρ e Q p)⟩
structure VTs (X : Cx) (ifs : List Expr) (f : Sl → Res Bool) : Prop where
  pt : PTs X ifs (cT X.K f)
def mYes : Sl → Res Bool := fun ρ => .ok true ρ
theorem vts_nil {X : Cx} : VTs X [] mYes := ⟨⟨fun pins s σ H Q I ⟨c, O, G, ρ, e, p⟩ => pts_nil.run pins s σ H Q I (p true G H e Ext.refl (Shp.refl ρ) rfl)⟩⟩
theorem vts_one {X : Cx} {e : Expr} {f : Sl → Res Bool} (h : VT X W0 e f) : VTs X [e] f := by
  obtain ⟨t, a1, a2⟩ := h.ex
  exact ⟨⟨fun pins s σ H Q I ⟨c, O, G, ρ, e, p⟩ => (pts_one a1).run pins s σ H Q I (a2 c O G H σ ρ e Q p)⟩⟩

/-! ### the comprehension's own slots -/
def wipC (ρ : Sl) : List Nat → Sl
  | [] => ρ
  | v :: vs => (wipC ρ vs).set v .un
theorem wipC_length (ρ : Sl) : ∀ vs : List Nat, (wipC ρ vs).length = ρ.length
  | [] => rfl
  | v :: vs => by unfold wipC; rw [List.length_set, wipC_length ρ vs]
theorem wipC_out {ρ : Sl} {i : Nat} : ∀ {vs : List Nat}, i ∉ vs → (wipC ρ vs)[i]? = ρ[i]?
  | [], _ => rfl
  | v :: vs, h => by
    have h1 : v ≠ i := fun z => h (by rw [z]; exact List.mem_cons_self)
    unfold wipC
    rw [List.getElem?_set_ne h1]
    exact wipC_out fun z => h (List.mem_cons_of_mem _ z)
theorem wipC_in {ρ : Sl} {i : Nat} {x : Cell} : ∀ {vs : List Nat}, i ∈ vs → (wipC ρ vs)[i]? = some x → x = .un
  | [], h, _ => by cases h
  | v :: vs, h, q => by
    unfold wipC at q
    rcases set_get q with ⟨_, h2, _⟩ | ⟨hne, q⟩
    · exact h2
    · rcases List.mem_cons.mp h with z | z
      · exact absurd z hne
      · exact wipC_in z q
theorem wipe_out' {σ : L2.St} {i : Nat} : ∀ {vs : List Nat}, i ∉ vs → (wipe σ vs)[i]? = σ[i]?
  | [], _ => rfl
  | v :: vs, h => by
    have h1 : v ≠ i := fun z => h (by rw [z]; exact List.mem_cons_self)
    unfold wipe
    rw [List.getElem?_set_ne h1]
    exact wipe_out' fun z => h (List.mem_cons_of_mem _ z)
theorem wipe_in {σ : L2.St} {i : Nat} {x : Option V} : ∀ {vs : List Nat}, i ∈ vs → (wipe σ vs)[i]? = some x → x = none
  | [], h, _ => by cases h
  | v :: vs, h, q => by
    unfold wipe at q
    rcases set_get q with ⟨_, h2, _⟩ | ⟨hne, q⟩
    · exact h2
    · rcases List.mem_cons.mp h with z | z
      · exact absurd z hne
      · exact wipe_in z q
theorem wipe_eq {σ σ' : L2.St} {vs : List Nat} (hl : σ'.length = σ.length) (h : ∀ j, j ∉ vs → σ'[j]? = σ[j]?) : wipe σ' vs = wipe σ vs := by
  apply List.ext_getElem?
  intro j
  by_cases hj : j ∈ vs
  · by_cases hlt : j < σ.length
    · obtain ⟨x, hx⟩ : ∃ x, (wipe σ vs)[j]? = some x := ⟨_, List.getElem?_eq_getElem (by rw [wipe_length]; exact hlt)⟩
      obtain ⟨y, hy⟩ : ∃ x, (wipe σ' vs)[j]? = some x := ⟨_, List.getElem?_eq_getElem (by rw [wipe_length, hl]; exact hlt)⟩
      rw [hx, hy, wipe_in hj hx, wipe_in hj hy]
    · rw [List.getElem?_eq_none (by rw [wipe_length, hl]; omega), List.getElem?_eq_none (by rw [wipe_length]; omega)]
  · rw [wipe_out' hj, wipe_out' hj, h j hj]
theorem wipe_wipe {σ : L2.St} {vs : List Nat} : wipe (wipe σ vs) vs = wipe σ vs := wipe_eq (wipe_length σ vs) fun j hj => wipe_out' hj
section
variable {K : PySem.W.Frag} {c : Ent} {O : Addr → Prop} {G H G' H' : Hp} {σ : L2.St} {ρ ρ' : Sl} {vs : List Nat}
theorem ERep.wipe (e : ERep K c O G H σ ρ) (vs : List Nat) : ERep K c O G H (wipe σ vs) (wipC ρ vs) := by
  have sp : ∀ (i : Nat) (x : Cell), (wipC ρ vs)[i]? = some x → x ≠ .un → i ∉ vs ∧ ρ[i]? = some x := fun i x q n => by
    by_cases h : i ∈ vs
    · exact absurd (wipC_in h q) n
    · exact ⟨h, by rw [← wipC_out h]; exact q⟩
  refine ⟨e.sub, e.g0, e.nw, e.keep, e.dom, e.og, e.oj, e.oh, by rw [wipC_length, wipe_length]; exact e.len, fun i d q => ?_, fun i b ds q => ?_, fun i j b b' ds ds' a hne q1 q2 q3 => ?_⟩
  · obtain ⟨h, q⟩ := sp i _ q (fun z => by cases z)
    obtain ⟨v, h1, h2⟩ := e.pv i d q
    exact ⟨v, by rw [wipe_out' h]; exact h1, h2⟩
  · obtain ⟨h, q⟩ := sp i _ q (fun z => by cases z)
    obtain ⟨a, xs, h1, h2⟩ := e.ol i b ds q
    exact ⟨a, xs, by rw [wipe_out' h]; exact h1, h2⟩
  · obtain ⟨g1, q1⟩ := sp i _ q1 (fun z => by cases z)
    obtain ⟨g2, q2⟩ := sp j _ q2 (fun z => by cases z)
    rw [wipe_out' g1] at q3
    rw [wipe_out' g2]
    exact e.dist i j b b' ds ds' a hne q1 q2 q3
/-- an object of ours that is no data is changed -/
theorem ERep.updH {p : Addr} {o : HO} (e : ERep K c O G H σ ρ) (h0 : c.H0 p = none) (h1 : ¬ O p) (h2 : G p = none) (h3 : H p ≠ none) : ERep K c O G (upd H p o) σ ρ := by
  have nn : ∀ x, H x ≠ none → upd H p o x ≠ none := fun x q => by
    by_cases z : x = p
    · subst z; rw [upd_same]; simp
    · rw [upd_ne z]; exact q
  refine ⟨fun x u q => ?_, e.g0, e.nw, fun x u q n => ?_, fun x q => nn x (e.dom x q), e.og, e.oj, fun x q => nn x (e.oh x q), e.len, e.pv, fun i b ds q => ?_, e.dist⟩
  · have z : x ≠ p := fun w => by rw [w, h2] at q; cases q
    rw [upd_ne z]; exact e.sub x u q
  · have z : x ≠ p := fun w => by rw [w, h0] at q; cases q
    rw [upd_ne z]; exact e.keep x u q n
  · obtain ⟨a, xs, q1, q2, q3, q4, q5⟩ := e.ol i b ds q
    have z : a ≠ p := fun w => h1 (by rw [← w]; exact q2)
    exact ⟨a, xs, q1, q2, q3, by rw [upd_ne z]; exact q4, q5⟩
/-- our slots again, what a comprehension changed of our lists in them -/
def backC (ρ ρ' : Sl) (vs : List Nat) : Sl := ρ'.mapIdx fun i x => if vs.contains i then ρ.getD i .un else x
def noOwn (ρ : Sl) (vs : List Nat) : Bool := vs.all fun i => match ρ[i]? with
  | some (.ol _ _) => false
  | _ => true
theorem noOwn_at {i : Nat} {b : Bool} {ds : List D} (h : noOwn ρ vs = true) (hi : i ∈ vs) : ρ[i]? ≠ some (.ol b ds) := fun q => by
  have := List.all_eq_true.mp h i hi
  rw [q] at this
  cases this
theorem backC_in {i : Nat} {x : Cell} (hi : i ∈ vs) (h : (backC ρ ρ' vs)[i]? = some x) (hl : ρ'.length = ρ.length) : ρ[i]? = some x := by
  unfold backC at h
  rw [List.getElem?_mapIdx] at h
  cases q : ρ'[i]? with
  | none => rw [q] at h; cases h
  | some y =>
    rw [q] at h
    simp only [Option.map_some, List.contains_iff_mem, hi, if_true, Option.some.injEq] at h
    have hlt : i < ρ.length := by rw [← hl]; exact (List.getElem?_eq_some_iff.mp q).1
    rw [List.getD_eq_getElem?_getD, List.getElem?_eq_getElem hlt] at h
    rw [List.getElem?_eq_getElem hlt]
    exact congrArg some h
theorem backC_out {i : Nat} (hi : i ∉ vs) : (backC ρ ρ' vs)[i]? = ρ'[i]? := by
  unfold backC
  rw [List.getElem?_mapIdx]
  cases q : ρ'[i]? with
  | none => rfl
  | some y =>
    rw [Option.map_some, if_neg (by rw [List.contains_iff_mem]; exact hi)]
theorem ERep.back {O : Addr → Prop} {G1 H1 : Hp} (e1 : ERep K c O G1 H1 σ ρ) (e : ERep K c O G' H' (L2.wipe σ vs) ρ') (x : Ext O G1 H1 G' H') (no : noOwn ρ vs = true) : ERep K c O G' H' σ (backC ρ ρ' vs) := by
  have hl : ρ'.length = ρ.length := by rw [e.len, e1.len, wipe_length]
  refine ⟨e.sub, e.g0, e.nw, e.keep, e.dom, e.og, e.oj, e.oh, ?_, fun i d q => ?_, fun i b ds q => ?_, fun i j b b' ds ds' a hne q1 q2 q3 => ?_⟩
  · unfold backC
    rw [List.length_mapIdx, hl, e1.len]
  · by_cases h : i ∈ vs
    · obtain ⟨v, h1, h2⟩ := e1.pv i d (backC_in h q hl)
      exact ⟨v, h1, h2.up x.g⟩
    · rw [backC_out h] at q
      obtain ⟨v, h1, h2⟩ := e.pv i d q
      exact ⟨v, by rw [← wipe_out' h]; exact h1, h2⟩
  · by_cases h : i ∈ vs
    · exact absurd (backC_in h q hl) (noOwn_at no h)
    · rw [backC_out h] at q
      obtain ⟨a, xs, h1, h2⟩ := e.ol i b ds q
      exact ⟨a, xs, by rw [← wipe_out' h]; exact h1, h2⟩
  · by_cases h : i ∈ vs
    · exact absurd (backC_in h q1 hl) (noOwn_at no h)
    · by_cases g : j ∈ vs
      · exact absurd (backC_in g q2 hl) (noOwn_at no g)
      · rw [backC_out h] at q1
        rw [backC_out g] at q2
        rw [← wipe_out' (vs := vs) h] at q3
        rw [← wipe_out' (vs := vs) g]
        exact e.dist i j b b' ds ds' a hne q1 q2 q3
end

/-! ### [e for x in xs if t] -/
def lcL (t : TgF) (ft : Sl → Res Bool) (fe : Sl → Res Val) (vs : List Nat) : List D → Sl → List D → Res (List D)
  | [], ρ, acc => .ok acc ρ
  | d :: ds, ρ, acc => match t.run d ρ with
    | none => .stuck
    | some ρ1 => match ft ρ1 with
      | .ok true ρ2 => match fe ρ2 with
        | .ok (.d x) ρ3 => if acc.length < SZ then lcL t ft fe vs ds (wipC ρ3 vs) (acc ++ [x]) else .stuck
        | _ => .stuck
      | .ok false ρ2 => lcL t ft fe vs ds (wipC ρ2 vs) acc
      | _ => .stuck
def nLc (fI : Sl → Res (List D)) (t : TgF) (ft : Sl → Res Bool) (fe : Sl → Res Val) (vs : List Nat) : Sl → Res (List D) := fun ρ => (fI ρ).bind fun items ρ1 =>
  if noOwn ρ1 vs = true then (match lcL t ft fe vs items (wipC ρ1 vs) [] with
    | .ok out ρ2 => .ok out (backC ρ1 ρ2 vs)
    | _ => .stuck) else .stuck
section
variable {X : Cx} {W : XK} {elt tg iter : Expr} {ifs : List Expr} {scope : Scope} {own : List (Str × Nat)} {pos : Pos} {fI : Sl → Res (List D)} {t : TgF} {ft : Sl → Res Bool} {fe : Sl → Res Val}
/-- the reading of a comprehension -/
theorem nvv_lc {K : PySem.W.Frag} {wi : TI} {vs : List Nat} (i2 : Vv K W (relI K) wi fI) (hsl : ∀ i ∈ t.sl, i ∈ vs) : NVv K W (tLc wi (t.g K) (cT K ft) (cE K fe) vs) (nLc fI t ft fe vs) := by
  intro c O G H σ ρ e0 Q hp
  refine i2 c O G H σ ρ e0 _ ?_
  unfold nLc at hp
  cases q : fI ρ with
  | exc x ρ1 => rw [q] at hp; exact hp
  | stuck => rw [q] at hp; exact hp
  | ok items ρ1 =>
    rw [q] at hp
    intro J G1 H1 e1 x1 s1 yl D hD
    have hp2 : NPost K W c O G H σ ρ Q (if noOwn ρ1 vs = true then (match lcL t ft fe vs items (wipC ρ1 vs) [] with
      | .ok out ρ2 => .ok out (backC ρ1 ρ2 vs)
      | _ => .stuck) else .stuck) := hp
    by_cases no : noOwn ρ1 vs = true
    · rw [if_pos no] at hp2
      have e1w := e1.wipe vs
      generalize hr0 : lcL t ft fe vs items (wipC ρ1 vs) [] = r0 at hp2
      obtain ⟨f1, f2, f3⟩ := e1.fresh hD
      have nD : ∀ a, H1 a ≠ none → a ≠ D := fun a h z => h (z ▸ hD)
      refine ⟨fun i m H' => m = items.length - i ∧ i ≤ items.length ∧ ∃ G' ρ' acc accV, ERep K c O G' H' (wipe σ vs) ρ' ∧ Ext O G1 H1 G' H' ∧ Shp (wipC ρ1 vs) ρ' ∧ H' D = some (.lst accV) ∧ G' D = none ∧ RepA K G' accV acc ∧
        lcL t ft fe vs (items.drop i) ρ' acc = r0, ⟨items.length, by simp, Nat.zero_le _, G1, wipC ρ1 vs, [], [], e1w.newH hD, Ext.newH hD, Shp.refl _, upd_same, f2, .nil, by rw [List.drop_zero]; exact hr0⟩, ?_⟩
      rintro i m H' ⟨rfl, hi, G', ρ', acc, accV, e2, x2, s2, d1, d2, d3, eq⟩
      obtain ⟨y1, y2⟩ := yl G' H' x2.g e2.sub
      by_cases hlt : i < items.length
      · have hd : items[i]? = some items[i] := List.getElem?_eq_getElem hlt
        obtain ⟨go, yl2⟩ := y1 i _ hd
        have hdr : items.drop i = items[i] :: items.drop (i + 1) := List.drop_eq_getElem_cons hlt
        rw [hdr] at eq
        refine .inr ⟨go, fun H'' => ∃ G' ρ' acc accV, ERep K c O G' H'' (wipe σ vs) ρ' ∧ Ext O G1 H1 G' H'' ∧ Shp (wipC ρ1 vs) ρ' ∧ H'' D = some (.lst accV) ∧ G' D = none ∧ RepA K G' accV acc ∧
          lcL t ft fe vs (items.drop (i + 1)) ρ' acc = r0, fun H'' w => ⟨items.length - (i + 1), by omega, rfl, hlt, w⟩, fun x H3 yy => ?_⟩
        obtain ⟨G3, gr, rx⟩ := yl2 x H3 yy
        obtain ⟨e3, x3⟩ := e2.grw gr
        -- what the whole comes to is no stop
        have ns : lcL t ft fe vs (items[i] :: items.drop (i + 1)) ρ' acc ≠ .stuck := fun z => by
          rw [eq] at z
          rw [z] at hp2
          exact hp2
        unfold lcL at eq ns
        cases qt : t.run items[i] ρ' with
        | none => rw [qt] at ns; exact absurd rfl ns
        | some ρ3 =>
          rw [qt] at eq ns
          simp only at eq ns
          refine gv_tg t c O G3 H3 _ ρ' e3 x _ ρ3 rx qt _ fun σ4 e4 l4 o4 => ?_
          have w4 : wipe σ4 vs = wipe σ vs := by
            rw [wipe_eq (σ := wipe σ vs) l4 fun j hj => (o4 j fun z => hj (hsl j z)).1, wipe_wipe]
          refine ⟨w4, c, O, G3, ρ3, e4, ?_⟩
          -- own cells through the target
          have s4 : Shp (wipC ρ1 vs) ρ3 := fun j b ds h => by
            obtain ⟨ds', h'⟩ := s2 j b ds h
            have hj : j ∉ vs := fun z => by
              have := wipC_in z h
              cases this
            exact ⟨ds', by rw [(o4 j fun z => hj (hsl j z)).2]; exact h'⟩
          have shw : ∀ {ρ5 : Sl}, Shp ρ3 ρ5 → Shp (wipC ρ1 vs) (wipC ρ5 vs) := fun {ρ5} s j b ds h => by
            obtain ⟨ds', h'⟩ := (s4.trans s) j b ds h
            have hj : j ∉ vs := fun z => by
              have := wipC_in z h
              cases this
            exact ⟨ds', by rw [wipC_out hj]; exact h'⟩
          cases qf : ft ρ3 with
          | exc x5 ρ5 => rw [qf] at ns; exact absurd rfl ns
          | stuck => rw [qf] at ns; exact absurd rfl ns
          | ok b ρ5 =>
            rw [qf] at eq ns
            intro b' G5 H5 e5 x5 s5 rb
            cases (show b' = b from rb)
            have x15 : Ext O G1 H1 G5 H5 := (x2.trans x3).trans x5
            have k5 : H5 D = some (.lst accV) := x5.k D _ (x3.k D _ d1 f3) f3
            have g5 : G5 D = none := by
              cases z : G5 D with
              | none => rfl
              | some u =>
                rcases (x3.trans x5).n D u z with w | w
                · rw [d2] at w; cases w
                · rw [d1] at w; cases w
            have r5 := d3.up (x3.trans x5).g
            cases b with
            | false =>
              rw [if_neg Bool.false_ne_true]
              have e6 := e5.wipe vs
              rw [w4] at e6
              exact ⟨G5, wipC ρ5 vs, acc, accV, e6, x15, shw s5, k5, g5, r5, eq⟩
            | true =>
              rw [if_pos rfl]
              refine ⟨c, O, G5, ρ5, e5, ?_⟩
              simp only at eq ns
              cases qe : fe ρ5 with
              | exc x6 ρ6 => rw [qe] at ns; exact absurd rfl ns
              | stuck => rw [qe] at ns; exact absurd rfl ns
              | ok v ρ6 =>
                rw [qe] at eq ns
                cases v with
                | own j => exact absurd rfl ns
                | d dx =>
                  simp only at eq ns
                  by_cases hz : acc.length < SZ
                  · rw [if_pos hz] at eq
                    intro y G6 H6 e6 x6 s6 ry
                    have k6 : H6 D = some (.lst accV) := x6.k D _ k5 f3
                    have g6 : G6 D = none := by
                      cases z : G6 D with
                      | none => rfl
                      | some u =>
                        rcases x6.n D u z with w | w
                        · rw [g5] at w; cases w
                        · rw [k5] at w; cases w
                    refine ⟨accV, k6, by rw [d3.length]; exact sz_lt hz, ?_⟩
                    have e7 := (e6.updH (o := .lst (accV ++ [y])) f1 f3 g6 (by rw [k6]; simp)).wipe vs
                    rw [w4] at e7
                    have x16 := x15.trans x6
                    refine ⟨G6, wipC ρ6 vs, acc ++ [dx], accV ++ [y], e7, ⟨x16.g, fun a o h n => ?_, x16.n, fun a h => ?_⟩, shw (s5.trans s6), upd_same, g6, (r5.up x6.g).append (.cons ry .nil), eq⟩
                    · rw [upd_ne (nD a (by rw [h]; simp))]
                      exact x16.k a o h n
                    · rw [upd_ne (nD a h)]
                      exact x16.d a h
                  · rw [if_neg hz] at ns
                    exact absurd rfl ns
      · have e : i = items.length := by omega
        subst e
        rw [List.drop_length] at eq
        refine .inl ⟨y2 _ (Nat.le_refl _), ?_⟩
        have eq' : r0 = .ok acc ρ' := eq.symm
        rw [eq'] at hp2
        have hp3 : ∀ x G' H', ERep K c O G' H' σ (backC ρ1 ρ' vs) → Ext O G H G' H' → Shp ρ (backC ρ1 ρ' vs) → relN K H G' H' x acc → Q x H' := hp2
        refine hp3 (.ref D) G' H' (e1.back e2 x2 no) (x1.trans x2) (s1.trans fun j b ds h => ?_) ⟨D, accV, rfl, ?_, d2, d1, d3⟩
        · have hj : j ∉ vs := fun z => noOwn_at no z h
          obtain ⟨ds', h'⟩ := s2 j b ds (by rw [wipC_out hj]; exact h)
          exact ⟨ds', by rw [backC_out hj]; exact h'⟩
        · cases z : H D with
          | none => rfl
          | some o => exact absurd hD (x1.d D (by rw [z]; simp))
    · rw [if_neg no] at hp2
      exact hp2.elim
theorem vn_lc (hc : X.calm = true) (hN : X.N.Nodup) (hi : VI X W tg iter fI) (ok : BlkOk X.N X.env.scope scope own)
    (hg : ∀ (s : Shared) (H : Hp) (C : Addr) (cl : List (Str × Addr)) (fp : List Addr), VTg (X.blk s H scope (compEnvC scope cl C X.env) fp) tg t)
    (ht : ∀ (s : Shared) (H : Hp) (C : Addr) (cl : List (Str × Addr)) (fp : List Addr), VTs (X.blk s H scope (compEnvC scope cl C X.env) fp) ifs ft)
    (he : ∀ (s : Shared) (H : Hp) (C : Addr) (cl : List (Str × Addr)) (fp : List Addr), VE (X.blk s H scope (compEnvC scope cl C X.env) fp) W0 elt fe) (hs : ∀ x, foldedSetIterable iter X.env x = pure x)
    (hsl : ∀ i ∈ t.sl, i ∈ own.map (·.2)) : VN X W (.ListComp elt [⟨tg, iter, ifs, 0⟩] scope pos) (nLc fI t ft fe (own.map (·.2))) := by
  obtain ⟨wi, i1, i2⟩ := hi.ex
  exact ⟨_, pe_lc hc hN i1 ok (fun s H C cl fp => (hg s H C cl fp).pg) (fun s H C cl fp => (ht s H C cl fp).pt) (fun s H C cl fp => (he s H C cl fp).pe) hs, nvv_lc i2 hsl⟩
/-- name = [..] on one line -/
theorem ps_lc {i : Nat} {y : Str} {py spos : Pos} (hc : X.calm = true) (hN : X.N.Nodup) (hy : X.N[i]? = some y) (hyl : X.env.scope.names.lookup y = some .local)
    (hsw : swapsWith (.ListComp elt [⟨tg, iter, ifs, 0⟩] scope pos) (some (.Name y py)) spos.line X.env = pure true) (hi : VI X W tg iter fI) (ok : BlkOk X.N X.env.scope scope own)
    (hg : ∀ (s : Shared) (H : Hp) (C : Addr) (cl : List (Str × Addr)) (fp : List Addr), VTg (X.blk s H scope (compEnvC scope cl C X.env) fp) tg t)
    (ht : ∀ (s : Shared) (H : Hp) (C : Addr) (cl : List (Str × Addr)) (fp : List Addr), VTs (X.blk s H scope (compEnvC scope cl C X.env) fp) ifs ft)
    (he : ∀ (s : Shared) (H : Hp) (C : Addr) (cl : List (Str × Addr)) (fp : List Addr), VE (X.blk s H scope (compEnvC scope cl C X.env) fp) W0 elt fe) (hs : ∀ x, foldedSetIterable iter X.env x = pure x)
    (hsl : ∀ i ∈ t.sl, i ∈ own.map (·.2)) : ∃ te, PS X (.Assign [.Name y py] (.ListComp elt [⟨tg, iter, ifs, 0⟩] scope pos) spos) (tAsg te (gName i)) ∧ NVv X.K W te (nLc fI t ft fe (own.map (·.2))) := by
  obtain ⟨wi, i1, i2⟩ := hi.ex
  exact ⟨_, ps_setLc hc hN hy hyl hsw i1 ok (fun s H C cl fp => (hg s H C cl fp).pg) (fun s H C cl fp => (ht s H C cl fp).pt) (fun s H C cl fp => (he s H C cl fp).pe) hs, nvv_lc i2 hsl⟩
end
end VL

end

section
set_option linter.all false
set_option maxRecDepth 100000
set_option maxHeartbeats 4000000
/-! VL 9: an exception class whose __init__ says super().__init__(y); self.f = y. -/
namespace VL
open PySem PySem.Spec PyProof.Rows L2

/-- what such an __init__ does to the exception at a that is being made -/
def spInit (C : Addr) (f : Str) : Sp := fun vs H Q _ => ∃ (a : Addr) (v : V), vs = [.ref a, v] ∧ H a = some (exo a C none) ∧ ∀ dx, H dx = none → dx ≠ a → Q .non (upd (upd H dx (exd dx [(f, v)])) a (exo a C (some dx)))
abbrev initBody (slf y f : Str) (p0 p1 p2 p3 p4 p5 p6 p7 p8 p9 : Pos) : List Stmt :=
  [.Expr (.Call (.Attribute (.Call (.Name "super" p0) [] [] p1) "__init__" p2) [.Name y p3] [] p4) p5, .Assign [.Attribute (.Name slf p6) f p7] (.Name y p8) p9]
/-- the names of its scope -/
structure InitSc (scope : Scope) (slf y : Str) : Prop where
  kind : scope.kind = .function
  co : scope.isCoroutine = false
  gen : scope.isGenerator = false
  noc : ∀ x ∈ scope.names, x.2 ≠ .cell
  sup : scope.names.lookup ("super" : Str) = some .globalImplicit
  cls : scope.names.lookup ("__class__" : Str) = some .free
  ls : scope.names.lookup slf = some .local
  ly : scope.names.lookup y = some .local
  ne : slf ≠ y
  d1 : (slf == ("__debug__" : Str)) = false
  d2 : (y == ("__debug__" : Str)) = false
/-- what the written part says -/
structure InitK (P : Program) (K : PySem.W.Frag) (mg : Str → Option Value) (C cc cda : Addr) (qual f : Str) : Prop where
  T : OexC K C
  cell : ∃ cl cld csl, K.lookup cc = some ⟨cl, cld, .cell (some (.ref C)), csl⟩
  code : PySem.W.codeIn K (.ref cda) qual = true
  file : ∃ ccl cdd vs ccs file tf, K.lookup cda = some ⟨ccl, cdd, .fields vs, ccs⟩ ∧ vs[2]? = some (.str file tf) ∧ ((P.main.file : Str) == file) = true
  top : (P.main.scope.names.lookup ("super" : Str)).isSome = false
  mg : mg "super" = none
  boot : bootBuiltins "super" = some (.type "super")
  al : PySem.W.ks_superIn K C C "__init__" = some (some (.builtin "ValueError.__init__"))
  ve : PySem.W.subIn K (.ref C) (.type "ValueError") = some true
  own : PySem.W.mroIn K C (.ref C) = some true
  tp : PySem.W.nsIn K cStatics "thirdparty.any" = some none
  fld : PySem.W.findIn K (.ref C) f = some none

section
open PySem.W
variable {prog : Program} {w : World} {A : Around} {E : Value → Shared → Prop} {h : Heap} {g : Array GenState} {d : Drawn} {t : Nat} {os : OsState}
variable {nm q : Str} {C N : Addr} {bs bm : List Value} {hdct : Bool} {sn : List Str} {sub : List Value} {ab : Bool} {col : Option Bool} {dd : Option Addr} {k0 k1 k2 k3 k5 : Option Value}
/-- ValueError.__init__ bound to the exception at e, called -/
theorem call_bwV {u e t0 : Addr} {rest : List Value} {Q : Value → Shared → Prop}
    (hC : h.get? C = some (excClassObj nm q C N bs bm hdct sn sub ab col dd k0 k1 k2 k3 k5 "ValueError.__new__")) (he : h.get? e = some (HandSPX.excO C t0)) (hu : h.get? u = some (kxs_mw "ValueError.__init__" e)) (hrest : rest.length ≤ sizeLine)
    (hq : ∀ h' t1, (∀ b o, b ≠ e → h.get? b = some o → h'.get? b = some o) → h'.get? e = some (HandSPX.excO C t1) → Q .none ⟨h', g, d, t, os⟩) :
    wpAny (model prog w) A (call (.ref u) rest) Q E ⟨h, g, d, t, os⟩ := by
  refine wpAny_call (codeAny_of_tree ?_)
  show wpAny _ A.in1 (callAny (.ref u) ⟨rest, []⟩) _ _ _
  simp only [callAny]
  refine wpAny_bind (wpAny_load hu ?_)
  simp only [kxs_mw, show (Value.type "method-wrapper" == Value.type "method" || Value.type "method-wrapper" == Value.type "builtin_function_or_method" || Value.type "method-wrapper" == Value.type "method-wrapper") = true by decide, if_true]
  refine KFB.if_so (by decide) ?_
  refine wpAny_bind (check_bound_init F.excBase_ValueError.toExcCallFacts hC he rfl ?_)
  refine wpAny_bind (wpAny_pure (wpAny_pure ?_))
  refine ⟨plainId_quiet F.excBase_ValueError.init.plain _, codeAny_builtin F.excBase_ValueError.initEntry ?_⟩
  rw [Around.under_plainId F.excBase_ValueError.init.plain _]
  wp_walk
  refine hq _ h.objs.size (fun b o hb ho => ?_) ?_
  · rw [Heap.get?_update_other _ _ (Ne.symm hb)]
    exact Heap.get?_push_of_some _ ho
  · rw [Heap.get?_update_self _ (Heap.get?_push_of_some _ he) rfl]
    rfl
end

theorem fn_initsup {P : Program} {w : World} {K : PySem.W.Frag} {mg : Str → Option Value} {base : Heap} {CX : CXT} {k : Nat} {name qual slf y f : Str} {params : Arguments} {scope : Scope} {dV kV doc pm ct oc : Value} {an od : Option Addr} {osl : Array (Option Value)}
    {fI cc cda C : Addr} {p0 p1 p2 p3 p4 p5 p6 p7 p8 p9 : Pos} {ar : Arg} (S : InitSc scope slf y) (Z : InitK P K mg C cc cda qual f)
    (lk : K.lookup fI = some ⟨oc, od, .func (PySem.W.ksFn name qual params (initBody slf y f p0 p1 p2 p3 p4 p5 p6 p7 p8 p9) scope dV kV doc pm an (.ref cda) ct cc), osl⟩)
    (hp : (params.posonlyargs ++ params.args).head? = some ar) (har : ar.arg = slf)
    (hM : ∀ env : Env, ∃ pl : Sem Bool, eval (.Call (.Attribute (.Call (.Name "super" p0) [] [] p1) "__init__" p2) [.Name y p3] [] p4) env = (do
      let ov ← attributeBase (.Call (.Name "super" p0) [] [] p1) "__init__" env (eval (.Call (.Name "super" p0) [] [] p1) env)
      standAt p2.atName
      let (f, first) ← holding [ov] (getMethod ov "__init__" pl)
      callWith p4 f first (backTo p4 (starEach [.Name y p3] env)) [])) :
    FnOk P w K mg base CX (k + 1) fI (PySem.W.ksFn name qual params (initBody slf y f p0 p1 p2 p3 p4 p5 p6 p7 p8 p9) scope dV kV doc pm an (.ref cda) ct cc) [slf, y] (spInit C f) := by
  refine ⟨fun vs H Q E ⟨a, v, e, _⟩ => by rw [e]; rfl, fun A outer s H args us vs Q E hr e0 hb r hsp => ?_⟩
  obtain ⟨a, v, rfl, ea, q⟩ := hsp
  obtain ⟨u1, u, rfl, r1, r2⟩ := vals2 r
  obtain rfl : u1 = Value.ref a := r1
  have KX : K.In s.heap := e0.mod.kin.keeps fun b o e => (e0.bs b o e).1
  have lim : s.heap.NoLimit := e0.mod.nolimit.keeps fun b o e => (e0.bs b o e).1
  obtain ⟨nm, qn, N, bs, bm, sn, sub, ab, col, dd, k0, k1, k2, k3, k5, hC, hbm⟩ := Z.T.cls
  have hcl : PySem.W.clsIn K C = some { name := nm, bases := bs, mro := .ref C :: bm, ns := N, qualname := qn, hasDict := true, slotNames := sn, subclasses := sub, abstract := ab, collection := col, hasDel := false } := by unfold PySem.W.clsIn; rw [hC] <;> rfl
  obtain ⟨t1, ho⟩ := exo_at e0.hok ea
  obtain ⟨cl, cld, csl, hcell⟩ := Z.cell
  obtain ⟨ccl, cdd, vs, ccs, file, tf, hcode, hvs, hfile⟩ := Z.file
  obtain ⟨mb, hb1, hb2⟩ := e0.mod.blt
  obtain ⟨hp0, g, d, tk, os⟩ := s
  have bk : ∀ b o, base.get? b = some o → hp0.get? b = some o := fun b o e => (e0.bs b o e).1
  have xC : a ≠ C := fun z => by
    have z2 := KX _ _ hC
    rw [z] at ho
    rw [show Shared.heap ⟨hp0, g, d, tk, os⟩ = hp0 from rfl] at z2
    have ho' : hp0.get? C = _ := ho
    rw [ho'] at z2
    cases z2
  have aL : a < hp0.objs.size := Heap.lt_size (show hp0.get? a = some _ from ho)
  have nds : (List.lookup y [(y, u), (slf, Value.ref a)]) = some u := by simp [List.lookup]
  have nsl : (List.lookup slf [(y, u), (slf, Value.ref a)]) = some (Value.ref a) := by
    have : (slf == y) = false := by simpa using S.ne
    simp [List.lookup, this]
  refine ks_codeAny_call_defAt (fd := PySem.W.ksFn name qual params (initBody slf y f p0 p1 p2 p3 p4 p5 p6 p7 p8 p9) scope dV kV doc pm an (.ref cda) ct cc) (body := initBody slf y f p0 p1 p2 p3 p4 p5 p6 p7 p8 p9) (binds := [slf, y].zip [.ref a, u]) hr.depth (KX _ _ lk) rfl lim
    (PySem.W.codeRec_of KX Z.code) rfl hb S.noc (fun x hx => ?_) (fun h₁ hns hk => ?_) S.co S.gen S.kind
  · simp only [List.zip_cons_cons, List.zip_nil_left, List.mem_cons, List.not_mem_nil, or_false] at hx
    rcases hx with rfl | rfl
    · exact S.ls
    · exact S.ly
  have hns1 : h₁.Ns hp0.objs.size (fun x => List.lookup x [(y, u), (slf, Value.ref a)]) := hns
  have kk1 : ∀ b o, hp0.get? b = some o → h₁.get? b = some o := hk
  have KX1 : K.In h₁ := KX.keeps kk1
  have ho1 : h₁.get? a = some (HandSPX.excO C t1) := kk1 _ _ ho
  have hD1 := KX1 _ _ hC
  have hint : interactive (PySem.W.ksEnv qual scope hp0.objs.size fI (.ref cda) cc) = false := by
    unfold interactive
    have hk0 := S.kind
    simp [hk0]
  obtain ⟨pl, hpl⟩ := hM (PySem.W.ksEnv qual scope hp0.objs.size fI (.ref cda) cc)
  refine PySem.ks_wpAt_execs_cons (PySem.ks_wpAt_Expr_any (PySem.ks_wpAt_MethodCall (he := hpl) (PySem.ks_wpAt_super_base (ar := ar) S.sup S.cls (by decide) rfl (KX1 _ _ lk) rfl hp rfl (KX1 _ _ hcode) rfl hvs hfile Z.top ?_)) hint rfl)
  refine PySem.W.ks_loadName_global S.kind S.sup (Calls.loadGlobal_builtin (e0.mod.glob.keeps fun b o e => kk1 b o (bk b o e)) Z.mg (hb1.keeps fun b o e => kk1 b o (bk b o e)) ((hb2 "super" (by decide)).trans Z.boot) ⟨rfl, ?_⟩)
  refine wpAny_loadName_free S.kind S.cls rfl ⟨_, KX1 _ _ hcell, rfl⟩ ?_
  rw [har]
  refine wpAny_loadName_local S.kind S.ls hns1 nsl ?_
  refine PySem.ks_wpAny_isType_cls hD1 rfl ⟨rfl, ?_⟩
  refine PySem.ks_wpAny_call_super hD1 rfl ho1 rfl (fun c e => by cases e) (PySem.W.looks_mroIn KX1 Z.own) (fun h2 e2 k2 => ?_)
  have KX2 : K.In h2 := KX1.keeps k2
  have I2 : PySem.W.InstAt h2 a (HandSPX.excO C t1) C none := ⟨k2 _ _ ho1, rfl, rfl, trivial⟩
  have al := Z.al
  unfold PySem.W.ks_superIn at al
  rw [hcl] at al
  refine PySem.W.kxs_getMethod PySem.W.kxs_ValueError e2 (PySem.W.looks_opaque KX2 Z.tp) (l₀ := .ref C :: bm) (fun A Q E s k q => wpAny_bind ((PySem.W.looks_clsIn KX2 hcl) A _ E s k (wpAny_pure q))) rfl KX2 al (I2.type.andThen (PySem.W.looks_subIn KX2 Z.ve)) xC (by decide) ?_
  have k3 : ∀ b o, h2.get? b = some o → (h2.push (PySem.W.kxs_mw "ValueError.__init__" a)).get? b = some o := fun b o e => Heap.get?_push_of_some _ e
  have hns3 := hns1.keeps fun b o e => k3 b o (k2 b o e)
  refine PySem.W.kxs_callWith (i := "ValueError.__init__") (x := a) rfl (Calls.evalArgs_plain (Calls.spliced_cons (wpAny_Name (wpAny_loadName_local S.kind S.ly hns3 nds (Calls.spliced_nil ⟨Heap.get?_push_size _ rfl, ?_⟩)) S.d2)))
  refine call_bwV (KX2.keeps k3 _ _ hC) (k3 _ _ (k2 _ _ ho1)) (Heap.get?_push_size _ rfl) (by show 1 ≤ sizeLine; rw [sizeLine_eq]; omega) (fun h4 t4 k4 e4 => ?_)
  have k14 : ∀ b o, b ≠ a → h₁.get? b = some o → h4.get? b = some o := fun b o n e => k4 b o n (k3 b o (k2 b o e))
  have k04 : ∀ b o, b ≠ a → hp0.get? b = some o → h4.get? b = some o := fun b o n e => k14 b o n (kk1 b o e)
  have nab : ∀ {b : Addr}, H b = none → b ≠ a := fun {b} n z => by
    rw [z, ea] at n
    cases n
  have KX4 : K.In h4 := e0.mod.kin.keeps fun b o e => k04 b o (nab (e0.bs b o e).2) (bk b o e)
  have La : a ≠ hp0.objs.size := Nat.ne_of_lt aL
  have hns4 : h4.Ns hp0.objs.size (fun x => List.lookup x [(y, u), (slf, Value.ref a)]) := hns3.at fun o e => k4 _ _ (Ne.symm La) e
  refine wpAt_of_wpAny ?_
  refine wpAny_execs_cons (plainObj_wpAny_Assign_Attribute (wpAny_Name (wpAny_loadName_local S.kind S.ly hns4 nds (wpAny_Name (wpAny_loadName_local S.kind S.ls hns4 nsl ?_) S.d1)) S.d2))
  refine PySem.W.set_plain KX4 (ox := HandSPX.excO C t4) (od := none) ⟨e4, rfl, rfl, trivial⟩ Z.T.sa ?_
  refine HandSPX.exc_osa KX4 e4 hcl (show HandSPX.refsVE (.ref C :: bm) = true from hbm) rfl Z.fld (fun h5 tk' dx k5 dn dne hx hn => ?_)
  refine wpAny_execs_nil ?_
  have Ldx : hp0.objs.size < dx := by
    obtain ⟨oL, es, ep, hL, _⟩ := hns4
    exact Nat.lt_of_lt_of_le (Heap.lt_size hL) dn
  have nd : ∀ {b : Addr} {o : Obj}, hp0.get? b = some o → b ≠ dx := fun {b o} z => Nat.ne_of_lt (Nat.lt_trans (Heap.lt_size z) Ldx)
  have hnd : H dx = none := e0.hok.fresh (Nat.le_of_lt Ldx)
  have k05 : ∀ b o, b ≠ a → hp0.get? b = some o → h5.get? b = some o := fun b o n e => k5 b o n (k04 b o n e)
  refine ⟨.non, _, rfl, e0.bare, ?_, fun b o z => ?_, rfl, q dx hnd dne⟩
  · exact {
      keep := fun b o z n _ _ => k05 b o (nab n) z
      slot := fun b o z n _ _ => ⟨o.slots, k05 b o (nab n) z⟩
      free := fun b o z n _ => by rw [upd_ne (nab n), upd_ne (nd z)]; exact n
      there := fun b o z _ => by
        by_cases hb : b = a
        · exact ⟨_, by rw [hb]; exact hx⟩
        · exact ⟨o, k05 b o hb z⟩
      tups := fun b xs z => by rw [upd_ne (at_ne ea z exo_tup), upd_ne (ne_of_none z hnd)]; exact z
      frzs := fun b o v z => by rw [upd_ne (at_ne ea z exo_frz), upd_ne (ne_of_none z hnd)]; exact z
      tbls := fun b ps z => ⟨#[], by rw [upd_ne (at_ne ea z exo_tbl), upd_ne (ne_of_none z hnd), z]; simp⟩ }
  · by_cases hb : b = a
    · subst hb
      rw [upd_same] at z
      cases z
      exact exo_ok hx
    · rw [upd_ne hb] at z
      by_cases hd : b = dx
      · subst hd
        rw [upd_same] at z
        cases z
        exact exd_ok hn (relO_put (fs := []) r2 fun g => True.intro)
      · rw [upd_ne hd] at z
        exact (e0.hok b o z).stay (fun c v hc z => k05 c v (by
            rcases hc with hc | hc
            · rw [hc]
              exact hb
            · exact at_ne ea hc exo_own) z)
          (fun c hc => by rw [upd_ne (at_ne ea hc exo_own), upd_ne (ne_of_none hc hnd)]; exact hc) (fun c xs hc => by rw [upd_ne (at_ne ea hc exo_tup), upd_ne (ne_of_none hc hnd)]; exact hc)
end VL

end

section
set_option linter.all false
set_option maxRecDepth 100000
set_option maxHeartbeats 4000000
/-! VL 10: raise, try .. except X as n: y = n, what is asked of a caught exception. -/
namespace VL
open PySem PySem.Spec PyProof.Rows L2

/-! ### raise C(e) -/
def sRaise (C : Addr) (f : Str) (g : Sl → Res (List Val)) : Sl → SR := fun ρ => (g ρ).sb fun vs ρ1 => match vs with
  | [.d d] => .exc ⟨C, [(f, d)]⟩ ρ1
  | _ => .stuck
section
variable {X : Cx} {W : XK} {e : Expr} {es : List Expr} {pos p p' : Pos} {x f : Str} {C fI : Addr} {k : Nat} {fd : FuncData} {ps : List Str} {g : Sl → Res (List Val)}
theorem svv_raise {K : PySem.W.Frag} {t : TA} (ha : Vv K W (relA K) t g) : SVv K W (fun _ σ H => tMkO C (spInit C f) [] t σ H fun cls d H' => W cls d H') (sRaise C f g) := by
  intro c O G H σ ρ e D' h
  refine ha.thnS e h fun vs ρ1 xs G1 H1 e1 x1 s1 r1 h1 => ?_
  cases vs with
  | nil => exact h1.elim
  | cons v0 vr =>
  cases vr with
  | cons v1 vr => cases v0 <;> exact h1.elim
  | nil =>
  cases v0 with
  | own i => exact h1.elim
  | d d =>
    have h1' : SPost K W c G1 D' (.exc ⟨C, [(f, d)]⟩ ρ1) := h1
    cases r1 with
    | @cons v _ xs _ rv rr =>
      cases rr
      have rv' : Rep K G1 v d := rv
      refine ⟨by simp, fun a na => ⟨a, v, rfl, upd_same, fun dx nd ne => ?_⟩⟩
      have nd1 : H1 dx = none := by
        rw [upd_ne ne] at nd
        exact nd
      have eqH : upd (del (upd (upd (upd H1 a (exo a C none)) dx (exd dx [(f, v)])) a (exo a C (some dx))) a) dx (.xd [(f, v)]) = upd H1 dx (.xd [(f, v)]) := by
        funext b
        by_cases hb : b = dx
        · subst hb
          rw [upd_same, upd_same]
        · rw [upd_ne hb, upd_ne hb]
          by_cases hc : b = a
          · subst hc
            rw [del_same, na]
          · rw [del_ne hc, upd_ne hc, upd_ne hb, upd_ne hc]
      refine ⟨rfl, dx, [(f, v)], upd_same, by rw [upd_ne ne]; exact upd_same, nd1, ?_⟩
      rw [eqH]
      have le : Le G1 (upd G1 dx (.xd [(f, v)])) := Le.new (none_of_le e1.sub nd1)
      exact h1' (.ref C) (some dx) O (upd G1 dx (.xd [(f, v)])) _ σ (e1.new nd1) le ⟨rfl, dx, _, rfl, upd_same, .cons (rv'.up le) .nil⟩
theorem vs_raise (hc : X.calm = true) (tk : Takes X fun cls d _ H => W cls d H) (T : OexC X.K C) (iC : PySem.W.findIn X.K (.ref C) "__init__" = some (some (.ref fI))) (tI : PySem.W.typeIn X.K (.ref fI) = some (.type "function"))
    (F1 : FnOk X.prog X.w X.K X.mg X.base (L2.CX X.prog X.w) k fI fd ps (spInit C f)) (hr : Room (k + 1) X.A) (hb : Binds X.K fd ps []) (hg : Gl X x) (hm : X.mg x = some (.ref C)) (ha : VA X W (e :: es) g)
    (hdb : (x == ("__debug__" : Str)) = false) (he : starEach (e :: es) X.env = (false, eval e X.env) :: starEach es X.env) (hpl : (backTo p' (starEach es X.env)).any (·.1) = false) :
    VS X W (.Raise (some (.Call (.Name x p) (e :: es) [] p')) none pos) (sRaise C f g) := by
  obtain ⟨t, a1, a2⟩ := ha.ex
  exact ⟨_, ps_raise hc tk (pmk_oex T iC tI F1 hr hb .nil (passes_call tk fun _ _ _ _ h => h.elim) hg hm a1 hdb he hpl), svv_raise a2⟩
end

/-! ### a caught exception kept -/
section
variable {K : PySem.W.Frag} {c : Ent} {O : Addr → Prop} {G H : Hp} {σ : L2.St} {ρ : Sl}
def unk (ρ : Sl) : Sl := ρ.map fun _ => Cell.un
theorem unk_length (ρ : Sl) : (unk ρ).length = ρ.length := List.length_map _
theorem unk_at {i : Nat} {x : Cell} (h : (unk ρ)[i]? = some x) : x = .un := by
  unfold unk at h
  rw [List.getElem?_map] at h
  cases q : ρ[i]? with
  | none => rw [q] at h; cases h
  | some y => rw [q] at h; cases h; rfl
theorem ERep.unk {σ' : L2.St} {ρ' : Sl} (e : ERep K c O G H σ ρ) (hl : ρ'.length = σ'.length) : ERep K c O G H σ' (VL.unk ρ') :=
  ⟨e.sub, e.g0, e.nw, e.keep, e.dom, e.og, e.oj, e.oh, by rw [unk_length]; exact hl, fun i d q => (nomatch unk_at q), fun i b ds q => (nomatch unk_at q), fun i j b b' ds ds' a _ q => (nomatch unk_at q)⟩
theorem ERep.unset {i : Nat} (e : ERep K c O G H σ ρ) (h : ∀ x, ρ[i]? = some x → x = .un) : ERep K c O G H (σ.set i none) ρ := by
  refine ⟨e.sub, e.g0, e.nw, e.keep, e.dom, e.og, e.oj, e.oh, by rw [List.length_set]; exact e.len, fun j d q => ?_, fun j b ds q => ?_, fun j k b b' ds ds' a hne q1 q2 q3 => ?_⟩
  · have hn : i ≠ j := fun z => by subst z; cases h _ q
    rw [List.getElem?_set_ne hn]
    exact e.pv j d q
  · have hn : i ≠ j := fun z => by subst z; cases h _ q
    rw [List.getElem?_set_ne hn]
    exact e.ol j b ds q
  · have h1 : i ≠ j := fun z => by subst z; cases h _ q1
    have h2 : i ≠ k := fun z => by subst z; cases h _ q2
    rw [List.getElem?_set_ne h1] at q3
    rw [List.getElem?_set_ne h2]
    exact e.dist j k b b' ds ds' a hne q1 q2 q3
end

section
variable {X : Cx} {pins : List (Addr × Obj)} {σ : L2.St} {H : Hp} {s : Shared}
theorem Inv.unsuite2 {a : Addr} {q : Addr × Obj} {pn' : List (Addr × Obj)} (I : Inv (X.suite a (q :: (X.pn ++ pins))) pn' σ H s) (ok : X.Ok) : Inv X (pins ++ [q]) σ H s :=
  ⟨ok, I.os, I.bare, I.base, I.loc, I.cell, I.free, I.freeC, fun p hp => I.pin p (List.mem_append_left _ (by
    rcases List.mem_append.mp hp with h | h
    · exact List.mem_cons_of_mem _ (List.mem_append_left _ h)
    · rcases List.mem_append.mp h with h | h
      · exact List.mem_cons_of_mem _ (List.mem_append_right _ h)
      · rw [List.mem_singleton.mp h]; exact List.mem_cons_self)), I.hok, I.len⟩
/-- a pinned object is tracked from now on -/
theorem Inv.track {a : Addr} {oe : Obj} {o : HO} (I : Inv X (pins ++ [(a, oe)]) σ H s) (n0 : X.s_0.heap.get? a = none) (np : ∀ p ∈ X.pn ++ pins, p.1 ≠ a) (new : ObjOk X.prog X.w (upd H a o) s.heap a o) : Inv X pins σ (upd H a o) s := by
  obtain ⟨ha, na, nL, nF, nC⟩ := I.pin (a, oe) (List.mem_append_right _ (List.mem_append_right _ List.mem_cons_self))
  have na' : H a = none := na
  have ne0 : ∀ b u, X.s_0.heap.get? b = some u → b ≠ a := fun b u e z => by
    rw [z, n0] at e
    cases e
  refine ⟨I.ok, I.os, I.bare, ⟨I.base.keep, I.base.slot, fun b u e n hx => ?_, I.base.there, fun b xs e => ?_, fun b u v e => ?_, fun b ps e => ?_⟩, I.loc, I.cell, ?_, fun x c e => ?_, fun p hp => ?_, fun b u e => ?_, I.len⟩
  · rw [upd_ne (ne0 b u e)]
    exact I.base.free b u e n hx
  · have z := I.base.tups b xs e
    rw [upd_ne (ne_of_none z na')]
    exact z
  · have z := I.base.frzs b u v e
    rw [upd_ne (ne_of_none z na')]
    exact z
  · obtain ⟨m, z⟩ := I.base.tbls b ps e
    exact ⟨m, by rw [upd_ne (ne_of_none z na')]; exact z⟩
  · rw [upd_ne (Ne.symm nL)]
    exact I.free
  · have hc : c ≠ a := fun z => by
      obtain ⟨v, o1, e1, e2⟩ := I.cell x c e
      rw [z] at e1
      have ha' : s.heap.get? a = some oe := ha
      rw [ha'] at e1
      cases e1
      exact nC v e2
    rw [upd_ne hc]
    exact I.freeC x c e
  · obtain ⟨h1, h2, h3, h4, h5⟩ := I.pin p (by
      rcases List.mem_append.mp hp with h | h
      · exact List.mem_append_left _ h
      · exact List.mem_append_right _ (List.mem_append_left _ h))
    exact ⟨h1, by rw [upd_ne (np p hp)]; exact h2, h3, h4, h5⟩
  · by_cases hb : b = a
    · subst hb
      rw [upd_same] at e
      cases e
      exact new
    · rw [upd_ne hb] at e
      exact (I.hok b u e).stay (fun _ _ _ q => q) (fun c q => by rw [upd_ne (ne_of_none q na')]; exact q) fun c xs q => by rw [upd_ne (ne_of_none q na')]; exact q
end
theorem exK_ok {P : Program} {w : World} {H : Hp} {h : Heap} {a C dd : Addr} {oe : Obj} {vs : Array Value} (e : h.get? a = some oe) (z : Zc (.ref C) (some dd) oe) (d : oe.data = .fields vs) : ObjOk P w H h a (ExK C dd a) :=
  ⟨⟨oe, vs, e, z, d⟩, ⟨oe, e⟩, fun _ _ ⟨o, v, q, r⟩ k => ⟨o, v, k o q, r⟩⟩
theorem exK_at {P : Program} {w : World} {H : Hp} {h : Heap} {a C dd : Addr} (hok : HOk P w H h) (he : H a = some (ExK C dd a)) : ∃ (oe : Obj) (vs : Array Value), h.get? a = some oe ∧ Zc (.ref C) (some dd) oe ∧ oe.data = .fields vs := by
  have x : ObjOk P w H h a (.ext fun h => ∃ (oe : Obj) (vs : Array Value), h.get? a = some oe ∧ Zc (.ref C) (some dd) oe ∧ oe.data = .fields vs) := hok a _ he
  exact x.1

/-- try: body, except X as n: y = n (y's slot j) -/
def sTry (hit : Addr → Option Bool) (j : Nat) (fb : Sl → SR) : Sl → SR := fun ρ => match fb ρ with
  | .exc x ρ1 => (match hit x.C with
    | some true => .nx ((unk ρ).set j (.pv (.exc x.C x.fs)))
    | some false => .exc x ρ1
    | none => .stuck)
  | r => r
/-- a statement's reading by what it comes to -/
def cS (K : PySem.W.Frag) (W : XK) (L : Nat) (f : Sl → SR) : TS := fun D σ H => ∃ c O G ρ, ERep K c O G H σ ρ ∧ SPost K W c G D (f ρ)
/-- what is wished of an exception that leaves the body -/
def wTry (K : PySem.W.Frag) (c : Value) (i j L : Nat) (W : XK) (D : Ends) : XK := fun cls d H => ∃ b, PySem.W.exmOne K cls c = some b ∧
  (b = true → ∃ C dd, cls = .ref C ∧ d = some dd ∧ ∀ (σ : L2.St) (a : Addr), σ.length = L → H a = none → D.nx ((σ.set j (some (.ref a))).set i none) (upd H a (ExK C dd a))) ∧ (b = false → W cls d H)
section
variable {X : Cx} {W : XK} {x n y : Str} {c : Value} {i j : Nat} {body : List Stmt} {np pos pos' q1 q2 q3 : Pos} {fb : Sl → SR} {hit : Addr → Option Bool}
theorem vs_try (hs : X.stack = X.env :: X.outer) (hf : X.env.frame = some X.env.locals) (hex : X.ex = []) (hN : X.N.Nodup) (hi : X.N[i]? = some n) (hj : X.N[j]? = some y) (hln : X.env.kindOf n = some .local) (hly : X.env.scope.names.lookup y = some .local) (hc : Names X x c)
    (tk : Takes X fun cls d _ H => W cls d H) (hit_ok : ∀ C b, hit C = some b → PySem.W.exmOne X.K (.ref C) c = some b)
    (hdn : (n == ("__debug__" : Str)) = false) (hcn : (n == ("__classdict__" : Str)) = false) (hsw : swapsWith (.Name n q2) (some (.Name y q1)) q3.line X.env = pure false) (hij : i ≠ j)
    (hb : ∀ (W' : XK) (pn : List (Addr × Obj)) (xe : Value → Shared → Prop), (Takes (X.tr pn xe) fun cls d _ H => W' cls d H) → PassesOwn (model X.prog X.w) X.A X.env xe → VB (X.tr pn xe) W' body fb) :
    VS X W (.Try body [.ExceptHandler (some (.Name x np)) (some n) [.Assign [.Name y q1] (.Name n q2) q3] pos'] [] [] pos) (sTry hit j fb) := by
  refine ⟨cS X.K W X.N.length (sTry hit j fb), ⟨fun pins s σ H D I h => ?_⟩, fun c0 O G H σ ρ e D' h => ⟨c0, O, G, ρ, e, h⟩⟩
  obtain ⟨c0, O, G, ρ, e0, hp⟩ := h
  have ok := I.ok
  have hfr : X.A.frames = some (X.env :: X.outer) := by rw [ok.frames, hs]
  have hloc : Loc X.env.scope n := .inl hln
  have lenρ : ρ.length = X.N.length := by rw [e0.len, I.len]
  refine wpAny_Try_except ?_
  have catch_ : Takes (X.tr (X.pn ++ pins) (fun e s₁ => wpAny (model X.prog X.w) X.A (noteFrame e X.env) (fun _ s₂ => wpAny (model X.prog X.w) X.A (setFlight e none) (fun _ s₃ =>
    wpAny (model X.prog X.w) X.A (handleBy e X.env [.ExceptHandler (some (.Name x np)) (some n) [.Assign [.Name y q1] (.Name n q2) q3] pos']) (SP X pins D) X.xe s₃) X.xe s₂) X.xe s₁)) fun cls d _ H => wTry X.K c i j X.N.length W D cls d H := by
    intro u s' xx
    obtain ⟨a, B, sI, pins', σ', H', cls, d, rfl, J', nb, up, sky, na, os, ag, b, hb1, hyes, hno⟩ := xx
    have J : Inv X pins σ' H' sI := J'.ofTry ok
    have sky' : Sky B (X.env :: X.outer) a (Zc cls d) X.env.locals s'.heap := by rw [← hs]; exact sky
    show wpAny (model X.prog X.w) X.A (noteFrame (.ref a) X.env) _ _ _
    refine Sky.land Zc.steady hfr hf sky' fun h3 fl3 up3 => ?_
    have J3 : Inv X pins σ' H' { s' with heap := h3 } := J.landed nb fl3.1 (up.trans up3) os ag
    obtain ⟨oe3, vs3, he3, hz3, hd3⟩ := fl3.there
    have notFr : ∀ {h : Heap} {o : Obj} {vs : Array Value}, h.FunFrames B (X.env :: X.outer) → h.get? a = some o → o.data = .fields vs → a ∉ frs (X.env :: X.outer) := fun {h o vs} ff e dd hm => by
      obtain ⟨_, o', e', hnf⟩ := ff.mem hm
      rw [e] at e'; cases e'
      exact hnf _ dd
    have nfr := notFr fl3.2.2.1 he3 hd3
    have nL : a ≠ X.env.locals := fun z => nfr (List.mem_filterMap.mpr ⟨X.env, List.mem_cons_self, by rw [hf, z]⟩)
    have nF : a ∉ X.fs := fun hm => by
      obtain ⟨e, he, q⟩ := List.mem_filterMap.mp hm
      exact nfr (List.mem_filterMap.mpr ⟨e, List.mem_cons_of_mem _ he, q⟩)
    have nBa : B.get? a = none := fl3.2.1
    have n0 : X.s_0.heap.get? a = none := by
      cases z : X.s_0.heap.get? a with
      | none => rfl
      | some o =>
        obtain ⟨o', z1⟩ := J.base.there a o z (by rw [hex]; exact fun w => nomatch w)
        have z2 := nb a o' z1 (by rw [hs]; exact nfr)
        rw [nBa] at z2
        cases z2
    have npin : ∀ p ∈ X.pn ++ pins, p.1 ≠ a := fun p hp z => by
      obtain ⟨h1, h2, h3, h4, h5⟩ := J.pin p hp
      have z2 := nb p.1 p.2 h1 (fun hm => by
        rcases List.mem_cons.mp (J.stkSub _ hm) with w | w
        · exact h3 w
        · exact h4 w)
      rw [z, nBa] at z2
      cases z2
    have S3 := J3.suite he3 hd3 na nL nF
    refine wpAny_handleBy_cons (codeAny_handlers_test ?_) (by intro q; cases q)
    have LT : PySem.W.Looks (model X.prog X.w) h3 (typeOf (.ref a)) cls := fun A Q E s k q => wpAny_typeOf_ref (k _ _ he3) (by rw [hz3.1]; exact q)
    have LM := PySem.W.exm_one (M := model X.prog X.w) (J3.kIn) LT hb1
    have test : ∀ {Q : Value → Shared → Prop} {E : Value → Shared → Prop}, Q c { s' with heap := h3 } → wpAny (model X.prog X.w) (X.A.mark (some (.ref a))) (eval (.Name x np) X.env) Q E { s' with heap := h3 } := fun {Q E} q => by
      obtain ⟨hg, hdbg, hm | ⟨hm, hv, hnn⟩⟩ := hc
      · exact ld_glob (X := X.suite a ((a, oe3) :: (X.pn ++ pins))) S3 hg hm q hdbg
      · exact ld_blt (X := X.suite a ((a, oe3) :: (X.pn ++ pins))) S3 hg hm hv q hnn hdbg
    refine test (LM.here ?_)
    cases b with
    | true =>
      refine codeAny_handlers_suite_as ?_
      refine HandSPX.lands_againZ fl3 fun h4 fl4 up4 => ?_
      have J4 : Inv X pins σ' H' { s' with heap := h4 } := J.landed nb fl4.1 ((up.trans up3).trans up4) os ag
      obtain ⟨oe4, vs4, he4, hz4, hd4⟩ := fl4.there
      have S4 := J4.suite he4 hd4 na nL nF
      refine store_ok (X := X.suite a ((a, oe4) :: (X.pn ++ pins))) (v := .ref a) S4 hN hi hloc rfl (fun s5 S5 => ?_) (.inr hln)
      obtain ⟨C, dd, ec, ed, fin⟩ := hyes rfl
      have il : i < σ'.length := by rw [J.len]; exact (List.getElem?_eq_some_iff.mp hi).1
      have suiteOk : PSs (X.suite a ((a, oe4) :: (X.pn ++ pins))) [.Assign [.Name y q1] (.Name n q2) q3] (tSeq (tAsg (tVar i) (gName j)) tNext) :=
        pss_cons (ps_set (X := X.suite a ((a, oe4) :: (X.pn ++ pins))) hN hj (.inl hly) (pe_var (X := X.suite a ((a, oe4) :: (X.pn ++ pins))) hi (.inl hln) hdn hcn) hsw (.inr hly)) pss_nil
      refine wpAny_mono (suiteOk.run [] s5 _ H' { nx := fun σ6 H6 => σ6 = (σ'.set i (some (.ref a))).set j (some (.ref a)) ∧ H6 = H', rt := fun _ _ => False } S5 ⟨.ref a, List.getElem?_set_self il, rfl, rfl⟩) (fun f s6 hsp => ?_) (fun _ _ z => False.elim z)
      cases f with
      | next =>
        obtain ⟨σ6, H6, S6, rfl, rfl⟩ := hsp
        refine gone_ok (VL.Inv.unsuite2 S6 ok) hN hi hln fun s7 J7 => ?_
        have pin7 := J7.pin (a, oe4) (List.mem_append_right _ (List.mem_append_right _ List.mem_cons_self))
        refine ⟨_, _, VL.Inv.track J7 n0 npin (o := ExK C dd a) (exK_ok pin7.1 (by rw [← ec, ← ed]; exact hz4) hd4), ?_⟩
        exact fin _ a (by rw [List.length_set]; exact J.len) na
      | brk =>
        obtain ⟨σ6, H6, S6, q6⟩ := hsp
        exact False.elim q6
      | cont =>
        obtain ⟨σ6, H6, S6, q6⟩ := hsp
        exact False.elim q6
      | ret u =>
        obtain ⟨v6, σ6, H6, S6, r6, q6⟩ := hsp
        exact False.elim q6
    | false =>
      show wpAny _ X.A (handleBy (.ref a) X.env []) _ _ _
      refine wpAny_handleBy_nil ?_
      obtain ⟨k1, k2, k3, oe, vs, T, oT, ts', he, hz, hd, h1, hr⟩ := id fl3
      unfold PySem.passOn
      refine wpAny_bind (wpAny_field he hd h1 ?_)
      rw [if_neg (show ¬ ((Value.ref T == Value.none) = true) from by simp)]
      have fin : wpAny (model X.prog X.w) X.A (setFlight (.ref a) X.env.frame) (fun _ s4 => wpAny (model X.prog X.w) X.A (throw (.ref a) : Sem Flow) (SP X pins D) X.xe s4) X.xe { s' with heap := h3 } := by
        rw [hf]
        refine HandSPX.setFlight_upZ fl3 fun h4 hh4 up4 => wpAny_throw (tk _ _ ?_)
        exact ⟨a, B, sI, pins, σ', H', cls, d, rfl, J, nb, (up.trans up3).trans up4, .inr (.inr (by rw [hs]; exact hh4)), na, os, ag, hno rfl⟩
      first
        | exact wpAny_bind (wpAny_pure (wpAny_bind fin))
        | exact wpAny_bind fin
  obtain ⟨tb, b1, b2⟩ := (hb (wTry X.K c i j X.N.length W D) (X.pn ++ pins) (fun e s₁ => wpAny (model X.prog X.w) X.A (noteFrame e X.env) (fun _ s₂ => wpAny (model X.prog X.w) X.A (setFlight e none) (fun _ s₃ =>
    wpAny (model X.prog X.w) X.A (handleBy e X.env [.ExceptHandler (some (.Name x np)) (some n) [.Assign [.Name y q1] (.Name n q2) q3] pos']) (SP X pins D) X.xe s₃) X.xe s₂) X.xe s₁) catch_ PassesOwn.looking).ex
  · refine wpAny_mono (b1.run [] s σ H D (I.toTry _) (b2 c0 O G H σ ρ e0 D ?_)) (fun f s1 hsp => ?_) (fun e s1 he => he)
    · -- what the body comes to
      unfold sTry at hp
      cases q : fb ρ with
      | nx ρ1 => rw [q] at hp; exact hp
      | rt d ρ1 => rw [q] at hp; exact hp
      | ro d ρ1 => rw [q] at hp; exact hp
      | bk ρ1 => rw [q] at hp; exact hp
      | ct ρ1 => rw [q] at hp; exact hp
      | stuck => rw [q] at hp; exact hp
      | exc xx ρ1 =>
        rw [q] at hp
        intro cls dd O' G' H' σ' e1 le1 er
        have hp' : SPost X.K W c0 G D (match hit xx.C with
          | some true => .nx ((unk ρ).set j (.pv (.exc xx.C xx.fs)))
          | some false => .exc xx ρ1
          | none => .stuck) := hp
        split at hp'
        · rename_i hh
          obtain ⟨ec, d, fs, ed, gd, rf⟩ := er
          refine ⟨true, by rw [ec]; exact hit_ok _ _ hh, fun _ => ⟨xx.C, d, ec, ed, fun σ2 a hl na => ?_⟩, fun z => by cases z⟩
          have e2 : ERep X.K c0 O' (upd G' a (ExK xx.C d a)) (upd H' a (ExK xx.C d a)) σ2 (unk ρ) := (e1.unk (by rw [hl]; exact lenρ)).new na
          have lg : Le G' (upd G' a (ExK xx.C d a)) := Le.new (none_of_le e1.sub na)
          have e3 := (e2.setPv (i := j) (v := .ref a) (d := .exc xx.C xx.fs) (.exc upd_same (lg _ _ gd) (rf.up lg))).unset (i := i) (fun z hz => by
            rw [List.getElem?_set_ne (Ne.symm hij)] at hz
            exact unk_at hz)
          exact hp' _ _ _ _ e3 (le1.trans lg)
        · rename_i hh
          exact ⟨false, by rw [er.1]; exact hit_ok _ _ hh, fun z => (by cases z), fun _ => hp' cls dd O' G' H' σ' e1 le1 er⟩
        · exact hp'.elim
    · cases f with
      | next =>
        obtain ⟨σ', H', J', q⟩ := hsp
        exact wpAny_execs_nil ⟨σ', H', J'.ofTry ok, q⟩
      | brk =>
        obtain ⟨σ', H', J', q⟩ := hsp
        exact ⟨σ', H', J'.ofTry ok, q⟩
      | cont =>
        obtain ⟨σ', H', J', q⟩ := hsp
        exact ⟨σ', H', J'.ofTry ok, q⟩
      | ret u =>
        obtain ⟨v, σ', H', J', r, q⟩ := hsp
        exact ⟨v, σ', H', J'.ofTry ok, r, q⟩
end
end VL

end

section
set_option linter.all false
set_option maxRecDepth 100000
set_option maxHeartbeats 4000000
/-! VL 11: stores into several targets and into lists; fields and classes of caught exceptions; tables of the module. -/
namespace VL
open PySem PySem.Spec PyProof.Rows L2

/-! ### a, b, .. = e -/
def sUnp (t : TgF) (f : Sl → Res Val) : Sl → SR := fun ρ => (f ρ).sb fun v ρ1 => match v with
  | .d d => (match t.run d ρ1 with
    | some ρ2 => .nx ρ2
    | none => .stuck)
  | _ => .stuck
section
variable {X : Cx} {W : XK} {e tg : Expr} {es : List Expr} {pos : Pos} {fe : Sl → Res Val} {g : Sl → Res (List Val)} {t : TgF}
theorem svv_unp {K : PySem.W.Frag} {te : TE} (h : Vv K W (relE K) te fe) : SVv K W (tAsg te (t.g K)) (sUnp t fe) := fun c O G H σ ρ e0 D' hp => by
  refine h.thnS e0 hp fun v ρ1 x G1 H1 e1 x1 s1 r1 h1 => ?_
  cases v with
  | own i => exact h1.elim
  | d d =>
    have h2 : SPost K W c G1 D' (match t.run d ρ1 with
      | some ρ2 => .nx ρ2
      | none => .stuck) := h1
    split at h2
    · rename_i ρ2 q
      exact gv_tg t c O G1 H1 σ ρ1 e1 x d ρ2 r1 q _ fun σ' e2 hl hs => h2 O G1 H1 σ' e2 (Le.refl _)
    · exact h2.elim
theorem vs_unp (h : VE X W e fe) (hg : VTg X tg t) (hs : swapsWithSole [tg] e pos.line X.env = pure false) (hw : swappedStores [tg] e X.env = pure none) (h1 : (assignEach [tg] X.env).map (·.2) = [assign tg X.env]) :
    VS X W (.Assign [tg] e pos) (sUnp t fe) := by
  obtain ⟨te, a1, a2⟩ := h.ex
  exact ⟨_, ps_asg a1 hg.pg hs hw h1, svv_unp a2⟩
theorem svv_par2 {K : PySem.W.Frag} {ta : TA} {i j : Nat} (h : Vv K W (relA K) ta g) : SVv K W (tPar i j ta) (sUnp (.tp [i, j]) (mTup g)) := fun c O G H σ ρ e0 D' hp => by
  have hp2 : SPost K W c G D' ((g ρ).sb fun vs ρ1 => ((match datas vs with
      | some ds => if ds.length ≤ SZ then .ok (.d (.tup ds)) ρ1 else .stuck
      | none => .stuck : Res Val)).sb fun v ρ1 => match v with
      | .d d => (match (TgF.tp [i, j]).run d ρ1 with
        | some ρ2 => .nx ρ2
        | none => .stuck)
      | _ => .stuck) := by
    unfold sUnp mTup at hp
    cases q : g ρ with
    | ok vs ρ1 => rw [q] at hp; exact hp
    | exc x ρ1 => rw [q] at hp; exact hp
    | stuck => rw [q] at hp; exact hp
  refine h.thnS e0 hp2 fun vs ρ1 xs G1 H1 e1 x1 s1 r1 h1 => ?_
  cases qd : datas vs with
  | none => rw [qd] at h1; exact h1.elim
  | some ds =>
    rw [qd] at h1
    have ra := datas_rep r1 qd
    by_cases hz : ds.length ≤ SZ
    · have h2 : SPost K W c G1 D' (match (TgF.tp [i, j]).run (.tup ds) ρ1 with
        | some ρ2 => .nx ρ2
        | none => .stuck) := by
        have h1' := h1
        simp only [hz, if_true] at h1'
        exact h1'
      split at h2
      · rename_i ρ2 q
        simp only [TgF.run] at q
        split at q
        · rename_i hl
          match ds, xs, ra, hl, q with
          | [d1, d2], [x1, x2], .cons q1 (.cons q2 .nil), _, q =>
            simp only [setAll] at q
            cases q
            exact ⟨x1, x2, rfl, h2 O G1 H1 _ ((e1.setPv q1).setPv q2) (Le.refl _)⟩
        · cases q
      · exact h2.elim
    · exact absurd h1 (by simp only [hz, if_false]; exact fun z => z)
theorem vs_par2 {i j : Nat} {x y : Str} {a b : Expr} {px py pt : Pos} {kt k2 pt2} (hc : X.calm = true) (hN : X.N.Nodup) (hi : X.N[i]? = some x) (hj : X.N[j]? = some y) (hij : i ≠ j)
    (hx : X.env.scope.names.lookup x = some .local) (hy : X.env.scope.names.lookup y = some .local) (ha : VA X W [a, b] g)
    (hw : swappedStores [.Tuple [.Name x px, .Name y py] kt pt] (.Tuple [a, b] k2 pt2) X.env = pure (some [x, y]))
    (hs : swapsWithSole [.Tuple [.Name x px, .Name y py] kt pt] (.Tuple [a, b] k2 pt2) pos.line X.env = pure false) :
    VS X W (.Assign [.Tuple [.Name x px, .Name y py] kt pt] (.Tuple [a, b] k2 pt2) pos) (sUnp (.tp [i, j]) (mTup g)) := by
  obtain ⟨ta, a1, a2⟩ := ha.ex
  exact ⟨_, ps_par hc hN hi hj hij hx hy a1 hw hs, svv_par2 a2⟩
theorem svv_par3 {K : PySem.W.Frag} {ta : TA} {i j l : Nat} (h : Vv K W (relA K) ta g) : SVv K W (tPar3 i j l ta) (sUnp (.tp [i, j, l]) (mTup g)) := fun c O G H σ ρ e0 D' hp => by
  have hp2 : SPost K W c G D' ((g ρ).sb fun vs ρ1 => ((match datas vs with
      | some ds => if ds.length ≤ SZ then .ok (.d (.tup ds)) ρ1 else .stuck
      | none => .stuck : Res Val)).sb fun v ρ1 => match v with
      | .d d => (match (TgF.tp [i, j, l]).run d ρ1 with
        | some ρ2 => .nx ρ2
        | none => .stuck)
      | _ => .stuck) := by
    unfold sUnp mTup at hp
    cases q : g ρ with
    | ok vs ρ1 => rw [q] at hp; exact hp
    | exc x ρ1 => rw [q] at hp; exact hp
    | stuck => rw [q] at hp; exact hp
  refine h.thnS e0 hp2 fun vs ρ1 xs G1 H1 e1 x1 s1 r1 h1 => ?_
  cases qd : datas vs with
  | none => rw [qd] at h1; exact h1.elim
  | some ds =>
    rw [qd] at h1
    have ra := datas_rep r1 qd
    by_cases hz : ds.length ≤ SZ
    · have h2 : SPost K W c G1 D' (match (TgF.tp [i, j, l]).run (.tup ds) ρ1 with
        | some ρ2 => .nx ρ2
        | none => .stuck) := by
        have h1' := h1
        simp only [hz, if_true] at h1'
        exact h1'
      split at h2
      · rename_i ρ2 q
        simp only [TgF.run] at q
        split at q
        · rename_i hl
          match ds, xs, ra, hl, q with
          | [d1, d2, d3], [x1, x2, x3], .cons q1 (.cons q2 (.cons q3 .nil)), _, q =>
            simp only [setAll] at q
            cases q
            exact ⟨x1, x2, x3, rfl, h2 O G1 H1 _ (((e1.setPv q1).setPv q2).setPv q3) (Le.refl _)⟩
        · cases q
      · exact h2.elim
    · exact absurd h1 (by simp only [hz, if_false]; exact fun z => z)
theorem vs_par3 {i j l : Nat} {x y z : Str} {a b c : Expr} {px py pz pt : Pos} {kt k2 pt2} (hc : X.calm = true) (hN : X.N.Nodup) (hi : X.N[i]? = some x) (hj : X.N[j]? = some y) (hl : X.N[l]? = some z) (hij : i ≠ j) (hil : i ≠ l) (hjl : j ≠ l)
    (hx : X.env.scope.names.lookup x = some .local) (hy : X.env.scope.names.lookup y = some .local) (hz : X.env.scope.names.lookup z = some .local) (ha : VA X W [a, b, c] g)
    (hw : swappedStores [.Tuple [.Name x px, .Name y py, .Name z pz] kt pt] (.Tuple [a, b, c] k2 pt2) X.env = pure (some [x, y, z]))
    (hs : swapsWithSole [.Tuple [.Name x px, .Name y py, .Name z pz] kt pt] (.Tuple [a, b, c] k2 pt2) pos.line X.env = pure false) :
    VS X W (.Assign [.Tuple [.Name x px, .Name y py, .Name z pz] kt pt] (.Tuple [a, b, c] k2 pt2) pos) (sUnp (.tp [i, j, l]) (mTup g)) := by
  obtain ⟨ta, a1, a2⟩ := ha.ex
  exact ⟨_, ps_par3 hc hN hi hj hl hij hil hjl hx hy hz a1 hw hs, svv_par3 a2⟩
end

/-! ### stores into our lists -/
def setI (ds : List D) (k : Int) (d : D) : Option (List D) := (ixN ds.length k).map fun j => ds.set j d
/-- xs[fk] = d, xs in slot i -/
def ixRun1 (i : Nat) (fk : Sl → Res Val) (d : D) (ρ : Sl) : Option Sl := match fk ρ with
  | .ok (.d (.int k)) ρ1 => (match ρ1[i]? with
    | some (.ol b ds) => (setI ds k d).map fun ds' => ρ1.set i (.ol b ds')
    | _ => none)
  | _ => none
def ixRun (i : Nat) (fk : Sl → Res Val) (d : D) (ρ : Sl) : Option Sl := match ρ[i]? with
  | some (.ol _ _) => ixRun1 i fk d ρ
  | _ => none
/-- a target whose store ends well -/
def AVv (K : PySem.W.Frag) (g : TG) (f : D → Sl → Option Sl) : Prop :=
  ∀ (c : Ent) (O : Addr → Prop) (G H : Hp) (σ : L2.St) (ρ : Sl), ERep K c O G H σ ρ → ∀ (x : V) (d : D) (ρ' : Sl), Rep K G x d → f d ρ = some ρ' → ∀ Q : L2.St → Hp → Prop,
    (∀ G' H' σ', ERep K c O G' H' σ' ρ' → Le G G' → Q σ' H') → g x σ H Q
def AsVv (K : PySem.W.Frag) (g : TGs) (f : List D → Sl → Option Sl) : Prop :=
  ∀ (c : Ent) (O : Addr → Prop) (G H : Hp) (σ : L2.St) (ρ : Sl), ERep K c O G H σ ρ → ∀ (xs : List V) (ds : List D) (ρ' : Sl), RepA K G xs ds → f ds ρ = some ρ' → ∀ Q : L2.St → Hp → Prop,
    (∀ G' H' σ', ERep K c O G' H' σ' ρ' → Le G G' → Q σ' H') → g xs σ H Q
structure VGt (X : Cx) (tg : Expr) (f : D → Sl → Option Sl) : Prop where
  ex : ∃ g, PG X tg g ∧ AVv X.K g f
structure VGs (X : Cx) (tgs : List Expr) (f : List D → Sl → Option Sl) : Prop where
  ex : ∃ g, PGs X tgs g ∧ AsVv X.K g f
def aNm (i : Nat) : D → Sl → Option Sl := fun d ρ => some (ρ.set i (.pv d))
def aNil : List D → Sl → Option Sl
  | [], ρ => some ρ
  | _, _ => none
def aCons (f : D → Sl → Option Sl) (g : List D → Sl → Option Sl) : List D → Sl → Option Sl
  | d :: ds, ρ => (f d ρ).bind (g ds)
  | [], _ => none
def aTup (n : Nat) (g : List D → Sl → Option Sl) : D → Sl → Option Sl
  | .tup ds, ρ => if ds.length = n then g ds ρ else none
  | .lst ds, ρ => if ds.length = n then g ds ρ else none
  | _, _ => none
section
variable {X : Cx} {W : XK} {e tg o k : Expr} {es : List Expr} {pos p : Pos} {fe fk : Sl → Res Val} {f : D → Sl → Option Sl} {g : List D → Sl → Option Sl} {i : Nat} {x : Str}
theorem vgt_name (hN : X.N.Nodup) (hi : X.N[i]? = some x) (hx : Loc X.env.scope x) (hf : X.fn x = true ∨ X.env.scope.names.lookup x = some .local) : VGt X (.Name x pos) (aNm i) :=
  ⟨_, pg_name hN hi hx hf, fun c O G H σ ρ e x d ρ' r h Q q => by
    cases h
    exact q G H _ (e.setPv r) (Le.refl _)⟩
theorem vgs_nil : VGs X [] aNil := ⟨_, pgs_nil, fun c O G H σ ρ e xs ds ρ' r h Q q => by
  cases r with
  | nil => cases h; exact ⟨rfl, q G H σ e (Le.refl _)⟩
  | cons _ _ => cases h⟩
theorem vgs_cons (h1 : VGt X e f) (h2 : VGs X es g) (hs : (assignEach (e :: es) X.env).map (·.2) = assign e X.env :: (assignEach es X.env).map (·.2)) : VGs X (e :: es) (aCons f g) := by
  obtain ⟨t, a1, a2⟩ := h1.ex
  obtain ⟨u, b1, b2⟩ := h2.ex
  refine ⟨_, pgs_cons a1 b1 hs, fun c O G H σ ρ e0 xs ds ρ' r h Q q => ?_⟩
  cases r with
  | nil => cases h
  | @cons v vs d ds rv rr =>
    simp only [aCons] at h
    obtain ⟨ρ1, h1, h2⟩ := Option.bind_eq_some_iff.mp h
    refine ⟨v, vs, rfl, a2 c O G H σ ρ e0 v d ρ1 rv h1 _ fun G1 H1 σ1 e1 l1 => ?_⟩
    exact b2 c O G1 H1 σ1 ρ1 e1 vs ds ρ' (rr.up l1) h2 _ fun G2 H2 σ2 e2 l2 => q G2 H2 σ2 e2 (l1.trans l2)
theorem vgt_tup {n : Nat} {kt : Nat} (hc : X.calm = true) (h : VGs X es g) (hn : (assignEach es X.env).length = n) (hst : (assignEach es X.env).findIdx? (·.1) = none) : VGt X (.Tuple es kt pos) (aTup n g) := by
  obtain ⟨u, b1, b2⟩ := h.ex
  refine ⟨fun v σ H Q => gTup X.K n u v σ H Q ∨ gLst X.K n u v σ H Q, ⟨fun pins s σ H v u Q I r q => ?_⟩, fun c O G H σ ρ e0 x d ρ' r h Q q => ?_⟩
  · rcases q with q | q
    · exact (pg_tup hc b1 hn hst).run pins s σ H v u Q I r q
    · exact (pg_lst hc b1 hn hst).run pins s σ H v u Q I r q
  · cases d <;> simp only [aTup] at h <;> first | (cases h; done) | skip
    · split at h
      · rename_i hl
        cases r with
        | @lst a xs _ k1 k2 => exact .inr ⟨a, xs, rfl, SqL.of (e0.sub _ _ k1), by rw [k2.length]; exact hl, b2 c O G H σ ρ e0 xs _ ρ' k2 h Q q⟩
      · cases h
    · split at h
      · rename_i hl
        cases r with
        | @tup a xs _ k1 k2 => exact .inl ⟨a, xs, rfl, le_t e0.sub k1, by rw [k2.length]; exact hl, b2 c O G H σ ρ e0 xs _ ρ' k2 h Q q⟩
      · cases h
theorem vgt_ix (hi : X.N[i]? = some x) (hv : Vis X.env.scope x) (hd : (x == ("__debug__" : Str)) = false) (hcd : (x == ("__classdict__" : Str)) = false) (hk : VE X W0 k fk)
    (ha : ∀ v, assign (.Subscript (.Name x p) k pos) X.env v = (do
      let ov ← holding [v] (eval (.Name x p) X.env)
      let iv ← holding [v, ov] (eval k X.env)
      standAt pos
      holding [v, ov, iv] (setItem ov iv v)
      release [v, ov, iv] [])) : VGt X (.Subscript (.Name x p) k pos) (ixRun i fk) := by
  obtain ⟨tk, b1, b2⟩ := hk.ex
  refine ⟨_, pg_sub (pe_var hi hv hd hcd) b1 set_list ha, fun c O G H σ ρ e0 xv d ρ' r h Q q => ?_⟩
  unfold ixRun at h
  split at h
  · rename_i b0 ds0 q0
    obtain ⟨a, xs0, ka, _⟩ := e0.ol i b0 ds0 q0
    unfold ixRun1 at h
    cases qk : fk ρ with
    | exc x ρ1 => rw [qk] at h; cases h
    | stuck => rw [qk] at h; cases h
    | ok kv ρ1 =>
      rw [qk] at h
      cases kv with
      | own j => cases h
      | d kd =>
        cases kd <;> first | (cases h; done) | skip
        rename_i kk
        have h' : (match ρ1[i]? with
          | some (.ol b ds) => (setI ds kk d).map fun ds' => ρ1.set i (.ol b ds')
          | _ => none) = some ρ' := h
        split at h'
        · rename_i b ds q1
          obtain ⟨ds', q2, q3⟩ := Option.map_eq_some_iff.mp h'
          unfold setI at q2
          obtain ⟨j, q4, q5⟩ := Option.map_eq_some_iff.mp q2
          refine ⟨.ref a, ka, ?_⟩
          refine b2 c O G H σ ρ e0 _ ?_
          rw [qk]
          intro y G1 H1 e1 x1 s1 ry
          obtain ⟨a', xs, k1, k2, k3, k4, k5⟩ := e1.ol i b ds q1
          rw [ka] at k1
          cases k1
          have ry' : Rep X.K G1 y (.int kk) := ry
          cases ry'
          refine ⟨a, xs, kk, j, rfl, rfl, k4, by rw [k5.length]; exact q4, ?_⟩
          obtain ⟨e2, x2, s2⟩ := e1.setOl (xs' := xs.set j xv) (ds' := ds.set j d) q1 ka k4 (k5.set (r.up x1.g) j)
          subst q5
          subst q3
          exact q _ _ σ e2 (x1.g.trans x2.g)
        · cases h'
  · cases h
/-- target = e, one store at least into a list of ours -/
def sAt (f : D → Sl → Option Sl) (fe : Sl → Res Val) : Sl → SR := fun ρ => (fe ρ).sb fun v ρ1 => match v with
  | .d d => (match f d ρ1 with
    | some ρ2 => .nx ρ2
    | none => .stuck)
  | _ => .stuck
theorem vs_at (h : VE X W e fe) (hg : VGt X tg f) (hs : swapsWithSole [tg] e pos.line X.env = pure false) (hw : swappedStores [tg] e X.env = pure none) (h1 : (assignEach [tg] X.env).map (·.2) = [assign tg X.env]) :
    VS X W (.Assign [tg] e pos) (sAt f fe) := by
  obtain ⟨te, a1, a2⟩ := h.ex
  obtain ⟨t, b1, b2⟩ := hg.ex
  refine ⟨_, ps_asg a1 b1 hs hw h1, fun c O G H σ ρ e0 D' hp => ?_⟩
  refine a2.thnS e0 hp fun v ρ1 x G1 H1 e1 x1 s1 r1 h1 => ?_
  cases v with
  | own i => exact h1.elim
  | d d =>
    have h2 : SPost X.K W c G1 D' (match f d ρ1 with
      | some ρ2 => .nx ρ2
      | none => .stuck) := h1
    split at h2
    · rename_i ρ2 q
      exact b2 c O G1 H1 σ ρ1 e1 x d ρ2 r1 q _ fun G' H' σ' e2 l2 => h2 O G' H' σ' e2 l2
    · exact h2.elim
end

/-! ### what is asked of a caught exception -/
def mXf (C : Addr) (n : Str) (f : Sl → Res Val) : Sl → Res Val := fun ρ => (f ρ).bind fun v ρ1 => match v with
  | .d (.exc C' gs) => if C' = C then (match gs.lookup n with
    | some d => .ok (.d d) ρ1
    | none => .stuck) else .stuck
  | _ => .stuck
def tXg (C : Addr) (n : Str) (te : TE) : TE := fun σ H Q => te σ H fun x H1 => ∃ a dd fs v, x = .ref a ∧ H1 a = some (ExK C dd a) ∧ H1 dd = some (.xd fs) ∧ fs.lookup n = some v ∧ Q v H1
section
variable {X : Cx} {W : XK} {e : Expr} {pos p q : Pos} {fe : Sl → Res Val} {n x : Str} {C : Addr}
theorem exK_inst {pins : List (Addr × Obj)} {σ : L2.St} {H : Hp} {s : Shared} {a dd : Addr} {fs : List (Str × V)} (I : Inv X pins σ H s) (ea : H a = some (ExK C dd a)) (ed : H dd = some (.xd fs)) :
    ∃ (oe od : Obj) (mA : Str → Option Value), PySem.W.InstAt s.heap a oe C (some od) ∧ (∀ name, PySem.W.lookIn name od = some (mA name)) ∧ ∀ f, RelO (fs.lookup f) (mA f) := by
  obtain ⟨oe, vs, h1, hz, hd⟩ := exK_at I.hok ea
  have hx : ObjOk X.prog X.w H s.heap dd (.xd fs) := I.hok dd _ ed
  obtain ⟨mA, hns, hr⟩ := hx
  obtain ⟨od, ho, hl⟩ := lookIn_ns hns
  exact ⟨oe, od, mA, ⟨h1, hz.1, by unfold PySem.W.notCls; rw [hd] <;> rfl, by rw [hz.2]; exact ho⟩, hl, hr⟩
theorem pe_xg {te : TE} (T : XfC X.K C) (hno : PySem.W.findIn X.K (.ref C) n = some none) (he : PE X e te) (hb : attributeBase e n X.env (eval e X.env) = eval e X.env) : PE X (.Attribute e n pos) (tXg C n te) := by
  refine ⟨fun pins s σ H Q I h => ?_⟩
  refine attr_of hb (thn (he.run pins s σ H _ I h) fun u s1 hh => ?_)
  obtain ⟨x, H1, I1, rx, a, dd, fs, v, ex, ea, ed, l, q⟩ := hh
  subst ex
  obtain rfl : u = Value.ref a := rx
  obtain ⟨oe, od, mA, J, hl, hr⟩ := exK_inst I1 ea ed
  obtain ⟨u, hu, ru⟩ := RelO.some_of (v := v) (o := mA n) (by rw [← l]; exact hr n)
  exact HandSPX.exc_get I1.kIn J T.ga T.gg T.exC (PySem.W.findObj_own T.hdC hno rfl (by rw [hl, hu])) (handed_of ru) ⟨v, H1, I1.tok _, ru, q⟩
theorem ve_xf (T : XfC X.K C) (hno : PySem.W.findIn X.K (.ref C) n = some none) (he : VE X W e fe) (hb : attributeBase e n X.env (eval e X.env) = eval e X.env) : VE X W (.Attribute e n pos) (mXf C n fe) := by
  obtain ⟨te, a1, a2⟩ := he.ex
  refine ⟨_, pe_xg T hno a1 hb, fun c O G H σ ρ e0 Q h => ?_⟩
  refine a2.thn e0 h fun v ρ1 x G1 H1 e1 x1 s1 r1 h1 => ?_
  cases v with
  | own i => exact h1.elim
  | d d =>
    cases d <;> first | exact h1.elim | skip
    rename_i C' gs
    have h2 : Post X.K W c O G1 H1 σ ρ1 (relE X.K σ) Q (if C' = C then (match gs.lookup n with
      | some d => .ok (.d d) ρ1
      | none => .stuck) else .stuck) := h1
    split at h2
    · rename_i hC
      subst hC
      split at h2
      · rename_i d qd
        have r2 : Rep X.K G1 x (.exc C' gs) := r1
        cases r2 with
        | @exc a _ dd fs _ k1 k2 k3 =>
          obtain ⟨v, l1, l2⟩ := k3.look qd
          exact ⟨a, dd, fs, v, rfl, e1.sub _ _ k1, e1.sub _ _ k2, l1, Post.val (v := .d d) e1 l2 h2⟩
      · exact h2.elim
    · exact h2.elim

/-! ### isinstance(e, T) -/
inductive Tag where
  | non | bl | int | str | lst | tup
  | cls (C : Addr)
def Tag.val : Tag → Value
  | .non => .type "NoneType"
  | .bl => .type "bool"
  | .int => .type "int"
  | .str => .type "str"
  | .lst => .type "list"
  | .tup => .type "tuple"
  | .cls C => .ref C
def D.tag : D → Option Tag
  | .non => some .non
  | .bl _ => some .bl
  | .int _ => some .int
  | .str _ => some .str
  | .lst _ => some .lst
  | .tup _ => some .tup
  | .ins _ _ => none
  | .exc C _ => some (.cls C)
  | .scr _ => none
/-- a value's type, caught exceptions too -/
def TyY (K : PySem.W.Frag) (H : Hp) (x : V) (t : Value) : Prop := TyX K H x t ∨ ∃ a C dd fs, x = .ref a ∧ t = .ref C ∧ H a = some (ExK C dd a) ∧ H dd = some (.xd fs) ∧ L2.ExcC K C
def rIsY (K : PySem.W.Frag) : List V → Hp → VK → Prop := fun xs H Q => ∃ (x c : V) (t u : Value) (b : Bool), xs = [x, c] ∧ ClsV c u ∧ TyY K H x t ∧ PySem.W.kitOne K t u = some b ∧ Q (.bl b) H
theorem call_isY : CallR X (.builtin "isinstance") (rIsY X.K) := by
  intro pins s σ H xs us Q I r h
  obtain ⟨x, c, t, u, b, rfl, k, ty, e, q⟩ := h
  obtain ⟨u1, u2, rfl, r1, r2⟩ := vals2 r
  have e2 := k.eq r2
  subst e2
  rcases ty with ty | ⟨a, C, dd, fs, rfl, rfl, ea, ed, T⟩
  · obtain ⟨P, Z, p, hx⟩ := kit_of I r1 ty
    exact PySem.W.kia_one Z I.kIn p e hx fun tk => ⟨.bl b, H, I.tok tk, rfl, q⟩
  · cases r1
    obtain ⟨oe, od, mA, J, _, _⟩ := exK_inst I ea ed
    have hcl : (PySem.W.clsIn X.K C).isSome = true := by
      obtain ⟨cd, hc, _⟩ := PySem.W.any_some T.hd
      rw [hc]
      rfl
    exact PySem.W.kia_one (PySem.W.kitx_exc hcl T.hg T.hk T.hs T.ha T.hn T.ht T.hm) I.kIn J e (fun z => nomatch z) fun tk => ⟨.bl b, H, I.tok tk, rfl, q⟩
def mIsi (ans : Tag → Option Bool) (f : Sl → Res Val) : Sl → Res Val := fun ρ => (f ρ).bind fun v ρ1 => match rd ρ1 v with
  | some d => (match d.tag.bind ans with
    | some b => .ok (.d (.bl b)) ρ1
    | none => .stuck)
  | none => .stuck
theorem ve_isi {cx : V} {cu : Value} {te : TE} {ans : Tag → Option Bool} {x' : Str} {pos' : Pos} {c : Expr} (hg : Gl X "isinstance") (hm : X.mg "isinstance" = none) (hv : bootBuiltins "isinstance" = some (.builtin "isinstance")) (hc : PE X c (tC cx)) (hk : ClsV cx cu)
    (hans : ∀ t b, ans t = some b → PySem.W.kitOne X.K t.val cu = some b) (hxc : ∀ C b, ans (.cls C) = some b → L2.ExcC X.K C)
    (he : VE X W e fe) (hs1 : starEach [e, c] X.env = (false, eval e X.env) :: starEach [c] X.env) (hs2 : starEach [c] X.env = [(false, eval c X.env)]) (hpl : (backTo pos (starEach [c] X.env)).any (·.1) = false) :
    VE X W (.Call (.Name "isinstance" p) [e, c] [] pos) (mIsi ans fe) := by
  obtain ⟨te, a1, a2⟩ := he.ex
  refine ⟨_, pe_callB call_isY hg hm hv (pa_cons a1 (pa_cons hc pa_nil hs2) hs1) (by decide) (by decide) hs1 hpl, fun c0 O G H σ ρ e0 Q h => ?_⟩
  refine a2.thn e0 h fun v ρ1 x G1 H1 e1 x1 s1 r1 h1 => ?_
  split at h1
  · rename_i d qd
    split at h1
    · rename_i b qb
      obtain ⟨t, k1, k2⟩ := Option.bind_eq_some_iff.mp qb
      have rt := e1.topV r1 qd
      refine ⟨x, cx, t.val, cu, b, rfl, hk, ?_, hans t b k2, ?_⟩
      · cases rt with
        | non => cases k1; exact .inl (.base .non)
        | bl b => cases k1; exact .inl (.base (.bl b))
        | int i => cases k1; exact .inl (.base (.int i))
        | str z => cases k1; exact .inl (.base (.str z))
        | lst g1 g2 => cases k1; exact .inl (.base (.lst g1))
        | tup g1 g2 =>
          cases k1
          rcases g1 with (g1 | ⟨o, g1⟩) | ⟨o, its, n, g1, g3, _⟩
          · exact .inl (.base (.tup (e1.sub _ _ g1)))
          · exact .inl (.fTuple (e1.sub _ _ g1))
          · exact .inl (.kTuple g1 g3)
        | ins _ _ => cases k1
        | scr _ => cases k1
        | @exc a C dd fs gs g1 g0 g2 =>
          cases k1
          exact .inr ⟨a, C, dd, fs, rfl, rfl, e1.sub _ _ g1, e1.sub _ _ g0, hxc C b k2⟩
      · exact Post.val (v := .d (.bl b)) e1 (show Rep X.K G1 (.bl b) (.bl b) from .bl b) h1
    · exact h1.elim
  · exact h1.elim
end
end VL

end

section
set_option linter.all false
set_option maxRecDepth 100000
set_option maxHeartbeats 4000000
/-! VL 12: enumerate of a tuple; tables of the module. -/
namespace VLE
open PySem
open PySem.AutoSeq1 (wpAny_loadPart')
theorem meets_enumerate_newT (l : Addr) (items : Array Value) (n : Nat) (dct : Option Addr) (sl : Array (Option Value)) :
    Meets (Builtin.«enumerate.__new__» ⟨[.type "enumerate", .ref l], []⟩) (fun _ R s => s.heap.get? l = some { cls := .type "tuple", dict := dct, data := .seq items n, slots := sl } ∧
      R (.ok (.ret (.ref (s.heap.push { cls := .type "tuple_iterator", data := .fields #[.ref l, .int 0 0] }).objs.size)))
        { s with heap := (s.heap.push { cls := .type "tuple_iterator", data := .fields #[.ref l, .int 0 0] }).push { cls := .type "enumerate", data := .fields #[.none, .bool false, .ref s.heap.objs.size, rawInt 0, .none, .none] } }) :=
  .of_wp fun prog w A R s h => by
    obtain ⟨hp, g, d, tk, os⟩ := s; obtain ⟨hl, h⟩ := h
    have hsub := sub_enumerate
    have hL : Heap.IsTuple (Shared.heap ⟨hp, g, d, tk, os⟩) l items := ⟨_, hl, rfl, n, rfl⟩
    wp_walk using wpAny_loadPart' hl
    refine wpAny_stack_any fun st => wpAny_pure ?_
    split
    · rename_i c _ _ _ _ _
      cases (c == Value.type "enumerate")
      · wp_walk using wpAny_loadPart' hl, wpAny_pyIter_tuple hL
        exact ⟨_, rfl, h⟩
      · wp_walk using wpAny_loadPart' hl, wpAny_pyIter_tuple hL
        exact ⟨_, rfl, h⟩
    · wp_walk using wpAny_loadPart' hl, wpAny_pyIter_tuple hL
      exact ⟨_, rfl, h⟩
section
variable {prog : Program} {w : World} {A : Around} {E : Value → Shared → Prop} {s : Shared}
theorem call_enumerate_tuple {l : Addr} {items : Array Value} {Q : Value → Shared → Prop} (hL : s.heap.IsTuple l items)
    (h : ∀ h', IsEnum h' (s.heap.objs.size + 1) s.heap.objs.size 0 .none → h'.IsTupleIter s.heap.objs.size l 0 → h'.objs.size = s.heap.objs.size + 2 →
      (∀ b o, s.heap.get? b = some o → h'.get? b = some o) → Q (.ref (s.heap.objs.size + 1)) { s with heap := h' }) :
    wpAny (model prog w) A (call (.type "enumerate") [.ref l]) Q E s := by
  obtain ⟨⟨c, dct, dt, sl⟩, hl, hc, n, hd⟩ := hL
  replace hc : c = .type "tuple" := hc
  replace hd : dt = .seq items n := hd
  subst hc hd
  refine callType_new F.called_enumerate (by decide) (F.typeCall_enumerate_1 _) (F.newCall_enumerate_1 _) (fun obj => F.args_object_init_2 obj _) F.entry_enumerate_new
    (meets_enumerate_newT l items n dct sl) ⟨hl, ?_⟩
  have hz : (s.heap.push { cls := .type "tuple_iterator", data := .fields #[.ref l, .int 0 0] }).objs.size = s.heap.objs.size + 1 := Heap.size_push ..
  show _ ∧ _
  rw [hz]
  have he : IsEnum ((s.heap.push { cls := .type "tuple_iterator", data := .fields #[.ref l, .int 0 0] }).push
      { cls := .type "enumerate", data := .fields #[.none, .bool false, .ref s.heap.objs.size, rawInt 0, .none, .none] }) (s.heap.objs.size + 1) s.heap.objs.size 0 .none := by
    have := Heap.get?_push_size (s.heap.push { cls := .type "tuple_iterator", data := .fields #[.ref l, .int 0 0] })
      (o := { cls := .type "enumerate", data := .fields #[.none, .bool false, .ref s.heap.objs.size, rawInt 0, .none, .none] }) rfl
    rw [hz] at this; exact this
  refine ⟨⟨_, he, rfl⟩, h _ he ⟨_, Heap.get?_push_of_some _ (Heap.get?_push_size _ rfl), rfl, rfl⟩ (by rw [Heap.size_push, hz]) fun b o x => Heap.get?_push_of_some _ (Heap.get?_push_of_some _ x)⟩
end
end VLE
namespace VL
open PySem PySem.Spec PyProof.Rows L2

/-! ### enumerate(tuple) -/
def IteT (K : PySem.W.Frag) (a : Addr) : It :=
  ⟨fun i H => ∃ (xs : List V) (x : V), SqT K H a xs ∧ xs[i]? = some x, fun i H v H' => ∃ T x, v = .ref T ∧ H T = none ∧ H' = upd H T (.tup [.int (i : Nat), x]) ∧ ∀ xs, SqT K H a xs → xs[i]? = some x, fun i H => ∃ xs : List V, SqT K H a xs ∧ xs.length ≤ i⟩
theorem turn_enumT {P : Program} {w : World} {K : PySem.W.Frag} {elts : List Expr} {kk : Nat} {tpos : Pos} (a e it : Addr) :
    Turn P w K (.Tuple elts kk tpos) (IteT K a) [e, it] e (fun i h => (∃ old, IsEnum h e it ((i : Nat) : Int) old) ∧ h.IsTupleIter it a i ∧ e ≠ it) where
  mem := by simp
  obj := fun i h st b hb => by
    obtain ⟨⟨old, he⟩, ⟨o, ho, hc, hd⟩, _⟩ := st
    have e' : b = e ∨ b = it := by simpa using hb
    rcases e' with z | z
    · rw [z]; exact ⟨_, he, fun v q => nomatch q⟩
    · rw [z]; exact ⟨o, ho, fun v q => by rw [hd] at q; cases q⟩
  keep := fun i h h' st k => let ⟨⟨old, he⟩, hi, hne⟩ := st; ⟨⟨old, k e (by simp) _ he⟩, hi.at fun o q => k it (by simp) o q, hne⟩
  item := by
    intro X hP hw hK hc i pins s σ H E I hf st hg
    subst hP hw hK
    obtain ⟨⟨old, he⟩, hit, hne⟩ := st
    obtain ⟨xs, x, hq, hx⟩ := hg
    obtain ⟨its, rv, p, hz⟩ := I.tuple hq
    have p' : s.heap.IsTuple a its.toArray := p
    obtain ⟨u, hu, ru⟩ := rv.get hx
    have hel : e < s.heap.objs.size := Heap.lt_size he
    have hil : it < s.heap.objs.size := by obtain ⟨_, q, _⟩ := hit; exact Heap.lt_size q
    have nit : a ≠ it := fun z => by
      obtain ⟨o1, a1, a2, _⟩ := p'
      obtain ⟨o2, b1, b2, _⟩ := hit
      rw [z, b1] at a1
      cases a1
      rw [b2] at a2
      exact absurd a2 (by decide)
    have nie : e ≠ a := fun z => by
      obtain ⟨o1, a1, a2, _⟩ := p'
      rw [← z, he] at a1
      cases a1
      have a3 : Value.type "enumerate" = Value.type "tuple" := a2
      exact absurd a3 (by decide)
    have hlen : i < its.toArray.size := by
      rw [List.size_toArray, ← rv.length]
      exact (List.getElem?_eq_some_iff.mp hx).1
    refine wpAny_pyNext_enum_itemD (Draws.tuple (A := X.A.in1) (I.ok.hd hc) it a nit its.toArray) he ⟨hit, p'⟩ hlen hne (by simp [hne, nie]) fun u' h' tk hu' ho hst hT hsz hk => ?_
    obtain ⟨hit', _⟩ := hst
    have eu : u' = u := by
      have z : its.toArray[i]? = some u := by simpa using hu
      rw [z] at hu'
      exact (Option.some.inj hu').symm
    subst eu
    refine ⟨_, rfl, wpAny_letOwnedTupleGo_enum (s := { s with heap := h', toks := tk + 1 }) ho fun h'' he' sb => ?_⟩
    have hT2 : h''.get? s.heap.objs.size = some { cls := .type "tuple", data := .seq #[.int i tk, u'] } := (sb.2 _ (Nat.ne_of_gt hel)).trans hT
    have new : ObjOk X.prog X.w (upd H s.heap.objs.size (.tup [.int (i : Nat), x])) h'' s.heap.objs.size (.tup [.int (i : Nat), x]) :=
      ⟨by show 2 ≤ sizeLine; decide, [.int i tk, u'], .cons ⟨_, rfl⟩ (.cons ru .nil), ⟨_, hT2, rfl, _, rfl⟩⟩
    have I1 : Inv X pins σ (upd H s.heap.objs.size (.tup [.int (i : Nat), x])) { s with heap := h'', toks := tk + 1 } :=
      I.turnedNew (ch := [e, it]) (fun b ob hb q => (sb.2 b (fun z => hb (by simp [z]))).trans (hk b ob (fun z => hb (by simp [z])) (fun z => hb (by simp [z])) q)) hf (Nat.le_refl _) new
    refine ⟨.ref s.heap.objs.size, _, I1, rfl, ⟨_, x, rfl, I.hok.fresh (Nat.le_refl _), rfl, fun ys hy => by rw [I.tuple_inj hy hq]; exact hx⟩, ⟨⟨u', ?_⟩, hit'.at fun o q => (sb.2 it (Ne.symm hne)).trans q, hne⟩, fun b hb => ?_⟩
    · have e1 : ((i + 1 : Nat) : Int) = (i : Int) + 1 := by omega
      rw [e1]; exact he'
    · have hb' : b < s.heap.objs.size := by
        have e' : b = e ∨ b = it := by simpa using hb
        rcases e' with z | z
        · rw [z]; exact hel
        · rw [z]; exact hil
      rw [upd_ne (Nat.ne_of_lt hb')]
      exact (hf b hb).1
  done := by
    intro X hP hw hK hc i pins s σ H E I hf st hg
    subst hP hw hK
    obtain ⟨⟨old, he⟩, hit, hne⟩ := st
    obtain ⟨xs, hq, hx⟩ := hg
    obtain ⟨its, rv, p, hz⟩ := I.tuple hq
    have p' : s.heap.IsTuple a its.toArray := p
    obtain ⟨f0, f1, f2, f3, f4, f5⟩ := hf it (by simp)
    have hl := rv.length
    have nit : a ≠ it := fun z => by
      obtain ⟨o1, a1, a2, _⟩ := p'
      obtain ⟨o2, b1, b2, _⟩ := hit
      rw [z, b1] at a1
      cases a1
      rw [b2] at a2
      exact absurd a2 (by decide)
    -- past the end the iterator says the same
    have D : Draws X.prog X.w X.A.in1 it [it, a] i (fun _ _ => False) (fun j h => j = i ∧ h.IsTupleIter it a i ∧ h.IsTuple a its.toArray) := {
      live := fun _ _ st => let ⟨o, ho, _⟩ := st.2.1; ⟨o, ho⟩
      frame := fun _ _ _ st hk => ⟨st.1, st.2.1.at fun o e => hk it (by simp) o e, st.2.2.at fun o e => hk a (by simp) o e⟩
      item := fun j s Q E hj st _ => absurd hj (by rw [st.1]; exact Nat.lt_irrefl _)
      done := fun s Q E st hE => wpAny_nextOf_tuple_end (A := X.A.in1) (I.ok.hd hc) st.2.1 st.2.2 (by simp; omega) hE }
    exact wpAny_pyNext_enum_endD D he ⟨rfl, hit, p'⟩ fun h' eb => ⟨rfl, I.turned (t' := s.toks) (fun b o hb q => eb b o hb q) f0 f1 f3 f4 f5⟩
  self := fun A i s Q E st h => let ⟨⟨_, he⟩, _⟩ := st; wpAny_pyIter_enum he h
/-- enumerate of a list or of a tuple -/
def iEnm (K : PySem.W.Frag) (ta : TA) : TI := fun σ H R => ta σ H fun vs H1 => ∃ a xs, vs = [.ref a] ∧ ((SqL K H1 a xs ∧ R (Ite K a) H1) ∨ (SqT K H1 a xs ∧ R (IteT K a) H1))
theorem pi_enm {X : Cx} {e : Expr} {ta : TA} {p pos tpos : Pos} {elts : List Expr} {kk : Nat} (hg : Gl X "enumerate") (hm : X.mg "enumerate" = none) (ha : PA X [e] ta) (hs : starEach [e] X.env = [(false, eval e X.env)]) :
    PI X (.Tuple elts kk tpos) (.Call (.Name "enumerate" p) [e] [] pos) (iEnm X.K ta) := by
  refine ⟨fun pins s σ H R I h => ?_⟩
  refine Call_ (ld_blt I hg hm boot_enumerate (PyProof.Rows.callWith_type1 (thn (ha.run pos pins s σ H _ I h) fun us s1 ⟨vs, H1, I1, r1, q1⟩ => ?_) hs rfl))
  obtain ⟨a, xs, ex, q⟩ := q1
  subst ex
  cases r1 with
  | cons r rr =>
    cases rr
    cases r
    rcases q with ⟨hq, q⟩ | ⟨hq, q⟩
    · obtain ⟨its, rv, p', hz⟩ := I1.list hq
      refine call_enumerate_list p'.isList fun h' he hit hsz hk => wpAny_pyIter_enum he ?_
      have I2 : Inv X pins σ H1 { s1 with heap := h' } := I1.kept (t' := s1.toks) hk
      refine ⟨s1.heap.objs.size + 1, [s1.heap.objs.size + 1, s1.heap.objs.size], _, _, H1, rfl, I2, turn_enum a (s1.heap.objs.size + 1) s1.heap.objs.size, ⟨⟨.none, he⟩, hit, Nat.succ_ne_self _⟩, fun b hb => ?_, q⟩
      have e' : b = s1.heap.objs.size + 1 ∨ b = s1.heap.objs.size := by simpa using hb
      have hle : s1.heap.objs.size ≤ b := by
        rcases e' with z | z
        · rw [z]; exact Nat.le_add_right _ _
        · rw [z]; exact Nat.le_refl _
      exact I1.fpOk hle (I1.hok.fresh hle)
    · obtain ⟨its, rv, p', hz⟩ := I1.tuple hq
      refine VLE.call_enumerate_tuple (items := its.toArray) p' fun h' he hit hsz hk => wpAny_pyIter_enum he ?_
      have I2 : Inv X pins σ H1 { s1 with heap := h' } := I1.kept (t' := s1.toks) hk
      refine ⟨s1.heap.objs.size + 1, [s1.heap.objs.size + 1, s1.heap.objs.size], _, _, H1, rfl, I2, turn_enumT a (s1.heap.objs.size + 1) s1.heap.objs.size, ⟨⟨.none, he⟩, hit, Nat.succ_ne_self _⟩, fun b hb => ?_, q⟩
      have e' : b = s1.heap.objs.size + 1 ∨ b = s1.heap.objs.size := by simpa using hb
      have hle : s1.heap.objs.size ≤ b := by
        rcases e' with z | z
        · rw [z]; exact Nat.le_add_right _ _
        · rw [z]; exact Nat.le_refl _
      exact I1.fpOk hle (I1.hok.fresh hle)
theorem yld_enumT {K : PySem.W.Frag} {G : Hp} {a : Addr} {xs : List V} {ds : List D} (h1 : SqT K G a xs) (r1 : RepA K G xs ds) : Yld K G (IteT K a) (enumD ds) := fun G' H' l1 l2 => by
  have s1 : SqT K H' a xs := le_t (l1.trans l2) h1
  refine ⟨fun i d q => ?_, fun i q => ⟨xs, s1, ?_⟩⟩
  · unfold enumD at q
    rw [List.getElem?_mapIdx] at q
    cases q1 : ds[i]? with
    | none => rw [q1] at q; cases q
    | some d1 =>
      rw [q1] at q
      cases q
      obtain ⟨v, k1, k2⟩ := r1.getD q1
      refine ⟨⟨xs, v, s1, k1⟩, fun x H'' y => ?_⟩
      obtain ⟨T, x1, rfl, hT, rfl, w1⟩ := y
      have e1 := w1 xs s1
      rw [k1] at e1
      cases e1
      exact ⟨_, .one hT, pair_rep l2 hT (.int _) (k2.up l1)⟩
  · unfold enumD at q
    rw [List.length_mapIdx] at q
    rw [r1.length]
    exact q
def mEnm (f : Sl → Res Val) : Sl → Res (List D) := fun ρ => (f ρ).bind fun v ρ1 => match v with
  | .d (.lst ds) => .ok (enumD ds) ρ1
  | .d (.tup ds) => .ok (enumD ds) ρ1
  | _ => .stuck
theorem vi_enum {X : Cx} {W : XK} {e : Expr} {p pos tpos : Pos} {elts : List Expr} {kk : Nat} {fe : Sl → Res Val} (hg : Gl X "enumerate") (hm : X.mg "enumerate" = none) (ha : VE X W e fe) (hs : starEach [e] X.env = [(false, eval e X.env)]) :
    VI X W (.Tuple elts kk tpos) (.Call (.Name "enumerate" p) [e] [] pos) (mEnm fe) := by
  obtain ⟨te, a1, a2⟩ := ha.ex
  refine ⟨_, pi_enm hg hm (pa_cons a1 pa_nil hs) hs, fun c O G H σ ρ e0 Q h => ?_⟩
  refine a2.thn e0 h fun v ρ1 x G1 H1 e1 x1 s1 r1 h1 => ?_
  cases v with
  | own i => exact h1.elim
  | d d =>
    have r2 : Rep X.K G1 x d := r1
    cases r2 with
    | lst k1 k2 => exact ⟨_, _, rfl, .inl ⟨SqL.of (e1.sub _ _ k1), h1 _ G1 H1 e1 Ext.refl (Shp.refl ρ1) (yld_enum k1 k2)⟩⟩
    | tup k1 k2 => exact ⟨_, _, rfl, .inr ⟨le_t e1.sub k1, h1 _ G1 H1 e1 Ext.refl (Shp.refl ρ1) (yld_enumT k1 k2)⟩⟩
    | non => exact h1.elim
    | bl b => exact h1.elim
    | int i => exact h1.elim
    | str z => exact h1.elim
    | ins _ _ => exact h1.elim
    | exc _ _ _ => exact h1.elim
    | scr _ => exact h1.elim

/-! ### a table of the module: TAB[e], e in TAB, e not in TAB, e a text -/
def mTab (tab : Str → Option D) (f : Sl → Res Val) : Sl → Res Val := fun ρ => (f ρ).bind fun v ρ1 => match v with
  | .d (.str z) => (match tab z with
    | some d => .ok (.d d) ρ1
    | none => .stuck)
  | _ => .stuck
/-- what stands in the written part as data -/
def RepK (K : PySem.W.Frag) (v : V) (d : D) : Prop := ∀ G, Rep K G v d
structure TabOk (X : Cx) (x : Str) (tab : Str → Option D) : Prop where
  gl : Gl X x
  ex : ∃ p es n, X.mg x = some (.ref p) ∧ X.K.lookup p = some ⟨.type "dict", none, .dict es n, #[]⟩ ∧ PySem.W.KeysLit X.w.params es.toList ∧ (p == sysModules) = false ∧
    ∀ z, match tab z with
      | some d => ∃ v u, PySem.W.nsIn X.K p z = some (some u) ∧ RelV v u ∧ RepK X.K v d
      | none => PySem.W.nsIn X.K p z = some none
theorem ve_tab {X : Cx} {W : XK} {e : Expr} {x : Str} {p pos : Pos} {tab : Str → Option D} {fe : Sl → Res Val} (T : TabOk X x tab) (he : VE X W e fe) (hs : PlainIx e) (hd : (x == ("__debug__" : Str)) = false) : VE X W (.Subscript (.Name x p) e pos) (mTab tab fe) := by
  obtain ⟨te, a1, a2⟩ := he.ex
  obtain ⟨a, es, n, m1, m2, m3, m4, m5⟩ := T.ex
  refine ⟨_, pe_ix ix_kdict (pe_glob T.gl m1 (v := .ref a) rfl hd) a1 hs, fun c O G H σ ρ e0 Q h => ?_⟩
  refine a2.thn e0 h fun v ρ1 y G1 H1 e1 x1 s1 r1 h1 => ?_
  cases v with
  | own i => exact h1.elim
  | d d =>
    cases d <;> first | exact h1.elim | skip
    rename_i z
    have r2 : Rep X.K G1 y (.str z) := r1
    cases r2
    have h2 : Post X.K W c O G1 H1 σ ρ1 (relE X.K σ) Q (match tab z with
      | some d => .ok (.d d) ρ1
      | none => .stuck) := h1
    have mz := m5 z
    split at h2
    · rename_i d qd
      rw [qd] at mz
      obtain ⟨v, u, k1, k2, k3⟩ := mz
      exact ⟨a, z, v, rfl, rfl, ⟨es, n, u, m2, m3, k1, k2⟩, Post.val (v := .d d) e1 (k3 G1) h2⟩
    · exact h2.elim
def rInK (K : PySem.W.Frag) (w : World) (yes : Bool) : R2 := fun x y H Q => ∃ (z : Str) (p : Addr) (es : Array DictEntry) (n : Nat) (r : Option Value), x = .str z ∧ y = .ref p ∧ K.lookup p = some ⟨.type "dict", none, .dict es n, #[]⟩ ∧ PySem.W.KeysLit w.params es.toList ∧ (p == sysModules) = false ∧
  PySem.W.nsIn K p z = some r ∧ Q (.bl (r.isSome == yes)) H
theorem op_inK {X : Cx} : OpR X (compareOp .In) (rInK X.K X.w true) := by
  intro pins s σ H x y v u Q I rx ry h
  obtain ⟨z, p, es, n, r, rfl, rfl, hl, hk, lo, e, q⟩ := h
  obtain ⟨t, rfl⟩ := rx
  cases ry
  refine wpAny_in_of (strKind_is X.prog X.w z t) lo (PySem.W.mapOf_K (prog := X.prog) I.kIn hl hk) ?_
  rw [PySem.W.find_K hl e]
  exact ⟨.bl r.isSome, H, I.tok _, rfl, by simpa using q⟩
theorem op_notInK {X : Cx} : OpR X (compareOp .NotIn) (rInK X.K X.w false) := by
  intro pins s σ H x y v u Q I rx ry h
  obtain ⟨z, p, es, n, r, rfl, rfl, hl, hk, lo, e, q⟩ := h
  obtain ⟨t, rfl⟩ := rx
  cases ry
  refine wpAny_notIn_of (strKind_is X.prog X.w z t) lo (PySem.W.mapOf_K (prog := X.prog) I.kIn hl hk) ?_
  rw [PySem.W.find_K hl e]
  refine ⟨.bl (!r.isSome), H, I.tok _, rfl, ?_⟩
  cases h : r.isSome <;> rw [h] at q <;> exact q
def mInT (tab : Str → Option D) (yes : Bool) (f : Sl → Res Val) : Sl → Res Val := fun ρ => (f ρ).bind fun v ρ1 => match v with
  | .d (.str z) => .ok (.d (.bl ((tab z).isSome == yes))) ρ1
  | _ => .stuck
section
variable {X : Cx} {W : XK} {e : Expr} {x : Str} {p pos : Pos} {tab : Str → Option D} {fe : Sl → Res Val}
theorem vv_inT {yes : Bool} {te : TE} {a : Addr} {es : Array DictEntry} {n : Nat} (m2 : X.K.lookup a = some ⟨.type "dict", none, .dict es n, #[]⟩) (m3 : PySem.W.KeysLit X.w.params es.toList) (m4 : (a == sysModules) = false)
    (m5 : ∀ z, match tab z with
      | some d => ∃ v u, PySem.W.nsIn X.K a z = some (some u) ∧ RelV v u ∧ RepK X.K v d
      | none => PySem.W.nsIn X.K a z = some none) (a2 : Vv X.K W (relE X.K) te fe) : Vv X.K W (relE X.K) (tOp (rInK X.K X.w yes) te (tC (.ref a))) (mInT tab yes fe) := fun c O G H σ ρ e0 Q h => by
  refine a2.thn e0 h fun v ρ1 y G1 H1 e1 x1 s1 r1 h1 => ?_
  cases v with
  | own i => exact h1.elim
  | d d =>
    cases d <;> first | exact h1.elim | skip
    rename_i z
    have r2 : Rep X.K G1 y (.str z) := r1
    cases r2
    have h2 : Post X.K W c O G1 H1 σ ρ1 (relE X.K σ) Q (.ok (.d (.bl ((tab z).isSome == yes))) ρ1) := h1
    have mz := m5 z
    cases qd : tab z with
    | some d =>
      rw [qd] at mz h2
      obtain ⟨v, u, k1, k2, k3⟩ := mz
      exact ⟨z, a, es, n, some u, rfl, rfl, m2, m3, m4, k1, Post.val (v := .d (.bl (true == yes))) e1 (show Rep X.K G1 (.bl (true == yes)) (.bl (true == yes)) from .bl _) h2⟩
    | none =>
      rw [qd] at mz h2
      exact ⟨z, a, es, n, none, rfl, rfl, m2, m3, m4, mz, Post.val (v := .d (.bl (false == yes))) e1 (show Rep X.K G1 (.bl (false == yes)) (.bl (false == yes)) from .bl _) h2⟩
theorem ve_inTab (T : TabOk X x tab) (he : VE X W e fe) (hm : behindInMarks .In (.Name x p) = false) (hd : (x == ("__debug__" : Str)) = false) : VE X W (.Compare e [.In] [.Name x p] pos) (mInT tab true fe) := by
  obtain ⟨te, a1, a2⟩ := he.ex
  obtain ⟨a, es, n, m1, m2, m3, m4, m5⟩ := T.ex
  exact ⟨_, pe_cmpR op_inK a1 (pe_glob T.gl m1 (v := .ref a) rfl hd) hm, vv_inT m2 m3 m4 m5 a2⟩
theorem ve_notInTab (T : TabOk X x tab) (he : VE X W e fe) (hm : behindInMarks .NotIn (.Name x p) = false) (hd : (x == ("__debug__" : Str)) = false) : VE X W (.Compare e [.NotIn] [.Name x p] pos) (mInT tab false fe) := by
  obtain ⟨te, a1, a2⟩ := he.ex
  obtain ⟨a, es, n, m1, m2, m3, m4, m5⟩ := T.ex
  exact ⟨_, pe_cmpR op_notInK a1 (pe_glob T.gl m1 (v := .ref a) rfl hd) hm, vv_inT m2 m3 m4 m5 a2⟩
theorem vt_inTab (T : TabOk X x tab) (he : VE X W e fe) (hm : behindInMarks .In (.Name x p) = false) (hd : (x == ("__debug__" : Str)) = false) : VT X W (.Compare e [.In] [.Name x p] pos) (asB (mInT tab true fe)) := by
  obtain ⟨te, a1, a2⟩ := he.ex
  obtain ⟨a, es, n, m1, m2, m3, m4, m5⟩ := T.ex
  exact ⟨_, pt_cmpR op_inK a1 (pe_glob T.gl m1 (v := .ref a) rfl hd) hm, vv_test (vv_inT m2 m3 m4 m5 a2)⟩
theorem vt_notInTab (T : TabOk X x tab) (he : VE X W e fe) (hm : behindInMarks .NotIn (.Name x p) = false) (hd : (x == ("__debug__" : Str)) = false) : VT X W (.Compare e [.NotIn] [.Name x p] pos) (asB (mInT tab false fe)) := by
  obtain ⟨te, a1, a2⟩ := he.ex
  obtain ⟨a, es, n, m1, m2, m3, m4, m5⟩ := T.ex
  exact ⟨_, pt_cmpR op_notInK a1 (pe_glob T.gl m1 (v := .ref a) rfl hd) hm, vv_test (vv_inT m2 m3 m4 m5 a2)⟩
end
end VL

end

section
set_option linter.all false
set_option maxRecDepth 100000
set_option maxHeartbeats 4000000
/-! VL 13: a def's promise by its mirror. -/
namespace VL
open PySem PySem.Spec PyProof.Rows L2

/-- what the lent list holds in the end -/
def lentOf (cs : List Cell) (ρ : Sl) : Option (List D) := match cs.findIdx? isOl with
  | none => some []
  | some i => match ρ[i]? with
    | some (.ol false ds) => some ds
    | _ => none
def endOf (cs : List Cell) : SR → FR
  | .nx ρ => (match lentOf cs ρ with
    | some j => .ret .non j
    | none => .stuck)
  | .rt d ρ => (match lentOf cs ρ with
    | some j => .ret d j
    | none => .stuck)
  | .ro ds ρ => (match lentOf cs ρ with
    | some j => .own ds j
    | none => .stuck)
  | .exc x ρ => (match lentOf cs ρ with
    | some j => .exc x j
    | none => .stuck)
  | _ => .stuck
/-- n parameters, m slots -/
def mkFn (n m : Nat) (body : Sl → SR) : List Cell → FR := fun cs => if cs.length = n then endOf cs (body (cs ++ List.replicate (m - n) .un)) else .stuck

section
variable {K : PySem.W.Frag} {G H : Hp} {ja : Option Addr} {vs : List V} {cs : List Cell} {N : List Str}
theorem ArgR.some {v : V} {c : Cell} (h : ArgR K G H ja v c) : True := trivial
theorem paired_get {α β : Type} {F : α → β → Prop} : ∀ {l₁ : List α} {l₂ : List β} {i : Nat} {b : β}, Paired F l₁ l₂ → l₂[i]? = some b → ∃ a, l₁[i]? = some a ∧ F a b
  | _, _, _, _, .nil, e => by simp at e
  | _, _, 0, _, .cons r _, e => by simp at e; subst e; exact ⟨_, rfl, r⟩
  | _, _, i + 1, b, .cons _ t, e => by
    obtain ⟨u, h1, h2⟩ := paired_get (i := i) (b := b) t (by simpa using e)
    exact ⟨u, by simpa using h1, h2⟩
theorem start_at {m : Nat} {i : Nat} {c : Cell} (h : (cs ++ List.replicate m Cell.un)[i]? = some c) (hc : c ≠ .un) : cs[i]? = some c := by
  by_cases hl : i < cs.length
  · rwa [List.getElem?_append_left hl] at h
  · rw [List.getElem?_append_right (by omega)] at h
    have := List.mem_of_getElem? h
    rw [List.mem_replicate] at this
    exact absurd this.2 hc
theorem two_ol : ∀ {cs : List Cell} {i j : Nat} {b b' : Bool} {ds ds' : List D}, (cs.filter isOl).length ≤ 1 → i ≠ j → cs[i]? = some (.ol b ds) → cs[j]? = some (.ol b' ds') → False := by
  have one : ∀ {cs : List Cell} {i : Nat} {b : Bool} {ds : List D}, cs[i]? = some (.ol b ds) → 1 ≤ (cs.filter isOl).length := fun {cs i b ds} h => by
    have hm := List.mem_of_getElem? h
    have : Cell.ol b ds ∈ cs.filter isOl := List.mem_filter.mpr ⟨hm, rfl⟩
    exact List.length_pos_of_mem this
  intro cs
  induction cs with
  | nil => intro i j b b' ds ds' _ _ h; simp at h
  | cons c r ih =>
    intro i j b b' ds ds' hl hne h1 h2
    cases i with
    | zero =>
      cases j with
      | zero => exact hne rfl
      | succ j =>
        simp at h1 h2
        subst h1
        rw [List.filter_cons, if_pos (show isOl (Cell.ol _ _) = true from rfl), List.length_cons] at hl
        have := one h2
        omega
    | succ i =>
      cases j with
      | zero =>
        simp at h1 h2
        subst h2
        rw [List.filter_cons, if_pos (show isOl (Cell.ol _ _) = true from rfl), List.length_cons] at hl
        have := one h1
        omega
      | succ j =>
        simp at h1 h2
        refine ih (Nat.le_trans ?_ hl) (fun z => hne (by rw [z])) h1 h2
        rw [List.filter_cons]
        split
        · rw [List.length_cons]; omega
        · exact Nat.le_refl _
theorem start_rep (hG : Le G H) (hp : Paired (ArgR K G H ja) vs cs) (hj : ∀ a, ja = some a → G a = none ∧ H a ≠ none ∧ cs.any isOl = true) (ho : (cs.filter isOl).length ≤ 1) (hN : vs.length ≤ N.length) :
    ERep K ⟨H, G, fun a => ja = some a⟩ (fun a => ja = some a) G H (L2.start N vs) (cs ++ List.replicate (N.length - vs.length) .un) := by
  have hl := Paired.len hp
  have sl : ∀ {i : Nat} {v : V}, vs[i]? = some v → (L2.start N vs)[i]? = some (some v) := fun {i v} h => by
    unfold L2.start
    rw [List.getElem?_append_left (by rw [List.length_map]; exact (List.getElem?_eq_some_iff.mp h).1), List.getElem?_map, h]
    rfl
  refine ⟨hG, Le.refl _, fun a o h => .inl h, fun a o h _ => h, fun a h => h, fun a h => (hj a h).1, fun a h => .inl h, fun a h => (hj a h).2.1, ?_, fun i d q => ?_, fun i b ds q => ?_, fun i j b b' ds ds' a hne q1 q2 q3 => ?_⟩
  · unfold L2.start
    rw [List.length_append, List.length_append, List.length_map, List.length_replicate, List.length_replicate, hl]
  · obtain ⟨v, h1, h2⟩ := paired_get hp (start_at q (fun z => by cases z))
    cases h2 with
    | pv r => exact ⟨v, sl h1, r⟩
  · obtain ⟨v, h1, h2⟩ := paired_get hp (start_at q (fun z => by cases z))
    cases h2 with
    | @ol a xs ds e1 e2 e3 => exact ⟨a, xs, sl h1, e1, by rw [if_neg Bool.false_ne_true]; exact e1, e2, e3⟩
  · exact (two_ol ho hne (start_at q1 (fun z => by cases z)) (start_at q2 (fun z => by cases z))).elim
/-- the end: what was lent -/
theorem lent_end {O : Addr → Prop} {G' H' : Hp} {σ : L2.St} {ρ : Sl} {j : List D} (hj : ∀ a, ja = some a → cs.any isOl = true) (e : ERep K ⟨H, G, fun a => ja = some a⟩ O G' H' σ ρ) (h : lentOf cs ρ = some j) :
    FExt ja G H G' H' ∧ ∀ a, ja = some a → ∃ xs, H' a = some (.lst xs) ∧ RepA K G' xs j := by
  refine ⟨⟨e.g0, e.sub, fun b o q n => e.keep b o q n, e.nw, e.dom⟩, fun a ha => ?_⟩
  unfold lentOf at h
  split at h
  · rename_i q
    have := hj a ha
    rw [List.findIdx?_eq_none_iff] at q
    obtain ⟨x, hx, hy⟩ := List.any_eq_true.mp this
    rw [q x hx] at hy
    cases hy
  · rename_i i q
    split at h
    · rename_i ds q2
      cases h
      obtain ⟨a', xs, h1, h2, h3, h4, h5⟩ := e.ol i false _ q2
      rw [if_neg Bool.false_ne_true] at h3
      have h3' : ja = some a' := h3
      rw [ha] at h3'
      cases h3'
      exact ⟨xs, h4, h5⟩
    · cases h
end

/-- a def of the module by its mirror -/
structure Cal (P : Program) (w : World) (K : PySem.W.Frag) (mg : Str → Option Value) (base : Heap) (k : Nat) (x : Str) (M : List Cell → FR) (dds : List D) : Prop where
  ex : ∃ f fd ps ds dvs, FnG P w K mg base k f fd ps (spM K M) ∧ mg x = some (.ref f) ∧ PySem.W.keepIn K (.ref f) = true ∧ Binds K fd ps ds ∧ Vals dvs ds ∧ Paired (fun v d => ∀ G, Rep K G v d) dvs dds
section
variable {P : Program} {w : World} {K : PySem.W.Frag} {mg : Str → Option Value} {base : Heap}
theorem fn_mk0 {name qual : Str} {params : Arguments} {bd : List Stmt} {scope : Scope} {dV kV doc pm cdv ct oc : Value} {an od : Option Addr} {osl : Array (Option Value)} {f : Addr} {N ps : List Str} {k n m : Nat} {body : Sl → SR}
    (lk : K.lookup f = some ⟨oc, od, .func (PySem.W.fnOf name qual params bd scope dV kV doc pm an cdv ct), osl⟩) (hcd : PySem.W.codeIn K cdv qual = true) (S : FnScope N ps scope) (hn : ps.length = n) (hm : N.length = m)
    (hb : ∀ (A : Around) (outer : List Env) (s : Shared) (H : Hp) (E : XK), RoomG k (A.deeper (envOfC qual scope s.heap.objs.size f cdv)) →
      (Takes (cxOf (L2.CX P w) P w K mg base N qual scope f cdv A outer s H E) fun cls d _ H => E cls d H) →
      PassesOwn (model P w) (cxOf (L2.CX P w) P w K mg base N qual scope f cdv A outer s H E).A (cxOf (L2.CX P w) P w K mg base N qual scope f cdv A outer s H E).env (cxOf (L2.CX P w) P w K mg base N qual scope f cdv A outer s H E).xe →
      VB (cxOf (L2.CX P w) P w K mg base N qual scope f cdv A outer s H E) E bd body) :
    FnG P w K mg base (k + 1) f (PySem.W.fnOf name qual params bd scope dV kV doc pm an cdv ct) ps (spM K (mkFn n m body)) := by
  have hpn : ps.length ≤ N.length := by
    have := S.pre
    have h2 := congrArg List.length this
    rw [List.length_take] at h2
    omega
  have hlen : ∀ vs H Q E, spM K (mkFn n m body) vs H Q E → vs.length = ps.length := fun vs H Q E h => by
    obtain ⟨G, ja, cs, hG, hp, hj, ho, h⟩ := h
    unfold mkFn at h
    rw [Paired.len hp, hn]
    by_cases hc : cs.length = n
    · exact hc
    · rw [if_neg hc] at h
      exact h.elim
  refine fnG_of lk hcd S hlen fun A outer s H vs Q E hr h => ?_
  have hvs := hlen vs H Q E h
  obtain ⟨G, ja, cs, hG, hp, hj, ho, h⟩ := h
  have hcs : cs.length = n := by rw [← Paired.len hp, hvs, hn]
  obtain ⟨t, b1, b2⟩ := (hb A outer s H E hr (takes_of rfl rfl rfl rfl) (passes_of rfl)).ex
  refine ⟨t, b1, ?_⟩
  have e0 := start_rep (N := N) hG hp hj ho (by rw [hvs]; exact hpn)
  rw [hvs, hm, hn] at e0
  refine b2 _ _ G H _ _ e0 _ ?_
  unfold mkFn at h
  rw [if_pos hcs] at h
  have hj' : ∀ a, ja = some a → cs.any isOl = true := fun a z => (hj a z).2.2
  cases q : body (cs ++ List.replicate (m - n) .un) with
  | nx ρ =>
    rw [q] at h
    simp only [endOf] at h
    cases ql : lentOf cs ρ with
    | none => rw [ql] at h; exact h.elim
    | some j =>
      rw [ql] at h
      intro O' G' H' σ' e1 l1
      obtain ⟨k1, k2⟩ := lent_end hj' e1 ql
      exact h .non G' H' k1 k2 .non
  | rt d ρ =>
    rw [q] at h
    simp only [endOf] at h
    cases ql : lentOf cs ρ with
    | none => rw [ql] at h; exact h.elim
    | some j =>
      rw [ql] at h
      intro x O' G' H' σ' e1 l1 rx
      obtain ⟨k1, k2⟩ := lent_end hj' e1 ql
      exact h x G' H' k1 k2 rx
  | ro ds ρ =>
    rw [q] at h
    simp only [endOf] at h
    cases ql : lentOf cs ρ with
    | none => rw [ql] at h; exact h.elim
    | some j =>
      rw [ql] at h
      intro p xs O' G' H' σ' e1 l1 n1 n3 n4 n5
      obtain ⟨k1, k2⟩ := lent_end hj' e1 ql
      exact h (.ref p) G' H' k1 k2 ⟨p, xs, rfl, n1, n3, n4, n5⟩
  | exc x ρ =>
    rw [q] at h
    simp only [endOf] at h
    cases ql : lentOf cs ρ with
    | none => rw [ql] at h; exact h.elim
    | some j =>
      rw [ql] at h
      intro cls dd O' G' H' σ' e1 l1 rx
      obtain ⟨k1, k2⟩ := lent_end hj' e1 ql
      exact h cls dd G' H' k1 k2 rx
  | bk ρ => rw [q] at h; exact h.elim
  | ct ρ => rw [q] at h; exact h.elim
  | stuck => rw [q] at h; exact h.elim
theorem fn_mk {x qual : Str} {st : Stmt} {f : Addr} {fd : FuncData} {N ps : List Str} {k n m : Nat} {body : Sl → SR} (F : Fun K x qual st f fd) (S : FnScope N ps (defScope st)) (hn : ps.length = n) (hm : N.length = m)
    (hb : ∀ (cdv : Value) (A : Around) (outer : List Env) (s : Shared) (H : Hp) (E : XK), RoomG k (A.deeper (envOfC qual (defScope st) s.heap.objs.size f cdv)) →
      (Takes (cxOf (L2.CX P w) P w K mg base N qual (defScope st) f cdv A outer s H E) fun cls d _ H => E cls d H) →
      PassesOwn (model P w) (cxOf (L2.CX P w) P w K mg base N qual (defScope st) f cdv A outer s H E).A (cxOf (L2.CX P w) P w K mg base N qual (defScope st) f cdv A outer s H E).env (cxOf (L2.CX P w) P w K mg base N qual (defScope st) f cdv A outer s H E).xe →
      VB (cxOf (L2.CX P w) P w K mg base N qual (defScope st) f cdv A outer s H E) E (defBody st) body) :
    FnG P w K mg base (k + 1) f fd ps (spM K (mkFn n m body)) := by
  obtain ⟨oc, od, kV, doc, pm, an, cdv, ct, osl, rfl, lk, hcd⟩ := F.ex
  exact fn_mk0 lk hcd S hn hm (hb cdv)
theorem Cal.mono {j k : Nat} {x : Str} {M : List Cell → FR} {dds : List D} (C : Cal P w K mg base j x M dds) (h : j ≤ k) : Cal P w K mg base k x M dds := by
  obtain ⟨f, fd, ps, ds, dvs, h1, h2⟩ := C.ex
  exact ⟨f, fd, ps, ds, dvs, h1.mono h, h2⟩
/-- without defaults -/
theorem cal_mk {x : Str} {st : Stmt} {f : Addr} {fd : FuncData} {N ps : List Str} {k n m : Nat} {body : Sl → SR} (F : Fun K x x st f fd) (hg : mg x = some (.ref f)) (S : FnScope N ps (defScope st)) (hn : ps.length = n) (hm : N.length = m)
    (hbd : ∀ (kV doc pm : Value) (an : Option Addr) (cdv ct : Value) (us : List Value), us.length = ps.length → bindArgs (PySem.W.fnOf x x (defArgs st) (defBody st) (defScope st) .none kV doc pm an cdv ct) ⟨us, []⟩ = pure (ps.zip us))
    (hb : ∀ (cdv : Value) (A : Around) (outer : List Env) (s : Shared) (H : Hp) (E : XK), RoomG k (A.deeper (envOfC x (defScope st) s.heap.objs.size f cdv)) →
      (Takes (cxOf (L2.CX P w) P w K mg base N x (defScope st) f cdv A outer s H E) fun cls d _ H => E cls d H) →
      PassesOwn (model P w) (cxOf (L2.CX P w) P w K mg base N x (defScope st) f cdv A outer s H E).A (cxOf (L2.CX P w) P w K mg base N x (defScope st) f cdv A outer s H E).env (cxOf (L2.CX P w) P w K mg base N x (defScope st) f cdv A outer s H E).xe →
      VB (cxOf (L2.CX P w) P w K mg base N x (defScope st) f cdv A outer s H E) E (defBody st) body) :
    Cal P w K mg base (k + 1) x (mkFn n m body) [] :=
  ⟨f, fd, ps, [], [], fn_mk F S hn hm hb, hg, F.kp, F.binds hbd, .nil, .nil⟩
/-- a def with defaults: all given, or (d) the last ones left out -/
theorem cal_mkD {x : Str} {st : Stmt} {f : Addr} {fd : FuncData} {N ps : List Str} {k n m : Nat} {body : Sl → SR} {dvs : List V} {dds : List D} (nd j : Nat) (F : FunD K x x (defArgs st) (defBody st) (defScope st) dvs [] f fd) (hg : mg x = some (.ref f)) (S : FnScope N ps (defScope st)) (hn : ps.length = n) (hm : N.length = m)
    (h0 : dvs ≠ []) (hnj : nd + (dvs.length - j) = ps.length) (hdd : Paired (fun v d => ∀ G, Rep K G v d) (dvs.drop j) dds)
    (hbd : ∀ (T : Addr) (kV doc pm : Value) (an : Option Addr) (cdv ct : Value) (us its : List Value), us.length = nd → its.length = dvs.length →
      ∃ k, bindArgs (PySem.W.fnOf x x (defArgs st) (defBody st) (defScope st) (.ref T) kV doc pm an cdv ct) ⟨us, []⟩ = seqItems? (.ref T) >>= k ∧ k (some its.toArray) = pure (ps.zip (us ++ its.drop j)))
    (hb : ∀ (cdv : Value) (A : Around) (outer : List Env) (s : Shared) (H : Hp) (E : XK), RoomG k (A.deeper (envOfC x (defScope st) s.heap.objs.size f cdv)) →
      (Takes (cxOf (L2.CX P w) P w K mg base N x (defScope st) f cdv A outer s H E) fun cls d _ H => E cls d H) →
      PassesOwn (model P w) (cxOf (L2.CX P w) P w K mg base N x (defScope st) f cdv A outer s H E).A (cxOf (L2.CX P w) P w K mg base N x (defScope st) f cdv A outer s H E).env (cxOf (L2.CX P w) P w K mg base N x (defScope st) f cdv A outer s H E).xe →
      VB (cxOf (L2.CX P w) P w K mg base N x (defScope st) f cdv A outer s H E) E (defBody st) body) :
    Cal P w K mg base (k + 1) x (mkFn n m body) dds := by
  obtain ⟨ds, hv, hB⟩ := FunD.binds1 F nd j h0 hnj hbd
  have kp := F.kp
  obtain ⟨oc, od, dV, kV, doc, pm, an, cdv, ct, osl, rfl, lk, hcd, _, _⟩ := F.ex
  exact ⟨f, _, ps, ds, dvs.drop j, fn_mk0 lk hcd S hn hm (hb cdv), hg, kp, hB, hv, hdd⟩
theorem ve_cal {X : Cx} {W : XK} {k j : Nat} {x : Str} {M : List Cell → FR} {dds : List D} {e : Expr} {es : List Expr} {pos p : Pos} {g : Sl → Res (List Val)} (C : Cal X.prog X.w X.K X.mg X.base j x M dds) (hr : RoomG k X.A) (hj : j ≤ k) (tk : Takes X fun cls d _ H => W cls d H) (hg : Gl X x)
    (ha : VA X W (e :: es) g) (hdb : (x == ("__debug__" : Str)) = false) (he : starEach (e :: es) X.env = (false, eval e X.env) :: starEach es X.env) (hpl : (backTo pos (starEach es X.env)).any (·.1) = false) :
    VE X W (.Call (.Name x p) (e :: es) [] pos) (mFn M dds g) := by
  obtain ⟨f, fd, ps, ds, dvs, h1, h2, h3, h4, h5, h6⟩ := C.ex
  exact ve_fn (h1.mono hj) hr tk hg h2 h3 h4 h5 h6 ha hdb he hpl
theorem vn_cal {X : Cx} {W : XK} {k j : Nat} {x : Str} {M : List Cell → FR} {dds : List D} {e : Expr} {es : List Expr} {pos p : Pos} {g : Sl → Res (List Val)} (C : Cal X.prog X.w X.K X.mg X.base j x M dds) (hr : RoomG k X.A) (hj : j ≤ k) (tk : Takes X fun cls d _ H => W cls d H) (hg : Gl X x)
    (ha : VA X W (e :: es) g) (hdb : (x == ("__debug__" : Str)) = false) (he : starEach (e :: es) X.env = (false, eval e X.env) :: starEach es X.env) (hpl : (backTo pos (starEach es X.env)).any (·.1) = false) :
    VN X W (.Call (.Name x p) (e :: es) [] pos) (nFn M dds g) := by
  obtain ⟨f, fd, ps, ds, dvs, h1, h2, h3, h4, h5, h6⟩ := C.ex
  exact vn_fn (h1.mono hj) hr tk hg h2 h3 h4 h5 h6 ha hdb he hpl
/-- in a block nothing is taken -/
theorem takes_blk {X : Cx} {s : Shared} {H : Hp} {scope : Scope} {cenv : Env} {fp : List Addr} : Takes (X.blk s H scope cenv fp) fun cls d _ H => W0 cls d H := fun _ _ ⟨_, _, _, _, _, _, _, _, _, _, _, _, _, _, _, _, w⟩ => w.elim
/-- a law's end: the script in, True out -/
theorem law_end {x : Str} {M : List Cell → FR} {K : PySem.W.Frag} {H : Hp} {a : Addr} {ns : List Int} (hS : SqL K H a (ns.map V.int)) (hM : M [.pv (.scr ns)] = .ret (.bl true) []) : spM K M [.ref a] H (fun v _ => v = .bl true) fun _ _ _ => False := by
  refine ⟨H, none, [.pv (.scr ns)], Le.refl _, .cons (.pv (.scr hS)) .nil, fun a z => (by cases z), by simp [isOl], ?_⟩
  rw [hM]
  intro v G' H' _ _ r
  cases r
  rfl
end
end VL

end

section
set_option linter.all false
set_option maxRecDepth 100000
set_option maxHeartbeats 4000000
/-! VL 14: the rules in short, side conditions found by themselves. -/
namespace VL
open PySem PySem.Spec PyProof.Rows L2
section
variable {X : Cx} {W : XK} {e a b c o tg iter : Expr} {es : List Expr} {pos p : Pos} {x : Str} {fe fa fb fc : Sl → Res Val} {g : Sl → Res (List Val)} {fi : Sl → Res (List D)} {t : TgF}
theorem x_v (i : Nat) (hN : X.N[i]? = some x := by rfl) (hv : Vis X.env.scope x := by first | exact .inl rfl | exact .inr (.inl rfl) | exact .inr (.inr rfl)) (hd : (x == ("__debug__" : Str)) = false := by decide)
    (hcd : (x == ("__classdict__" : Str)) = false := by decide) : VE X W (.Name x pos) (mVar i) := ve_var hN hv hd hcd
/-- a text, a number of the module -/
theorem x_gs {z : Str} (hm : ∃ u, X.mg x = some u ∧ RelV (.str z) u) (hg : Gl X x := by rfl) (hd : (x == ("__debug__" : Str)) = false := by decide) : VE X W (.Name x pos) (mC (.str z)) := let ⟨_, h1, h2⟩ := hm; ve_glob hg h1 h2 (fun _ => .str z) hd
theorem x_gi {z : Int} (hm : ∃ u, X.mg x = some u ∧ RelV (.int z) u) (hg : Gl X x := by rfl) (hd : (x == ("__debug__" : Str)) = false := by decide) : VE X W (.Name x pos) (mC (.int z)) := let ⟨_, h1, h2⟩ := hm; ve_glob hg h1 h2 (fun _ => .int z) hd
theorem x_cmp {op : CmpOp} {g : D → D → Option D} (ho : OpD X (compareOp op) g) (ha : VE X W a fa) (hb : VE X W b fb) (hm : behindInMarks op b = false := by first | exact nomark _ | rfl | with_unfolding_all rfl) : VE X W (.Compare a [op] [b] pos) (m2 g fa fb) := ve_cmp ho ha hb hm
theorem y_cmp {op : CmpOp} {g : D → D → Option D} (ho : OpD X (compareOp op) g) (ha : VE X W a fa) (hb : VE X W b fb) (hm : behindInMarks op b = false := by first | exact nomark _ | rfl | with_unfolding_all rfl) : VT X W (.Compare a [op] [b] pos) (asB (m2 g fa fb)) := vt_cmp ho ha hb hm
theorem x_chn {op op' : CmpOp} {g g' : D → D → Option D} (ho : OpD X (compareOp op) g) (ho' : OpD X (compareOp op') g') (ha : VE X W a fa) (hb : VE X W b fb) (hc : VE X W c fc) (hm : lastMarks [op, op'] [b, c] = false := by first | rfl | with_unfolding_all rfl) :
    VE X W (.Compare a [op, op'] [b, c] pos) (mChn g g' fa fb fc) := ve_chain ho ho' ha hb hc hm
theorem y_chn {op op' : CmpOp} {g g' : D → D → Option D} (ho : OpD X (compareOp op) g) (ho' : OpD X (compareOp op') g') (ha : VE X W a fa) (hb : VE X W b fb) (hc : VE X W c fc) (hm : lastMarks [op, op'] [b, c] = false := by first | rfl | with_unfolding_all rfl) :
    VT X W (.Compare a [op, op'] [b, c] pos) (asB (mChn g g' fa fb fc)) := vt_chain ho ho' ha hb hc hm
theorem y_t (ha : VE X W a fa) (he : ∀ whole, isTrue a X.env whole = (do let v ← whole; standAt a.pos; holding [v] (truthy v)) := by intro _; first | rfl | (with_unfolding_all rfl)) : VT X W a (mTru fa) := vt_truth ha he
theorem x_cons (h : VE X W a fa) (hr : VA X W es g) (hs : starEach (a :: es) X.env = (false, eval a X.env) :: starEach es X.env := by rfl) : VA X W (a :: es) (mCons fa g) := va_cons h hr hs
theorem x_ix (ha : VE X W a fa) (hb : VE X W b fb) (hs : PlainIx b := by exact fun _ _ => rfl) : VE X W (.Subscript a b pos) (m2 dIx fa fb) := ve_ix ha hb hs
theorem x_tab {tab : Str → Option D} (T : TabOk X x tab) (he : VE X W e fe) (hs : PlainIx e := by exact fun _ _ => rfl) (hd : (x == ("__debug__" : Str)) = false := by decide) : VE X W (.Subscript (.Name x p) e pos) (mTab tab fe) := ve_tab T he hs hd
theorem x_b {id : String} {g : List D → Option D} {f : Sl → Res (List Val)} (hc : CallD X (.builtin id) g) (hm : X.mg x = none) (hv : bootBuiltins x = some (.builtin id)) (ha : VA X W (e :: es) f) (hg : Gl X x := by rfl) (hn : x ≠ "__name__" := by decide) (hdb : (x == ("__debug__" : Str)) = false := by decide)
    (he : starEach (e :: es) X.env = (false, eval e X.env) :: starEach es X.env := by rfl) (hpl : (backTo pos (starEach es X.env)).any (·.1) = false := by rfl) : VE X W (.Call (.Name x p) (e :: es) [] pos) (mCall g f) := ve_callB hc hg hm hv ha hn hdb he hpl
theorem x_ty {id : String} {g : List D → Option D} {f : Sl → Res (List Val)} (hc : CallD X (.type id) g) (hm : X.mg x = none) (hv : bootBuiltins x = some (.type id)) (ha : VA X W (e :: es) f) (hg : Gl X x := by rfl) (hn : x ≠ "__name__" := by decide) (hdb : (x == ("__debug__" : Str)) = false := by decide)
    (he : starEach (e :: es) X.env = (false, eval e X.env) :: starEach es X.env := by rfl) (hpl : (backTo pos (starEach es X.env)).any (·.1) = false := by rfl) : VE X W (.Call (.Name x p) (e :: es) [] pos) (mCall g f) := ve_callTy hc hg hm hv ha hn hdb he hpl
theorem x_fn {k j : Nat} {M : List Cell → FR} {dds : List D} (C : Cal X.prog X.w X.K X.mg X.base j x M dds) (hr : RoomG k X.A) (tk : Takes X fun cls d _ H => W cls d H) (ha : VA X W (e :: es) g) (hj : j ≤ k := by decide) (hg : Gl X x := by rfl)
    (hdb : (x == ("__debug__" : Str)) = false := by decide) (he : starEach (e :: es) X.env = (false, eval e X.env) :: starEach es X.env := by rfl) (hpl : (backTo pos (starEach es X.env)).any (·.1) = false := by rfl) : VE X W (.Call (.Name x p) (e :: es) [] pos) (mFn M dds g) :=
  ve_cal C hr hj tk hg ha hdb he hpl
theorem n_fn {k j : Nat} {M : List Cell → FR} {dds : List D} (C : Cal X.prog X.w X.K X.mg X.base j x M dds) (hr : RoomG k X.A) (tk : Takes X fun cls d _ H => W cls d H) (ha : VA X W (e :: es) g) (hj : j ≤ k := by decide) (hg : Gl X x := by rfl)
    (hdb : (x == ("__debug__" : Str)) = false := by decide) (he : starEach (e :: es) X.env = (false, eval e X.env) :: starEach es X.env := by rfl) (hpl : (backTo pos (starEach es X.env)).any (·.1) = false := by rfl) : VN X W (.Call (.Name x p) (e :: es) [] pos) (nFn M dds g) :=
  vn_cal C hr hj tk hg ha hdb he hpl
theorem x_join {apos : Pos} (ha : VE X W a fa) (hb : VE X W b fb) (hs : starEach [b] X.env = [(false, eval b X.env)] := by rfl) (hbase : attributeBase a "join" X.env (eval a X.env) = eval a X.env := by rfl) (hline : (apos.endLine == pos.line) = true := by rfl) :
    VE X W (.Call (.Attribute a "join" apos) [b] [] pos) (mJoin fa fb) := ve_join ha hb hs hbase hline
theorem x_app (i : Nat) {apos cpos : Pos} (ha : VE X W e fa) (hN : X.N[i]? = some x := by rfl) (hv : Vis X.env.scope x := by first | exact .inl rfl | exact .inr (.inl rfl) | exact .inr (.inr rfl)) (hd : (x == ("__debug__" : Str)) = false := by decide) (hcd : (x == ("__classdict__" : Str)) = false := by decide)
    (hline : (apos.endLine == cpos.line) = true := by rfl) (hs : starEach [e] X.env = (false, eval e X.env) :: starEach [] X.env := by rfl) : VE X W (.Call (.Attribute (.Name x p) "append" apos) [e] [] cpos) (mApp i fa) := ve_append hN hv hd hcd ha hline hs
theorem x_xf {n : Str} {C : Addr} (T : XfC X.K C) (hno : PySem.W.findIn X.K (.ref C) n = some none) (he : VE X W e fe) (hb : attributeBase e n X.env (eval e X.env) = eval e X.env := by rfl) : VE X W (.Attribute e n pos) (mXf C n fe) := ve_xf T hno he hb
/-- isinstance of an own class -/
theorem x_isC {C : Addr} {y : Str} {q : Pos} {ans : Tag → Option Bool} (hm : X.mg "isinstance" = none) (hC : X.mg y = some (.ref C)) (hans : ∀ t b, ans t = some b → PySem.W.kitOne X.K t.val (.ref C) = some b) (hxc : ∀ C' b, ans (.cls C') = some b → L2.ExcC X.K C')
    (he : VE X W e fe) (hg : Gl X "isinstance" := by rfl) (hgy : Gl X y := by rfl) (hdy : (y == ("__debug__" : Str)) = false := by decide) (hs1 : starEach [e, .Name y q] X.env = (false, eval e X.env) :: starEach [.Name y q] X.env := by rfl) (hs2 : starEach [.Name y q] X.env = [(false, eval (.Name y q) X.env)] := by rfl)
    (hpl : (backTo pos (starEach [.Name y q] X.env)).any (·.1) = false := by rfl) : VE X W (.Call (.Name "isinstance" p) [e, .Name y q] [] pos) (mIsi ans fe) :=
  ve_isi (te := fun _ _ _ => True) (x' := "") (pos' := pos) hg hm PyProof.Rows.boot_isinstance (pe_glob (v := .ref C) hgy hC rfl hdy) (.own C) hans hxc he hs1 hs2 hpl
/-- isinstance of a built-in type -/
theorem x_isT {n : String} {y : Str} {q : Pos} {ans : Tag → Option Bool} (hm : X.mg "isinstance" = none) (hC : X.mg y = none) (hv : bootBuiltins y = some (.type n)) (hans : ∀ t b, ans t = some b → PySem.W.kitOne X.K t.val (.type n) = some b) (hxc : ∀ C' b, ans (.cls C') = some b → L2.ExcC X.K C')
    (he : VE X W e fe) (hg : Gl X "isinstance" := by rfl) (hgy : Gl X y := by rfl) (hny : y ≠ "__name__" := by decide) (hdy : (y == ("__debug__" : Str)) = false := by decide) (hs1 : starEach [e, .Name y q] X.env = (false, eval e X.env) :: starEach [.Name y q] X.env := by rfl)
    (hs2 : starEach [.Name y q] X.env = [(false, eval (.Name y q) X.env)] := by rfl) (hpl : (backTo pos (starEach [.Name y q] X.env)).any (·.1) = false := by rfl) : VE X W (.Call (.Name "isinstance" p) [e, .Name y q] [] pos) (mIsi ans fe) :=
  ve_isi (te := fun _ _ _ => True) (x' := "") (pos' := pos) hg hm PyProof.Rows.boot_isinstance (pe_bltn (v := .ty n) hgy hC hv rfl hny hdy) (.ty n) hans hxc he hs1 hs2 hpl
end
section
variable {X : Cx} {W : XK} {e a b c o tg iter elt : Expr} {es ifs : List Expr} {pos p : Pos} {x : Str} {fe fa fb fc : Sl → Res Val} {g : Sl → Res (List Val)} {fI fi : Sl → Res (List D)} {t : TgF} {ft : Sl → Res Bool} {fb' : Sl → SR} {body : List Stmt}
/-! targets -/
theorem g_n (i : Nat) (hN : X.N.Nodup) (hi : X.N[i]? = some x := by rfl) (hx : Loc X.env.scope x := by first | exact .inl rfl | exact .inr rfl) (hf : X.fn x = true ∨ X.env.scope.names.lookup x = some .local := by first | exact .inr rfl | exact .inl rfl) : VTg X (.Name x pos) (.nm i) := vtg_name hN hi hx hf
theorem g_c (i : Nat) {is : List Nat} (hN : X.N.Nodup) (h : VNs X es is) (hi : X.N[i]? = some x := by rfl) (hx : Loc X.env.scope x := by first | exact .inl rfl | exact .inr rfl) (hf : X.fn x = true ∨ X.env.scope.names.lookup x = some .local := by first | exact .inr rfl | exact .inl rfl)
    (hs : (assignEach (.Name x pos :: es) X.env).map (·.2) = assign (.Name x pos) X.env :: (assignEach es X.env).map (·.2) := by rfl) : VNs X (.Name x pos :: es) (i :: is) := vns_cons hN hi hx hf h hs
theorem g_t {is : List Nat} {k : Nat} (h : VNs X es is) (hc : X.calm = true := by rfl) (hn : (assignEach es X.env).length = is.length := by rfl) (hst : (assignEach es X.env).findIdx? (·.1) = none := by rfl) : VTg X (.Tuple es k pos) (.tp is) := vtg_tup hc h hn hst
theorem h_n (i : Nat) (hN : X.N.Nodup) (hi : X.N[i]? = some x := by rfl) (hx : Loc X.env.scope x := by first | exact .inl rfl | exact .inr rfl) (hf : X.fn x = true ∨ X.env.scope.names.lookup x = some .local := by first | exact .inr rfl | exact .inl rfl) : VGt X (.Name x pos) (aNm i) := vgt_name hN hi hx hf
theorem h_c {f : D → Sl → Option Sl} {g : List D → Sl → Option Sl} (h1 : VGt X e f) (h2 : VGs X es g) (hs : (assignEach (e :: es) X.env).map (·.2) = assign e X.env :: (assignEach es X.env).map (·.2) := by rfl) : VGs X (e :: es) (aCons f g) := vgs_cons h1 h2 hs
theorem h_t {n kt : Nat} {g : List D → Sl → Option Sl} (h : VGs X es g) (hc : X.calm = true := by rfl) (hn : (assignEach es X.env).length = n := by rfl) (hst : (assignEach es X.env).findIdx? (·.1) = none := by rfl) : VGt X (.Tuple es kt pos) (aTup n g) := vgt_tup hc h hn hst
theorem h_ix (i : Nat) {k : Expr} {fk : Sl → Res Val} (hk : VE X W0 k fk) (hi : X.N[i]? = some x := by rfl) (hv : Vis X.env.scope x := by first | exact .inl rfl | exact .inr (.inl rfl) | exact .inr (.inr rfl)) (hd : (x == ("__debug__" : Str)) = false := by decide) (hcd : (x == ("__classdict__" : Str)) = false := by decide)
    (ha : ∀ v, assign (.Subscript (.Name x p) k pos) X.env v = (do
      let ov ← holding [v] (eval (.Name x p) X.env)
      let iv ← holding [v, ov] (eval k X.env)
      standAt pos
      holding [v, ov, iv] (setItem ov iv v)
      release [v, ov, iv] []) := by intro _; rfl) : VGt X (.Subscript (.Name x p) k pos) (ixRun i fk) := vgt_ix hi hv hd hcd hk ha
/-! iterables -/
theorem i_r1 (h : VA X W [a] g) (hm : X.mg "range" = none) (hg : Gl X "range" := by rfl) (hs : starEach [a] X.env = [(false, eval a X.env)] := by rfl) : VI X W tg (.Call (.Name "range" p) [a] [] pos) (mRng1 g) := vi_range1 h hg hm hs
theorem i_r2 (h : VA X W [a, b] g) (hm : X.mg "range" = none) (hg : Gl X "range" := by rfl) (hs : starEach [a, b] X.env = [(false, eval a X.env), (false, eval b X.env)] := by rfl) (hs2 : starEach [b] X.env = [(false, eval b X.env)] := by rfl) : VI X W tg (.Call (.Name "range" p) [a, b] [] pos) (mRng2 g) := vi_range2 h hg hm hs hs2
theorem i_zip {elts : List Expr} {kk : Nat} {tpos : Pos} (h : VA X W [a, b] g) (hm : X.mg "zip" = none) (hg : Gl X "zip" := by rfl) (hs : starEach [a, b] X.env = (false, eval a X.env) :: starEach [b] X.env := by rfl) (hpl : (backTo pos (starEach [b] X.env)).any (·.1) = false := by rfl) :
    VI X W (.Tuple elts kk tpos) (.Call (.Name "zip" p) [a, b] [] pos) (mZip g) := vi_zip h hg hm hs hpl
theorem i_enm {elts : List Expr} {kk : Nat} {tpos : Pos} (ha : VE X W e fe) (hm : X.mg "enumerate" = none) (hg : Gl X "enumerate" := by rfl) (hs : starEach [e] X.env = [(false, eval e X.env)] := by rfl) : VI X W (.Tuple elts kk tpos) (.Call (.Name "enumerate" p) [e] [] pos) (mEnm fe) := vi_enum hg hm ha hs
/-! comprehensions -/
theorem n_lc (own : List (Str × Nat)) {scope : Scope} (hN : X.N.Nodup) (hi : VI X W tg iter fI)
    (hg : ∀ (s : Shared) (H : Hp) (C : Addr) (cl : List (Str × Addr)) (fp : List Addr), VTg (X.blk s H scope (compEnvC scope cl C X.env) fp) tg t)
    (ht : ∀ (s : Shared) (H : Hp) (C : Addr) (cl : List (Str × Addr)) (fp : List Addr), VTs (X.blk s H scope (compEnvC scope cl C X.env) fp) ifs ft)
    (he : ∀ (s : Shared) (H : Hp) (C : Addr) (cl : List (Str × Addr)) (fp : List Addr), VE (X.blk s H scope (compEnvC scope cl C X.env) fp) W0 elt fe)
    (ok : BlkOk X.N X.env.scope scope own := by exact blkOk_by (by kernel_rfl)) (hc : X.calm = true := by rfl) (hs : ∀ x, foldedSetIterable iter X.env x = pure x := by intro _; rfl)
    (hsl : ∀ i ∈ t.sl, i ∈ own.map (·.2) := by decide) : VN X W (.ListComp elt [⟨tg, iter, ifs, 0⟩] scope pos) (nLc fI t ft fe (own.map (·.2))) := vn_lc hc hN hi ok hg ht he hs hsl
/-! statements -/
theorem s_e (h : VE X W e fe) (hs : swapsWith e none pos.line X.env = pure false := by rfl) : VS X W (.Expr e pos) (sDrop fe) := vs_expr h hs
theorem s_s (i : Nat) {pos' : Pos} (hN : X.N.Nodup) (h : VE X W e fe) (hi : X.N[i]? = some x := by rfl) (hx : Loc X.env.scope x := by first | exact .inl rfl | exact .inr rfl) (hs : swapsWith e (some (.Name x pos')) pos.line X.env = pure false := by rfl)
    (hf : X.fn x = true ∨ X.env.scope.names.lookup x = some .local := by first | exact .inr rfl | exact .inl rfl) : VS X W (.Assign [.Name x pos'] e pos) (sSet i fe) := vs_set hN hi hx h hs hf
theorem s_o (i : Nat) {pos' : Pos} {fl : Sl → Res (List D)} (hN : X.N.Nodup) (h : VN X W e fl) (hi : X.N[i]? = some x := by rfl) (hx : Loc X.env.scope x := by first | exact .inl rfl | exact .inr rfl) (hs : swapsWith e (some (.Name x pos')) pos.line X.env = pure false := by rfl)
    (hf : X.fn x = true ∨ X.env.scope.names.lookup x = some .local := by first | exact .inr rfl | exact .inl rfl) : VS X W (.Assign [.Name x pos'] e pos) (sOwn i fl) := vs_own hN hi hx h hs hf
/-- name = [..] in one line -/
theorem s_lc (i : Nat) (own : List (Str × Nat)) {scope : Scope} {y : Str} {py spos : Pos} (hN : X.N.Nodup) (hi : VI X W tg iter fI)
    (hg : ∀ (s : Shared) (H : Hp) (C : Addr) (cl : List (Str × Addr)) (fp : List Addr), VTg (X.blk s H scope (compEnvC scope cl C X.env) fp) tg t)
    (ht : ∀ (s : Shared) (H : Hp) (C : Addr) (cl : List (Str × Addr)) (fp : List Addr), VTs (X.blk s H scope (compEnvC scope cl C X.env) fp) ifs ft)
    (he : ∀ (s : Shared) (H : Hp) (C : Addr) (cl : List (Str × Addr)) (fp : List Addr), VE (X.blk s H scope (compEnvC scope cl C X.env) fp) W0 elt fe)
    (hy : X.N[i]? = some y := by rfl) (hyl : X.env.scope.names.lookup y = some .local := by rfl) (hsw : swapsWith (.ListComp elt [⟨tg, iter, ifs, 0⟩] scope pos) (some (.Name y py)) spos.line X.env = pure true := by rfl)
    (ok : BlkOk X.N X.env.scope scope own := by exact blkOk_by (by kernel_rfl)) (hc : X.calm = true := by rfl) (hs : ∀ x, foldedSetIterable iter X.env x = pure x := by intro _; rfl)
    (hsl : ∀ i ∈ t.sl, i ∈ own.map (·.2) := by decide) : VS X W (.Assign [.Name y py] (.ListComp elt [⟨tg, iter, ifs, 0⟩] scope pos) spos) (sSet i (nVal (nLc fI t ft fe (own.map (·.2))))) := by
  obtain ⟨te, h1, h2⟩ := ps_lc (X := X) (W := W) hc hN hy hyl hsw hi ok hg ht he hs hsl
  exact ⟨_, h1, svv_set (nvv_val h2)⟩
/-- the same, the list our own -/
theorem s_lo (i : Nat) (own : List (Str × Nat)) {scope : Scope} {y : Str} {py spos : Pos} (hN : X.N.Nodup) (hi : VI X W tg iter fI)
    (hg : ∀ (s : Shared) (H : Hp) (C : Addr) (cl : List (Str × Addr)) (fp : List Addr), VTg (X.blk s H scope (compEnvC scope cl C X.env) fp) tg t)
    (ht : ∀ (s : Shared) (H : Hp) (C : Addr) (cl : List (Str × Addr)) (fp : List Addr), VTs (X.blk s H scope (compEnvC scope cl C X.env) fp) ifs ft)
    (he : ∀ (s : Shared) (H : Hp) (C : Addr) (cl : List (Str × Addr)) (fp : List Addr), VE (X.blk s H scope (compEnvC scope cl C X.env) fp) W0 elt fe)
    (hy : X.N[i]? = some y := by rfl) (hyl : X.env.scope.names.lookup y = some .local := by rfl) (hsw : swapsWith (.ListComp elt [⟨tg, iter, ifs, 0⟩] scope pos) (some (.Name y py)) spos.line X.env = pure true := by rfl)
    (ok : BlkOk X.N X.env.scope scope own := by exact blkOk_by (by kernel_rfl)) (hc : X.calm = true := by rfl) (hs : ∀ x, foldedSetIterable iter X.env x = pure x := by intro _; rfl)
    (hsl : ∀ i ∈ t.sl, i ∈ own.map (·.2) := by decide) : VS X W (.Assign [.Name y py] (.ListComp elt [⟨tg, iter, ifs, 0⟩] scope pos) spos) (sOwn i (nLc fI t ft fe (own.map (·.2)))) := by
  obtain ⟨te, h1, h2⟩ := ps_lc (X := X) (W := W) hc hN hy hyl hsw hi ok hg ht he hs hsl
  exact ⟨_, h1, svv_own h2⟩
theorem s_u (h : VE X W e fe) (hg : VTg X tg t) (hs : swapsWithSole [tg] e pos.line X.env = pure false := by rfl) (hw : swappedStores [tg] e X.env = pure none := by rfl) (h1 : (assignEach [tg] X.env).map (·.2) = [assign tg X.env] := by rfl) : VS X W (.Assign [tg] e pos) (sUnp t fe) := vs_unp h hg hs hw h1
theorem s_p2 (i j : Nat) {x y : Str} {a b : Expr} {px py pt : Pos} {kt k2 pt2} (hN : X.N.Nodup) (ha : VA X W [a, b] g) (hc : X.calm = true := by rfl) (hi : X.N[i]? = some x := by rfl) (hj : X.N[j]? = some y := by rfl) (hij : i ≠ j := by decide)
    (hx : X.env.scope.names.lookup x = some .local := by rfl) (hy : X.env.scope.names.lookup y = some .local := by rfl)
    (hw : swappedStores [.Tuple [.Name x px, .Name y py] kt pt] (.Tuple [a, b] k2 pt2) X.env = pure (some [x, y]) := by rfl)
    (hs : swapsWithSole [.Tuple [.Name x px, .Name y py] kt pt] (.Tuple [a, b] k2 pt2) pos.line X.env = pure false := by rfl) :
    VS X W (.Assign [.Tuple [.Name x px, .Name y py] kt pt] (.Tuple [a, b] k2 pt2) pos) (sUnp (.tp [i, j]) (mTup g)) := vs_par2 hc hN hi hj hij hx hy ha hw hs
theorem s_p3 (i j l : Nat) {x y z : Str} {a b c : Expr} {px py pz pt : Pos} {kt k2 pt2} (hN : X.N.Nodup) (ha : VA X W [a, b, c] g) (hc : X.calm = true := by rfl) (hi : X.N[i]? = some x := by rfl) (hj : X.N[j]? = some y := by rfl) (hl : X.N[l]? = some z := by rfl) (hij : i ≠ j := by decide) (hil : i ≠ l := by decide) (hjl : j ≠ l := by decide)
    (hx : X.env.scope.names.lookup x = some .local := by rfl) (hy : X.env.scope.names.lookup y = some .local := by rfl) (hz : X.env.scope.names.lookup z = some .local := by rfl)
    (hw : swappedStores [.Tuple [.Name x px, .Name y py, .Name z pz] kt pt] (.Tuple [a, b, c] k2 pt2) X.env = pure (some [x, y, z]) := by rfl)
    (hs : swapsWithSole [.Tuple [.Name x px, .Name y py, .Name z pz] kt pt] (.Tuple [a, b, c] k2 pt2) pos.line X.env = pure false := by rfl) :
    VS X W (.Assign [.Tuple [.Name x px, .Name y py, .Name z pz] kt pt] (.Tuple [a, b, c] k2 pt2) pos) (sUnp (.tp [i, j, l]) (mTup g)) := vs_par3 hc hN hi hj hl hij hil hjl hx hy hz ha hw hs
theorem s_at {f : D → Sl → Option Sl} (h : VE X W e fe) (hg : VGt X tg f) (hs : swapsWithSole [tg] e pos.line X.env = pure false := by rfl) (hw : swappedStores [tg] e X.env = pure none := by rfl) (h1 : (assignEach [tg] X.env).map (·.2) = [assign tg X.env] := by rfl) : VS X W (.Assign [tg] e pos) (sAt f fe) := vs_at h hg hs hw h1
theorem s_for (hp : PassesOwn (model X.prog X.w) X.A X.env X.xe) (hi : VI X W tg iter fi) (hg : VTg X tg t) (hb : VB X W body fb') (hc : X.calm = true := by rfl) (hs : ∀ x, foldedSetIterable iter X.env x = pure x := by intro _; rfl) : VS X W (.For tg iter body [] pos) (sFor t fi fb') := vs_for hp hc hi hg hb hs
end
end VL

end

section
set_option linter.all false
set_option maxRecDepth 100000
set_option maxHeartbeats 4000000
/-! VL 15: tables, exceptions in short. -/
namespace VL
open PySem PySem.Spec PyProof.Rows L2
theorem hu64 {k : Nat} {A : Around} (hr : RoomG k A) : A.units + 64 < cLine := by
  have := hr.r.un
  omega
/-- a table of the module, texts to data -/
structure TabK (K : PySem.W.Frag) (mg : Str → Option Value) (w : World) (x : Str) (tab : Str → Option D) : Prop where
  ex : ∃ p es n, mg x = some (.ref p) ∧ K.lookup p = some ⟨.type "dict", none, .dict es n, #[]⟩ ∧ PySem.W.KeysLit w.params es.toList ∧ (p == sysModules) = false ∧
    ∀ z, match tab z with
      | some d => ∃ v u, PySem.W.nsIn K p z = some (some u) ∧ RelV v u ∧ RepK K v d
      | none => PySem.W.nsIn K p z = some none
/-- an exception class that is made of one value, its field f -/
structure ExcMk (P : Program) (w : World) (K : PySem.W.Frag) (mg : Str → Option Value) (base : Heap) (k : Nat) (x : Str) (C : Addr) (f : Str) : Prop where
  T : OexC K C
  hm : mg x = some (.ref C)
  fn : ∃ fI fd ps, PySem.W.findIn K (.ref C) "__init__" = some (some (.ref fI)) ∧ PySem.W.typeIn K (.ref fI) = some (.type "function") ∧ FnOk P w K mg base (L2.CX P w) k fI fd ps (spInit C f) ∧ Binds K fd ps []
section
variable {X : Cx} {W : XK} {e a b c o tg iter : Expr} {es : List Expr} {pos p : Pos} {x : Str} {fe fa fb fc : Sl → Res Val} {g : Sl → Res (List Val)} {tab : Str → Option D}
theorem z_tab (T : TabK X.K X.mg X.w x tab) (he : VE X W e fe) (hg : Gl X x := by rfl) (hs : PlainIx e := by exact fun _ _ => rfl) (hd : (x == ("__debug__" : Str)) = false := by decide) : VE X W (.Subscript (.Name x p) e pos) (mTab tab fe) := ve_tab ⟨hg, T.ex⟩ he hs hd
theorem z_in (T : TabK X.K X.mg X.w x tab) (he : VE X W e fe) (hg : Gl X x := by rfl) (hm : behindInMarks .In (.Name x p) = false := by first | rfl | with_unfolding_all rfl) (hd : (x == ("__debug__" : Str)) = false := by decide) : VE X W (.Compare e [.In] [.Name x p] pos) (mInT tab true fe) := ve_inTab ⟨hg, T.ex⟩ he hm hd
theorem z_nin (T : TabK X.K X.mg X.w x tab) (he : VE X W e fe) (hg : Gl X x := by rfl) (hm : behindInMarks .NotIn (.Name x p) = false := by first | rfl | with_unfolding_all rfl) (hd : (x == ("__debug__" : Str)) = false := by decide) : VE X W (.Compare e [.NotIn] [.Name x p] pos) (mInT tab false fe) := ve_notInTab ⟨hg, T.ex⟩ he hm hd
theorem zt_in (T : TabK X.K X.mg X.w x tab) (he : VE X W e fe) (hg : Gl X x := by rfl) (hm : behindInMarks .In (.Name x p) = false := by first | rfl | with_unfolding_all rfl) (hd : (x == ("__debug__" : Str)) = false := by decide) : VT X W (.Compare e [.In] [.Name x p] pos) (asB (mInT tab true fe)) := vt_inTab ⟨hg, T.ex⟩ he hm hd
theorem zt_nin (T : TabK X.K X.mg X.w x tab) (he : VE X W e fe) (hg : Gl X x := by rfl) (hm : behindInMarks .NotIn (.Name x p) = false := by first | rfl | with_unfolding_all rfl) (hd : (x == ("__debug__" : Str)) = false := by decide) : VT X W (.Compare e [.NotIn] [.Name x p] pos) (asB (mInT tab false fe)) := vt_notInTab ⟨hg, T.ex⟩ he hm hd
theorem s_raise {k j : Nat} {C : Addr} {f : Str} (Z : ExcMk X.prog X.w X.K X.mg X.base j x C f) (hr : RoomG k X.A) (tk : Takes X fun cls d _ H => W cls d H) (ha : VA X W (e :: es) g) (hj : j + 1 ≤ k := by decide) (hc : X.calm = true := by rfl) (hg : Gl X x := by rfl)
    (hdb : (x == ("__debug__" : Str)) = false := by decide) (he : starEach (e :: es) X.env = (false, eval e X.env) :: starEach es X.env := by rfl) (hpl : (backTo pos (starEach es X.env)).any (·.1) = false := by rfl) {rp : Pos} :
    VS X W (.Raise (some (.Call (.Name x p) (e :: es) [] pos)) none rp) (sRaise C f g) := by
  obtain ⟨fI, fd, ps, h1, h2, h3, h4⟩ := Z.fn
  exact vs_raise hc tk Z.T h1 h2 h3 (hr.r.mono hj) h4 hg Z.hm ha hdb he hpl
/-- try: body, except x as n: y = n -/
theorem s_try (i j : Nat) {n y : Str} {C : Addr} {body : List Stmt} {np pos' q1 q2 q3 : Pos} {fb : Sl → SR} {hit : Addr → Option Bool} (hN : X.N.Nodup) (hm : X.mg x = some (.ref C)) (hit_ok : ∀ C' b, hit C' = some b → PySem.W.exmOne X.K (.ref C') (.ref C) = some b)
    (tk : Takes X fun cls d _ H => W cls d H)
    (hb : ∀ (W' : XK) (pn : List (Addr × Obj)) (xe : Value → Shared → Prop), (Takes (X.tr pn xe) fun cls d _ H => W' cls d H) → PassesOwn (model X.prog X.w) X.A X.env xe → VB (X.tr pn xe) W' body fb)
    (hs : X.stack = X.env :: X.outer := by rfl) (hf : X.env.frame = some X.env.locals := by rfl) (hex : X.ex = [] := by rfl) (hi : X.N[i]? = some n := by rfl) (hj : X.N[j]? = some y := by rfl) (hln : X.env.kindOf n = some .local := by rfl) (hly : X.env.scope.names.lookup y = some .local := by rfl)
    (hg : Gl X x := by rfl) (hdx : (x == ("__debug__" : Str)) = false := by decide) (hdn : (n == ("__debug__" : Str)) = false := by decide) (hcn : (n == ("__classdict__" : Str)) = false := by decide)
    (hsw : swapsWith (.Name n q2) (some (.Name y q1)) q3.line X.env = pure false := by rfl) (hij : i ≠ j := by decide) :
    VS X W (.Try body [.ExceptHandler (some (.Name x np)) (some n) [.Assign [.Name y q1] (.Name n q2) q3] pos'] [] [] pos) (sTry hit j fb) :=
  vs_try (c := .ref C) hs hf hex hN hi hj hln hly ⟨hg, hdx, .inl hm⟩ tk hit_ok hdn hcn hsw hij hb
end
/-- exactly the class at C -/
def onlyC (C : Addr) (b : Bool) : Addr → Option Bool := fun C' => if C' = C then some b else none
def tagC (C : Addr) (b : Bool) : Tag → Option Bool
  | .cls C' => if C' = C then some b else none
  | _ => none
theorem onlyC_ok {Q : Addr → Bool → Prop} {C : Addr} {b : Bool} (h : Q C b) : ∀ C' b', onlyC C b C' = some b' → Q C' b' := fun C' b' e => by
  unfold onlyC at e
  split at e
  · rename_i z
    cases e
    rw [z]
    exact h
  · cases e
theorem tagC_ok {Q : Tag → Bool → Prop} {C : Addr} {b : Bool} (h : Q (.cls C) b) : ∀ t b', tagC C b t = some b' → Q t b' := fun t b' e => by
  cases t <;> simp only [tagC] at e <;> first | (cases e; done) | skip
  split at e
  · rename_i z
    cases e
    rw [z]
    exact h
  · cases e
theorem tagC_exc {K : PySem.W.Frag} {C : Addr} {b : Bool} (h : L2.ExcC K C) : ∀ C' b', tagC C b (.cls C') = some b' → L2.ExcC K C' := fun C' b' e => by
  simp only [tagC] at e
  split at e
  · rename_i z
    rw [z]
    exact h
  · cases e
/-- a built-in type's answers -/
def ansB (yes : List Tag) : Tag → Option Bool
  | .cls _ => none
  | t => some (yes.any fun u => match t, u with
    | .non, .non => true | .bl, .bl => true | .int, .int => true | .str, .str => true | .lst, .lst => true | .tup, .tup => true
    | _, _ => false)
theorem ansB_exc {K : PySem.W.Frag} {l : List Tag} : ∀ C' b, ansB l (.cls C') = some b → L2.ExcC K C' := fun _ _ h => by cases h
theorem kit_int {K : PySem.W.Frag} : ∀ t b, ansB [.int, .bl] t = some b → PySem.W.kitOne K t.val (.type "int") = some b := by
  intro t b h
  cases t <;> first | (cases h; done) | (cases h; first | rfl | kernel_rfl)
theorem kit_bool {K : PySem.W.Frag} : ∀ t b, ansB [.bl] t = some b → PySem.W.kitOne K t.val (.type "bool") = some b := by
  intro t b h
  cases t <;> first | (cases h; done) | (cases h; first | rfl | kernel_rfl)
theorem kit_str {K : PySem.W.Frag} : ∀ t b, ansB [.str] t = some b → PySem.W.kitOne K t.val (.type "str") = some b := by
  intro t b h
  cases t <;> first | (cases h; done) | (cases h; first | rfl | kernel_rfl)
theorem kit_tuple {K : PySem.W.Frag} : ∀ t b, ansB [.tup] t = some b → PySem.W.kitOne K t.val (.type "tuple") = some b := by
  intro t b h
  cases t <;> first | (cases h; done) | (cases h; first | rfl | kernel_rfl)
theorem kit_list {K : PySem.W.Frag} : ∀ t b, ansB [.lst] t = some b → PySem.W.kitOne K t.val (.type "list") = some b := by
  intro t b h
  cases t <;> first | (cases h; done) | (cases h; first | rfl | kernel_rfl)
end VL

end

section
set_option linter.all false
set_option maxRecDepth 100000
set_option maxHeartbeats 4000000
/-! VL 16: facts of the module's top put into the shapes that the derivations ask for. -/
namespace VL
open PySem PySem.Spec PyProof.Rows L2
/-- a dict's entries as a table -/
inductive TabE (K : PySem.W.Frag) : List DictEntry → List (Str × D) → Prop
  | nil : TabE K [] []
  | cons {e : DictEntry} {es : List DictEntry} {s : Str} {t : Tok} {v : V} {d : D} {ds : List (Str × D)} : e.key = .str s t → RelV v e.val → RepK K v d → TabE K es ds → TabE K (e :: es) ((s, d) :: ds)
def tabOf (l : List (Str × D)) : Str → Option D := fun z => l.lookup z
theorem TabE.find {K : PySem.W.Frag} : ∀ {es : List DictEntry} {l : List (Str × D)}, TabE K es l → (es.any (·.refKey)) = false ∧ ∀ z, match tabOf l z with
      | some d => ∃ e v, es.find? (·.key.isStr z) = some e ∧ RelV v e.val ∧ RepK K v d
      | none => es.find? (·.key.isStr z) = none
  | _, _, .nil => ⟨rfl, fun z => rfl⟩
  | _, _, .cons (e := e) (s := s) (t := t) (v := v) (d := d) (ds := ds) h1 h2 h3 h4 => by
    obtain ⟨k1, k2⟩ := TabE.find h4
    refine ⟨?_, fun z => ?_⟩
    · rw [List.any_cons, k1, Bool.or_false]
      unfold DictEntry.refKey
      rw [h1]
    · unfold tabOf
      rw [List.lookup_cons, List.find?_cons]
      have q : e.key.isStr z = (s == z) := by rw [h1]; rfl
      have q2 : (z == s) = (s == z) := by
        by_cases w : s = z
        · subst w; rfl
        · have w1 : (s == z) = false := by simpa using w
          have w2 : (z == s) = false := by simpa using fun x => w x.symm
          rw [w1, w2]
      rw [q, q2]
      cases w : (s == z) with
      | true => exact ⟨e, v, rfl, h2, h3⟩
      | false => exact k2 z
theorem tabK_mk {K : PySem.W.Frag} {mg : Str → Option Value} {w : World} {x : Str} {p : Addr} {es : Array DictEntry} {n : Nat} {l : List (Str × D)} (hm : mg x = some (.ref p)) (hl : K.lookup p = some ⟨.type "dict", none, .dict es n, #[]⟩) (hk : PySem.W.KeysLit w.params es.toList) (hs : (p == sysModules) = false)
    (hE : TabE K es.toList l) : TabK K mg w x (tabOf l) := by
  obtain ⟨k1, k2⟩ := hE.find
  refine ⟨p, es, n, hm, hl, hk, hs, fun z => ?_⟩
  have q := k2 z
  cases hz : tabOf l z with
  | some d =>
    rw [hz] at q
    obtain ⟨e, v, h1, h2, h3⟩ := q
    refine ⟨v, e.val, ?_, h2, h3⟩
    unfold PySem.W.nsIn
    rw [hl]
    simp only [h1]
  | none =>
    rw [hz] at q
    unfold PySem.W.nsIn
    rw [hl]
    simp only [q, k1]
    rfl
/-- a tuple of the module -/
theorem repK_tup {K : PySem.W.Frag} {a : Addr} {o : Obj} {its : Array Value} {n : Nat} {vs : List V} {ds : List D} (h : K.lookup a = some o) (hc : o.cls = .type "tuple") (hd : o.data = .seq its n) (hz : its.size ≤ sizeLine) (hv : Vals vs its.toList) (hr : ∀ G, RepA K G vs ds) : RepK K (.ref a) (.tup ds) :=
  fun G => .tup (.inr ⟨o, its, n, h, hc, hd, hz, hv⟩) (hr G)
/-- what the written part tells of an exception class with such an __init__ -/
structure ExcFacts (P : Program) (K : PySem.W.Frag) (mg : Str → Option Value) (x f slf y : Str) (C : Addr) : Prop where
  hm : mg x = some (.ref C)
  T : OexC K C
  ex : ∃ (fI cc cda : Addr) (name qual : Str) (params : Arguments) (scope : Scope) (dV kV doc pm ct oc : Value) (an od : Option Addr) (osl : Array (Option Value)) (p0 p1 p2 p3 p4 p5 p6 p7 p8 p9 : Pos) (ar : Arg),
    InitSc scope slf y ∧ InitK P K mg C cc cda qual f ∧
    K.lookup fI = some ⟨oc, od, .func (PySem.W.ksFn name qual params (initBody slf y f p0 p1 p2 p3 p4 p5 p6 p7 p8 p9) scope dV kV doc pm an (.ref cda) ct cc), osl⟩ ∧
    (params.posonlyargs ++ params.args).head? = some ar ∧ ar.arg = slf ∧
    (∀ env : Env, ∃ pl : Sem Bool, eval (.Call (.Attribute (.Call (.Name "super" p0) [] [] p1) "__init__" p2) [.Name y p3] [] p4) env = (do
      let ov ← attributeBase (.Call (.Name "super" p0) [] [] p1) "__init__" env (eval (.Call (.Name "super" p0) [] [] p1) env)
      standAt p2.atName
      let (f, first) ← holding [ov] (getMethod ov "__init__" pl)
      callWith p4 f first (backTo p4 (starEach [.Name y p3] env)) [])) ∧
    (∀ us : List Value, us.length = [slf, y].length → bindArgs (PySem.W.ksFn name qual params (initBody slf y f p0 p1 p2 p3 p4 p5 p6 p7 p8 p9) scope dV kV doc pm an (.ref cda) ct cc) ⟨us, []⟩ = pure ([slf, y].zip us)) ∧
    PySem.W.findIn K (.ref C) "__init__" = some (some (.ref fI)) ∧ PySem.W.typeIn K (.ref fI) = some (.type "function")
theorem excMk_mk {P : Program} {w : World} {K : PySem.W.Frag} {mg : Str → Option Value} {base : Heap} {x f slf y : Str} {C : Addr} (E : ExcFacts P K mg x f slf y C) : ExcMk P w K mg base 1 x C f := by
  obtain ⟨fI, cc, cda, name, qual, params, scope, dV, kV, doc, pm, ct, oc, an, od, osl, p0, p1, p2, p3, p4, p5, p6, p7, p8, p9, ar, S, Z, lk, hp, har, hM, hb, h1, h2⟩ := E.ex
  exact ⟨E.T, E.hm, fI, _, [slf, y], h1, h2, fn_initsup (k := 0) S Z lk hp har hM, .all hb⟩
theorem kit_self {K : PySem.W.Frag} {C : Addr} : PySem.W.kitOne K (Tag.cls C).val (.ref C) = some true := by
  unfold PySem.W.kitOne
  rw [if_pos (show ((Tag.cls C).val == Value.ref C) = true from beq_self_eq_true _)]
theorem kit_ve {K : PySem.W.Frag} {C : Addr} {b : Bool} (h : PySem.W.subIn K (.ref C) (.type "ValueError") = some b) : PySem.W.kitOne K (Tag.cls C).val (.type "ValueError") = some b := by
  unfold PySem.W.kitOne
  rw [if_neg (show ¬ ((Tag.cls C).val == Value.type "ValueError") = true from fun z => by have := beq_iff_eq.mp z; cases this)]
  unfold PySem.W.kitCls
  show (if PySem.W.kitMeta "ValueError" = true then PySem.W.subIn K (.ref C) (.type "ValueError") else none) = some b
  rw [if_pos (by decide +kernel)]
  exact h
end VL

end

section
set_option linter.all false
set_option maxRecDepth 100000
set_option maxHeartbeats 4000000
/-! VL 17: more new lists of a frame's own. -/
namespace VL
open PySem PySem.Spec PyProof.Rows L2
section
variable {α β : Type} {K : PySem.W.Frag} {W : XK} {c : Ent} {O : Addr → Prop} {G H G1 H1 : Hp} {σ : L2.St} {ρ ρ1 : Sl}
theorem NPost.mono {Q : VK} {r : Res (List D)} (e : Ext O G H G1 H1) (s : Shp ρ ρ1) (h : NPost K W c O G H σ ρ Q r) : NPost K W c O G1 H1 σ ρ1 Q r := by
  cases r with
  | ok v ρ' =>
    rintro x G' H' e1 e2 s1 ⟨p, xs, rfl, n0, n3, n4, n5⟩
    refine h (.ref p) G' H' e1 (e.trans e2) (s.trans s1) ⟨p, xs, rfl, ?_, n3, n4, n5⟩
    cases z : H p with
    | none => rfl
    | some o => exact absurd n0 (e.d p (by rw [z]; simp))
  | exc x ρ' => exact fun cl dd G' H' e1 e2 s1 r1 => h cl dd G' H' e1 (e.trans e2) (s.trans s1) r1
  | stuck => exact h
theorem Vv.thnN {rel : L2.St → Hp → Sl → β → α → Prop} {t : L2.St → Hp → (β → Hp → Prop) → Prop} {f : Sl → Res α} {k : α → Sl → Res (List D)} {R : β → Hp → Prop} {Q : VK}
    (h : Vv K W rel t f) (e : ERep K c O G H σ ρ) (hp : NPost K W c O G H σ ρ Q ((f ρ).bind k))
    (hr : ∀ a ρ1 x G1 H1, ERep K c O G1 H1 σ ρ1 → Ext O G H G1 H1 → Shp ρ ρ1 → rel σ G1 ρ1 x a → NPost K W c O G1 H1 σ ρ1 Q (k a ρ1) → R x H1) : t σ H R := by
  refine h c O G H σ ρ e R ?_
  cases q : f ρ with
  | ok v ρ1 =>
    rw [q] at hp
    intro x G1 H1 e1 x1 s1 r1
    exact hr v ρ1 x G1 H1 e1 x1 s1 r1 (NPost.mono x1 s1 hp)
  | exc x ρ1 =>
    rw [q] at hp
    exact hp
  | stuck =>
    rw [q] at hp
    exact hp
end
section
variable {X : Cx} {W : XK} {a b : Expr} {pos : Pos} {fa fb : Sl → Res Val}
/-- a + b of lists, a new list -/
def nAdd (fa fb : Sl → Res Val) : Sl → Res (List D) := fun ρ => (fa ρ).bind fun x ρ1 => (fb ρ1).bind fun y ρ2 => match rd ρ2 x, rd ρ2 y with
  | some (.lst d), some (.lst e) => if d.length + e.length ≤ SZ then .ok (d ++ e) ρ2 else .stuck
  | _, _ => .stuck
theorem vn_add (ha : VE X W a fa) (hb : VE X W b fb) : VN X W (.BinOp a .Add b pos) (nAdd fa fb) := by
  obtain ⟨ta, a1, a2⟩ := ha.ex
  obtain ⟨tb, b1, b2⟩ := hb.ex
  refine ⟨_, pe_op op_cat a1 b1, fun c O G H σ ρ e Q h => ?_⟩
  refine a2.thnN e h fun x ρ1 v G1 H1 e1 x1 s1 r1 h1 => ?_
  refine b2.thnN e1 h1 fun y ρ2 u G2 H2 e2 x2 s2 r2 h2 => ?_
  have h2' : NPost X.K W c O G2 H2 σ ρ2 Q (match rd ρ2 x, rd ρ2 y with
    | some (.lst d), some (.lst e) => if d.length + e.length ≤ SZ then .ok (d ++ e) ρ2 else .stuck
    | _, _ => .stuck) := h2
  split at h2'
  · rename_i d1 d2 q1 q2
    split at h2'
    · rename_i hz
      obtain ⟨pa, xs, rfl, k1, k2⟩ := (e2.topV (VRep.up r1 x2.g s2) q1).l
      obtain ⟨pb, ys, rfl, k3, k4⟩ := (e2.topV r2 q2).l
      refine ⟨pa, pb, xs, ys, rfl, rfl, k1, k3, by rw [k2.length, k4.length]; exact sz_of hz, fun p hp => ?_⟩
      exact h2' (.ref p) G2 _ (e2.newH hp) (Ext.newH hp) (Shp.refl _) ⟨p, _, rfl, hp, none_of_le e2.sub hp, upd_same, k2.append k4⟩
    · exact h2'.elim
  · exact h2'.elim
end
end VL

end

section
set_option linter.all false
set_option maxRecDepth 100000
set_option maxHeartbeats 4000000
/-! VL 18: repr of data. -/
namespace VL
open PySem PySem.Spec PyProof.Rows L2
/-- what repr shows, where the model has it -/
def reprD (d : D) : Option Str := match d.py with
  | some p => if p.showable = true ∧ p.hasDict = false ∧ p.depth ≤ 60 ∧ p.shown.length ≤ SZ then some p.shown else none
  | none => none
def dRepr : List D → Option D
  | [d] => (reprD d).map .str
  | _ => none
def rRepr (K : PySem.W.Frag) : List V → Hp → VK → Prop := fun xs H Q => ∃ x p, xs = [x] ∧ Dp K H x p ∧ p.showable = true ∧ p.hasDict = false ∧ p.depth ≤ 60 ∧ p.shown.length ≤ SZ ∧ Q (.str p.shown) H
theorem call_reprD {X : Cx} (hu : X.A.units + 64 < cLine) (hg : X.A.guards = some []) : CallR X (.builtin "repr") (rRepr X.K) := by
  intro pins s σ H xs us Q I rx h
  obtain ⟨x, p, rfl, hd, h1, h2, h3, h4, q⟩ := h
  cases rx with
  | cons rv rn =>
    cases rn
    have fin : ∀ (t : Nat), EP X pins σ Q (.str p.shown s.toks) { s with toks := t } := fun t => ⟨.str p.shown, H, I.tok t, ⟨_, rfl⟩, q⟩
    have ref : ∀ (a : Addr) (as : List Addr), Reads s.heap (.ref a) p as → wpAny (model X.prog X.w) X.A (PySem.call (.builtin "repr") [.ref a]) (EP X pins σ Q) X.xe s := fun a as r => by
      refine repr_of_reads' r h1 (PyData.noDict_hsm h2) hg (by omega) (fun _ _ z => z) (fun h' u tk hk => ?_) (sz_of h4)
      exact ⟨.str p.shown, H, I.kept hk, ⟨u, rfl⟩, q⟩
    obtain ⟨as, rd⟩ := Dp.reads I p _ _ hd rv
    cases rd with
    | none => exact PySem.P.repr_of_none (fin _)
    | bool b => exact PySem.P.repr_of_bool (fin _)
    | int i t =>
      refine PySem.P.repr_of_int (by simpa [PyData.showable] using h1) (fin _)
    | str z t => exact PySem.P.repr_of_str (fin _) (sz_of h4)
    | list a b c e => exact ref _ _ (.list a b c e)
    | tuple a b c e => exact ref _ _ (.tuple a b c e)
    | dict a b c e f => exact absurd h2 (by simp [PyData.hasDict])
theorem cd_repr {X : Cx} {k : Nat} (hr : RoomG k X.A) : CallD X (.builtin "repr") dRepr := by
  refine ⟨_, call_reprD (hu64 hr) hr.g, ?_⟩
  intro G H xs ds d Q s rx hg hq
  cases rx with
  | nil => simp [dRepr] at hg
  | @cons v d1 vs ds1 r1 rs =>
    cases rs with
    | cons _ _ => simp [dRepr] at hg
    | nil =>
      simp only [dRepr, reprD] at hg
      cases hp : d1.py with
      | none => rw [hp] at hg; cases hg
      | some p =>
        rw [hp] at hg
        simp only at hg
        split at hg
        · rename_i z
          cases hg
          exact ⟨v, p, rfl, Rep.dp _ _ _ (r1.rep s) hp, z.1, z.2.1, z.2.2.1, z.2.2.2, as_is (.str _) hq⟩
        · cases hg
end VL

end

section
set_option linter.all false
set_option maxRecDepth 100000
set_option maxHeartbeats 4000000
/-! VL 19: a tuple, a list times a number. -/
namespace VL
open PySem PySem.Spec PyProof.Rows L2
/-- nothing to do: the same tuple -/
theorem tup_mul_same (l : Addr) (items : Array Value) (n : Nat) (dd : Option Addr) (sl : Array (Option Value)) (x : Int) (u : Tok) (c0 : (decide (x < -(2 ^ 63)) || decide (x ≥ 2 ^ 63)) = false) (c1 : (items.isEmpty || x == 1) = true) :
    Meets (Builtin.«tuple.__mul__» ⟨[.ref l, .int x u], []⟩) (fun _ R s => s.heap.get? l = some { cls := .type "tuple", dict := dd, data := .seq items n, slots := sl } ∧ R (.ok (.ret (Value.ref l))) s) :=
  .of_wp fun prog w A R s h => by
    obtain ⟨hp, g, d, tk, os⟩ := s
    obtain ⟨hl, h⟩ := h
    have f1 := AutoSeq1.idx_int
    wp_walk using wpAny_loadPart' hl
    repeat (first
      | (refine wpAny_ite_false (decide_eq_false (by rw [c0]; exact Bool.false_ne_true)) ?_; wp_walk using wpAny_loadPart' hl)
      | (refine wpAny_ite_true (decide_eq_true c1) ?_; wp_walk using wpAny_loadPart' hl)
      | (refine wpAny_ite_true c1 ?_; wp_walk using wpAny_loadPart' hl))
    exact ⟨_, rfl, h⟩
/-- times nothing -/
theorem tup_mul_nil (l : Addr) (items : Array Value) (n : Nat) (dd : Option Addr) (sl : Array (Option Value)) (x : Int) (u : Tok) (c0 : (decide (x < -(2 ^ 63)) || decide (x ≥ 2 ^ 63)) = false) (c1 : (items.isEmpty || x == 1) = false) (c2 : (decide (x ≤ 0) || items.isEmpty) = true) :
    Meets (Builtin.«tuple.__mul__» ⟨[.ref l, .int x u], []⟩) (fun _ R s => s.heap.get? l = some { cls := .type "tuple", dict := dd, data := .seq items n, slots := sl } ∧
      R (.ok (.ret (Value.ref s.heap.objs.size))) { s with heap := s.heap.push { cls := Value.type "tuple", data := Data.seq #[] }, toks := s.toks }) :=
  .of_wp fun prog w A R s h => by
    obtain ⟨hp, g, d, tk, os⟩ := s
    obtain ⟨hl, h⟩ := h
    have f1 := AutoSeq1.idx_int
    wp_walk using wpAny_loadPart' hl
    repeat (first
      | (refine wpAny_ite_false (decide_eq_false (by rw [c0]; exact Bool.false_ne_true)) ?_; wp_walk using wpAny_loadPart' hl)
      | (refine wpAny_ite_false (decide_eq_false (by rw [c1]; exact Bool.false_ne_true)) ?_; wp_walk using wpAny_loadPart' hl)
      | (refine wpAny_ite_true (decide_eq_true c2) ?_; wp_walk using wpAny_loadPart' hl)
      | (refine wpAny_ite_true c2 ?_; wp_walk using wpAny_loadPart' hl))
    exact ⟨_, rfl, h⟩
def rRepTA (K : PySem.W.Frag) : R2 := fun x y H Q => ∃ l k xs, x = .ref l ∧ y = .int k ∧ SqT K H l xs ∧ 0 ≤ k ∧ k ≤ 1000 ∧ xs.length ≤ 1000 ∧
  ((xs = [] ∨ k = 1) → Q (.ref l) H) ∧ (xs ≠ [] → k ≠ 1 → ∀ p, H p = none → Q (.ref p) (upd H p (.tup (List.replicate k.toNat xs).flatten)))
theorem op_repTA {X : Cx} : OpR X (binaryOp .Mult) (rRepTA X.K) := by
  intro pins s σ H x y v u Q I rx ry h
  obtain ⟨l, k, xs, rfl, rfl, hT, h0, h1, hz, qs, qn⟩ := h
  by_cases hbig : xs ≠ [] ∧ 2 ≤ k
  · exact op_repT pins s σ H (.ref l) (.int k) v u Q I rx ry ⟨l, k, xs, rfl, rfl, hT, hbig.1, hbig.2, h1, hz, qn hbig.1 (by omega)⟩
  cases rx
  obtain ⟨t, rfl⟩ := ry
  obtain ⟨its, r, ⟨⟨cls, dd, data, sl⟩, ho, hc, n, hd⟩, hs⟩ := I.tuple hT
  simp only at hc hd
  subst hc hd
  have c0 : (decide (k < -(2 ^ 63)) || decide (k ≥ 2 ^ 63)) = false := by
    rw [Bool.or_eq_false_iff]
    constructor <;> exact decide_eq_false (by omega)
  have he : xs = [] ↔ its.toArray.isEmpty = true := by
    have hl := r.length
    constructor
    · rintro rfl
      cases its with
      | nil => rfl
      | cons a b => cases hl
    · intro z
      cases its with
      | nil => exact List.eq_nil_of_length_eq_zero hl
      | cons a b => cases z
  have go : ∀ {res : Value} {h' : Heap}, Meets (Builtin.«tuple.__mul__» ⟨[.ref l, .int k t], []⟩) (fun _ R s => s.heap.get? l = some { cls := .type "tuple", dict := dd, data := .seq its.toArray n, slots := sl } ∧ R (.ok (.ret res)) { s with heap := h' }) → True := fun _ => trivial
  by_cases hsame : xs = [] ∨ k = 1
  · have c1 : (its.toArray.isEmpty || k == 1) = true := by
      rcases hsame with z | z
      · rw [he.mp z]; rfl
      · rw [z]; simp
    exact wpAny_binaryOp_repeat_ref (T := "tuple") (U := "int") (by decide) ⟨_, ho, rfl⟩ (fun s' => typeIs_int s' k t) noFill_tuple_mul F.fills_int_mul F.slot_int_rmul repeat_tuple F.slot_int_index.lookup
      (call_meets F.slot_int_rmul (typeIs_int s k t) F.entry_int_rmul (F.args_int_rmul_2 _ _) (int_rmul_tuple k t l its.toArray n dd sl)
        ⟨ho, rfl, ⟨_, ho, rfl⟩, call_meets F.slot_tuple_mul ⟨_, ho, rfl⟩ F.entry_tuple_mul (F.args_tuple_mul_2 _ _) (tup_mul_same l its.toArray n dd sl k t c0 c1) ⟨ho, .ref l, H, I, rfl, qs hsame⟩⟩)
  · have hx : xs ≠ [] := fun z => hsame (.inl z)
    have hk : k ≠ 1 := fun z => hsame (.inr z)
    have hk0 : k = 0 := by
      by_cases z : 2 ≤ k
      · exact absurd ⟨hx, z⟩ hbig
      · omega
    have hne : its.toArray.isEmpty = false := by
      cases z : its.toArray.isEmpty with
      | true => exact absurd (he.mpr z) hx
      | false => rfl
    have c1 : (its.toArray.isEmpty || k == 1) = false := by
      rw [hne, hk0]; rfl
    have c2 : (decide (k ≤ 0) || its.toArray.isEmpty) = true := by
      rw [hk0]; rfl
    have q := qn hx hk
    rw [hk0] at q
    refine wpAny_binaryOp_repeat_ref (T := "tuple") (U := "int") (by decide) ⟨_, ho, rfl⟩ (fun s' => typeIs_int s' k t) noFill_tuple_mul F.fills_int_mul F.slot_int_rmul repeat_tuple F.slot_int_index.lookup
      (call_meets F.slot_int_rmul (typeIs_int s k t) F.entry_int_rmul (F.args_int_rmul_2 _ _) (int_rmul_tuple k t l its.toArray n dd sl)
        ⟨ho, rfl, ⟨_, ho, rfl⟩, call_meets F.slot_tuple_mul ⟨_, ho, rfl⟩ F.entry_tuple_mul (F.args_tuple_mul_2 _ _) (tup_mul_nil l its.toArray n dd sl k t c0 c1 c2) ⟨ho, ?_⟩⟩)
    refine ⟨.ref s.heap.objs.size, _, I.laid (t' := s.toks) (o := .tup []) (fun b ob z => Heap.get?_push_of_some _ z) (Nat.le_refl _) ?_, rfl, q _ (I.hok.fresh (Nat.le_refl _))⟩
    exact ⟨by rw [sizeLine_eq]; decide, [], .nil, IsTup.new _ _⟩
/-- a tuple, a list times a number -/
def dMulS : D → D → Option D
  | .tup xs, .int k => if 0 ≤ k ∧ k ≤ 1000 ∧ xs.length ≤ 1000 then some (.tup (List.replicate k.toNat xs).flatten) else none
  | .lst xs, .int k => if 0 ≤ k ∧ k ≤ 1000 ∧ xs.length ≤ 1000 then some (.lst (List.replicate k.toNat xs).flatten) else none
  | _, _ => none
theorem opd_mulS {X : Cx} : OpD X (binaryOp .Mult) dMulS := by
  refine ⟨_, op_repTA.or op_rep, ?_⟩
  intro G H x y dx dy d Q s rx ry hg hq
  cases dx <;> cases dy <;> simp only [dMulS] at hg <;> first | (cases hg; done) | skip
  · split at hg
    · rename_i xs k h
      cases hg
      obtain ⟨a, vs, rfl, h1, h2⟩ := rx.l
      refine .inr ⟨a, k, vs, rfl, ry.i, h1, by omega, by omega, ?_, fun p hp => new_lst s hp (h2.rep _) hq⟩
      rw [h2.length]
      have a1 : xs.length * k.toNat ≤ 1000 * 1000 := Nat.mul_le_mul h.2.2 (by omega)
      rw [sizeLine_eq]
      omega
    · cases hg
  · split at hg
    · rename_i xs k h
      cases hg
      obtain ⟨a, vs, rfl, h1, h2⟩ := rx.t
      refine .inl ⟨a, k, vs, rfl, ry.i, le_t s h1, h.1, h.2.1, by rw [h2.length]; exact h.2.2, fun z => ?_, fun _ _ p hp => new_tup s hp (h2.rep _) hq⟩
      rcases z with z | z
      · have e' := h2.nil_iff.mp z
        subst e'
        have fl : (List.replicate k.toNat ([] : List D)).flatten = [] := by simp
        rw [fl] at hq
        exact as_is (.tup h1 h2) hq
      · subst z
        have fl : (List.replicate (1 : Int).toNat xs).flatten = xs := by simp
        rw [fl] at hq
        exact as_is (.tup h1 h2) hq
    · cases hg
end VL

end

section
set_option linter.all false
set_option maxRecDepth 100000
set_option maxHeartbeats 4000000
/-! VL 20: try: .. except X: without a name. -/
namespace VL
open PySem PySem.Spec PyProof.Rows L2
def noExc : SR → SR
  | .exc _ _ => .stuck
  | r => r
/-- try: body, except x: suite (it starts with nothing known of the slots) -/
def sTryN (hit : Addr → Option Bool) (fb fs : Sl → SR) : Sl → SR := fun ρ => match fb ρ with
  | .exc x ρ1 => (match hit x.C with
    | some true => noExc (fs (unk ρ))
    | some false => .exc x ρ1
    | none => .stuck)
  | r => r
/-- a wish whatever the slots are -/
def lowW (L : Nat) (W : WX) : XK := fun cls d H => ∀ σ : L2.St, σ.length = L → W cls d σ H
theorem takes_low {X : Cx} {W : WX} (t : Takes X W) : Takes X fun cls d _ H => lowW X.N.length W cls d H := by
  intro u s' h
  obtain ⟨a, B, sI, pins, σ, H, cls, d, e, I, nb, up, sky, na, os, ag, w⟩ := h
  exact t u s' ⟨a, B, sI, pins, σ, H, cls, d, e, I, nb, up, sky, na, os, ag, w σ I.len⟩
theorem VB.cs {X : Cx} {W : XK} {body : List Stmt} {f : Sl → SR} {L : Nat} (h : VB X W body f) : PSs X body (cS X.K W L f) := by
  obtain ⟨t, h1, h2⟩ := h.ex
  refine ⟨fun pins s σ H D I q => ?_⟩
  obtain ⟨c, O, G, ρ, e, hp⟩ := q
  exact h1.run pins s σ H D I (h2 c O G H σ ρ e D hp)
theorem SPost.noExc {K : PySem.W.Frag} {W W' : XK} {c : Ent} {G : Hp} {D : Ends} {r : SR} (h : SPost K W c G D (VL.noExc r)) : SPost K W' c G D r := by
  cases r with
  | nx ρ => exact h
  | rt d ρ => exact h
  | ro d ρ => exact h
  | bk ρ => exact h
  | ct ρ => exact h
  | exc x ρ => exact h.elim
  | stuck => exact h.elim
section
variable {X : Cx} {W : XK} {x : Str} {C : Addr} {body suite : List Stmt} {b0 : Stmt} {np pos pos' : Pos} {fb fs : Sl → SR} {hit : Addr → Option Bool}
theorem s_tryN (hm : X.mg x = some (.ref C)) (hit_ok : ∀ C' b, hit C' = some b → PySem.W.exmOne X.K (.ref C') (.ref C) = some b) (tk : Takes X fun cls d _ H => W cls d H)
    (hb : ∀ (W' : XK) (pn : List (Addr × Obj)) (xe : Value → Shared → Prop), (Takes (X.tr pn xe) fun cls d _ H => W' cls d H) → PassesOwn (model X.prog X.w) X.A X.env xe → VB (X.tr pn xe) W' body fb)
    (hsu : ∀ (a : Addr) (pn : List (Addr × Obj)), VB (X.suite a pn) W0 (b0 :: suite) fs)
    (hs : X.stack = X.env :: X.outer := by rfl) (hf : X.env.frame = some X.env.locals := by rfl) (hg : Gl X x := by rfl) (hdx : (x == ("__debug__" : Str)) = false := by decide) :
    VS X W (.Try body [.ExceptHandler (some (.Name x np)) none (b0 :: suite) pos'] [] [] pos) (sTryN hit fb fs) := by
  have P := ps_try_only (X := X) (c := .ref C) (body := body) (b₀ := b0) (suite := suite) (np := np) (pos := pos) (pos' := pos') (tb := fun V => cS X.K (lowW X.N.length V) X.N.length fb) (ts := fun _ _ _ => cS X.K W0 X.N.length fs) (Wout := fun cls d _ H => W cls d H)
    hs hf ⟨hg, hdx, .inl hm⟩ tk (fun V pn xe t p => (hb _ pn xe (takes_low t) p).cs) (fun a oe cls d pn _ _ => (hsu a _).cs)
  refine ⟨cS X.K W X.N.length (sTryN hit fb fs), ⟨fun pins s σ H D I h => P.run pins s σ H D I ?_⟩, fun c O G H σ ρ e D h => ⟨c, O, G, ρ, e, h⟩⟩
  obtain ⟨c, O, G, ρ, e, h⟩ := h
  refine ⟨c, O, G, ρ, e, ?_⟩
  have lenρ : ρ.length = X.N.length := by rw [e.len, I.len]
  unfold sTryN at h
  cases q : fb ρ with
  | nx ρ1 => rw [q] at h; exact h
  | rt d ρ1 => rw [q] at h; exact h
  | ro d ρ1 => rw [q] at h; exact h
  | bk ρ1 => rw [q] at h; exact h
  | ct ρ1 => rw [q] at h; exact h
  | stuck => rw [q] at h; exact h
  | exc xx ρ1 =>
    rw [q] at h
    intro cls dd O' G' H' σ' e1 le1 er σ2 hl
    have h' : SPost X.K W c G D (match hit xx.C with
      | some true => noExc (fs (unk ρ))
      | some false => .exc xx ρ1
      | none => .stuck) := h
    split at h'
    · rename_i hh
      refine ⟨true, by rw [er.1]; exact hit_ok _ _ hh, fun _ a ha => ?_, fun z => by cases z⟩
      exact ⟨c, O', G', unk ρ, e1.unk (by rw [hl]; exact lenρ), (SPost.mono le1 h').noExc⟩
    · rename_i hh
      exact ⟨false, by rw [er.1]; exact hit_ok _ _ hh, fun z => (by cases z), fun _ => h' cls dd O' G' H' σ' e1 le1 er⟩
    · exact h'.elim
end
end VL

end

section
set_option linter.all false
set_option maxRecDepth 100000
set_option maxHeartbeats 4000000
/-! VL 21: calls by keywords. -/
namespace VL
open PySem PySem.Spec PyProof.Rows L2
/-- the values in the parameters' order -/
def pk {α : Type} (is : List Nat) (l : List α) : List α := is.filterMap fun i => l[i]?
theorem pk_paired {α β : Type} {F : α → β → Prop} {xs : List α} {ys : List β} (h : Paired F xs ys) : ∀ is : List Nat, Paired F (pk is xs) (pk is ys)
  | [] => .nil
  | i :: is => by
    have ih := pk_paired h is
    unfold pk at ih ⊢
    rw [List.filterMap_cons, List.filterMap_cons]
    have hl := Paired.len h
    by_cases hi : i < xs.length
    · obtain ⟨a, h1, h2⟩ := paired_get h (List.getElem?_eq_getElem (by rw [← hl]; exact hi))
      rw [h1, List.getElem?_eq_getElem (by rw [← hl]; exact hi)]
      exact .cons h2 ih
    · rw [List.getElem?_eq_none (by omega), List.getElem?_eq_none (by omega)]
      exact ih
theorem pk_vals {xs : List V} {ys : List Value} (h : Vals xs ys) (is : List Nat) : Vals (pk is xs) (pk is ys) := by
  induction is with
  | nil => exact .nil
  | cons i is ih =>
    unfold pk at ih ⊢
    rw [List.filterMap_cons, List.filterMap_cons]
    cases e : xs[i]? with
    | some a =>
      obtain ⟨u, h1, h2⟩ := h.get e
      rw [h1]
      exact .cons h2 ih
    | none =>
      have hl := h.length
      rw [List.getElem?_eq_none_iff] at e
      rw [List.getElem?_eq_none (by omega)]
      exact ih
/-- positional values, then the keywords' -/
def mKw (n m : Nat) (is : List Nat) (f g : Sl → Res (List Val)) : Sl → Res (List Val) := fun ρ => (f ρ).bind fun a ρ1 => (g ρ1).bind fun b ρ2 => if a.length = n ∧ b.length = m then .ok (pk is (a ++ b)) ρ2 else .stuck
structure VKw (X : Cx) (W : XK) (kws : List Keyword) (f : Sl → Res (List Val)) : Prop where
  ex : ∃ t, PK X kws t ∧ Vv X.K W (relA X.K) t f
section
variable {X : Cx} {W : XK} {e : Expr} {es : List Expr} {kws : List Keyword} {nm : Option Str} {kpos : Pos} {f : Sl → Res Val} {g : Sl → Res (List Val)}
theorem vk_nil : VKw X W [] mNil := ⟨tNil, pk_nil, fun c O G H σ ρ e Q h => h [] G H e Ext.refl (Shp.refl ρ) .nil⟩
theorem vv_cons {K : PySem.W.Frag} {te : TE} {t : TA} (h1 : Vv K W (relE K) te f) (h2 : Vv K W (relA K) t g) : Vv K W (relA K) (tCons te t) (mCons f g) := by
  intro c O G H σ ρ e Q h
  refine h1.thn e h fun v ρ1 x G1 H1 e1 x1 s1 r1 q1 => ?_
  refine h2.thn e1 q1 fun vs ρ2 xs G2 H2 e2 x2 s2 r2 q2 => ?_
  exact q2 (x :: xs) G2 H2 e2 Ext.refl (Shp.refl _) (.cons (VRep.up r1 x2.g s2) r2)
theorem vk_cons (ha : VE X W e f) (hr : VKw X W kws g) : VKw X W (⟨nm, e, kpos⟩ :: kws) (mCons f g) := by
  obtain ⟨te, a1, a2⟩ := ha.ex
  obtain ⟨t, b1, b2⟩ := hr.ex
  exact ⟨_, pk_cons a1 b1, vv_cons a2 b2⟩
end
/-- both lists of values, in order -/
def tKw (n m : Nat) (is : List Nat) (t tk : TA) : TA := fun σ H Q => t σ H fun vs H1 => tk σ H1 fun zs H2 => vs.length = n ∧ zs.length = m ∧ Q (pk is (vs ++ zs)) H2
theorem paired_app {α β : Type} {F : α → β → Prop} {xs : List α} {ys : List β} (h : Paired F xs ys) {us : List α} {ws : List β} (h2 : Paired F us ws) : Paired F (xs ++ us) (ys ++ ws) := by
  induction h with
  | nil => exact h2
  | cons a _ ih => exact .cons a ih
theorem vv_kw {K : PySem.W.Frag} {W : XK} {n m : Nat} {is : List Nat} {t tk : TA} {f g : Sl → Res (List Val)} (h1 : Vv K W (relA K) t f) (h2 : Vv K W (relA K) tk g) : Vv K W (relA K) (tKw n m is t tk) (mKw n m is f g) := by
  intro c O G H σ ρ e Q h
  refine h1.thn e h fun vs ρ1 xs G1 H1 e1 x1 s1 r1 q1 => ?_
  refine h2.thn e1 q1 fun zs ρ2 ys G2 H2 e2 x2 s2 r2 q2 => ?_
  have r1' : Paired (VRep K G2 σ ρ2) xs vs := L2.Paired.mapP r1 fun a b z => VRep.up z x2.g s2
  have q3 : Post K W c O G2 H2 σ ρ2 (relA K σ) Q (if vs.length = n ∧ zs.length = m then .ok (pk is (vs ++ zs)) ρ2 else .stuck) := q2
  split at q3
  · rename_i z
    exact ⟨by rw [Paired.len r1]; exact z.1, by rw [Paired.len r2]; exact z.2, q3 _ G2 H2 e2 Ext.refl (Shp.refl _) (pk_paired (paired_app r1' r2) is)⟩
  · exact q3.elim
/-- a def called with n values and the keywords ks -/
structure CalK (P : Program) (w : World) (K : PySem.W.Frag) (mg : Str → Option Value) (base : Heap) (k : Nat) (x : Str) (n : Nat) (ks : List Str) (is : List Nat) (M : List Cell → FR) : Prop where
  ex : ∃ f fd ps, FnG P w K mg base k f fd ps (spM K M) ∧ mg x = some (.ref f) ∧ PySem.W.keepIn K (.ref f) = true ∧ ∀ us ws : List Value, us.length = n → ws.length = ks.length → bindArgs fd ⟨us, ks.zip ws⟩ = pure (ps.zip (pk is (us ++ ws)))
section
variable {X : Cx} {W : XK} {k j n : Nat} {f : Addr} {fd : FuncData} {ps ks : List Str} {is : List Nat} {sp : Sp} {E : XK} {x : Str} {p pos : Pos} {e : Expr} {es : List Expr} {kws : List Keyword} {t tk : TA} {M : List Cell → FR} {fa fk : Sl → Res (List Val)}
theorem runKG {pins : List (Addr × Obj)} {σ : L2.St} {H : Hp} {s : Shared} {Q : VK} {us ws : List Value} {vs zs : List V} (F : FnG X.prog X.w X.K X.mg X.base k f fd ps sp) (hr : RoomG k X.A) (hx : Passes (L2.CX X.prog X.w) X E)
    (hb : ∀ us ws : List Value, us.length = n → ws.length = ks.length → bindArgs fd ⟨us, ks.zip ws⟩ = pure (ps.zip (pk is (us ++ ws)))) (I : Inv X pins σ H s) (r : Vals vs us) (rz : Vals zs ws) (l1 : vs.length = n) (l2 : zs.length = ks.length) (h : sp (pk is (vs ++ zs)) H Q E) :
    wpAny (model X.prog X.w) X.A (PySem.call (.ref f) us (ks.zip ws)) (EP X pins σ Q) X.xe s := by
  have rr := pk_vals (r.append rz) is
  have bd : BindsTo s fd ⟨us, ks.zip ws⟩ (ps.zip (pk is (us ++ ws))) := .of_eq (hb us ws (by rw [← r.length]; exact l1) (by rw [← rz.length]; exact l2))
  have go := F.go X.A X.stack s H ⟨us, ks.zip ws⟩ (pk is (us ++ ws)) (pk is (vs ++ zs)) Q E hr I.env0 bd rr h
  apply wpAny_call
  apply codeAny_mono go
  rintro (er | fl) s' z
  · exact hx pins σ H s er s' I z
  · rcases fl with _ | _ | _ | u
    · exact z.elim
    · exact z.elim
    · exact z.elim
    · exact I.after z
theorem pe_kwG (F : FnG X.prog X.w X.K X.mg X.base k f fd ps sp) (hr : RoomG k X.A) (hg : Gl X x) (hm : X.mg x = some (.ref f)) (hk : PySem.W.keepIn X.K (.ref f) = true) (hx : Passes (L2.CX X.prog X.w) X E)
    (hb : ∀ us ws : List Value, us.length = n → ws.length = ks.length → bindArgs fd ⟨us, ks.zip ws⟩ = pure (ps.zip (pk is (us ++ ws)))) (ha : PA X (e :: es) t) (hkw : PK X kws tk)
    (hall : (backToKw pos (keywordEach kws X.env)).all (·.1.isSome) = true) (hks : (backToKw pos (keywordEach kws X.env)).filterMap (·.1) = ks) (hdb : (x == ("__debug__" : Str)) = false) (he : starEach (e :: es) X.env = (false, eval e X.env) :: starEach es X.env)
    (hpl : ((backTo pos (starEach (e :: es) X.env)).any (·.1) || (backToKw pos (keywordEach kws X.env)).any (·.1.isNone)) = false) : PE X (.Call (.Name x p) (e :: es) kws pos) (tCall sp [] E (tKw n ks.length is t tk)) := by
  constructor
  intro pins s σ H Q I h
  apply wpAny_Call_Name_kw
  apply ld_glob I hg hm _ hdb
  apply PySem.W.callWith_KW (h₀ := X.base) I.ok.mod.kin hk hall _ hpl he
  apply thn (ha.run pos pins s σ H _ I h)
  rintro us s1 ⟨vs, H1, I1, r, q⟩
  apply thn (hkw.run pos pins s1 σ H1 _ I1 q)
  rintro ws s2 ⟨zs, H2, I2, rz, l1, l2, q2⟩
  rw [List.append_nil] at q2
  refine ⟨I2.kIn, ?_⟩
  rw [hks]
  exact runKG F hr hx hb I2 r rz l1 l2 q2
theorem pe_kwG0 (F : FnG X.prog X.w X.K X.mg X.base k f fd ps sp) (hr : RoomG k X.A) (hg : Gl X x) (hm : X.mg x = some (.ref f)) (hk : PySem.W.keepIn X.K (.ref f) = true) (hx : Passes (L2.CX X.prog X.w) X E)
    (hb : ∀ us ws : List Value, us.length = 0 → ws.length = ks.length → bindArgs fd ⟨us, ks.zip ws⟩ = pure (ps.zip (pk is (us ++ ws)))) (hkw : PK X kws tk)
    (hall : (backToKw pos (keywordEach kws X.env)).all (·.1.isSome) = true) (hks : (backToKw pos (keywordEach kws X.env)).filterMap (·.1) = ks) (hdb : (x == ("__debug__" : Str)) = false)
    (hpl : ((backTo pos (starEach [] X.env)).any (·.1) || (backToKw pos (keywordEach kws X.env)).any (·.1.isNone)) = false) : PE X (.Call (.Name x p) [] kws pos) (tCall sp [] E (tKw 0 ks.length is tNil tk)) := by
  constructor
  intro pins s σ H Q I h
  apply wpAny_Call_Name_kw
  apply ld_glob I hg hm _ hdb
  apply PySem.W.callWith_KW0 (h₀ := X.base) I.ok.mod.kin hk hall _ hpl
  apply thn (hkw.run pos pins s σ H _ I h)
  rintro ws s2 ⟨zs, H2, I2, rz, l1, l2, q2⟩
  rw [List.append_nil] at q2
  refine ⟨I2.kIn, ?_⟩
  rw [hks]
  exact runKG (us := []) F hr hx hb I2 .nil rz rfl l2 q2
theorem x_kw (C : CalK X.prog X.w X.K X.mg X.base j x n ks is M) (hr : RoomG k X.A) (tk : Takes X fun cls d _ H => W cls d H) (ha : VA X W (e :: es) fa) (hkw : VKw X W kws fk) (hj : j ≤ k := by decide) (hg : Gl X x := by rfl)
    (hall : (backToKw pos (keywordEach kws X.env)).all (·.1.isSome) = true := by rfl) (hks : (backToKw pos (keywordEach kws X.env)).filterMap (·.1) = ks := by rfl) (hdb : (x == ("__debug__" : Str)) = false := by decide)
    (he : starEach (e :: es) X.env = (false, eval e X.env) :: starEach es X.env := by rfl) (hpl : ((backTo pos (starEach (e :: es) X.env)).any (·.1) || (backToKw pos (keywordEach kws X.env)).any (·.1.isNone)) = false := by rfl) :
    VE X W (.Call (.Name x p) (e :: es) kws pos) (mFn M [] (mKw n ks.length is fa fk)) := by
  obtain ⟨f, fd, ps, h1, h2, h3, h4⟩ := C.ex
  obtain ⟨t, a1, a2⟩ := ha.ex
  obtain ⟨tk', b1, b2⟩ := hkw.ex
  exact ⟨_, pe_kwG (h1.mono hj) (hr) hg h2 h3 (passes_call tk fun _ _ _ _ h => h) h4 a1 b1 hall hks hdb he hpl, vv_fn .nil (vv_kw a2 b2)⟩
theorem x_kw0 (C : CalK X.prog X.w X.K X.mg X.base j x 0 ks is M) (hr : RoomG k X.A) (tk : Takes X fun cls d _ H => W cls d H) (hkw : VKw X W kws fk) (hj : j ≤ k := by decide) (hg : Gl X x := by rfl)
    (hall : (backToKw pos (keywordEach kws X.env)).all (·.1.isSome) = true := by rfl) (hks : (backToKw pos (keywordEach kws X.env)).filterMap (·.1) = ks := by rfl) (hdb : (x == ("__debug__" : Str)) = false := by decide)
    (hpl : ((backTo pos (starEach [] X.env)).any (·.1) || (backToKw pos (keywordEach kws X.env)).any (·.1.isNone)) = false := by rfl) :
    VE X W (.Call (.Name x p) [] kws pos) (mFn M [] (mKw 0 ks.length is mNil fk)) := by
  obtain ⟨f, fd, ps, h1, h2, h3, h4⟩ := C.ex
  obtain ⟨tk', b1, b2⟩ := hkw.ex
  exact ⟨_, pe_kwG0 (h1.mono hj) (hr) hg h2 h3 (passes_call tk fun _ _ _ _ h => h) h4 b1 hall hks hdb hpl, vv_fn .nil (vv_kw (fun c O G H σ ρ e Q h => h [] G H e Ext.refl (Shp.refl ρ) .nil) b2)⟩
end
section
variable {P : Program} {w : World} {K : PySem.W.Frag} {mg : Str → Option Value} {base : Heap}
theorem calK_mk {x : Str} {st : Stmt} {f : Addr} {fd : FuncData} {ps ks : List Str} {k n : Nat} {is : List Nat} {M : List Cell → FR} (F : Fun K x x st f fd) (hg : mg x = some (.ref f)) (h : FnG P w K mg base k f fd ps (spM K M))
    (hb : ∀ (kV doc pm : Value) (an : Option Addr) (cdv ct : Value) (us ws : List Value), us.length = n → ws.length = ks.length → bindArgs (PySem.W.fnOf x x (defArgs st) (defBody st) (defScope st) .none kV doc pm an cdv ct) ⟨us, ks.zip ws⟩ = pure (ps.zip (pk is (us ++ ws)))) : CalK P w K mg base k x n ks is M := by
  obtain ⟨oc, od, kV, doc, pm, an, cdv, ct, osl, rfl, lk, hcd⟩ := F.ex
  exact ⟨f, _, ps, h, hg, F.kp, hb kV doc pm an cdv ct⟩
end
end VL

end

section
set_option linter.all false
set_option maxRecDepth 100000
set_option maxHeartbeats 4000000
/-! VL 22: == of texts of any signs. -/
namespace VL
open PySem PySem.Spec PyProof.Rows L2
def dEqS : D → D → Option D
  | .str a, .str b => some (.bl (decide (a = b)))
  | _, _ => none
def dNeS : D → D → Option D
  | .str a, .str b => some (.bl (!decide (a = b)))
  | _, _ => none
theorem dec_str {a b : Str} : decide (V.str a = V.str b) = decide (a = b) := by
  rw [decide_eq_decide]
  constructor
  · intro h; cases h; rfl
  · rintro rfl; rfl
theorem opd_eqS {X : Cx} : OpD X (compareOp .Eq) dEqS := by
  refine ⟨_, op_eq, ?_⟩
  intro G H x y dx dy d Q s rx ry hg hq
  cases dx <;> cases dy <;> simp only [dEqS] at hg <;> first | (cases hg; done) | skip
  cases hg
  obtain rfl := rx.s
  obtain rfl := ry.s
  refine ⟨rfl, ?_⟩
  rw [dec_str]
  exact as_is (.bl _) hq
theorem opd_neS {X : Cx} : OpD X (compareOp .NotEq) dNeS := by
  refine ⟨_, op_ne, ?_⟩
  intro G H x y dx dy d Q s rx ry hg hq
  cases dx <;> cases dy <;> simp only [dNeS] at hg <;> first | (cases hg; done) | skip
  cases hg
  obtain rfl := rx.s
  obtain rfl := ry.s
  refine ⟨rfl, ?_⟩
  rw [dec_str]
  exact as_is (.bl _) hq
end VL

end

section
set_option linter.all false
set_option maxRecDepth 100000
set_option maxHeartbeats 4000000
namespace VL
open PySem L2
/-! ### the combinators at work -/
section
variable {ρ ρ' : Sl} {f g e : Sl → Res Val} {h k : Sl → Res (List Val)} {s r : Sl → SR} {t u : Sl → Res Bool} {i : Nat}
@[simp] theorem e_bok {α β : Type} {a : α} {k : α → Sl → Res β} : (Res.ok a ρ).bind k = k a ρ := Eq.trans rfl rfl
@[simp] theorem e_sok {α : Type} {a : α} {k : α → Sl → SR} : (Res.ok a ρ).sb k = k a ρ := Eq.trans rfl rfl
@[simp] theorem e_bex {α β : Type} {x : Ex} {k : α → Sl → Res β} : (Res.exc x ρ).bind k = .exc x ρ := Eq.trans rfl rfl
@[simp] theorem e_sex {α : Type} {x : Ex} {k : α → Sl → SR} : (Res.exc x ρ).sb k = .exc x ρ := Eq.trans rfl rfl
@[simp] theorem e_c {d : D} : mC d ρ = .ok (.d d) ρ := Eq.trans rfl rfl
@[simp] theorem e_var : mVar i ρ = (match ρ[i]? with | some (.pv d) => .ok (.d d) ρ | some (.ol _ _) => .ok (.own i) ρ | _ => .stuck) := Eq.trans rfl rfl
@[simp] theorem e_nil : mNil ρ = .ok [] ρ := Eq.trans rfl rfl
@[simp] theorem e_cons : mCons f h ρ = (f ρ).bind fun v ρ1 => (h ρ1).bind fun vs ρ2 => .ok (v :: vs) ρ2 := Eq.trans rfl rfl
@[simp] theorem e_2 {o : D → D → Option D} : m2 o f g ρ = (f ρ).bind fun x ρ1 => (g ρ1).bind fun y ρ2 => ro2 o x y ρ2 := Eq.trans rfl rfl
@[simp] theorem e_1 {o : D → Option D} : m1 o f ρ = (f ρ).bind fun x ρ1 => ro1 o x ρ1 := Eq.trans rfl rfl
theorem e_ro2 {o : D → D → Option D} {x y : Val} : ro2 o x y ρ = (match rd ρ x, rd ρ y with | some d, some e => (match o d e with | some z => .ok (.d z) ρ | none => .stuck) | _, _ => .stuck) := Eq.trans rfl rfl
@[simp] theorem e_ro2d {o : D → D → Option D} {x y : D} : ro2 o (.d x) (.d y) ρ = (match o x y with | some z => .ok (.d z) ρ | none => .stuck) := Eq.trans rfl rfl
@[simp] theorem e_ro2o {o : D → D → Option D} {y : D} : ro2 o (.own i) (.d y) ρ = (match ρ[i]? with | some (.ol _ ds) => (match o (.lst ds) y with | some z => .ok (.d z) ρ | none => .stuck) | _ => .stuck) := by
  unfold ro2 rd
  cases q : ρ[i]? with
  | none => simp only [q]
  | some c => cases c <;> simp only [q] <;> rfl
@[simp] theorem e_asB : asB f ρ = (f ρ).bind fun v ρ1 => match v with | .d (.bl b) => .ok b ρ1 | _ => .stuck := Eq.trans rfl rfl
@[simp] theorem e_tru : mTru f ρ = (f ρ).bind fun v ρ1 => match rd ρ1 v with | some d => (match truD d with | some b => .ok b ρ1 | none => .stuck) | none => .stuck := Eq.trans rfl rfl
@[simp] theorem e_andT : mAndT t u ρ = (t ρ).bind fun b ρ1 => if b = true then u ρ1 else .ok false ρ1 := Eq.trans rfl rfl
@[simp] theorem e_orT : mOrT t u ρ = (t ρ).bind fun b ρ1 => if b = true then .ok true ρ1 else u ρ1 := Eq.trans rfl rfl
@[simp] theorem e_notT : mNotT t ρ = (t ρ).bind fun b ρ1 => .ok (!b) ρ1 := Eq.trans rfl rfl
@[simp] theorem e_and : mAnd f g ρ = (f ρ).bind fun v ρ1 => match v with | .d (.bl true) => g ρ1 | .d (.bl false) => .ok (.d (.bl false)) ρ1 | _ => .stuck := Eq.trans rfl rfl
@[simp] theorem e_or : mOr f g ρ = (f ρ).bind fun v ρ1 => match v with | .d (.bl true) => .ok (.d (.bl true)) ρ1 | .d (.bl false) => g ρ1 | _ => .stuck := Eq.trans rfl rfl
@[simp] theorem e_not : mNot f ρ = (f ρ).bind fun v ρ1 => match v with | .d (.bl b) => .ok (.d (.bl (!b))) ρ1 | _ => .stuck := Eq.trans rfl rfl
@[simp] theorem e_ifx : mIf t f g ρ = (t ρ).bind fun b ρ1 => if b = true then f ρ1 else g ρ1 := Eq.trans rfl rfl
@[simp] theorem e_tup : mTup h ρ = (h ρ).bind fun vs ρ1 => match datas vs with | some ds => if ds.length ≤ SZ then .ok (.d (.tup ds)) ρ1 else .stuck | none => .stuck := Eq.trans rfl rfl
@[simp] theorem e_lst : mLst h ρ = (h ρ).bind fun vs ρ1 => match datas vs with | some ds => if ds.length ≤ SZ then .ok (.d (.lst ds)) ρ1 else .stuck | none => .stuck := Eq.trans rfl rfl
@[simp] theorem e_nlst : nLst h ρ = (h ρ).bind fun vs ρ1 => match datas vs with | some ds => if ds.length ≤ SZ then .ok ds ρ1 else .stuck | none => .stuck := Eq.trans rfl rfl
@[simp] theorem e_nval {f : Sl → Res (List D)} : nVal f ρ = (f ρ).bind fun ds ρ1 => .ok (.d (.lst ds)) ρ1 := Eq.trans rfl rfl
@[simp] theorem e_nop : mNoP ρ = .ok none ρ := Eq.trans rfl rfl
@[simp] theorem e_part : mPart f ρ = (f ρ).bind fun v ρ1 => match v with | .d (.int i) => .ok (some i) ρ1 | _ => .stuck := Eq.trans rfl rfl
@[simp] theorem e_cut {lo hi : Sl → Res (Option Int)} : mCut f lo hi ρ = (f ρ).bind fun v ρ1 => (lo ρ1).bind fun l ρ2 => (hi ρ2).bind fun u ρ3 => match rd ρ3 v with | some d => (match dCut d l u with | some z => .ok (.d z) ρ3 | none => .stuck) | none => .stuck := Eq.trans rfl rfl
@[simp] theorem e_call {o : List D → Option D} : mCall o h ρ = (h ρ).bind fun vs ρ1 => match rdA ρ1 vs with | some ds => (match o ds with | some d => .ok (.d d) ρ1 | none => .stuck) | none => .stuck := Eq.trans rfl rfl
@[simp] theorem e_join : mJoin f g ρ = (f ρ).bind fun x ρ1 => match x with | .d (.str z) => (g ρ1).bind fun y ρ2 => ro2 dJoin (.d (.str z)) y ρ2 | _ => .stuck := Eq.trans rfl rfl
@[simp] theorem e_fn {M : List Cell → FR} {dds : List D} : mFn M dds h ρ = (h ρ).bind fun vs ρ1 => match cellsOf ρ1 vs with | some (cs, o) => outOf ρ1 o (M (cs ++ dds.map .pv)) | none => .stuck := Eq.trans rfl rfl
@[simp] theorem e_nfn {M : List Cell → FR} {dds : List D} : nFn M dds h ρ = (h ρ).bind fun vs ρ1 => match cellsOf ρ1 vs with | some (cs, o) => (match M (cs ++ dds.map .pv) with | .own ds j => .ok ds (backOf ρ1 o j) | .exc x j => .exc x (backOf ρ1 o j) | _ => .stuck) | none => .stuck := Eq.trans rfl rfl
@[simp] theorem e_app : mApp i f ρ = (match ρ[i]? with | some (.ol _ _) => (f ρ).bind fun v ρ2 => (match v, ρ2[i]? with | .d d, some (.ol b ds) => if ds.length < SZ then .ok (.d .non) (ρ2.set i (.ol b (ds ++ [d]))) else .stuck | _, _ => .stuck) | _ => .stuck) := Eq.trans rfl rfl
@[simp] theorem e_rdd {d : D} : rd ρ (.d d) = some d := Eq.trans rfl rfl
@[simp] theorem e_rdo : rd ρ (.own i) = (match ρ[i]? with | some (.ol _ ds) => some (D.lst ds) | _ => none) := Eq.trans rfl rfl
@[simp] theorem e_seq : sSeq s r ρ = (match s ρ with | .nx ρ1 => r ρ1 | q => q) := by unfold sSeq; rfl
@[simp] theorem e_nx : sNx ρ = .nx ρ := Eq.trans rfl rfl
@[simp] theorem e_drop : sDrop f ρ = (f ρ).sb fun _ ρ1 => .nx ρ1 := Eq.trans rfl rfl
@[simp] theorem e_if : sIf t s r ρ = (t ρ).sb fun b ρ1 => if b = true then s ρ1 else r ρ1 := Eq.trans rfl rfl
@[simp] theorem e_set : sSet i f ρ = (f ρ).sb fun v ρ1 => match v with | .d d => .nx (ρ1.set i (.pv d)) | _ => .stuck := Eq.trans rfl rfl
@[simp] theorem e_own {f : Sl → Res (List D)} : sOwn i f ρ = (f ρ).sb fun ds ρ1 => .nx (ρ1.set i (.ol true ds)) := Eq.trans rfl rfl
@[simp] theorem e_ret : sRet f ρ = (f ρ).sb fun v ρ1 => match v with | .d d => .rt d ρ1 | .own i => (match ρ1[i]? with | some (.ol true ds) => .rt (.lst ds) (ρ1.set i (.pv (.lst ds))) | _ => .stuck) := Eq.trans rfl rfl
@[simp] theorem e_retN {f : Sl → Res (List D)} : sRetN f ρ = (f ρ).sb fun ds ρ1 => .ro ds ρ1 := Eq.trans rfl rfl
@[simp] theorem e_retO : sRetO f ρ = (f ρ).sb fun v ρ1 => match v with | .own i => (match ρ1[i]? with | some (.ol true ds) => .ro ds ρ1 | _ => .stuck) | .d _ => .stuck := Eq.trans rfl rfl
@[simp] theorem e_for {tg : TgF} {fi : Sl → Res (List D)} : sFor tg fi s ρ = (fi ρ).sb fun ds ρ1 => forL tg s ds ρ1 := Eq.trans rfl rfl
theorem e_rng1 : mRng1 h ρ = (h ρ).bind fun vs ρ1 => match vs with | [.d (.int j)] => if -(2 ^ 62) ≤ j ∧ j < 2 ^ 62 then .ok (rangeD 0 j.toNat) ρ1 else .stuck | _ => .stuck := Eq.trans rfl rfl
@[simp] theorem e_items : mItems f ρ = (f ρ).bind fun v ρ1 => match v with | .d d => (match itemsD d with | some ds => .ok ds ρ1 | none => .stuck) | _ => .stuck := Eq.trans rfl rfl
@[simp] theorem e_zip : mZip h ρ = (h ρ).bind fun vs ρ1 => match vs with | [.d (.lst xs), .d (.lst ys)] => .ok (zipD xs ys) ρ1 | [.d (.tup xs), .d (.tup ys)] => .ok (zipD xs ys) ρ1 | _ => .stuck := Eq.trans rfl rfl
@[simp] theorem e_enm : mEnm f ρ = (f ρ).bind fun v ρ1 => match v with | .d (.lst ds) => .ok (enumD ds) ρ1 | .d (.tup ds) => .ok (enumD ds) ρ1 | _ => .stuck := Eq.trans rfl rfl
@[simp] theorem e_unp {tg : TgF} : sUnp tg f ρ = (f ρ).sb fun v ρ1 => match v with | .d d => (match tg.run d ρ1 with | some ρ2 => .nx ρ2 | none => .stuck) | _ => .stuck := Eq.trans rfl rfl
@[simp] theorem e_at {a : D → Sl → Option Sl} : sAt a f ρ = (f ρ).sb fun v ρ1 => match v with | .d d => (match a d ρ1 with | some ρ2 => .nx ρ2 | none => .stuck) | _ => .stuck := Eq.trans rfl rfl
@[simp] theorem e_anm {d : D} : aNm i d ρ = some (ρ.set i (.pv d)) := Eq.trans rfl rfl
@[simp] theorem e_anil : aNil [] ρ = some ρ := Eq.trans rfl rfl
@[simp] theorem e_acons {a : D → Sl → Option Sl} {b : List D → Sl → Option Sl} {d : D} {ds : List D} : aCons a b (d :: ds) ρ = (a d ρ).bind (b ds) := Eq.trans rfl rfl
@[simp] theorem e_atup {n : Nat} {b : List D → Sl → Option Sl} {ds : List D} : aTup n b (.tup ds) ρ = if ds.length = n then b ds ρ else none := Eq.trans rfl rfl
@[simp] theorem e_ix {d : D} : ixRun i f d ρ = (match ρ[i]? with | some (.ol _ _) => (match f ρ with | .ok (.d (.int k)) ρ1 => (match ρ1[i]? with | some (.ol b ds) => (setI ds k d).map fun ds' => ρ1.set i (.ol b ds') | _ => none) | _ => none) | _ => none) := Eq.trans rfl rfl
@[simp] theorem e_tab {tab : Str → Option D} : mTab tab f ρ = (f ρ).bind fun v ρ1 => match v with | .d (.str z) => (match tab z with | some d => .ok (.d d) ρ1 | none => .stuck) | _ => .stuck := Eq.trans rfl rfl
@[simp] theorem e_raise {C : Addr} {n : Str} : sRaise C n h ρ = (h ρ).sb fun vs ρ1 => match vs with | [.d d] => .exc ⟨C, [(n, d)]⟩ ρ1 | _ => .stuck := Eq.trans rfl rfl
@[simp] theorem e_isi {ans : Tag → Option Bool} : mIsi ans f ρ = (f ρ).bind fun v ρ1 => match rd ρ1 v with | some d => (match d.tag.bind ans with | some b => .ok (.d (.bl b)) ρ1 | none => .stuck) | none => .stuck := Eq.trans rfl rfl
@[simp] theorem e_nm {d : D} : (TgF.nm i).run d ρ = some (ρ.set i (.pv d)) := Eq.trans rfl rfl
@[simp] theorem e_tp {is : List Nat} {ds : List D} : (TgF.tp is).run (.tup ds) ρ = if ds.length = is.length then setAll is ds ρ else none := Eq.trans rfl rfl
@[simp] theorem e_tpl {is : List Nat} {ds : List D} : (TgF.tp is).run (.lst ds) ρ = if ds.length = is.length then setAll is ds ρ else none := Eq.trans rfl rfl
@[simp] theorem e_sa0 : setAll [] [] ρ = some ρ := Eq.trans rfl rfl
@[simp] theorem e_sa1 {is : List Nat} {d : D} {ds : List D} : setAll (i :: is) (d :: ds) ρ = setAll is ds (ρ.set i (.pv d)) := Eq.trans rfl rfl
@[simp] theorem e_datas0 : datas [] = some [] := Eq.trans rfl rfl
@[simp] theorem e_datas1 {d : D} {r : List Val} : datas (.d d :: r) = (datas r).map (d :: ·) := Eq.trans rfl rfl
@[simp] theorem e_cells0 : cellsOf ρ [] = some ([], none) := Eq.trans rfl rfl
@[simp] theorem e_cells1 {d : D} {r : List Val} : cellsOf ρ (.d d :: r) = (match cellsOf ρ r with | some (cs, o) => some (.pv d :: cs, o) | none => none) := Eq.trans rfl rfl
@[simp] theorem e_cells2 {r : List Val} : cellsOf ρ (.own i :: r) = (match ρ[i]?, cellsOf ρ r with | some (.ol _ ds), some (cs, none) => some (.ol false ds :: cs, some i) | _, _ => none) := Eq.trans rfl rfl
@[simp] theorem e_outr {o : Option Nat} {d : D} {j : List D} : outOf ρ o (.ret d j) = .ok (.d d) (backOf ρ o j) := Eq.trans rfl rfl
@[simp] theorem e_outo {o : Option Nat} {d : List D} {j : List D} : outOf ρ o (.own d j) = .ok (.d (.lst d)) (backOf ρ o j) := Eq.trans rfl rfl
@[simp] theorem e_oute {o : Option Nat} {x : Ex} {j : List D} : outOf ρ o (.exc x j) = .exc x (backOf ρ o j) := Eq.trans rfl rfl
@[simp] theorem e_back0 {j : List D} : backOf ρ none j = ρ := Eq.trans rfl rfl
@[simp] theorem e_back1 {j : List D} : backOf ρ (some i) j = (match ρ[i]? with | some (.ol b _) => ρ.set i (.ol b j) | _ => ρ) := Eq.trans rfl rfl
end
end VL
namespace VL
theorem fn_at {n m : Nat} {body : Sl → SR} {cs cs' : List Cell} (h : cs.length = n) (h2 : cs ++ List.replicate (m - n) .un = cs') : mkFn n m body cs = endOf cs (body cs') := by
  unfold mkFn
  rw [if_pos h, h2]
open PySem L2
section
variable {ρ : Sl} {f g : Sl → Res Val}
@[simp] theorem e_nadd : nAdd f g ρ = (f ρ).bind fun x ρ1 => (g ρ1).bind fun y ρ2 => match rd ρ2 x, rd ρ2 y with | some (.lst d), some (.lst e) => if d.length + e.length ≤ SZ then .ok (d ++ e) ρ2 else .stuck | _, _ => .stuck := Eq.trans rfl rfl
@[simp] theorem e_chn {p q : D → D → Option D} {h : Sl → Res Val} : mChn p q f g h ρ = (f ρ).bind fun x ρ1 => (g ρ1).bind fun y ρ2 => (ro2 p x y ρ2).bind fun k ρ3 => match k with | .d (.bl true) => (h ρ3).bind fun z ρ4 => ro2 q y z ρ4 | .d (.bl false) => .ok (.d (.bl false)) ρ3 | _ => .stuck := Eq.trans rfl rfl
@[simp] theorem e_int {tab : Str → Option D} {b : Bool} : mInT tab b f ρ = (f ρ).bind fun v ρ1 => match v with | .d (.str z) => .ok (.d (.bl ((tab z).isSome == b))) ρ1 | _ => .stuck := Eq.trans rfl rfl
end
end VL

end

section
set_option linter.all false
set_option maxRecDepth 100000
set_option maxHeartbeats 4000000
namespace VL
open PySem L2
theorem dEq_str {a b : Str} (ha : PyData.strOk a = true) (hb : PyData.strOk b = true) : dEq (.str a) (.str b) = some (.bl (a == b)) := by
  simp [dEq, eqB, D.py, SeqAt.shaped, PyData.canLay0, PyData.depth, PyData.eqv, ha, hb]
/-- comprehensions that draw -/
theorem lc_draw {J : Type} (Ok : J → Prop) (R : J → Sl) (v : Nat) (fe : Sl → Res Val) (P : D → Prop) (hst : ∀ j item, Ok j → ∃ d j', Ok j' ∧ P d ∧ fe ((R j).set v (.pv item)) = .ok (.d d) ((R j').set v (.pv item)))
    (hw : ∀ j item, wipC ((R j).set v (.pv item)) [v] = R j) : ∀ (items acc : List D) (j : J), Ok j → acc.length + items.length ≤ SZ → ∃ ds j', Ok j' ∧ ds.length = items.length ∧ (∀ d ∈ ds, P d) ∧ lcL (.nm v) mYes fe [v] items (R j) acc = .ok (acc ++ ds) (R j')
  | [], acc, j, hj, _ => ⟨[], j, hj, rfl, (by simp), by simp [lcL]⟩
  | d :: ds, acc, j, hj, hl => by
    obtain ⟨x, j1, h1, h2, h3⟩ := hst j d hj
    rw [List.length_cons] at hl
    obtain ⟨xs, j2, k1, k2, k3, k4⟩ := lc_draw Ok R v fe P hst hw ds (acc ++ [x]) j1 h1 (by rw [List.length_append, List.length_singleton]; omega)
    refine ⟨x :: xs, j2, k1, by simp [k2], ?_, ?_⟩
    · intro y hy
      rcases List.mem_cons.mp hy with z | z
      · rw [z]; exact h2
      · exact k3 y z
    · unfold lcL
      rw [e_nm]
      simp only [mYes, h3]
      rw [if_pos (by omega), hw, k4, List.append_assoc]
      rfl
/-- comprehensions that change nothing -/
theorem lc_map {R : Sl} {v : Nat} {fe : Sl → Res Val} {h : D → D} (hw : ∀ item, wipC (R.set v (.pv item)) [v] = R) : ∀ (items acc : List D), (∀ item ∈ items, fe (R.set v (.pv item)) = .ok (.d (h item)) (R.set v (.pv item))) → acc.length + items.length ≤ SZ →
    lcL (.nm v) mYes fe [v] items R acc = .ok (acc ++ items.map h) R
  | [], acc, _, _ => by simp [lcL]
  | d :: ds, acc, hs, hl => by
    rw [List.length_cons] at hl
    have ih := lc_map (R := R) (v := v) (fe := fe) (h := h) hw ds (acc ++ [h d]) (fun x hx => hs x (List.mem_cons_of_mem _ hx)) (by rw [List.length_append, List.length_singleton]; omega)
    unfold lcL
    rw [e_nm]
    simp only [mYes, hs d List.mem_cons_self]
    rw [if_pos (by omega), hw, ih, List.map_cons, List.append_assoc]
    rfl
theorem bls_map (l : List Bool) : blsOf (l.map D.bl) = some l := by
  induction l with
  | nil => rfl
  | cons b l ih =>
    rw [List.map_cons]
    show (blsOf (l.map D.bl)).map _ = _
    rw [ih]
    rfl
@[simp] theorem bls_comp {α : Type} (f : α → Bool) (l : List α) : blsOf (l.map (D.bl ∘ f)) = some (l.map f) := by
  have := bls_map (l.map f)
  rw [List.map_map] at this
  exact this
@[simp] theorem bls_fun {α : Type} (f : α → Bool) (l : List α) : blsOf (l.map fun x => D.bl (f x)) = some (l.map f) := bls_comp f l
@[simp] theorem dNe_bl (a b : Bool) : dNe (.bl a) (.bl b) = some (.bl (a != b)) := by cases a <;> cases b <;> kernel_rfl
@[simp] theorem dEq_bl (a b : Bool) : dEq (.bl a) (.bl b) = some (.bl (a == b)) := by cases a <;> cases b <;> kernel_rfl
/-- loops that keep something -/
theorem for_inv {I : Sl → Prop} {t : TgF} {body : Sl → SR} : ∀ (items : List D) (ρ : Sl), (∀ d ρ, d ∈ items → I ρ → ∃ ρ1 ρ2, t.run d ρ = some ρ1 ∧ body ρ1 = .nx ρ2 ∧ I ρ2) → I ρ → ∃ ρ', forL t body items ρ = .nx ρ' ∧ I ρ'
  | [], ρ, _, h => ⟨ρ, rfl, h⟩
  | d :: ds, ρ, hs, h => by
    obtain ⟨ρ1, ρ2, h1, h2, h3⟩ := hs d ρ List.mem_cons_self h
    obtain ⟨ρ', k1, k2⟩ := for_inv ds ρ2 (fun d' ρ' hd => hs d' ρ' (List.mem_cons_of_mem _ hd)) h3
    refine ⟨ρ', ?_, k2⟩
    unfold forL
    rw [h1]
    simp only [h2]
    exact k1
theorem rng1_eq {h : Sl → Res (List Val)} {ρ ρ1 : Sl} {n : Nat} (hh : h ρ = .ok [.d (.int (n : Int))] ρ1) (hn : n ≤ 1000000) : mRng1 h ρ = .ok (rangeD 0 n) ρ1 := by
  rw [e_rng1, hh, e_bok]
  dsimp only
  split
  · rw [Int.toNat_natCast]
  · rename_i q
    exact absurd (by constructor <;> omega) q
theorem nlc_eq {fI : Sl → Res (List D)} {t : TgF} {ft : Sl → Res Bool} {fe : Sl → Res Val} {vs : List Nat} {ρ ρ1 ρ2 : Sl} {items out : List D} (h1 : fI ρ = .ok items ρ1) (h2 : noOwn ρ1 vs = true) (h3 : lcL t ft fe vs items (wipC ρ1 vs) [] = .ok out ρ2) :
    nLc fI t ft fe vs ρ = .ok out (backC ρ1 ρ2 vs) := by
  unfold nLc
  rw [h1]
  show (if noOwn ρ1 vs = true then _ else _) = _
  rw [if_pos h2, h3]
/-! texts as lists of signs -/
def T (l : List Nat) : D := .str ⟨l.toArray⟩
def sg (c : Nat) : D := .str ⟨#[c]⟩
theorem T_len (l : List Nat) : (⟨l.toArray⟩ : Str).length = l.length := by simp [Str.length]
theorem T_app (a b : List Nat) : (⟨a.toArray⟩ : Str) ++ (⟨b.toArray⟩ : Str) = ⟨(a ++ b).toArray⟩ := by
  show Str.append _ _ = _
  simp [Str.append]
theorem signs_T (l : List Nat) : signsD ⟨l.toArray⟩ = l.map sg := by simp [signsD, sg]
theorem strs_sg : ∀ l : List Nat, strsOf (l.map sg) = some (l.map fun c => (⟨#[c]⟩ : Str))
  | [] => rfl
  | c :: l => by
    rw [List.map_cons, List.map_cons]
    show (strsOf (l.map sg)).map _ = _
    rw [strs_sg l]
    rfl
theorem strs_T : ∀ l : List (List Nat), strsOf (l.map T) = some (l.map fun c => (⟨c.toArray⟩ : Str))
  | [] => rfl
  | c :: l => by
    rw [List.map_cons, List.map_cons]
    show (strsOf (l.map T)).map _ = _
    rw [strs_T l]
    rfl
theorem joinL_nil : ∀ l : List (List Nat), TL.joinL [] l = l.flatten
  | [] => rfl
  | [p] => by simp [TL.joinL]
  | p :: q :: r => by
    rw [TL.joinL, joinL_nil (q :: r)]
    simp
theorem join_T (l : List (List Nat)) (h : l.flatten.length ≤ SZ) : dJoin (.str "") (.lst (l.map T)) = some (T l.flatten) := by
  have e : ("" : Str) = (⟨([] : List Nat).toArray⟩ : Str) := by decide
  have hj := SX.join_S [] l
  rw [joinL_nil] at hj
  have hl : ((l.map fun c => (⟨c.toArray⟩ : Str)).map (·.length)).sum = l.flatten.length := by
    rw [List.map_map, List.length_flatten]
    congr 1
  simp only [dJoin, strs_T]
  rw [if_pos]
  · rw [e]
    exact congrArg (fun z => some (D.str z)) hj
  · unfold joinOk
    rw [hl, e, T_len]
    simpa [SZ] using h
theorem sg_T (l : List Nat) : l.map sg = (l.map fun c => [c]).map T := by
  rw [List.map_map]
  rfl
theorem join_sg (l : List Nat) (h : l.length ≤ SZ) : dJoin (.str "") (.lst (l.map sg)) = some (T l) := by
  have e : (l.map fun c => [c]).flatten = l := by
    clear h
    induction l with
    | nil => rfl
    | cons c l ih => simp [ih]
  rw [sg_T, join_T _ (by rw [e]; exact h), e]
end VL

end

section
set_option linter.all false
set_option maxRecDepth 100000
set_option maxHeartbeats 4000000
namespace VL
open PySem L2
theorem seq_nx {s r : Sl → SR} {ρ ρ1 : Sl} {cs : List Cell} {q : FR} (h1 : s ρ = .nx ρ1) (h2 : endOf cs (r ρ1) = q) : endOf cs (sSeq s r ρ) = q := by
  rw [e_seq, h1]
  exact h2
theorem seq_rt {s r : Sl → SR} {ρ ρ1 : Sl} {cs : List Cell} {d : D} {q : FR} (h1 : s ρ = .rt d ρ1) (h2 : endOf cs (.rt d ρ1) = q) : endOf cs (sSeq s r ρ) = q := by
  rw [e_seq, h1]
  exact h2
theorem dTup {x y : List D} : dAdd (.tup x) (.tup y) = if x.length + y.length ≤ SZ then some (.tup (x ++ y)) else none := Eq.trans rfl rfl
theorem end_rt {cs : List Cell} {d : D} {ρ : Sl} {j : List D} (h : lentOf cs ρ = some j) : endOf cs (.rt d ρ) = .ret d j := by
  show (match lentOf cs ρ with | some j => FR.ret d j | none => .stuck) = _
  rw [h]
end VL
namespace VL
open PySem L2
@[simp] theorem e_frz {i : Nat} {s : Sl → SR} {ρ : Sl} : sFrz i s ρ = s (match ρ[i]? with | some (.ol true ds) => ρ.set i (.pv (.lst ds)) | _ => ρ) := Eq.trans rfl rfl
end VL

end

section
set_option linter.all false
set_option maxRecDepth 100000
set_option maxHeartbeats 4000000
namespace VL
open PySem L2
/-! ### what repr shows: there is such a text, nested at most k deep, of weight at most w -/
def Rg (k w : Nat) (d : D) : Prop := ∃ p, d.py = some p ∧ p.showable = true ∧ p.hasDict = false ∧ p.leavesShort 8 = true ∧ p.depth ≤ k ∧ p.weight ≤ w
def RgA (k w : Nat) (ds : List D) : Prop := ∃ ps, D.pyA ds = some ps ∧ PyData.showableAll ps = true ∧ PyData.hasDictAll ps = false ∧ PyData.leavesShortAll 8 ps = true ∧ PyData.depthAll ps ≤ k ∧ PyData.weightAll ps ≤ w
theorem Rg.mono {k k' w w' : Nat} {d : D} (h : Rg k w d) (hk : k ≤ k') (hw : w ≤ w') : Rg k' w' d := by
  obtain ⟨p, h1, h2, h3, h4, h5, h6⟩ := h
  exact ⟨p, h1, h2, h3, h4, Nat.le_trans h5 hk, Nat.le_trans h6 hw⟩
theorem RgA.mono {k k' w w' : Nat} {d : List D} (h : RgA k w d) (hk : k ≤ k') (hw : w ≤ w') : RgA k' w' d := by
  obtain ⟨p, h1, h2, h3, h4, h5, h6⟩ := h
  exact ⟨p, h1, h2, h3, h4, Nat.le_trans h5 hk, Nat.le_trans h6 hw⟩
theorem rg_non : Rg 0 0 .non := ⟨.none, rfl, rfl, rfl, rfl, Nat.le_refl _, Nat.le_refl _⟩
theorem rg_bl (b : Bool) : Rg 0 0 (.bl b) := ⟨.bool b, rfl, rfl, rfl, rfl, Nat.le_refl _, Nat.le_refl _⟩
theorem rg_str {z : Str} (h : ∀ c ∈ z.cps.toList, c < 1114112) : Rg 0 z.length (.str z) := by
  refine ⟨.str z, rfl, rfl, rfl, ?_, Nat.le_refl _, Nat.le_refl _⟩
  simp only [PyData.leavesShort, List.all_eq_true, decide_eq_true_eq]
  intro c hc
  have := h c hc
  have e : (16 : Nat) ^ 8 = 4294967296 := by decide
  omega
theorem rg_T {l : List Nat} (h : ∀ c ∈ l, c < 1114112) : Rg 0 l.length (T l) := by
  have := rg_str (z := ⟨l.toArray⟩) (by simpa using h)
  rw [T_len] at this
  exact this
theorem rg_int {i : Int} (h : i.natAbs < 1000000) : Rg 0 20 (.int i) := by
  have hl : i.natAbs.log2 < 20 ∨ i.natAbs = 0 := by
    by_cases z : i.natAbs = 0
    · exact .inr z
    · exact .inl ((Nat.log2_lt z).mpr (by omega))
  have hl2 : i.natAbs.log2 < 1920 := by
    rcases hl with z | z
    · omega
    · rw [z]; decide
  refine ⟨.int i, rfl, by simp [PyData.showable, hl2], rfl, ?_, Nat.le_refl _, ?_⟩
  · simp only [PyData.leavesShort, decide_eq_true_eq]
    have e := int_text_length_le10 (a := i) (k := 7) (by omega) (by omega)
    show (Str.ofString (toString i)).length ≤ 8
    rw [ofString_length]
    omega
  · show (if i == 0 then 0 else i.natAbs.log2 + 1) ≤ 20
    split
    · omega
    · rcases hl with z | z
      · omega
      · rw [z]; decide
theorem rg_nil : RgA 0 0 [] := ⟨[], rfl, rfl, rfl, rfl, Nat.le_refl _, Nat.le_refl _⟩
theorem rg_cons {k k' w w' : Nat} {d : D} {ds : List D} (h : Rg k w d) (t : RgA k' w' ds) : RgA (max k k') (w + 1 + w') (d :: ds) := by
  obtain ⟨p, h1, h2, h3, h4, h5, h6⟩ := h
  obtain ⟨ps, t1, t2, t3, t4, t5, t6⟩ := t
  refine ⟨p :: ps, by rw [D.pyA, h1, t1], ?_, ?_, ?_, ?_, ?_⟩
  · simp [PyData.showableAll, h2, t2]
  · simp [PyData.hasDictAll, h3, t3]
  · simp [PyData.leavesShortAll, h4, t4]
  · show max p.depth (PyData.depthAll ps) ≤ _
    omega
  · show p.weight + 1 + PyData.weightAll ps ≤ _
    omega
theorem rg_cons' {k w w' : Nat} {d : D} {ds : List D} (h : Rg k w d) (t : RgA k w' ds) : RgA k (w + 1 + w') (d :: ds) := (rg_cons h t).mono (by omega) (Nat.le_refl _)
theorem rg_tup {k w : Nat} {ds : List D} (h : RgA k w ds) : Rg (k + 1) w (.tup ds) := by
  obtain ⟨ps, t1, t2, t3, t4, t5, t6⟩ := h
  exact ⟨.tuple ps, by rw [D.py, t1]; rfl, t2, t3, t4, Nat.succ_le_succ t5, t6⟩
theorem rg_lst {k w : Nat} {ds : List D} (h : RgA k w ds) : Rg (k + 1) w (.lst ds) := by
  obtain ⟨ps, t1, t2, t3, t4, t5, t6⟩ := h
  exact ⟨.list ps, by rw [D.py, t1]; rfl, t2, t3, t4, Nat.succ_le_succ t5, t6⟩
theorem rg_map {α : Type} {f : α → D} {k w : Nat} : ∀ {xs : List α}, (∀ x ∈ xs, Rg k w (f x)) → RgA k ((w + 1) * xs.length) (xs.map f)
  | [], _ => rg_nil.mono (Nat.zero_le _) (Nat.zero_le _)
  | x :: r, h => by
    have ih := rg_map (xs := r) fun y hy => h y (List.mem_cons_of_mem _ hy)
    rw [List.map_cons, List.length_cons, Nat.mul_succ]
    exact (rg_cons' (h x List.mem_cons_self) ih).mono (Nat.le_refl _) (by omega)
theorem repr_of {k w : Nat} {d : D} (h : Rg k w d) (hk : k ≤ 60) (hw : 10 * w + 8 ≤ SZ) : ∃ s, reprD d = some s := by
  obtain ⟨p, h1, h2, h3, h4, h5, h6⟩ := h
  have hl := PyData.shown_le 8 (Nat.le_refl _) p h4
  refine ⟨p.shown, ?_⟩
  unfold reprD
  rw [h1]
  simp only
  rw [if_pos ⟨h2, h3, by omega, by omega⟩]
theorem dRepr_of {d : D} {s : Str} (h : reprD d = some s) : dRepr [d] = some (.str s) := by
  show (reprD d).map D.str = _
  rw [h]
  rfl
@[simp] theorem eqS_same (s : Str) : dEqS (.str s) (.str s) = some (.bl true) := by
  show some (D.bl (decide (s = s))) = _
  rw [decide_eq_true rfl]
@[simp] theorem neS_same (s : Str) : dNeS (.str s) (.str s) = some (.bl false) := by
  show some (D.bl (!decide (s = s))) = _
  rw [decide_eq_true rfl]
  rfl
/-- comprehensions that draw, over known items -/
theorem lc_drawM {J : Type} (Ok : J → Prop) (R : J → Sl) (v : Nat) (fe : Sl → Res Val) (P : D → Prop) (hw : ∀ j item, wipC ((R j).set v (.pv item)) [v] = R j) : ∀ (items acc : List D) (j : J),
    (∀ j item, item ∈ items → Ok j → ∃ d j', Ok j' ∧ P d ∧ fe ((R j).set v (.pv item)) = .ok (.d d) ((R j').set v (.pv item))) → Ok j → acc.length + items.length ≤ SZ →
    ∃ ds j', Ok j' ∧ ds.length = items.length ∧ (∀ d ∈ ds, P d) ∧ lcL (.nm v) mYes fe [v] items (R j) acc = .ok (acc ++ ds) (R j')
  | [], acc, j, _, hj, _ => ⟨[], j, hj, rfl, (by simp), by simp [lcL]⟩
  | d :: ds, acc, j, hst, hj, hl => by
    obtain ⟨x, j1, h1, h2, h3⟩ := hst j d List.mem_cons_self hj
    rw [List.length_cons] at hl
    obtain ⟨xs, j2, k1, k2, k3, k4⟩ := lc_drawM Ok R v fe P hw ds (acc ++ [x]) j1 (fun j item hi => hst j item (List.mem_cons_of_mem _ hi)) h1 (by rw [List.length_append, List.length_singleton]; omega)
    refine ⟨x :: xs, j2, k1, by simp [k2], ?_, ?_⟩
    · intro y hy
      rcases List.mem_cons.mp hy with z | z
      · rw [z]; exact h2
      · exact k3 y z
    · unfold lcL
      rw [e_nm]
      simp only [mYes, h3]
      rw [if_pos (by omega), hw, k4, List.append_assoc]
      rfl
theorem eq_rep {ds : List D} (h : ∀ d ∈ ds, d = D.bl true) : ds = (List.replicate ds.length true).map D.bl := by
  induction ds with
  | nil => rfl
  | cons d r ih =>
    rw [List.length_cons, List.replicate_succ, List.map_cons, ← ih (fun x hx => h x (List.mem_cons_of_mem _ hx)), h d List.mem_cons_self]
theorem all_of {ds : List D} (h : ∀ d ∈ ds, d = D.bl true) : dAll [.lst ds] = some (.bl true) := by
  rw [eq_rep h]
  have ha : (List.replicate ds.length true).all id = true := by simp
  show (blsOf ((List.replicate ds.length true).map D.bl)).map (fun bs => D.bl (bs.all id)) = _
  rw [bls_map, Option.map_some, ha]
theorem ex_map {α : Type} {f : α → D} {P : α → Prop} : ∀ {ds : List D}, (∀ d ∈ ds, ∃ x, P x ∧ d = f x) → ∃ xs : List α, ds = xs.map f ∧ xs.length = ds.length ∧ ∀ x ∈ xs, P x
  | [], _ => ⟨[], rfl, rfl, by simp⟩
  | d :: r, h => by
    obtain ⟨x, hx, rfl⟩ := h d List.mem_cons_self
    obtain ⟨xs, h1, h2, h3⟩ := ex_map (ds := r) fun y hy => h y (List.mem_cons_of_mem _ hy)
    refine ⟨x :: xs, by rw [List.map_cons, h1], by rw [List.length_cons, List.length_cons, h2], fun y hy => ?_⟩
    rcases List.mem_cons.mp hy with z | z
    · rw [z]; exact hx
    · exact h3 y z
theorem e_tryN {hit : Addr → Option Bool} {fb fs : Sl → SR} {ρ : Sl} : sTryN hit fb fs ρ = (match fb ρ with | .exc x ρ1 => (match hit x.C with | some true => noExc (fs (unk ρ)) | some false => .exc x ρ1 | none => .stuck) | r => r) := by
  unfold sTryN
  rfl
theorem e_kw {n m : Nat} {is : List Nat} {f g : Sl → Res (List Val)} {ρ : Sl} : mKw n m is f g ρ = (f ρ).bind fun a ρ1 => (g ρ1).bind fun b ρ2 => if a.length = n ∧ b.length = m then .ok (pk is (a ++ b)) ρ2 else .stuck := Eq.trans rfl rfl
end VL

end

section
set_option linter.all false
set_option maxRecDepth 100000
set_option maxHeartbeats 4000000
namespace KL
open PySem PySem.Spec PyProof.Rows L2 VL
def top (i : Nat) : Stmt := PySem.Challenge.pw_piecestay_k02_texts_run_through_scripts.main.body.getD i (.Pass ⟨0, 0, 0, 0⟩)
abbrev s_indexes_of : Stmt := top 10
abbrev s_patched : Stmt := top 11
abbrev s_letters_behind : Stmt := top 12
abbrev s_run : Stmt := top 13
abbrev s__law_jar : Stmt := top 15
abbrev s__law_take : Stmt := top 16
abbrev s__law_of : Stmt := top 17
abbrev s__law_word : Stmt := top 18
abbrev s__law_place : Stmt := top 19
abbrev s__law_patch : Stmt := top 20
abbrev s__law_patches : Stmt := top 21
abbrev s__law_spot : Stmt := top 22
abbrev s__law_patched : Stmt := top 23
abbrev s__law_ran : Stmt := top 24
abbrev s__law_heard_run : Stmt := top 25
abbrev s__law_by_names : Stmt := top 26
abbrev s__law_right : Stmt := top 27
abbrev s_law : Stmt := top 28
abbrev tab_PARTS : Str → Option D := tabOf [(("put" : Str), (.tup [(.str "spot"), (.str "text")])), (("cut" : Str), (.tup [(.str "spot"), (.str "spot")])), (("over" : Str), (.tup [(.str "spot"), (.str "text")])), (("copy" : Str), (.tup [(.str "spot"), (.str "spot"), (.str "spot")]))]
structure Top (K : PySem.W.Frag) (mg : Str → Option Value) (w : World) (cNoRun : Addr) (cStayError : Addr) : Prop where
  b_ValueError : mg "ValueError" = none
  b_abs : mg "abs" = none
  b_all : mg "all" = none
  b_any : mg "any" = none
  b_enumerate : mg "enumerate" = none
  b_int : mg "int" = none
  b_isinstance : mg "isinstance" = none
  b_len : mg "len" = none
  b_list : mg "list" = none
  b_max : mg "max" = none
  b_min : mg "min" = none
  b_range : mg "range" = none
  b_repr : mg "repr" = none
  b_tuple : mg "tuple" = none
  b_zip : mg "zip" = none
  c_BEGINNING : ∃ u, mg "BEGINNING" = some u ∧ RelV (V.str "a") u
  c_COPY : ∃ u, mg "COPY" = some u ∧ RelV (V.str "copy") u
  c_CUT : ∃ u, mg "CUT" = some u ∧ RelV (V.str "cut") u
  c_OVER : ∃ u, mg "OVER" = some u ∧ RelV (V.str "over") u
  c_PUT : ∃ u, mg "PUT" = some u ∧ RelV (V.str "put") u
  t_PARTS : TabK K mg w "PARTS" tab_PARTS
  m_NoRun : mg "NoRun" = some (.ref cNoRun)
  m_StayError : mg "StayError" = some (.ref cStayError)
  kit_NoRun_NoRun : PySem.W.kitOne K (Tag.cls cNoRun).val (.ref cNoRun) = some true
  kit_NoRun_ValueError : PySem.W.kitOne K (Tag.cls cNoRun).val (.type "ValueError") = some true
  e_NoRun : L2.ExcC K cNoRun
  f_NoRun : XfC K cNoRun
  n_NoRun_index : PySem.W.findIn K (.ref cNoRun) "index" = some none
  exm_NoRun_NoRun : PySem.W.exmOne K (.ref cNoRun) (.ref cNoRun) = some true
  exm_NoRun_StayError : PySem.W.exmOne K (.ref cNoRun) (.ref cStayError) = some true
/-! ### mirrors -/
def B_indexes_of : Sl → SR := (sSeq (sSet 2 (nVal (nLc (mZip (mCons (mTab tab_PARTS (m2 dIx (mVar 0) (mC (.int 0)))) (mCons (mCut (mVar 0) (mPart (mC (.int 1))) mNoP) mNil))) (.tp [3, 4]) (asB (m2 dEq (mVar 3) (mC (.str "spot")))) (mVar 4) [3, 4])))
  (sSeq (sIf (mTru (mCall dAny (mCons (nVal (nLc (mItems (mVar 2)) (.tp [5, 6]) mYes (m2 (dCmp fun i j => decide (j < i)) (mVar 6) (mVar 1)) [5, 6])) mNil))) (sSeq (sRet (mC .non))
  sNx) sNx)
  (sSeq (sSet 7 (nVal (nLc (mItems (mVar 2)) (.tp [5, 6]) mYes (mIf (asB (m2 dEq (mVar 5) (mC (.str "a")))) (mVar 6) (m2 dSub (mVar 1) (mVar 6))) [5, 6])))
  (sSeq (sIf (mAndT (asB (m2 dIn (m2 dIx (mVar 0) (mC (.int 0))) (mTup (mCons (mC (.str "cut")) (mCons (mC (.str "copy")) mNil))))) (asB (m2 (dCmp fun i j => decide (i < j)) (m2 dIx (mVar 7) (mC (.int 1))) (m2 dIx (mVar 7) (mC (.int 0)))))) (sSeq (sRet (mC .non))
  sNx) sNx)
  (sSeq (sIf (mAndT (asB (m2 dEq (m2 dIx (mVar 0) (mC (.int 0))) (mC (.str "over")))) (asB (m2 (dCmp fun i j => decide (j < i)) (m2 dAdd (m2 dIx (mVar 7) (mC (.int 0))) (mCall dLen (mCons (m2 dIx (mVar 0) (mC (.int 2))) mNil))) (mVar 1)))) (sSeq (sRet (mC .non))
  sNx) sNx)
  (sSeq (sRet (mVar 7))
  sNx))))))
abbrev M_indexes_of : List Cell → FR := mkFn 2 8 B_indexes_of
def B_patched : Sl → SR := (sSeq (sSet 3 (m2 dIx (mVar 1) (mC (.int 0))))
  (sSeq (sIf (asB (m2 dEq (m2 dIx (mVar 0) (mC (.int 0))) (mC (.str "put")))) (sSeq (sRet (m2 dAdd (m2 dAdd (mCut (mVar 2) mNoP (mPart (mVar 3))) (mCall dList (mCons (m2 dIx (mVar 0) (mC (.int 2))) mNil))) (mCut (mVar 2) (mPart (mVar 3)) mNoP)))
  sNx) sNx)
  (sSeq (sIf (asB (m2 dEq (m2 dIx (mVar 0) (mC (.int 0))) (mC (.str "cut")))) (sSeq (sRet (m2 dAdd (mCut (mVar 2) mNoP (mPart (mVar 3))) (mCut (mVar 2) (mPart (m2 dIx (mVar 1) (mC (.int 1)))) mNoP)))
  sNx) sNx)
  (sSeq (sIf (asB (m2 dEq (m2 dIx (mVar 0) (mC (.int 0))) (mC (.str "over")))) (sSeq (sRet (m2 dAdd (m2 dAdd (mCut (mVar 2) mNoP (mPart (mVar 3))) (mCall dList (mCons (m2 dIx (mVar 0) (mC (.int 2))) mNil))) (mCut (mVar 2) (mPart (m2 dAdd (mVar 3) (mCall dLen (mCons (m2 dIx (mVar 0) (mC (.int 2))) mNil)))) mNoP)))
  sNx) sNx)
  (sSeq (sSet 4 (m2 dIx (mVar 1) (mC (.int 2))))
  (sSeq (sRet (m2 dAdd (m2 dAdd (mCut (mVar 2) mNoP (mPart (mVar 4))) (mCut (mVar 2) (mPart (mVar 3)) (mPart (m2 dIx (mVar 1) (mC (.int 1)))))) (mCut (mVar 2) (mPart (mVar 4)) mNoP)))
  sNx))))))
abbrev M_patched : List Cell → FR := mkFn 3 5 B_patched
def B_letters_behind (cNoRun : Addr) : Sl → SR := (sSeq (sSet 2 (mCall dList (mCons (mVar 1) mNil)))
  (sSeq (sFor (.tp [3, 4]) (mEnm (mVar 0)) (sSeq (sSet 5 (mFn M_indexes_of [] (mCons (mVar 4) (mCons (mCall dLen (mCons (mVar 2) mNil)) mNil))))
  (sSeq (sIf (asB (m2 dIsN (mVar 5) (mC .non))) (sSeq (sRaise cNoRun "index" (mCons (mVar 3) mNil))
  sNx) sNx)
  (sSeq (sSet 2 (mFn M_patched [] (mCons (mVar 4) (mCons (mVar 5) (mCons (mVar 2) mNil)))))
  sNx))))
  (sSeq (sRet (mVar 2))
  sNx)))
abbrev M_letters_behind (cNoRun : Addr) : List Cell → FR := mkFn 2 6 (B_letters_behind cNoRun)
def B_run (cNoRun : Addr) : Sl → SR := (sSeq (sRet (mJoin (mC (.str "")) (mFn (M_letters_behind cNoRun) [] (mCons (mVar 0) (mCons (mVar 1) mNil)))))
  sNx)
abbrev M_run (cNoRun : Addr) : List Cell → FR := mkFn 2 2 (B_run cNoRun)
def B__law_jar : Sl → SR := (sSeq (sSet 2 (mIf (asB (m2 (dCmp fun i j => decide (i < j)) (mVar 1) (mCall dLen (mCons (mVar 0) mNil)))) (m2 dIx (mVar 0) (mVar 1)) (m2 dAdd (m2 dMul (mC (.int 61)) (mVar 1)) (mC (.int 29)))))
  (sSeq (sSet 3 (m2 dMul (m2 dMod (mCall dInt (mCons (mCall dAbs (mCons (mVar 2) mNil)) mNil)) (m2 dPow (m2 dPow (mC (.int 10)) (mC (.int 60))) (mC (.int 5)))) (mCall dInt (mCons (m2 (dCmp fun i j => decide (j ≤ i)) (mCall dAbs (mCons (mVar 2) mNil)) (m2 dPow (mC (.int 10)) (mC (.int 18)))) mNil))))
  (sSeq (sRetN (nLst (mCons (mVar 3) (mCons (m2 dMod (mCall dInt (mCons (m2 dAdd (m2 dAdd (m2 dMul (m2 dMod (mCall dInt (mCons (mVar 2) mNil)) (mC (.int 2305843009213693951))) (mC (.int 70001))) (m2 dMul (m2 dMul (mC (.int 6301)) (mVar 1)) (mVar 1))) (mC (.int 97))) mNil)) (mC (.int 2305843009213693921))) mNil))))
  sNx)))
abbrev M__law_jar : List Cell → FR := mkFn 2 4 B__law_jar
def B__law_take : Sl → SR := (sSeq (sIf (asB (m2 (dCmp fun i j => decide (j < i)) (m2 dIx (mVar 0) (mC (.int 0))) (mC (.int 0)))) (sSeq (sAt (aTup 2 (aCons (aNm 2) (aCons (ixRun 0 (mC (.int 0))) aNil))) (mTup (mCons (m2 dMod (mCall dInt (mCons (m2 dIx (mVar 0) (mC (.int 0))) mNil)) (mVar 1)) (mCons (m2 dDiv (m2 dIx (mVar 0) (mC (.int 0))) (mVar 1)) mNil))))
  (sSeq (sRet (mVar 2))
  sNx)) sNx)
  (sSeq (sAt (ixRun 0 (mC (.int 1))) (m2 dMod (mCall dInt (mCons (m2 dAdd (m2 dMul (m2 dIx (mVar 0) (mC (.int 1))) (mC (.int 48271))) (mC (.int 90007))) mNil)) (mC (.int 2305843009213693921))))
  (sSeq (sRet (m2 dMod (mCall dInt (mCons (m2 dAdd (m2 dDiv (m2 dIx (mVar 0) (mC (.int 1))) (mC (.int 1013))) (m2 dDiv (m2 dIx (mVar 0) (mC (.int 1))) (mC (.int 1000033)))) mNil)) (mVar 1)))
  sNx)))
abbrev M__law_take : List Cell → FR := mkFn 2 3 B__law_take
def B__law_of : Sl → SR := (sSeq (sRet (m2 dIx (mVar 1) (mFn M__law_take [] (mCons (mVar 0) (mCons (mCall dLen (mCons (mVar 1) mNil)) mNil)))))
  sNx)
abbrev M__law_of : List Cell → FR := mkFn 2 2 B__law_of
def B__law_word : Sl → SR := (sSeq (sSet 2 (mFn M__law_of [] (mCons (mVar 0) (mCons (mLst (mCons (mC (.str "ab")) (mCons (mC (.str "ab")) (mCons (mC (.str "abc")) (mCons (mC (.str "abcdefghijklmnopqrstuvwxyz")) mNil))))) mNil))))
  (sSeq (sRet (mJoin (mC (.str "")) (nVal (nLc (mRng1 (mCons (mVar 1) mNil)) (.nm 3) mYes (mFn M__law_of [] (mCons (mVar 0) (mCons (mVar 2) mNil))) [3]))))
  sNx))
abbrev M__law_word : List Cell → FR := mkFn 2 4 B__law_word
def B__law_place : Sl → SR := (sSeq (sRet (mTup (mCons (mFn M__law_of [] (mCons (mVar 0) (mCons (mVar 1) mNil))) (mCons (mFn M__law_of [] (mCons (mVar 0) (mCons (mLst (mCons (mC (.int 0)) (mCons (mC (.int 0)) (mCons (mC (.int 1)) (mCons (mC (.int 2)) (mCons (mC (.int 3)) (mCons (mC (.int 5)) (mCons (mFn M__law_take [] (mCons (mVar 0) (mCons (mC (.int 41)) mNil))) (mCons (mC (.int 40)) mNil))))))))) mNil))) mNil))))
  sNx)
abbrev M__law_place : List Cell → FR := mkFn 2 2 B__law_place
def B__law_patch : Sl → SR := (sSeq (sUnp (.tp [1, 2]) (mTup (mCons (mFn M__law_take [] (mCons (mVar 0) (mCons (mC (.int 8)) mNil))) (mCons (mFn M__law_of [] (mCons (mVar 0) (mCons (mLst (mCons (mC (.int 1)) (mCons (mC (.int 1)) (mCons (mC (.int 2)) (mCons (mC (.int 3)) (mCons (m2 dAdd (mC (.int 1)) (mFn M__law_take [] (mCons (mVar 0) (mCons (mC (.int 40)) mNil)))) mNil)))))) mNil))) mNil))))
  (sSeq (sIf (asB (m2 (dCmp fun i j => decide (i < j)) (mVar 1) (mC (.int 3)))) (sSeq (sRet (mTup (mCons (mC (.str "put")) (mCons (mFn M__law_place [] (mCons (mVar 0) (mCons (mC (.str "az")) mNil))) (mCons (mFn M__law_word [] (mCons (mVar 0) (mCons (mVar 2) mNil))) mNil)))))
  sNx) sNx)
  (sSeq (sIf (asB (m2 (dCmp fun i j => decide (i < j)) (mVar 1) (mC (.int 5)))) (sSeq (sRet (mTup (mCons (mC (.str "cut")) (mCons (mFn M__law_place [] (mCons (mVar 0) (mCons (mC (.str "aaz")) mNil))) (mCons (mFn M__law_place [] (mCons (mVar 0) (mCons (mC (.str "azz")) mNil))) mNil)))))
  sNx) sNx)
  (sSeq (sIf (asB (m2 dEq (mVar 1) (mC (.int 5)))) (sSeq (sRet (mTup (mCons (mC (.str "over")) (mCons (mFn M__law_place [] (mCons (mVar 0) (mCons (mC (.str "az")) mNil))) (mCons (mFn M__law_word [] (mCons (mVar 0) (mCons (mVar 2) mNil))) mNil)))))
  sNx) sNx)
  (sSeq (sSet 3 (mFn M__law_of [] (mCons (mVar 0) (mCons (mC (.str "az")) mNil))))
  (sSeq (sRet (mTup (mCons (mC (.str "copy")) (mCons (mFn M__law_place [] (mCons (mVar 0) (mCons (mVar 3) mNil))) (mCons (mFn M__law_place [] (mCons (mVar 0) (mCons (mVar 3) mNil))) (mCons (mFn M__law_place [] (mCons (mVar 0) (mCons (mC (.str "az")) mNil))) mNil))))))
  sNx))))))
abbrev M__law_patch : List Cell → FR := mkFn 1 4 B__law_patch
def B__law_patches : Sl → SR := (sSeq (sRet (mCall dTuple (mCons (nVal (nLc (mRng1 (mCons (mFn M__law_take [] (mCons (mVar 0) (mCons (m2 dAdd (mVar 1) (mC (.int 1))) mNil))) mNil)) (.nm 2) mYes (mFn M__law_patch [] (mCons (mVar 0) mNil)) [2])) mNil)))
  sNx)
abbrev M__law_patches : List Cell → FR := mkFn 2 3 B__law_patches
def B__law_spot : Sl → SR := (sSeq (sUnp (.tp [2, 3]) (mVar 0))
  (sSeq (sIf (asB (m2 (dCmp fun i j => decide (j < i)) (mVar 3) (mVar 1))) (sSeq (sRet (mC .non))
  sNx) sNx)
  (sSeq (sRet (mIf (asB (m2 dEq (mVar 2) (mC (.str "a")))) (mVar 3) (m2 dSub (mVar 1) (mVar 3))))
  sNx)))
abbrev M__law_spot : List Cell → FR := mkFn 2 4 B__law_spot
def B__law_patched : Sl → SR := (sSeq (sUnp (.tp [2, 3]) (mTup (mCons (mCall dLen (mCons (mVar 1) mNil)) (mCons (m2 dIx (mVar 0) (mC (.int 0))) mNil))))
  (sSeq (sSet 4 (mFn M__law_spot [] (mCons (m2 dIx (mVar 0) (mC (.int 1))) (mCons (mVar 2) mNil))))
  (sSeq (sIf (asB (m2 dIn (mVar 3) (mTup (mCons (mC (.str "put")) (mCons (mC (.str "over")) mNil))))) (sSeq (sSet 5 (mCall dList (mCons (m2 dIx (mVar 0) (mC (.int 2))) mNil)))
  (sSeq (sSet 6 (mIf (asB (m2 dIsN (mVar 4) (mC .non))) (mC .non) (m2 dAdd (mVar 4) (m2 dMul (mCall dLen (mCons (mVar 5) mNil)) (mCall dInt (mCons (m2 dEq (mVar 3) (mC (.str "over"))) mNil))))))
  (sSeq (sRet (mIf (mOrT (asB (m2 dIsN (mVar 6) (mC .non))) (asB (m2 (dCmp fun i j => decide (j < i)) (mVar 6) (mVar 2)))) (mC .non) (m2 dAdd (m2 dAdd (mCut (mVar 1) mNoP (mPart (mVar 4))) (mVar 5)) (mCut (mVar 1) (mPart (mVar 6)) mNoP))))
  sNx))) sNx)
  (sSeq (sSet 7 (mFn M__law_spot [] (mCons (m2 dIx (mVar 0) (mC (.int 2))) (mCons (mVar 2) mNil))))
  (sSeq (sIf (mOrT (asB (m2 dIsN (mVar 4) (mC .non))) (mOrT (asB (m2 dIsN (mVar 7) (mC .non))) (asB (m2 (dCmp fun i j => decide (i < j)) (mVar 7) (mVar 4))))) (sSeq (sRet (mC .non))
  sNx) sNx)
  (sSeq (sIf (asB (m2 dEq (mVar 3) (mC (.str "cut")))) (sSeq (sRet (m2 dAdd (mCut (mVar 1) mNoP (mPart (mVar 4))) (mCut (mVar 1) (mPart (mVar 7)) mNoP)))
  sNx) sNx)
  (sSeq (sSet 8 (mFn M__law_spot [] (mCons (m2 dIx (mVar 0) (mC (.int 3))) (mCons (mVar 2) mNil))))
  (sSeq (sIf (asB (m2 dIsN (mVar 8) (mC .non))) (sSeq (sRet (mC .non))
  sNx) sNx)
  (sSeq (sRet (m2 dAdd (m2 dAdd (mCut (mVar 1) mNoP (mPart (mVar 8))) (mCut (mVar 1) (mPart (mVar 4)) (mPart (mVar 7)))) (mCut (mVar 1) (mPart (mVar 8)) mNoP)))
  sNx)))))))))
abbrev M__law_patched : List Cell → FR := mkFn 2 9 B__law_patched
def B__law_ran : Sl → SR := (sSeq (sSet 2 (mCall dList (mCons (mVar 1) mNil)))
  (sSeq (sFor (.tp [3, 4]) (mEnm (mVar 0)) (sSeq (sSet 2 (mFn M__law_patched [] (mCons (mVar 4) (mCons (mVar 2) mNil))))
  (sSeq (sIf (asB (m2 dIsN (mVar 2) (mC .non))) (sSeq (sRet (mTup (mCons (mC (.str "stuck")) (mCons (mVar 3) mNil))))
  sNx) sNx)
  sNx)))
  (sSeq (sRet (mTup (mCons (mC (.str "text")) (mCons (mJoin (mC (.str "")) (mVar 2)) mNil))))
  sNx)))
abbrev M__law_ran : List Cell → FR := mkFn 2 5 B__law_ran
def B__law_heard_run (cNoRun : Addr) : Sl → SR := (sSeq (sUnp (.tp [2, 3]) (mTup (mCons (mC .non) (mCons (mC .non) mNil))))
  (sSeq (sTry (onlyC cNoRun true) 2 (sSeq (sSet 3 (mFn (M_run cNoRun) [] (mCons (mVar 0) (mCons (mVar 1) mNil))))
  sNx))
  (sSeq (sIf (asB (m2 dIsN (mVar 2) (mC .non))) (sSeq (sRet (mTup (mCons (mC (.str "text")) (mCons (mVar 3) mNil))))
  sNx) sNx)
  (sSeq (sIf (mAndT (mTru (mIsi (tagC cNoRun true) (mVar 2))) (mTru (mIsi (tagC cNoRun true) (mVar 2)))) (sSeq (sRet (mTup (mCons (mC (.str "stuck")) (mCons (mXf cNoRun "index" (mVar 2)) mNil))))
  sNx) sNx)
  (sSeq (sRet (mTup (mCons (mC (.str "other")) (mCons (mC .non) mNil))))
  sNx)))))
abbrev M__law_heard_run (cNoRun : Addr) : List Cell → FR := mkFn 2 5 (B__law_heard_run cNoRun)
def B__law_by_names (cNoRun : Addr) : Sl → SR := (sSeq (sSet 2 (mC .non))
  (sSeq (sTryN (onlyC cNoRun true) (sSeq (sSet 2 (mFn (M_run cNoRun) [] (mKw 1 1 [0, 1] (mCons (mVar 0) mNil) (mCons (mVar 1) mNil))))
  sNx) (sSeq (sRet (mC .non))
  sNx))
  (sSeq (sRet (mVar 2))
  sNx)))
abbrev M__law_by_names (cNoRun : Addr) : List Cell → FR := mkFn 2 3 (B__law_by_names cNoRun)
def B__law_right (cNoRun : Addr) : Sl → SR := (sSeq (sUnp (.tp [2, 3]) (mTup (mCons (mFn M__law_ran [] (mCons (mVar 0) (mCons (mVar 1) mNil))) (mCons (mCall dRepr (mCons (mVar 0) mNil)) mNil))))
  (sSeq (sIf (mOrT (asB (m2 dNeS (mCall dRepr (mCons (nVal (nLc (mRng1 (mCons (mC (.int 2)) mNil)) (.nm 4) mYes (mFn (M__law_heard_run cNoRun) [] (mCons (mVar 0) (mCons (mVar 1) mNil))) [4])) mNil)) (mCall dRepr (mCons (mLst (mCons (mVar 2) (mCons (mVar 2) mNil))) mNil)))) (asB (m2 dNeS (mCall dRepr (mCons (mVar 0) mNil)) (mVar 3)))) (sSeq (sRet (mC (.bl false)))
  sNx) sNx)
  (sSeq (sRet (m2 dEqS (mCall dRepr (mCons (mFn (M__law_by_names cNoRun) [] (mCons (mVar 0) (mCons (mVar 1) mNil))) mNil)) (mCall dRepr (mCons (mIf (asB (m2 dEq (m2 dIx (mVar 2) (mC (.int 0))) (mC (.str "text")))) (m2 dIx (mVar 2) (mC (.int 1))) (mC .non)) mNil))))
  sNx)))
abbrev M__law_right (cNoRun : Addr) : List Cell → FR := mkFn 2 5 (B__law_right cNoRun)
def B_law (cNoRun : Addr) : Sl → SR := (sSeq (sFor (.nm 1) (mRng1 (mCons (mCall dMax (mCons (mC (.int 1)) (mCons (mCall dMin (mCons (mC (.int 3)) (mCons (mCall dLen (mCons (mVar 0) mNil)) mNil))) mNil))) mNil)) (sSeq (sOwn 2 (nFn M__law_jar [] (mCons (mVar 0) (mCons (mVar 1) mNil))))
  (sSeq (sFor (.nm 3) (mRng1 (mCons (mC (.int 12)) mNil)) (sSeq (sSet 4 (mFn M__law_patches [] (mCons (mVar 2) (mCons (mC (.int 8)) mNil))))
  (sSeq (sSet 5 (mLst (mCons (mC (.int 0)) (mCons (mC (.int 1)) (mCons (mC (.int 3)) (mCons (mFn M__law_take [] (mCons (mVar 2) (mCons (mC (.int 10)) mNil))) (mCons (mFn M__law_take [] (mCons (mVar 2) (mCons (mC (.int 41)) mNil))) (mCons (mFn M__law_of [] (mCons (mVar 2) (mCons (mLst (mCons (mC (.int 5)) (mCons (mC (.int 40)) (mCons (mC (.int 41)) (mCons (mC (.int 80)) (mCons (mC (.int 400)) mNil)))))) mNil))) mNil))))))))
  (sSeq (sIf (mNotT (mTru (mCall dAll (mCons (nVal (nLc (mItems (mVar 5)) (.nm 6) mYes (mFn (M__law_right cNoRun) [] (mCons (mVar 4) (mCons (mFn M__law_word [] (mCons (mVar 2) (mCons (mVar 6) mNil))) mNil))) [6])) mNil)))) (sSeq (sRet (mC (.bl false)))
  sNx) sNx)
  sNx))))
  sNx)))
  (sSeq (sRet (mC (.bl true)))
  sNx))
abbrev M_law (cNoRun : Addr) : List Cell → FR := mkFn 1 7 (B_law cNoRun)
/-! ### derivations -/
section
variable {P : Program} {w : World} {K : PySem.W.Frag} {mg : Str → Option Value} {base : Heap}
theorem sc_indexes_of : FnScope ["patch", "size", "some", "sort", "part", "side", "far", "found"] ["patch", "size"] (defScope s_indexes_of) := ⟨rfl, rfl, rfl, by decide +kernel, rfl, by decide +kernel, by decide +kernel⟩
theorem d_indexes_of {cNoRun : Addr} {cStayError : Addr} (T : Top K mg w cNoRun cStayError) {f : Addr} {fd : FuncData} (F : Fun K "indexes_of" "indexes_of" s_indexes_of f fd) (hm : mg "indexes_of" = some (.ref f)) : Cal P w K mg base 1 "indexes_of" M_indexes_of [] :=
  have nd := sc_indexes_of.nd
  cal_mk F hm sc_indexes_of rfl rfl (fun _ _ _ _ _ _ us hl => match us, hl with | [_, _], _ => rfl) fun cdv A outer s H E hr tk ps =>
    (vb_cons (s_lc 2 [("sort", 3), ("part", 4)] nd (i_zip (x_cons (z_tab T.t_PARTS (x_ix (x_v 0) ve_int)) (x_cons (ve_cut (x_v 0) (vo_some ve_int) vo_none) va_nil)) T.b_zip) (fun _ _ _ _ _ => (g_t (g_c 3 nd (g_c 4 nd vns_nil)))) (fun _ _ _ _ _ => (vts_one (y_cmp (opd_eq (hu64 hr)) (x_v 3) ve_str))) (fun _ _ _ _ _ => (x_v 4)))
    (vb_cons (vs_if (y_t (x_b (cd_any rfl) T.b_any PyProof.Rows.boot_any (x_cons (VN.ve (n_lc [("side", 5), ("far", 6)] nd (vi_any (x_v 2)) (fun _ _ _ _ _ => (g_t (g_c 5 nd (g_c 6 nd vns_nil)))) (fun _ _ _ _ _ => vts_nil) (fun _ _ _ _ _ => (x_cmp (opd_cmp op_gt) (x_v 6) (x_v 1))))) va_nil))) (vb_cons (vs_ret ve_non)
    vb_nil) vb_nil)
    (vb_cons (s_lc 7 [("side", 5), ("far", 6)] nd (vi_any (x_v 2)) (fun _ _ _ _ _ => (g_t (g_c 5 nd (g_c 6 nd vns_nil)))) (fun _ _ _ _ _ => vts_nil) (fun _ _ _ _ _ => (ve_if (y_cmp (opd_eq (hu64 hr)) (x_v 5) (x_gs T.c_BEGINNING)) (x_v 6) (ve_bin opd_sub (x_v 1) (x_v 6)))))
    (vb_cons (vs_if (VW.vt (vw_and (y_cmp opd_in (x_ix (x_v 0) ve_int) (ve_tup (x_cons (x_gs T.c_CUT) (x_cons (x_gs T.c_COPY) va_nil)))) (vw_and1 (y_cmp (opd_cmp op_lt) (x_ix (x_v 7) ve_int) (x_ix (x_v 7) ve_int))))) (vb_cons (vs_ret ve_non)
    vb_nil) vb_nil)
    (vb_cons (vs_if (VW.vt (vw_and (y_cmp (opd_eq (hu64 hr)) (x_ix (x_v 0) ve_int) (x_gs T.c_OVER)) (vw_and1 (y_cmp (opd_cmp op_gt) (ve_bin opd_add (x_ix (x_v 7) ve_int) (x_b cd_len T.b_len boot_len (x_cons (x_ix (x_v 0) ve_int) va_nil))) (x_v 1))))) (vb_cons (vs_ret ve_non)
    vb_nil) vb_nil)
    (vb_cons (vs_ret (x_v 7))
    vb_nil))))))
theorem sc_patched : FnScope ["patch", "indexes", "signs", "first", "third"] ["patch", "indexes", "signs"] (defScope s_patched) := ⟨rfl, rfl, rfl, by decide +kernel, rfl, by decide +kernel, by decide +kernel⟩
theorem d_patched {cNoRun : Addr} {cStayError : Addr} (T : Top K mg w cNoRun cStayError) {f : Addr} {fd : FuncData} (F : Fun K "patched" "patched" s_patched f fd) (hm : mg "patched" = some (.ref f)) : Cal P w K mg base 1 "patched" M_patched [] :=
  have nd := sc_patched.nd
  cal_mk F hm sc_patched rfl rfl (fun _ _ _ _ _ _ us hl => match us, hl with | [_, _, _], _ => rfl) fun cdv A outer s H E hr tk ps =>
    (vb_cons (s_s 3 nd (x_ix (x_v 1) ve_int))
    (vb_cons (vs_if (y_cmp (opd_eq (hu64 hr)) (x_ix (x_v 0) ve_int) (x_gs T.c_PUT)) (vb_cons (vs_ret (ve_bin opd_add (ve_bin opd_add (ve_cut (x_v 2) vo_none (vo_some (x_v 3))) (x_ty (cd_list rfl) T.b_list PyProof.Rows.boot_list (x_cons (x_ix (x_v 0) ve_int) va_nil))) (ve_cut (x_v 2) (vo_some (x_v 3)) vo_none)))
    vb_nil) vb_nil)
    (vb_cons (vs_if (y_cmp (opd_eq (hu64 hr)) (x_ix (x_v 0) ve_int) (x_gs T.c_CUT)) (vb_cons (vs_ret (ve_bin opd_add (ve_cut (x_v 2) vo_none (vo_some (x_v 3))) (ve_cut (x_v 2) (vo_some (x_ix (x_v 1) ve_int)) vo_none)))
    vb_nil) vb_nil)
    (vb_cons (vs_if (y_cmp (opd_eq (hu64 hr)) (x_ix (x_v 0) ve_int) (x_gs T.c_OVER)) (vb_cons (vs_ret (ve_bin opd_add (ve_bin opd_add (ve_cut (x_v 2) vo_none (vo_some (x_v 3))) (x_ty (cd_list rfl) T.b_list PyProof.Rows.boot_list (x_cons (x_ix (x_v 0) ve_int) va_nil))) (ve_cut (x_v 2) (vo_some (ve_bin opd_add (x_v 3) (x_b cd_len T.b_len boot_len (x_cons (x_ix (x_v 0) ve_int) va_nil)))) vo_none)))
    vb_nil) vb_nil)
    (vb_cons (s_s 4 nd (x_ix (x_v 1) ve_int))
    (vb_cons (vs_ret (ve_bin opd_add (ve_bin opd_add (ve_cut (x_v 2) vo_none (vo_some (x_v 4))) (ve_cut (x_v 2) (vo_some (x_v 3)) (vo_some (x_ix (x_v 1) ve_int)))) (ve_cut (x_v 2) (vo_some (x_v 4)) vo_none)))
    vb_nil))))))
theorem sc_letters_behind : FnScope ["script", "signs", "found", "number", "patch", "indexes"] ["script", "signs"] (defScope s_letters_behind) := ⟨rfl, rfl, rfl, by decide +kernel, rfl, by decide +kernel, by decide +kernel⟩
theorem d_letters_behind {cNoRun : Addr} {cStayError : Addr} (T : Top K mg w cNoRun cStayError) (k_indexes_of : Cal P w K mg base 1 "indexes_of" M_indexes_of []) (k_patched : Cal P w K mg base 1 "patched" M_patched []) (k_NoRun : ExcMk P w K mg base 1 "NoRun" cNoRun "index") {f : Addr} {fd : FuncData} (F : Fun K "letters_behind" "letters_behind" s_letters_behind f fd) (hm : mg "letters_behind" = some (.ref f)) : Cal P w K mg base 3 "letters_behind" (M_letters_behind cNoRun) [] :=
  have nd := sc_letters_behind.nd
  cal_mk F hm sc_letters_behind rfl rfl (fun _ _ _ _ _ _ us hl => match us, hl with | [_, _], _ => rfl) fun cdv A outer s H E hr tk ps =>
    (vb_cons (s_s 2 nd (x_ty (cd_list rfl) T.b_list PyProof.Rows.boot_list (x_cons (x_v 1) va_nil)))
    (vb_cons (s_for ps (i_enm (x_v 0) T.b_enumerate) (g_t (g_c 3 nd (g_c 4 nd vns_nil))) (vb_cons (s_s 5 nd (x_fn k_indexes_of hr tk (x_cons (x_v 4) (x_cons (x_b cd_len T.b_len boot_len (x_cons (x_v 2) va_nil)) va_nil))))
    (vb_cons (vs_if (y_cmp opd_isN (x_v 5) ve_non) (vb_cons (s_raise k_NoRun hr tk (x_cons (x_v 3) va_nil))
    vb_nil) vb_nil)
    (vb_cons (s_s 2 nd (x_fn k_patched hr tk (x_cons (x_v 4) (x_cons (x_v 5) (x_cons (x_v 2) va_nil)))))
    vb_nil))))
    (vb_cons (vs_ret (x_v 2))
    vb_nil)))
theorem sc_run : FnScope ["script", "text"] ["script", "text"] (defScope s_run) := ⟨rfl, rfl, rfl, by decide +kernel, rfl, by decide +kernel, by decide +kernel⟩
theorem n_run {cNoRun : Addr} {cStayError : Addr} (T : Top K mg w cNoRun cStayError) (k_letters_behind : Cal P w K mg base 3 "letters_behind" (M_letters_behind cNoRun) []) {f : Addr} {fd : FuncData} (F : Fun K "run" "run" s_run f fd) : FnG P w K mg base 4 f fd ["script", "text"] (spM K (M_run cNoRun)) :=
  have nd := sc_run.nd
  fn_mk F sc_run rfl rfl fun cdv A outer s H E hr tk ps =>
    (vb_cons (vs_ret (x_join ve_str (x_fn k_letters_behind hr tk (x_cons (x_v 0) (x_cons (x_v 1) va_nil)))))
    vb_nil)
theorem d_run {cNoRun : Addr} {cStayError : Addr} (T : Top K mg w cNoRun cStayError) (k_letters_behind : Cal P w K mg base 3 "letters_behind" (M_letters_behind cNoRun) []) {f : Addr} {fd : FuncData} (F : Fun K "run" "run" s_run f fd) (hm : mg "run" = some (.ref f)) : Cal P w K mg base 4 "run" (M_run cNoRun) [] :=
  ⟨f, fd, ["script", "text"], [], [], n_run T k_letters_behind F, hm, F.kp, F.binds (fun _ _ _ _ _ _ us hl => match us, hl with | [_, _], _ => rfl), .nil, .nil⟩
theorem dk_run__kw1_text {cNoRun : Addr} {cStayError : Addr} (T : Top K mg w cNoRun cStayError) (k_letters_behind : Cal P w K mg base 3 "letters_behind" (M_letters_behind cNoRun) []) {f : Addr} {fd : FuncData} (F : Fun K "run" "run" s_run f fd) (hm : mg "run" = some (.ref f)) : CalK P w K mg base 4 "run" 1 ["text"] [0, 1] (M_run cNoRun) :=
  calK_mk (ps := ["script", "text"]) F hm (n_run T k_letters_behind F) (fun _ _ _ _ _ _ us ws h1 h2 => match us, ws, h1, h2 with | [_], [_], _, _ => rfl)
theorem sc__law_jar : FnScope ["_law_script", "_law_k", "_law_cell", "_law_own"] ["_law_script", "_law_k"] (defScope s__law_jar) := ⟨rfl, rfl, rfl, by decide +kernel, rfl, by decide +kernel, by decide +kernel⟩
theorem d__law_jar {cNoRun : Addr} {cStayError : Addr} (T : Top K mg w cNoRun cStayError) {f : Addr} {fd : FuncData} (F : Fun K "_law_jar" "_law_jar" s__law_jar f fd) (hm : mg "_law_jar" = some (.ref f)) : Cal P w K mg base 1 "_law_jar" M__law_jar [] :=
  have nd := sc__law_jar.nd
  cal_mk F hm sc__law_jar rfl rfl (fun _ _ _ _ _ _ us hl => match us, hl with | [_, _], _ => rfl) fun cdv A outer s H E hr tk ps =>
    (vb_cons (s_s 2 nd (ve_if (y_cmp (opd_cmp op_lt) (x_v 1) (x_b cd_len T.b_len boot_len (x_cons (x_v 0) va_nil))) (x_ix (x_v 0) (x_v 1)) (ve_bin opd_add (ve_bin opd_mul ve_int (x_v 1)) ve_int)))
    (vb_cons (s_s 3 nd (ve_bin opd_mul (ve_bin opd_mod (x_ty cd_int T.b_int PyProof.Rows.boot_int (x_cons (x_b cd_abs T.b_abs PyProof.Rows.boot_abs (x_cons (x_v 2) va_nil)) va_nil)) (ve_bin opd_pow (ve_bin opd_pow ve_int ve_int) ve_int)) (x_ty cd_int T.b_int PyProof.Rows.boot_int (x_cons (x_cmp (opd_cmp op_ge) (x_b cd_abs T.b_abs PyProof.Rows.boot_abs (x_cons (x_v 2) va_nil)) (ve_bin opd_pow ve_int ve_int)) va_nil))))
    (vb_cons (vs_retNew (vn_lst (x_cons (x_v 3) (x_cons (ve_bin opd_mod (x_ty cd_int T.b_int PyProof.Rows.boot_int (x_cons (ve_bin opd_add (ve_bin opd_add (ve_bin opd_mul (ve_bin opd_mod (x_ty cd_int T.b_int PyProof.Rows.boot_int (x_cons (x_v 2) va_nil)) ve_int) ve_int) (ve_bin opd_mul (ve_bin opd_mul ve_int (x_v 1)) (x_v 1))) ve_int) va_nil)) ve_int) va_nil))))
    vb_nil)))
theorem sc__law_take : FnScope ["_law_jar_here", "_law_many", "_law_digit"] ["_law_jar_here", "_law_many"] (defScope s__law_take) := ⟨rfl, rfl, rfl, by decide +kernel, rfl, by decide +kernel, by decide +kernel⟩
theorem d__law_take {cNoRun : Addr} {cStayError : Addr} (T : Top K mg w cNoRun cStayError) {f : Addr} {fd : FuncData} (F : Fun K "_law_take" "_law_take" s__law_take f fd) (hm : mg "_law_take" = some (.ref f)) : Cal P w K mg base 1 "_law_take" M__law_take [] :=
  have nd := sc__law_take.nd
  cal_mk F hm sc__law_take rfl rfl (fun _ _ _ _ _ _ us hl => match us, hl with | [_, _], _ => rfl) fun cdv A outer s H E hr tk ps =>
    (vb_cons (vs_if (y_cmp (opd_cmp op_gt) (x_ix (x_v 0) ve_int) ve_int) (vb_cons (s_at (ve_tup (x_cons (ve_bin opd_mod (x_ty cd_int T.b_int PyProof.Rows.boot_int (x_cons (x_ix (x_v 0) ve_int) va_nil)) (x_v 1)) (x_cons (ve_bin opd_div (x_ix (x_v 0) ve_int) (x_v 1)) va_nil))) (h_t (h_c (h_n 2 nd) (h_c (h_ix 0 ve_int) vgs_nil))))
    (vb_cons (vs_ret (x_v 2))
    vb_nil)) vb_nil)
    (vb_cons (s_at (ve_bin opd_mod (x_ty cd_int T.b_int PyProof.Rows.boot_int (x_cons (ve_bin opd_add (ve_bin opd_mul (x_ix (x_v 0) ve_int) ve_int) ve_int) va_nil)) ve_int) (h_ix 0 ve_int))
    (vb_cons (vs_ret (ve_bin opd_mod (x_ty cd_int T.b_int PyProof.Rows.boot_int (x_cons (ve_bin opd_add (ve_bin opd_div (x_ix (x_v 0) ve_int) ve_int) (ve_bin opd_div (x_ix (x_v 0) ve_int) ve_int)) va_nil)) (x_v 1)))
    vb_nil)))
theorem sc__law_of : FnScope ["_law_jar_here", "_law_some"] ["_law_jar_here", "_law_some"] (defScope s__law_of) := ⟨rfl, rfl, rfl, by decide +kernel, rfl, by decide +kernel, by decide +kernel⟩
theorem d__law_of {cNoRun : Addr} {cStayError : Addr} (T : Top K mg w cNoRun cStayError) (k__law_take : Cal P w K mg base 1 "_law_take" M__law_take []) {f : Addr} {fd : FuncData} (F : Fun K "_law_of" "_law_of" s__law_of f fd) (hm : mg "_law_of" = some (.ref f)) : Cal P w K mg base 2 "_law_of" M__law_of [] :=
  have nd := sc__law_of.nd
  cal_mk F hm sc__law_of rfl rfl (fun _ _ _ _ _ _ us hl => match us, hl with | [_, _], _ => rfl) fun cdv A outer s H E hr tk ps =>
    (vb_cons (vs_ret (x_ix (x_v 1) (x_fn k__law_take hr tk (x_cons (x_v 0) (x_cons (x_b cd_len T.b_len boot_len (x_cons (x_v 1) va_nil)) va_nil)))))
    vb_nil)
theorem sc__law_word : FnScope ["_law_jar_here", "_law_many", "_law_letters", "_law_turn"] ["_law_jar_here", "_law_many"] (defScope s__law_word) := ⟨rfl, rfl, rfl, by decide +kernel, rfl, by decide +kernel, by decide +kernel⟩
theorem d__law_word {cNoRun : Addr} {cStayError : Addr} (T : Top K mg w cNoRun cStayError) (k__law_of : Cal P w K mg base 2 "_law_of" M__law_of []) {f : Addr} {fd : FuncData} (F : Fun K "_law_word" "_law_word" s__law_word f fd) (hm : mg "_law_word" = some (.ref f)) : Cal P w K mg base 3 "_law_word" M__law_word [] :=
  have nd := sc__law_word.nd
  cal_mk F hm sc__law_word rfl rfl (fun _ _ _ _ _ _ us hl => match us, hl with | [_, _], _ => rfl) fun cdv A outer s H E hr tk ps =>
    (vb_cons (s_s 2 nd (x_fn k__law_of hr tk (x_cons (x_v 0) (x_cons (ve_lst (x_cons ve_str (x_cons ve_str (x_cons ve_str (x_cons ve_str va_nil))))) va_nil))))
    (vb_cons (vs_ret (x_join ve_str (VN.ve (n_lc [("_law_turn", 3)] nd (i_r1 (x_cons (x_v 1) va_nil) T.b_range) (fun _ _ _ _ _ => (g_n 3 nd)) (fun _ _ _ _ _ => vts_nil) (fun _ _ _ _ _ => (x_fn k__law_of hr takes_blk (x_cons (x_v 0) (x_cons (x_v 2) va_nil))))))))
    vb_nil))
theorem sc__law_place : FnScope ["_law_jar_here", "_law_sides"] ["_law_jar_here", "_law_sides"] (defScope s__law_place) := ⟨rfl, rfl, rfl, by decide +kernel, rfl, by decide +kernel, by decide +kernel⟩
theorem d__law_place {cNoRun : Addr} {cStayError : Addr} (T : Top K mg w cNoRun cStayError) (k__law_of : Cal P w K mg base 2 "_law_of" M__law_of []) (k__law_take : Cal P w K mg base 1 "_law_take" M__law_take []) {f : Addr} {fd : FuncData} (F : Fun K "_law_place" "_law_place" s__law_place f fd) (hm : mg "_law_place" = some (.ref f)) : Cal P w K mg base 3 "_law_place" M__law_place [] :=
  have nd := sc__law_place.nd
  cal_mk F hm sc__law_place rfl rfl (fun _ _ _ _ _ _ us hl => match us, hl with | [_, _], _ => rfl) fun cdv A outer s H E hr tk ps =>
    (vb_cons (vs_ret (ve_tup (x_cons (x_fn k__law_of hr tk (x_cons (x_v 0) (x_cons (x_v 1) va_nil))) (x_cons (x_fn k__law_of hr tk (x_cons (x_v 0) (x_cons (ve_lst (x_cons ve_int (x_cons ve_int (x_cons ve_int (x_cons ve_int (x_cons ve_int (x_cons ve_int (x_cons (x_fn k__law_take hr tk (x_cons (x_v 0) (x_cons ve_int va_nil))) (x_cons ve_int va_nil))))))))) va_nil))) va_nil))))
    vb_nil)
theorem sc__law_patch : FnScope ["_law_jar_here", "_law_way", "_law_many", "_law_side"] ["_law_jar_here"] (defScope s__law_patch) := ⟨rfl, rfl, rfl, by decide +kernel, rfl, by decide +kernel, by decide +kernel⟩
theorem d__law_patch {cNoRun : Addr} {cStayError : Addr} (T : Top K mg w cNoRun cStayError) (k__law_of : Cal P w K mg base 2 "_law_of" M__law_of []) (k__law_place : Cal P w K mg base 3 "_law_place" M__law_place []) (k__law_take : Cal P w K mg base 1 "_law_take" M__law_take []) (k__law_word : Cal P w K mg base 3 "_law_word" M__law_word []) {f : Addr} {fd : FuncData} (F : Fun K "_law_patch" "_law_patch" s__law_patch f fd) (hm : mg "_law_patch" = some (.ref f)) : Cal P w K mg base 4 "_law_patch" M__law_patch [] :=
  have nd := sc__law_patch.nd
  cal_mk F hm sc__law_patch rfl rfl (fun _ _ _ _ _ _ us hl => match us, hl with | [_], _ => rfl) fun cdv A outer s H E hr tk ps =>
    (vb_cons (s_p2 1 2 nd (x_cons (x_fn k__law_take hr tk (x_cons (x_v 0) (x_cons ve_int va_nil))) (x_cons (x_fn k__law_of hr tk (x_cons (x_v 0) (x_cons (ve_lst (x_cons ve_int (x_cons ve_int (x_cons ve_int (x_cons ve_int (x_cons (ve_bin opd_add ve_int (x_fn k__law_take hr tk (x_cons (x_v 0) (x_cons ve_int va_nil)))) va_nil)))))) va_nil))) va_nil)))
    (vb_cons (vs_if (y_cmp (opd_cmp op_lt) (x_v 1) ve_int) (vb_cons (vs_ret (ve_tup (x_cons ve_str (x_cons (x_fn k__law_place hr tk (x_cons (x_v 0) (x_cons ve_str va_nil))) (x_cons (x_fn k__law_word hr tk (x_cons (x_v 0) (x_cons (x_v 2) va_nil))) va_nil)))))
    vb_nil) vb_nil)
    (vb_cons (vs_if (y_cmp (opd_cmp op_lt) (x_v 1) ve_int) (vb_cons (vs_ret (ve_tup (x_cons ve_str (x_cons (x_fn k__law_place hr tk (x_cons (x_v 0) (x_cons ve_str va_nil))) (x_cons (x_fn k__law_place hr tk (x_cons (x_v 0) (x_cons ve_str va_nil))) va_nil)))))
    vb_nil) vb_nil)
    (vb_cons (vs_if (y_cmp (opd_eq (hu64 hr)) (x_v 1) ve_int) (vb_cons (vs_ret (ve_tup (x_cons ve_str (x_cons (x_fn k__law_place hr tk (x_cons (x_v 0) (x_cons ve_str va_nil))) (x_cons (x_fn k__law_word hr tk (x_cons (x_v 0) (x_cons (x_v 2) va_nil))) va_nil)))))
    vb_nil) vb_nil)
    (vb_cons (s_s 3 nd (x_fn k__law_of hr tk (x_cons (x_v 0) (x_cons ve_str va_nil))))
    (vb_cons (vs_ret (ve_tup (x_cons ve_str (x_cons (x_fn k__law_place hr tk (x_cons (x_v 0) (x_cons (x_v 3) va_nil))) (x_cons (x_fn k__law_place hr tk (x_cons (x_v 0) (x_cons (x_v 3) va_nil))) (x_cons (x_fn k__law_place hr tk (x_cons (x_v 0) (x_cons ve_str va_nil))) va_nil))))))
    vb_nil))))))
theorem sc__law_patches : FnScope ["_law_jar_here", "_law_upto", "_law_turn"] ["_law_jar_here", "_law_upto"] (defScope s__law_patches) := ⟨rfl, rfl, rfl, by decide +kernel, rfl, by decide +kernel, by decide +kernel⟩
theorem d__law_patches {cNoRun : Addr} {cStayError : Addr} (T : Top K mg w cNoRun cStayError) (k__law_patch : Cal P w K mg base 4 "_law_patch" M__law_patch []) (k__law_take : Cal P w K mg base 1 "_law_take" M__law_take []) {f : Addr} {fd : FuncData} (F : Fun K "_law_patches" "_law_patches" s__law_patches f fd) (hm : mg "_law_patches" = some (.ref f)) : Cal P w K mg base 5 "_law_patches" M__law_patches [] :=
  have nd := sc__law_patches.nd
  cal_mk F hm sc__law_patches rfl rfl (fun _ _ _ _ _ _ us hl => match us, hl with | [_, _], _ => rfl) fun cdv A outer s H E hr tk ps =>
    (vb_cons (vs_ret (x_ty cd_tuple T.b_tuple PyProof.Rows.boot_tuple (x_cons (VN.ve (n_lc [("_law_turn", 2)] nd (i_r1 (x_cons (x_fn k__law_take hr tk (x_cons (x_v 0) (x_cons (ve_bin opd_add (x_v 1) ve_int) va_nil))) va_nil) T.b_range) (fun _ _ _ _ _ => (g_n 2 nd)) (fun _ _ _ _ _ => vts_nil) (fun _ _ _ _ _ => (x_fn k__law_patch hr takes_blk (x_cons (x_v 0) va_nil))))) va_nil)))
    vb_nil)
theorem sc__law_spot : FnScope ["_law_place_here", "_law_many", "_law_side", "_law_far"] ["_law_place_here", "_law_many"] (defScope s__law_spot) := ⟨rfl, rfl, rfl, by decide +kernel, rfl, by decide +kernel, by decide +kernel⟩
theorem d__law_spot {cNoRun : Addr} {cStayError : Addr} (T : Top K mg w cNoRun cStayError) {f : Addr} {fd : FuncData} (F : Fun K "_law_spot" "_law_spot" s__law_spot f fd) (hm : mg "_law_spot" = some (.ref f)) : Cal P w K mg base 1 "_law_spot" M__law_spot [] :=
  have nd := sc__law_spot.nd
  cal_mk F hm sc__law_spot rfl rfl (fun _ _ _ _ _ _ us hl => match us, hl with | [_, _], _ => rfl) fun cdv A outer s H E hr tk ps =>
    (vb_cons (s_u (x_v 0) (g_t (g_c 2 nd (g_c 3 nd vns_nil))))
    (vb_cons (vs_if (y_cmp (opd_cmp op_gt) (x_v 3) (x_v 1)) (vb_cons (vs_ret ve_non)
    vb_nil) vb_nil)
    (vb_cons (vs_ret (ve_if (y_cmp (opd_eq (hu64 hr)) (x_v 2) ve_str) (x_v 3) (ve_bin opd_sub (x_v 1) (x_v 3))))
    vb_nil)))
theorem sc__law_patched : FnScope ["_law_patch_here", "_law_letters", "_law_many", "_law_word_here", "_law_first", "_law_some", "_law_end", "_law_other", "_law_third"] ["_law_patch_here", "_law_letters"] (defScope s__law_patched) := ⟨rfl, rfl, rfl, by decide +kernel, rfl, by decide +kernel, by decide +kernel⟩
theorem d__law_patched {cNoRun : Addr} {cStayError : Addr} (T : Top K mg w cNoRun cStayError) (k__law_spot : Cal P w K mg base 1 "_law_spot" M__law_spot []) {f : Addr} {fd : FuncData} (F : Fun K "_law_patched" "_law_patched" s__law_patched f fd) (hm : mg "_law_patched" = some (.ref f)) : Cal P w K mg base 2 "_law_patched" M__law_patched [] :=
  have nd := sc__law_patched.nd
  cal_mk F hm sc__law_patched rfl rfl (fun _ _ _ _ _ _ us hl => match us, hl with | [_, _], _ => rfl) fun cdv A outer s H E hr tk ps =>
    (vb_cons (s_p2 2 3 nd (x_cons (x_b cd_len T.b_len boot_len (x_cons (x_v 1) va_nil)) (x_cons (x_ix (x_v 0) ve_int) va_nil)))
    (vb_cons (s_s 4 nd (x_fn k__law_spot hr tk (x_cons (x_ix (x_v 0) ve_int) (x_cons (x_v 2) va_nil))))
    (vb_cons (vs_if (y_cmp opd_in (x_v 3) (ve_tup (x_cons ve_str (x_cons ve_str va_nil)))) (vb_cons (s_s 5 nd (x_ty (cd_list rfl) T.b_list PyProof.Rows.boot_list (x_cons (x_ix (x_v 0) ve_int) va_nil)))
    (vb_cons (s_s 6 nd (ve_if (y_cmp opd_isN (x_v 4) ve_non) ve_non (ve_bin opd_add (x_v 4) (ve_bin opd_mul (x_b cd_len T.b_len boot_len (x_cons (x_v 5) va_nil)) (x_ty cd_int T.b_int PyProof.Rows.boot_int (x_cons (x_cmp (opd_eq (hu64 hr)) (x_v 3) ve_str) va_nil))))))
    (vb_cons (vs_ret (ve_if (VW.vt (vw_or (y_cmp opd_isN (x_v 6) ve_non) (vw_or1 (y_cmp (opd_cmp op_gt) (x_v 6) (x_v 2))))) ve_non (ve_bin opd_add (ve_bin opd_add (ve_cut (x_v 1) vo_none (vo_some (x_v 4))) (x_v 5)) (ve_cut (x_v 1) (vo_some (x_v 6)) vo_none))))
    vb_nil))) vb_nil)
    (vb_cons (s_s 7 nd (x_fn k__law_spot hr tk (x_cons (x_ix (x_v 0) ve_int) (x_cons (x_v 2) va_nil))))
    (vb_cons (vs_if (VW.vt (vw_or (y_cmp opd_isN (x_v 4) ve_non) (vw_or (y_cmp opd_isN (x_v 7) ve_non) (vw_or1 (y_cmp (opd_cmp op_lt) (x_v 7) (x_v 4)))))) (vb_cons (vs_ret ve_non)
    vb_nil) vb_nil)
    (vb_cons (vs_if (y_cmp (opd_eq (hu64 hr)) (x_v 3) ve_str) (vb_cons (vs_ret (ve_bin opd_add (ve_cut (x_v 1) vo_none (vo_some (x_v 4))) (ve_cut (x_v 1) (vo_some (x_v 7)) vo_none)))
    vb_nil) vb_nil)
    (vb_cons (s_s 8 nd (x_fn k__law_spot hr tk (x_cons (x_ix (x_v 0) ve_int) (x_cons (x_v 2) va_nil))))
    (vb_cons (vs_if (y_cmp opd_isN (x_v 8) ve_non) (vb_cons (vs_ret ve_non)
    vb_nil) vb_nil)
    (vb_cons (vs_ret (ve_bin opd_add (ve_bin opd_add (ve_cut (x_v 1) vo_none (vo_some (x_v 8))) (ve_cut (x_v 1) (vo_some (x_v 4)) (vo_some (x_v 7)))) (ve_cut (x_v 1) (vo_some (x_v 8)) vo_none)))
    vb_nil)))))))))
theorem sc__law_ran : FnScope ["_law_patches_here", "_law_page", "_law_letters", "_law_at", "_law_patch_here"] ["_law_patches_here", "_law_page"] (defScope s__law_ran) := ⟨rfl, rfl, rfl, by decide +kernel, rfl, by decide +kernel, by decide +kernel⟩
theorem d__law_ran {cNoRun : Addr} {cStayError : Addr} (T : Top K mg w cNoRun cStayError) (k__law_patched : Cal P w K mg base 2 "_law_patched" M__law_patched []) {f : Addr} {fd : FuncData} (F : Fun K "_law_ran" "_law_ran" s__law_ran f fd) (hm : mg "_law_ran" = some (.ref f)) : Cal P w K mg base 3 "_law_ran" M__law_ran [] :=
  have nd := sc__law_ran.nd
  cal_mk F hm sc__law_ran rfl rfl (fun _ _ _ _ _ _ us hl => match us, hl with | [_, _], _ => rfl) fun cdv A outer s H E hr tk ps =>
    (vb_cons (s_s 2 nd (x_ty (cd_list rfl) T.b_list PyProof.Rows.boot_list (x_cons (x_v 1) va_nil)))
    (vb_cons (s_for ps (i_enm (x_v 0) T.b_enumerate) (g_t (g_c 3 nd (g_c 4 nd vns_nil))) (vb_cons (s_s 2 nd (x_fn k__law_patched hr tk (x_cons (x_v 4) (x_cons (x_v 2) va_nil))))
    (vb_cons (vs_if (y_cmp opd_isN (x_v 2) ve_non) (vb_cons (vs_ret (ve_tup (x_cons ve_str (x_cons (x_v 3) va_nil))))
    vb_nil) vb_nil)
    vb_nil)))
    (vb_cons (vs_ret (ve_tup (x_cons ve_str (x_cons (x_join ve_str (x_v 2)) va_nil))))
    vb_nil)))
theorem sc__law_heard_run : FnScope ["_law_patches_here", "_law_page", "_law_caught", "_law_told", "error"] ["_law_patches_here", "_law_page"] (defScope s__law_heard_run) := ⟨rfl, rfl, rfl, by decide +kernel, rfl, by decide +kernel, by decide +kernel⟩
theorem d__law_heard_run {cNoRun : Addr} {cStayError : Addr} (T : Top K mg w cNoRun cStayError) (k_run : Cal P w K mg base 4 "run" (M_run cNoRun) []) {f : Addr} {fd : FuncData} (F : Fun K "_law_heard_run" "_law_heard_run" s__law_heard_run f fd) (hm : mg "_law_heard_run" = some (.ref f)) : Cal P w K mg base 5 "_law_heard_run" (M__law_heard_run cNoRun) [] :=
  have nd := sc__law_heard_run.nd
  cal_mk F hm sc__law_heard_run rfl rfl (fun _ _ _ _ _ _ us hl => match us, hl with | [_, _], _ => rfl) fun cdv A outer s H E hr tk ps =>
    (vb_cons (s_u (ve_tup (x_cons ve_non (x_cons ve_non va_nil))) (g_t (g_c 2 nd (g_c 3 nd vns_nil))))
    (vb_cons (s_try 4 2 nd T.m_StayError (onlyC_ok T.exm_NoRun_StayError) tk (fun _ _ _ tk2 ps2 => (vb_cons (s_s 3 nd (x_fn k_run hr tk2 (x_cons (x_v 0) (x_cons (x_v 1) va_nil))))
    vb_nil)))
    (vb_cons (vs_if (y_cmp opd_isN (x_v 2) ve_non) (vb_cons (vs_ret (ve_tup (x_cons ve_str (x_cons (x_v 3) va_nil))))
    vb_nil) vb_nil)
    (vb_cons (vs_if (VW.vt (vw_and (y_t (x_isC T.b_isinstance T.m_NoRun (tagC_ok (b := true) T.kit_NoRun_NoRun) (tagC_exc T.e_NoRun) (x_v 2))) (vw_and1 (y_t (x_isT T.b_isinstance T.b_ValueError PyProof.Rows.Boot.«ValueError» (tagC_ok (b := true) T.kit_NoRun_ValueError) (tagC_exc T.e_NoRun) (x_v 2)))))) (vb_cons (vs_ret (ve_tup (x_cons ve_str (x_cons (x_xf T.f_NoRun T.n_NoRun_index (x_v 2)) va_nil))))
    vb_nil) vb_nil)
    (vb_cons (vs_ret (ve_tup (x_cons ve_str (x_cons ve_non va_nil))))
    vb_nil)))))
theorem sc__law_by_names : FnScope ["_law_patches_here", "_law_page", "_law_found"] ["_law_patches_here", "_law_page"] (defScope s__law_by_names) := ⟨rfl, rfl, rfl, by decide +kernel, rfl, by decide +kernel, by decide +kernel⟩
theorem d__law_by_names {cNoRun : Addr} {cStayError : Addr} (T : Top K mg w cNoRun cStayError) (k_run__kw1_text : CalK P w K mg base 4 "run" 1 ["text"] [0, 1] (M_run cNoRun)) {f : Addr} {fd : FuncData} (F : Fun K "_law_by_names" "_law_by_names" s__law_by_names f fd) (hm : mg "_law_by_names" = some (.ref f)) : Cal P w K mg base 5 "_law_by_names" (M__law_by_names cNoRun) [] :=
  have nd := sc__law_by_names.nd
  cal_mk F hm sc__law_by_names rfl rfl (fun _ _ _ _ _ _ us hl => match us, hl with | [_, _], _ => rfl) fun cdv A outer s H E hr tk ps =>
    (vb_cons (s_s 2 nd ve_non)
    (vb_cons (s_tryN T.m_NoRun (onlyC_ok T.exm_NoRun_NoRun) tk (fun _ _ _ tk2 ps2 => (vb_cons (s_s 2 nd (x_kw k_run__kw1_text hr tk2 (x_cons (x_v 0) va_nil) (vk_cons (x_v 1) vk_nil)))
    vb_nil)) (fun _ _ => (vb_cons (vs_ret ve_non)
    vb_nil)))
    (vb_cons (vs_ret (x_v 2))
    vb_nil)))
theorem sc__law_right : FnScope ["_law_patches_here", "_law_page", "_law_due", "_law_kept", "_law_turn"] ["_law_patches_here", "_law_page"] (defScope s__law_right) := ⟨rfl, rfl, rfl, by decide +kernel, rfl, by decide +kernel, by decide +kernel⟩
theorem d__law_right {cNoRun : Addr} {cStayError : Addr} (T : Top K mg w cNoRun cStayError) (k__law_by_names : Cal P w K mg base 5 "_law_by_names" (M__law_by_names cNoRun) []) (k__law_heard_run : Cal P w K mg base 5 "_law_heard_run" (M__law_heard_run cNoRun) []) (k__law_ran : Cal P w K mg base 3 "_law_ran" M__law_ran []) {f : Addr} {fd : FuncData} (F : Fun K "_law_right" "_law_right" s__law_right f fd) (hm : mg "_law_right" = some (.ref f)) : Cal P w K mg base 6 "_law_right" (M__law_right cNoRun) [] :=
  have nd := sc__law_right.nd
  cal_mk F hm sc__law_right rfl rfl (fun _ _ _ _ _ _ us hl => match us, hl with | [_, _], _ => rfl) fun cdv A outer s H E hr tk ps =>
    (vb_cons (s_p2 2 3 nd (x_cons (x_fn k__law_ran hr tk (x_cons (x_v 0) (x_cons (x_v 1) va_nil))) (x_cons (x_b (cd_repr hr) T.b_repr PyProof.Rows.boot_repr (x_cons (x_v 0) va_nil)) va_nil)))
    (vb_cons (vs_if (VW.vt (vw_or (y_cmp opd_neS (x_b (cd_repr hr) T.b_repr PyProof.Rows.boot_repr (x_cons (VN.ve (n_lc [("_law_turn", 4)] nd (i_r1 (x_cons ve_int va_nil) T.b_range) (fun _ _ _ _ _ => (g_n 4 nd)) (fun _ _ _ _ _ => vts_nil) (fun _ _ _ _ _ => (x_fn k__law_heard_run hr takes_blk (x_cons (x_v 0) (x_cons (x_v 1) va_nil)))))) va_nil)) (x_b (cd_repr hr) T.b_repr PyProof.Rows.boot_repr (x_cons (ve_lst (x_cons (x_v 2) (x_cons (x_v 2) va_nil))) va_nil))) (vw_or1 (y_cmp opd_neS (x_b (cd_repr hr) T.b_repr PyProof.Rows.boot_repr (x_cons (x_v 0) va_nil)) (x_v 3))))) (vb_cons (vs_ret ve_bl)
    vb_nil) vb_nil)
    (vb_cons (vs_ret (x_cmp opd_eqS (x_b (cd_repr hr) T.b_repr PyProof.Rows.boot_repr (x_cons (x_fn k__law_by_names hr tk (x_cons (x_v 0) (x_cons (x_v 1) va_nil))) va_nil)) (x_b (cd_repr hr) T.b_repr PyProof.Rows.boot_repr (x_cons (ve_if (y_cmp (opd_eq (hu64 hr)) (x_ix (x_v 2) ve_int) ve_str) (x_ix (x_v 2) ve_int) ve_non) va_nil))))
    vb_nil)))
theorem sc_law : FnScope ["_law_script", "_law_k", "_law_jar_here", "_law_turn", "_law_patches_here", "_law_sizes", "_law_many"] ["_law_script"] (defScope s_law) := ⟨rfl, rfl, rfl, by decide +kernel, rfl, by decide +kernel, by decide +kernel⟩
theorem f_law {cNoRun : Addr} {cStayError : Addr} (T : Top K mg w cNoRun cStayError) (k__law_jar : Cal P w K mg base 1 "_law_jar" M__law_jar []) (k__law_of : Cal P w K mg base 2 "_law_of" M__law_of []) (k__law_patches : Cal P w K mg base 5 "_law_patches" M__law_patches []) (k__law_right : Cal P w K mg base 6 "_law_right" (M__law_right cNoRun) []) (k__law_take : Cal P w K mg base 1 "_law_take" M__law_take []) (k__law_word : Cal P w K mg base 3 "_law_word" M__law_word []) {f : Addr} {fd : FuncData} (F : Fun K "law" "law" s_law f fd) : FnG P w K mg base 7 f fd ["_law_script"] (spM K (M_law cNoRun)) :=
  have nd := sc_law.nd
  fn_mk F sc_law rfl rfl fun cdv A outer s H E hr tk ps =>
    (vb_cons (s_for ps (i_r1 (x_cons (x_b (cd_max rfl) T.b_max PyProof.Rows.boot_max (x_cons ve_int (x_cons (x_b (cd_min rfl) T.b_min PyProof.Rows.boot_min (x_cons ve_int (x_cons (x_b cd_len T.b_len boot_len (x_cons (x_v 0) va_nil)) va_nil))) va_nil))) va_nil) T.b_range) (g_n 1 nd) (vb_cons (s_o 2 nd (n_fn k__law_jar hr tk (x_cons (x_v 0) (x_cons (x_v 1) va_nil))))
    (vb_cons (s_for ps (i_r1 (x_cons ve_int va_nil) T.b_range) (g_n 3 nd) (vb_cons (s_s 4 nd (x_fn k__law_patches hr tk (x_cons (x_v 2) (x_cons ve_int va_nil))))
    (vb_cons (s_s 5 nd (ve_lst (x_cons ve_int (x_cons ve_int (x_cons ve_int (x_cons (x_fn k__law_take hr tk (x_cons (x_v 2) (x_cons ve_int va_nil))) (x_cons (x_fn k__law_take hr tk (x_cons (x_v 2) (x_cons ve_int va_nil))) (x_cons (x_fn k__law_of hr tk (x_cons (x_v 2) (x_cons (ve_lst (x_cons ve_int (x_cons ve_int (x_cons ve_int (x_cons ve_int (x_cons ve_int va_nil)))))) va_nil))) va_nil))))))))
    (vb_cons (vs_if (vt_not (y_t (x_b (cd_all rfl) T.b_all PyProof.Rows.boot_all (x_cons (VN.ve (n_lc [("_law_many", 6)] nd (vi_any (x_v 5)) (fun _ _ _ _ _ => (g_n 6 nd)) (fun _ _ _ _ _ => vts_nil) (fun _ _ _ _ _ => (x_fn k__law_right hr takes_blk (x_cons (x_v 4) (x_cons (x_fn k__law_word hr takes_blk (x_cons (x_v 2) (x_cons (x_v 6) va_nil))) va_nil)))))) va_nil)))) (vb_cons (vs_ret ve_bl)
    vb_nil) vb_nil)
    vb_nil))))
    vb_nil)))
    (vb_cons (vs_ret ve_bl)
    vb_nil))
end
end KL


end

section
set_option linter.all false
set_option maxRecDepth 100000
set_option maxHeartbeats 4000000
namespace KL
open PySem L2 VL
/-! ### the draws -/
abbrev PR : Int := 2305843009213693921
def jarD (j : Int × Int) : List D := [.int j.1, .int j.2]
structure JarOk (j : Int × Int) : Prop where
  a : 0 ≤ j.1
  b : 0 ≤ j.2
def takeV (j : Int × Int) (n : Int) : Int := if 0 < j.1 then j.1 % n else ((j.2 * 48271 + 90007) % PR / 1013 + (j.2 * 48271 + 90007) % PR / 1000033) % n
def takeJ (j : Int × Int) (n : Int) : Int × Int := if 0 < j.1 then (j.1 / n, j.2) else (j.1, (j.2 * 48271 + 90007) % PR)
theorem take_eq (j : Int × Int) (n : Int) (hn : 0 < n) (hn2 : n < 18446744073709551616) : M__law_take [.ol false (jarD j), .pv (.int n)] = .ret (.int (takeV j n)) (jarD (takeJ j n)) := by
  refine (fn_at (cs' := [.ol false (jarD j), .pv (.int n), .un]) rfl rfl).trans ?_
  unfold B__law_take
  by_cases h : 0 < j.1
  · simp [jarD, dIx, atI, ixN, dCmp, h, dInt, rdA, dMod, hn, dDiv, hn2, setI, endOf, lentOf, isOl, takeV, takeJ, List.findIdx?, List.findIdx?.go, SZ]
  · simp [jarD, dIx, atI, ixN, dCmp, h, dInt, rdA, dMod, hn, dDiv, hn2, setI, endOf, lentOf, isOl, takeV, takeJ, List.findIdx?, List.findIdx?.go, SZ, dAdd, dMul, mulOk]
end KL

namespace KL
open PySem L2 VL
/-! ### draws -/
theorem take_ok {j : Int × Int} {n : Int} (h : JarOk j) (hn : 0 < n) : JarOk (takeJ j n) ∧ 0 ≤ takeV j n ∧ takeV j n < n := by
  have h1 := h.a
  have h2 := h.b
  refine ⟨?_, ?_, ?_⟩
  · unfold takeJ
    split
    · exact ⟨Int.ediv_nonneg h1 (by omega), h2⟩
    · exact ⟨h1, Int.emod_nonneg _ (by decide)⟩
  · unfold takeV
    split
    · exact Int.emod_nonneg _ (by omega)
    · exact Int.emod_nonneg _ (by omega)
  · unfold takeV
    split
    · exact Int.emod_lt_of_pos _ hn
    · exact Int.emod_lt_of_pos _ hn
theorem of_eq {j : Int × Int} {xs : List D} (h : JarOk j) (h0 : xs ≠ []) (hz : xs.length ≤ SZ) : ∃ d j', JarOk j' ∧ d ∈ xs ∧ M__law_of [.ol false (jarD j), .pv (.lst xs)] = .ret d (jarD j') := by
  have hl : 0 < (xs.length : Int) := by
    have := List.length_pos_iff.mpr h0
    omega
  obtain ⟨k1, k2, k3⟩ := take_ok h hl
  have hi : (takeV j xs.length).toNat < xs.length := by omega
  refine ⟨xs[(takeV j xs.length).toNat], takeJ j xs.length, k1, List.getElem_mem hi, ?_⟩
  refine (fn_at (cs' := [.ol false (jarD j), .pv (.lst xs)]) rfl rfl).trans ?_
  have hz' : (xs.length : Int) < 18446744073709551616 := by simp [SZ] at hz; omega
  have e := take_eq j xs.length hl hz'
  have ha : atI xs (takeV j xs.length) = some xs[(takeV j xs.length).toNat] := by
    unfold atI ixN
    rw [if_pos k2, if_pos k3]
    simp [hi]
  simp [B__law_of, dLen, rdA, e, dIx, ha, endOf, lentOf, isOl, List.findIdx?, List.findIdx?.go]
theorem ofs_eq {j : Int × Int} {l : List Nat} (h : JarOk j) (h0 : l ≠ []) (hz : l.length ≤ SZ) : ∃ c j', JarOk j' ∧ c ∈ l ∧ M__law_of [.ol false (jarD j), .pv (T l)] = .ret (sg c) (jarD j') := by
  have hl : 0 < (l.length : Int) := by
    have := List.length_pos_iff.mpr h0
    omega
  obtain ⟨k1, k2, k3⟩ := take_ok h hl
  have hi : (takeV j l.length).toNat < l.length := by omega
  refine ⟨l[(takeV j l.length).toNat], takeJ j l.length, k1, List.getElem_mem hi, ?_⟩
  refine (fn_at (cs' := [.ol false (jarD j), .pv (T l)]) rfl rfl).trans ?_
  have hz' : (l.length : Int) < 18446744073709551616 := by simp [SZ] at hz; omega
  have e := take_eq j l.length hl hz'
  have ha : atI l (takeV j l.length) = some l[(takeV j l.length).toNat] := by
    unfold atI ixN
    rw [if_pos k2, if_pos k3]
    simp [hi]
  have hz2 : l.length ≤ 16777216 := hz
  simp [B__law_of, T, dLen, rdA, T_len, SZ, hz2, e, dIx, ha, endOf, lentOf, isOl, List.findIdx?, List.findIdx?.go, sg]
def Okt (l : List Nat) : Prop := ∀ c ∈ l, c < 1114112
theorem lits : (("ab" : Str) = ⟨[97, 98].toArray⟩) ∧ (("abc" : Str) = ⟨[97, 98, 99].toArray⟩) ∧ (("abcdefghijklmnopqrstuvwxyz" : Str) = ⟨[97, 98, 99, 100, 101, 102, 103, 104, 105, 106, 107, 108, 109, 110, 111, 112, 113, 114, 115, 116, 117, 118, 119, 120, 121, 122].toArray⟩) := ⟨by decide +kernel, by decide +kernel, by decide +kernel⟩
def Okl (l : List Nat) : Prop := ∀ c ∈ l, 97 ≤ c ∧ c ≤ 122
theorem Okl.t {l : List Nat} (h : Okl l) : Okt l := fun c hc => by
  have := h c hc
  omega
theorem word_eq {j : Int × Int} {n : Nat} (h : JarOk j) (hn : n ≤ 1000) : ∃ l j', JarOk j' ∧ l.length = n ∧ Okl l ∧ M__law_word [.ol false (jarD j), .pv (.int n)] = .ret (T l) (jarD j') := by
  obtain ⟨z, j1, h1, hz, e1⟩ := of_eq (xs := [.str "ab", .str "ab", .str "abc", .str "abcdefghijklmnopqrstuvwxyz"]) h (by simp) (by simp [SZ])
  have hz' : ∃ a, z = T a ∧ a ≠ [] ∧ a.length ≤ SZ ∧ Okl a := by
    obtain ⟨l1, l2, l3⟩ := lits
    rw [l1, l2, l3] at hz
    simp only [List.mem_cons, List.not_mem_nil, or_false] at hz
    rcases hz with rfl | rfl | rfl | rfl
    · exact ⟨_, rfl, by simp, by simp [SZ], by simp [Okl]⟩
    · exact ⟨_, rfl, by simp, by simp [SZ], by simp [Okl]⟩
    · exact ⟨_, rfl, by simp, by simp [SZ], by simp [Okl]⟩
    · exact ⟨_, rfl, by simp, by simp [SZ], by simp [Okl]⟩
  obtain ⟨a, rfl, ha, hla, hka⟩ := hz'
  have L := lc_draw (J := Int × Int) JarOk (fun j => [.ol false (jarD j), .pv (.int n), .pv (T a), .un]) 3 (mFn M__law_of [] (mCons (mVar 0) (mCons (mVar 2) mNil))) (fun d => ∃ c ∈ a, d = sg c) (fun j item hj => by
    obtain ⟨c, j', k1, k2, k3⟩ := ofs_eq hj ha hla
    exact ⟨sg c, j', k1, ⟨c, k2, rfl⟩, by simp [k3]⟩) (fun j item => by simp [wipC]) (rangeD 0 n) [] j1 h1 (by simp [rangeD, SZ]; omega)
  obtain ⟨ds, j2, h2, hd, hp, e2⟩ := L
  have hl : ∃ l : List Nat, ds = l.map sg ∧ l.length = n ∧ Okl l := by
    have hlen : ds.length = n := by rw [hd]; simp [rangeD]
    clear e2 hd
    induction ds generalizing n with
    | nil => exact ⟨[], rfl, by simpa using hlen, by unfold Okl; simp⟩
    | cons d r ih =>
      obtain ⟨c, hc, rfl⟩ := hp d List.mem_cons_self
      have ih' := ih (n := n - 1) (by omega) (fun x hx => hp x (List.mem_cons_of_mem _ hx)) (by simp at hlen; omega)
      obtain ⟨l, k1, k2, k3⟩ := ih'
      refine ⟨c :: l, by rw [k1]; rfl, by simp at hlen ⊢; omega, fun x hx => ?_⟩
      rcases List.mem_cons.mp hx with z | z
      · rw [z]; exact hka c hc
      · exact k3 x z
  obtain ⟨l, rfl, hl1, hl2⟩ := hl
  refine ⟨l, j2, h2, hl1, hl2, ?_⟩
  have jj := join_sg l (by rw [hl1]; simp [SZ]; omega)
  have q1 : mFn M__law_of [] (mCons (mVar 0) (mCons (mLst (mCons (mC (.str "ab")) (mCons (mC (.str "ab")) (mCons (mC (.str "abc")) (mCons (mC (.str "abcdefghijklmnopqrstuvwxyz")) mNil))))) mNil)) [.ol false (jarD j), .pv (.int n), .un, .un] = .ok (.d (T a)) [.ol false (jarD j1), .pv (.int n), .un, .un] := by
    simp [SZ, e1]
  have q2 := nlc_eq (fI := mRng1 (mCons (mVar 1) mNil)) (ρ := [.ol false (jarD j1), .pv (.int n), .pv (T a), .un]) (rng1_eq (n := n) (ρ1 := [.ol false (jarD j1), .pv (.int n), .pv (T a), .un]) (by simp) (by omega)) (by simp [noOwn]) e2
  have q3 : backC [.ol false (jarD j1), .pv (.int n), .pv (T a), .un] [.ol false (jarD j2), .pv (.int n), .pv (T a), .un] [3] = [.ol false (jarD j2), .pv (.int n), .pv (T a), .un] := by simp [backC]
  rw [q3] at q2
  refine (fn_at (cs' := [.ol false (jarD j), .pv (.int n), .un, .un]) rfl rfl).trans ?_
  unfold B__law_word
  rw [e_seq, e_set, q1]
  simp only [e_sok, List.set_cons_succ, List.set_cons_zero, e_seq, e_ret, e_join, e_c, e_bok, e_nval, q2, e_ro2d, List.nil_append, jj]
  simp [endOf, lentOf, isOl, List.findIdx?, List.findIdx?.go]
end KL

end

section
set_option linter.all false
set_option maxRecDepth 100000
set_option maxHeartbeats 4000000
namespace KL
open PySem L2 VL
/-! ### closed facts about texts -/
@[simp] theorem q_put_put : dEq (.str "put") (.str "put") = some (.bl true) := by kernel_rfl
@[simp] theorem q_put_cut : dEq (.str "put") (.str "cut") = some (.bl false) := by kernel_rfl
@[simp] theorem q_put_over : dEq (.str "put") (.str "over") = some (.bl false) := by kernel_rfl
@[simp] theorem q_put_copy : dEq (.str "put") (.str "copy") = some (.bl false) := by kernel_rfl
@[simp] theorem i_put : dIn (.str "put") (.tup [.str "cut", .str "copy"]) = some (.bl false) := by kernel_rfl
@[simp] theorem q_cut_put : dEq (.str "cut") (.str "put") = some (.bl false) := by kernel_rfl
@[simp] theorem q_cut_cut : dEq (.str "cut") (.str "cut") = some (.bl true) := by kernel_rfl
@[simp] theorem q_cut_over : dEq (.str "cut") (.str "over") = some (.bl false) := by kernel_rfl
@[simp] theorem q_cut_copy : dEq (.str "cut") (.str "copy") = some (.bl false) := by kernel_rfl
@[simp] theorem i_cut : dIn (.str "cut") (.tup [.str "cut", .str "copy"]) = some (.bl true) := by kernel_rfl
@[simp] theorem q_over_put : dEq (.str "over") (.str "put") = some (.bl false) := by kernel_rfl
@[simp] theorem q_over_cut : dEq (.str "over") (.str "cut") = some (.bl false) := by kernel_rfl
@[simp] theorem q_over_over : dEq (.str "over") (.str "over") = some (.bl true) := by kernel_rfl
@[simp] theorem q_over_copy : dEq (.str "over") (.str "copy") = some (.bl false) := by kernel_rfl
@[simp] theorem i_over : dIn (.str "over") (.tup [.str "cut", .str "copy"]) = some (.bl false) := by kernel_rfl
@[simp] theorem q_copy_put : dEq (.str "copy") (.str "put") = some (.bl false) := by kernel_rfl
@[simp] theorem q_copy_cut : dEq (.str "copy") (.str "cut") = some (.bl false) := by kernel_rfl
@[simp] theorem q_copy_over : dEq (.str "copy") (.str "over") = some (.bl false) := by kernel_rfl
@[simp] theorem q_copy_copy : dEq (.str "copy") (.str "copy") = some (.bl true) := by kernel_rfl
@[simp] theorem i_copy : dIn (.str "copy") (.tup [.str "cut", .str "copy"]) = some (.bl true) := by kernel_rfl
@[simp] theorem t_put : tab_PARTS "put" = some (.tup [.str "spot", .str "text"]) := by kernel_rfl
@[simp] theorem t_cut : tab_PARTS "cut" = some (.tup [.str "spot", .str "spot"]) := by kernel_rfl
@[simp] theorem t_over : tab_PARTS "over" = some (.tup [.str "spot", .str "text"]) := by kernel_rfl
@[simp] theorem t_copy : tab_PARTS "copy" = some (.tup [.str "spot", .str "spot", .str "spot"]) := by kernel_rfl
@[simp] theorem q_spot_spot : dEq (.str "spot") (.str "spot") = some (.bl true) := by kernel_rfl
@[simp] theorem q_text_spot : dEq (.str "text") (.str "spot") = some (.bl false) := by kernel_rfl
@[simp] theorem q_a_a : dEq (.str "a") (.str "a") = some (.bl true) := by kernel_rfl
@[simp] theorem q_z_a : dEq (.str "z") (.str "a") = some (.bl false) := by kernel_rfl

/-! ### scripts -/
def side (z : Bool) : Str := if z then "z" else "a"
@[simp] theorem q_side (z : Bool) : dEq (.str (side z)) (.str "a") = some (.bl (!z)) := by
  cases z
  · exact q_a_a
  · exact q_z_a
def spot (z : Bool) (i : Nat) : D := .tup [.str (side z), .int i]
def ps (z : Bool) (i n : Nat) : Nat := if z then n - i else i
theorem ps_le {z : Bool} {i n : Nat} (h : i ≤ n) : ps z i n ≤ n := by
  unfold ps
  split <;> omega
theorem ps_int {z : Bool} {i n : Nat} (h : i ≤ n) : (if (!z) = true then ((i : Nat) : Int) else (n : Int) - (i : Int)) = ((ps z i n : Nat) : Int) := by
  unfold ps
  cases z
  · simp
  · simp
    omega
inductive Pt where
  | put (z : Bool) (i : Nat) (t : List Nat)
  | cut (z : Bool) (i : Nat) (z' : Bool) (i' : Nat)
  | over (z : Bool) (i : Nat) (t : List Nat)
  | copy (z : Bool) (i : Nat) (z' : Bool) (i' : Nat) (y : Bool) (k : Nat)
def Pt.d : Pt → D
  | .put z i t => .tup [.str "put", spot z i, T t]
  | .cut z i z' i' => .tup [.str "cut", spot z i, spot z' i']
  | .over z i t => .tup [.str "over", spot z i, T t]
  | .copy z i z' i' y k => .tup [.str "copy", spot z i, spot z' i', spot y k]
def Pt.ix : Pt → Nat → Option (List Nat)
  | .put z i t, n => if n < i then none else some [ps z i n]
  | .cut z i z' i', n => if n < i ∨ n < i' then none else if ps z' i' n < ps z i n then none else some [ps z i n, ps z' i' n]
  | .over z i t, n => if n < i then none else if n < ps z i n + t.length then none else some [ps z i n]
  | .copy z i z' i' y k, n => if n < i ∨ n < i' ∨ n < k then none else if ps z' i' n < ps z i n then none else some [ps z i n, ps z' i' n, ps y k n]
def Pt.small : Pt → Prop
  | .put _ _ t => t.length ≤ 1000
  | .over _ _ t => t.length ≤ 1000
  | _ => True
def ixD : Option (List Nat) → D
  | none => .non
  | some l => .lst (l.map fun (i : Nat) => .int (i : Int))
@[simp] theorem cut1 (d : D) (r : List D) : dCut (.tup (d :: r)) (some 1) none = some (.tup r) := by
  have : cutD (d :: r) (some 1) none = r := by
    unfold cutD
    have h1 : HT.sIx (d :: r).length 0 (some 1) = 1 := by
      show (if (1 : Int) < 0 then ((1 : Int) + ((d :: r).length : Int)).toNat else min (1 : Int).toNat (d :: r).length) = 1
      simp
    have h2 : HT.sIx (d :: r).length (d :: r).length none = (d :: r).length := rfl
    rw [h1, h2]
    simp
  show some (D.tup (cutD _ _ _)) = _
  rw [this]
theorem ix_eq (p : Pt) (n : Nat) (hp : p.small) : M_indexes_of [.pv p.d, .pv (.int n)] = .ret (ixD (p.ix n)) [] := by
  refine (fn_at (cs' := [.pv p.d, .pv (.int n), .un, .un, .un, .un, .un, .un]) rfl rfl).trans ?_
  have hn : (n : Int) - n = 0 := by omega
  cases p with
  | put z i t =>
    by_cases h : n < i
    · simp [h, B_indexes_of, Pt.d, Pt.ix, ixD, spot, side, dIx, atI, ixN, nLc, noOwn, wipC, backC, lcL, zipD, mYes, dAny, blsOf, rdA, truD, dCmp, itemsD, endOf, lentOf, isOl, List.findIdx?, List.findIdx?.go, SZ, dSub, dAdd, dLen, T, T_len, ps, dIsN]
    · cases z
      · simp [h, B_indexes_of, Pt.d, Pt.ix, ixD, spot, side, dIx, atI, ixN, nLc, noOwn, wipC, backC, lcL, zipD, mYes, dAny, blsOf, rdA, truD, dCmp, itemsD, endOf, lentOf, isOl, List.findIdx?, List.findIdx?.go, SZ, dSub, dAdd, dLen, T, T_len, ps, dIsN]
      · simp [h, B_indexes_of, Pt.d, Pt.ix, ixD, spot, side, dIx, atI, ixN, nLc, noOwn, wipC, backC, lcL, zipD, mYes, dAny, blsOf, rdA, truD, dCmp, itemsD, endOf, lentOf, isOl, List.findIdx?, List.findIdx?.go, SZ, dSub, dAdd, dLen, T, T_len, ps, dIsN]
        omega
  | cut z i z' i' =>
    by_cases h : n < i
    · simp [h, B_indexes_of, Pt.d, Pt.ix, ixD, spot, side, dIx, atI, ixN, nLc, noOwn, wipC, backC, lcL, zipD, mYes, dAny, blsOf, rdA, truD, dCmp, itemsD, endOf, lentOf, isOl, List.findIdx?, List.findIdx?.go, SZ, dSub, dAdd, dLen, T, T_len, ps, dIsN]
    · by_cases h2 : n < i'
      · simp [h, h2, B_indexes_of, Pt.d, Pt.ix, ixD, spot, side, dIx, atI, ixN, nLc, noOwn, wipC, backC, lcL, zipD, mYes, dAny, blsOf, rdA, truD, dCmp, itemsD, endOf, lentOf, isOl, List.findIdx?, List.findIdx?.go, SZ, dSub, dAdd, dLen, T, T_len, ps, dIsN]
      · have e1 : ((n - i : Nat) : Int) = (n : Int) - i := by omega
        have e2 : ((n - i' : Nat) : Int) = (n : Int) - i' := by omega
        have q1 : ((n : Int) - (i' : Int) < (i : Int)) = (n - i' < i) := propext (by constructor <;> omega)
        have q2 : ((i' : Int) < (n : Int) - (i : Int)) = (i' < n - i) := propext (by constructor <;> omega)
        have q3 : (n - i' < n - i) = (i < i') := propext (by constructor <;> omega)
        cases z
        · cases z'
          · by_cases q : i' < i <;> simp [h, h2, q, B_indexes_of, Pt.d, Pt.ix, ixD, spot, side, dIx, atI, ixN, nLc, noOwn, wipC, backC, lcL, zipD, mYes, dAny, blsOf, rdA, truD, dCmp, itemsD, endOf, lentOf, isOl, List.findIdx?, List.findIdx?.go, SZ, dSub, dAdd, dLen, T, T_len, ps, dIsN]
          · by_cases q : n - i' < i <;> simp [h, h2, q1, q, e2, B_indexes_of, Pt.d, Pt.ix, ixD, spot, side, dIx, atI, ixN, nLc, noOwn, wipC, backC, lcL, zipD, mYes, dAny, blsOf, rdA, truD, dCmp, itemsD, endOf, lentOf, isOl, List.findIdx?, List.findIdx?.go, SZ, dSub, dAdd, dLen, T, T_len, ps, dIsN]
        · cases z'
          · by_cases q : i' < n - i <;> simp [h, h2, q2, q, e1, B_indexes_of, Pt.d, Pt.ix, ixD, spot, side, dIx, atI, ixN, nLc, noOwn, wipC, backC, lcL, zipD, mYes, dAny, blsOf, rdA, truD, dCmp, itemsD, endOf, lentOf, isOl, List.findIdx?, List.findIdx?.go, SZ, dSub, dAdd, dLen, T, T_len, ps, dIsN]
          · by_cases q : i < i' <;> simp [h, h2, q3, q, e1, e2, B_indexes_of, Pt.d, Pt.ix, ixD, spot, side, dIx, atI, ixN, nLc, noOwn, wipC, backC, lcL, zipD, mYes, dAny, blsOf, rdA, truD, dCmp, itemsD, endOf, lentOf, isOl, List.findIdx?, List.findIdx?.go, SZ, dSub, dAdd, dLen, T, T_len, ps, dIsN]
  | over z i t =>
    have hp' : t.length ≤ 1000 := hp
    by_cases h : n < i
    · simp [h, B_indexes_of, Pt.d, Pt.ix, ixD, spot, side, dIx, atI, ixN, nLc, noOwn, wipC, backC, lcL, zipD, mYes, dAny, blsOf, rdA, truD, dCmp, itemsD, endOf, lentOf, isOl, List.findIdx?, List.findIdx?.go, SZ, dSub, dAdd, dLen, T, T_len, ps, dIsN]
    · have ht : t.length ≤ 16777216 := by omega
      have e1 : ((n - i : Nat) : Int) = (n : Int) - i := by omega
      cases z
      · have r1 : ((n : Int) < (i : Int) + (t.length : Int)) = (n < i + t.length) := propext (by constructor <;> omega)
        by_cases q : n < i + t.length <;> simp [h, ht, r1, q, B_indexes_of, Pt.d, Pt.ix, ixD, spot, side, dIx, atI, ixN, nLc, noOwn, wipC, backC, lcL, zipD, mYes, dAny, blsOf, rdA, truD, dCmp, itemsD, endOf, lentOf, isOl, List.findIdx?, List.findIdx?.go, SZ, dSub, dAdd, dLen, T, T_len, ps, dIsN]
      · have r1 : ((n : Int) < (n : Int) - (i : Int) + (t.length : Int)) = (n < n - i + t.length) := propext (by constructor <;> omega)
        by_cases q : n < n - i + t.length <;> simp [h, ht, r1, q, e1, B_indexes_of, Pt.d, Pt.ix, ixD, spot, side, dIx, atI, ixN, nLc, noOwn, wipC, backC, lcL, zipD, mYes, dAny, blsOf, rdA, truD, dCmp, itemsD, endOf, lentOf, isOl, List.findIdx?, List.findIdx?.go, SZ, dSub, dAdd, dLen, T, T_len, ps, dIsN]
  | copy z i z' i' y k =>
    by_cases h : n < i
    · simp [h, B_indexes_of, Pt.d, Pt.ix, ixD, spot, side, dIx, atI, ixN, nLc, noOwn, wipC, backC, lcL, zipD, mYes, dAny, blsOf, rdA, truD, dCmp, itemsD, endOf, lentOf, isOl, List.findIdx?, List.findIdx?.go, SZ, dSub, dAdd, dLen, T, T_len, ps, dIsN]
    · by_cases h2 : n < i'
      · simp [h, h2, B_indexes_of, Pt.d, Pt.ix, ixD, spot, side, dIx, atI, ixN, nLc, noOwn, wipC, backC, lcL, zipD, mYes, dAny, blsOf, rdA, truD, dCmp, itemsD, endOf, lentOf, isOl, List.findIdx?, List.findIdx?.go, SZ, dSub, dAdd, dLen, T, T_len, ps, dIsN]
      · by_cases h3 : n < k
        · simp [h, h2, h3, B_indexes_of, Pt.d, Pt.ix, ixD, spot, side, dIx, atI, ixN, nLc, noOwn, wipC, backC, lcL, zipD, mYes, dAny, blsOf, rdA, truD, dCmp, itemsD, endOf, lentOf, isOl, List.findIdx?, List.findIdx?.go, SZ, dSub, dAdd, dLen, T, T_len, ps, dIsN]
        · have e1 : ((n - i : Nat) : Int) = (n : Int) - i := by omega
          have e2 : ((n - i' : Nat) : Int) = (n : Int) - i' := by omega
          have e3 : ((n - k : Nat) : Int) = (n : Int) - k := by omega
          have q1 : ((n : Int) - (i' : Int) < (i : Int)) = (n - i' < i) := propext (by constructor <;> omega)
          have q2 : ((i' : Int) < (n : Int) - (i : Int)) = (i' < n - i) := propext (by constructor <;> omega)
          have q3 : (n - i' < n - i) = (i < i') := propext (by constructor <;> omega)
          cases z
          · cases z'
            · by_cases q : i' < i <;> cases y <;> simp [h, h2, h3, q, e3, B_indexes_of, Pt.d, Pt.ix, ixD, spot, side, dIx, atI, ixN, nLc, noOwn, wipC, backC, lcL, zipD, mYes, dAny, blsOf, rdA, truD, dCmp, itemsD, endOf, lentOf, isOl, List.findIdx?, List.findIdx?.go, SZ, dSub, dAdd, dLen, T, T_len, ps, dIsN]
            · by_cases q : n - i' < i <;> cases y <;> simp [h, h2, h3, q1, q, e2, e3, B_indexes_of, Pt.d, Pt.ix, ixD, spot, side, dIx, atI, ixN, nLc, noOwn, wipC, backC, lcL, zipD, mYes, dAny, blsOf, rdA, truD, dCmp, itemsD, endOf, lentOf, isOl, List.findIdx?, List.findIdx?.go, SZ, dSub, dAdd, dLen, T, T_len, ps, dIsN]
          · cases z'
            · by_cases q : i' < n - i <;> cases y <;> simp [h, h2, h3, q2, q, e1, e3, B_indexes_of, Pt.d, Pt.ix, ixD, spot, side, dIx, atI, ixN, nLc, noOwn, wipC, backC, lcL, zipD, mYes, dAny, blsOf, rdA, truD, dCmp, itemsD, endOf, lentOf, isOl, List.findIdx?, List.findIdx?.go, SZ, dSub, dAdd, dLen, T, T_len, ps, dIsN]
            · by_cases q : i < i' <;> cases y <;> simp [h, h2, h3, q3, q, e1, e2, e3, B_indexes_of, Pt.d, Pt.ix, ixD, spot, side, dIx, atI, ixN, nLc, noOwn, wipC, backC, lcL, zipD, mYes, dAny, blsOf, rdA, truD, dCmp, itemsD, endOf, lentOf, isOl, List.findIdx?, List.findIdx?.go, SZ, dSub, dAdd, dLen, T, T_len, ps, dIsN]
end KL

end

section
set_option linter.all false
set_option maxRecDepth 100000
set_option maxHeartbeats 4000000
namespace KL
open PySem L2 VL
theorem cut_lo (xs : List D) (a : Nat) : dCut (.lst xs) none (some (a : Int)) = some (.lst (xs.take a)) := by
  show some (D.lst (cutD xs none (some (a : Int)))) = _
  unfold cutD
  rw [HT.sIx_nat, HT.sIx_none, List.drop_zero, Nat.sub_zero]
  congr 2
  by_cases h : a ≤ xs.length
  · rw [Nat.min_eq_left h]
  · rw [Nat.min_eq_right (by omega), List.take_length, List.take_of_length_le (by omega)]
theorem cut_hi (xs : List D) (a : Nat) : dCut (.lst xs) (some (a : Int)) none = some (.lst (xs.drop a)) := by
  show some (D.lst (cutD xs (some (a : Int)) none)) = _
  unfold cutD
  rw [HT.sIx_nat, HT.sIx_none]
  congr 2
  by_cases h : a ≤ xs.length
  · rw [Nat.min_eq_left h, List.take_of_length_le (by rw [List.length_drop]; omega)]
  · rw [Nat.min_eq_right (by omega), Nat.sub_self, List.take_zero, List.drop_eq_nil_of_le (by omega)]
theorem cut_mid (xs : List D) (a b : Nat) (h : b ≤ xs.length) (h2 : a ≤ b) : dCut (.lst xs) (some (a : Int)) (some (b : Int)) = some (.lst ((xs.drop a).take (b - a))) := by
  show some (D.lst (cutD xs (some (a : Int)) (some (b : Int)))) = _
  unfold cutD
  rw [HT.sIx_nat, HT.sIx_nat, Nat.min_eq_left h, Nat.min_eq_left (by omega)]
theorem cut_hi' (xs : List D) (a b : Nat) : dCut (.lst xs) (some ((a : Int) + (b : Int))) none = some (.lst (xs.drop (a + b))) := by
  have : (a : Int) + (b : Int) = ((a + b : Nat) : Int) := by omega
  rw [this, cut_hi]
def Pt.out : Pt → List Nat → List Nat → List Nat
  | .put _ _ t, [a], l => l.take a ++ t ++ l.drop a
  | .cut _ _ _ _, [a, b], l => l.take a ++ l.drop b
  | .over _ _ t, [a], l => l.take a ++ t ++ l.drop (a + t.length)
  | .copy _ _ _ _ _ _, [a, b, c], l => l.take c ++ (l.drop a).take (b - a) ++ l.drop c
  | _, _, l => l
theorem out_le (p : Pt) (hp : p.small) (ks l : List Nat) : (p.out ks l).length ≤ 2 * l.length + 1000 := by
  unfold Pt.out
  split
  · rename_i t a
    have ht : t.length ≤ 1000 := hp
    simp only [List.length_append, List.length_take, List.length_drop]
    omega
  · simp only [List.length_append, List.length_take, List.length_drop]
    omega
  · rename_i t a
    have ht : t.length ≤ 1000 := hp
    simp only [List.length_append, List.length_take, List.length_drop]
    omega
  · simp only [List.length_append, List.length_take, List.length_drop]
    omega
  · omega
theorem list_T (t : List Nat) (h : t.length ≤ 1000) : dList [T t] = some (.lst (t.map sg)) := by
  show (if (⟨t.toArray⟩ : Str).length ≤ SZ then some (D.lst (signsD ⟨t.toArray⟩)) else none) = _
  rw [T_len, if_pos (by simp [SZ]; omega), signs_T]
theorem pat_eq (p : Pt) (hp : p.small) (l ks : List Nat) (h : p.ix l.length = some ks) (hl : 2 * l.length + 2000 ≤ SZ) : M_patched [.pv p.d, .pv (ixD (some ks)), .pv (.lst (l.map sg))] = .ret (.lst ((p.out ks l).map sg)) [] := by
  refine (fn_at (cs' := [.pv p.d, .pv (ixD (some ks)), .pv (.lst (l.map sg)), .un, .un]) rfl rfl).trans ?_
  have hz : 2 * l.length + 2000 ≤ 16777216 := hl
  cases p with
  | put z i t =>
    have ht : t.length ≤ 1000 := hp
    simp only [Pt.ix] at h
    split at h
    · cases h
    · cases h
      have b1 : min (ps z i l.length) l.length + t.length ≤ 16777216 := by omega
      have b2 : min (ps z i l.length) l.length + (t.length + (l.length - ps z i l.length)) ≤ 16777216 := by omega
      simp [list_T t ht, b1, b2, Nat.add_assoc, B_patched, Pt.d, ixD, Pt.out, dIx, atI, ixN, cut_lo, cut_hi, cut_hi', rdA, dAdd, dLen, T_len, endOf, lentOf, isOl, List.findIdx?, List.findIdx?.go, SZ, List.map_take, List.map_drop]
  | cut z i z' i' =>
    simp only [Pt.ix] at h
    split at h
    · cases h
    · split at h
      · cases h
      · cases h
        have b1 : min (ps z i l.length) l.length + (l.length - ps z' i' l.length) ≤ 16777216 := by omega
        simp [b1, B_patched, Pt.d, ixD, Pt.out, dIx, atI, ixN, cut_lo, cut_hi, cut_hi', rdA, dAdd, dLen, T_len, endOf, lentOf, isOl, List.findIdx?, List.findIdx?.go, SZ, List.map_take, List.map_drop]
  | over z i t =>
    have ht : t.length ≤ 1000 := hp
    have ht' : t.length ≤ 16777216 := by omega
    simp only [Pt.ix] at h
    split at h
    · cases h
    · split at h
      · cases h
      · cases h
        have b1 : min (ps z i l.length) l.length + t.length ≤ 16777216 := by omega
        have b2 : min (ps z i l.length) l.length + (t.length + (l.length - (ps z i l.length + t.length))) ≤ 16777216 := by omega
        have lt := list_T t ht
        unfold T at lt
        simp [lt, ht', b1, b2, Nat.add_assoc, T, B_patched, Pt.d, ixD, Pt.out, dIx, atI, ixN, cut_lo, cut_hi, cut_hi', rdA, dAdd, dLen, T_len, endOf, lentOf, isOl, List.findIdx?, List.findIdx?.go, SZ, List.map_take, List.map_drop]
  | copy z i z' i' y k =>
    simp only [Pt.ix] at h
    split at h
    · cases h
    · rename_i h0
      split at h
      · cases h
      · rename_i h1
        cases h
        have k1 : ps z' i' l.length ≤ l.length := ps_le (by omega)
        have b1 : min (ps y k l.length) l.length + min (ps z' i' l.length - ps z i l.length) (l.length - ps z i l.length) ≤ 16777216 := by omega
        have b2 : min (ps y k l.length) l.length + (min (ps z' i' l.length - ps z i l.length) (l.length - ps z i l.length) + (l.length - ps y k l.length)) ≤ 16777216 := by omega
        have cm := cut_mid (l.map sg) (ps z i l.length) (ps z' i' l.length) (by rw [List.length_map]; exact k1) (by omega)
        simp [cm, b1, b2, Nat.add_assoc, B_patched, Pt.d, ixD, Pt.out, dIx, atI, ixN, cut_lo, cut_hi, cut_hi', rdA, dAdd, dLen, T_len, endOf, lentOf, isOl, List.findIdx?, List.findIdx?.go, SZ, List.map_take, List.map_drop]
/-! ### the run -/
def runP : Nat → List Pt → List Nat → Except Nat (List Nat)
  | _, [], l => .ok l
  | k, p :: r, l => match p.ix l.length with
    | none => .error k
    | some ks => runP (k + 1) r (p.out ks l)
def en : Nat → List D → List D
  | _, [] => []
  | k, d :: r => .tup [.int (k : Int), d] :: en (k + 1) r
theorem enum_en (xs : List D) : enumD xs = en 0 xs := by
  have key : ∀ (xs : List D) (k : Nat), xs.mapIdx (fun (i : Nat) d => D.tup [.int (((k + i : Nat)) : Int), d]) = en k xs := by
    intro xs
    induction xs with
    | nil => intro k; rfl
    | cons d r ih =>
      intro k
      rw [List.mapIdx_cons, en, ← ih (k + 1)]
      congr 1
      congr 1
      funext i d
      rw [show k + (i + 1) = k + 1 + i by omega]
  have := key xs 0
  simp only [Nat.zero_add] at this
  exact this
abbrev bodyL (cN : Addr) : Sl → SR := (sSeq (sSet 5 (mFn M_indexes_of [] (mCons (mVar 4) (mCons (mCall dLen (mCons (mVar 2) mNil)) mNil))))
  (sSeq (sIf (asB (m2 dIsN (mVar 5) (mC .non))) (sSeq (sRaise cN "index" (mCons (mVar 3) mNil))
  sNx) sNx)
  (sSeq (sSet 2 (mFn M_patched [] (mCons (mVar 4) (mCons (mVar 5) (mCons (mVar 2) mNil)))))
  sNx)))
theorem loop_eq (cN : Addr) (s0 s1 : Cell) : ∀ (r : List Pt) (k : Nat) (l : List Nat) (c3 c4 c5 : Cell), (∀ p ∈ r, p.small) → (l.length + 1000) * 2 ^ r.length ≤ 8000000 →
    match runP k r l with
    | .ok l' => (∃ d3 d4 d5, forL (.tp [3, 4]) (bodyL cN) (en k (r.map Pt.d)) [s0, s1, .pv (.lst (l.map sg)), c3, c4, c5] = .nx [s0, s1, .pv (.lst (l'.map sg)), d3, d4, d5]) ∧ l'.length ≤ 8000000
    | .error e => ∃ ρ', forL (.tp [3, 4]) (bodyL cN) (en k (r.map Pt.d)) [s0, s1, .pv (.lst (l.map sg)), c3, c4, c5] = .exc ⟨cN, [("index", .int (e : Int))]⟩ ρ'
  | [], k, l, c3, c4, c5, _, hl => by
    simp only [List.length_nil, Nat.pow_zero, Nat.mul_one] at hl
    exact ⟨⟨c3, c4, c5, rfl⟩, by omega⟩
  | p :: r, k, l, c3, c4, c5, hs, hl => by
    have hp := hs p List.mem_cons_self
    rw [List.length_cons, Nat.pow_succ] at hl
    have h1 : l.length + 1000 ≤ (l.length + 1000) * 2 ^ r.length := Nat.le_mul_of_pos_right _ (Nat.pow_pos (by omega))
    have hl2 : (l.length + 1000) * 2 ^ r.length * 2 ≤ 8000000 := by rw [Nat.mul_assoc]; exact hl
    have ie := ix_eq p l.length hp
    unfold runP
    cases q : p.ix l.length with
    | none =>
      rw [q] at ie
      simp only [ixD] at ie
      simp [en, forL, rdA, dLen, ie, dIsN]
    | some ks =>
      rw [q] at ie
      have pe := pat_eq p hp l ks q (by simp [SZ]; omega)
      have ol := out_le p hp ks l
      have nx := loop_eq cN s0 s1 r (k + 1) (p.out ks l) (.pv (.int (k : Int))) (.pv p.d) (.pv (ixD (some ks))) (fun x hx => hs x (List.mem_cons_of_mem _ hx)) (by
        have h3 : (p.out ks l).length + 1000 ≤ (l.length + 1000) * 2 := by omega
        have h4 := Nat.mul_le_mul_right (2 ^ r.length) h3
        rw [Nat.mul_assoc, Nat.mul_comm 2, ← Nat.mul_assoc] at h4
        omega)
      have step : forL (.tp [3, 4]) (bodyL cN) (en k ((p :: r).map Pt.d)) [s0, s1, .pv (.lst (l.map sg)), c3, c4, c5] = forL (.tp [3, 4]) (bodyL cN) (en (k + 1) (r.map Pt.d)) [s0, s1, .pv (.lst ((p.out ks l).map sg)), .pv (.int (k : Int)), .pv p.d, .pv (ixD (some ks))] := by
        simp only [ixD] at ie pe
        rw [List.map_cons, en, forL]
        simp [rdA, dLen, ie, dIsN, pe, ixD]
      simp only []
      rw [step]
      exact nx
theorem run_eq (cN : Addr) (r : List Pt) (l : List Nat) (hs : ∀ p ∈ r, p.small) (hl : (l.length + 1000) * 2 ^ r.length ≤ 8000000) :
    M_run cN [.pv (.tup (r.map Pt.d)), .pv (T l)] = (match runP 0 r l with
      | .ok l' => .ret (T l') []
      | .error e => .exc ⟨cN, [("index", .int (e : Int))]⟩ []) := by
  have h1 : l.length + 1000 ≤ (l.length + 1000) * 2 ^ r.length := Nat.le_mul_of_pos_right _ (Nat.pow_pos (by omega))
  have L := loop_eq cN (.pv (.tup (r.map Pt.d))) (.pv (T l)) r 0 l .un .un .un hs hl
  have le : M_letters_behind cN [.pv (.tup (r.map Pt.d)), .pv (T l)] = (match runP 0 r l with
      | .ok l' => .ret (.lst (l'.map sg)) []
      | .error e => .exc ⟨cN, [("index", .int (e : Int))]⟩ []) := by
    refine (fn_at (cs' := [.pv (.tup (r.map Pt.d)), .pv (T l), .un, .un, .un, .un]) rfl rfl).trans ?_
    have hd : dList [T l] = some (.lst (l.map sg)) := by
      show (if (⟨l.toArray⟩ : Str).length ≤ SZ then some (D.lst (signsD ⟨l.toArray⟩)) else none) = _
      rw [T_len, if_pos (by simp [SZ]; omega), signs_T]
    cases q : runP 0 r l with
    | ok l' =>
      rw [q] at L
      obtain ⟨⟨d3, d4, d5, L⟩, _⟩ := L
      simp [B_letters_behind, rdA, hd, enum_en, L, endOf, lentOf, isOl, List.findIdx?, List.findIdx?.go]
    | error e =>
      rw [q] at L
      obtain ⟨ρ', L⟩ := L
      simp [B_letters_behind, rdA, hd, enum_en, L, endOf, lentOf, isOl, List.findIdx?, List.findIdx?.go]
  refine (fn_at (cs' := [.pv (.tup (r.map Pt.d)), .pv (T l)]) rfl rfl).trans ?_
  cases q : runP 0 r l with
  | ok l' =>
    rw [q] at le L
    have jj := join_sg l' (by have := L.2; simp [SZ]; omega)
    simp [B_run, le, jj, endOf, lentOf, isOl, List.findIdx?, List.findIdx?.go]
  | error e =>
    rw [q] at le
    simp [B_run, le, endOf, lentOf, isOl, List.findIdx?, List.findIdx?.go]
end KL

end

section
set_option linter.all false
set_option maxRecDepth 100000
set_option maxHeartbeats 4000000
namespace KL
open PySem L2 VL
theorem okT {l : List Nat} (h : Okt l) : PyData.strOk (⟨l.toArray⟩ : Str) = true := by
  unfold PyData.strOk
  simp only [List.all_toArray, List.all_eq_true, decide_eq_true_eq]
  exact h
theorem dEq_st {s : Str} {l : List Nat} (hs : PyData.strOk s = true) (h : Okt l) : dEq (.tup [.str s, T l]) (.tup [.str s, T l]) = some (.bl true) := by
  have := okT h
  simp [dEq, eqB, D.py, D.pyA, T, SeqAt.shaped, PyData.canLay0, PyData.canLayAll0, PyData.depth, PyData.depthAll, PyData.eqv, PyData.eqvAll, hs, this]
theorem dEq_si {s : Str} {i : Int} (hs : PyData.strOk s = true) : dEq (.tup [.str s, .int i]) (.tup [.str s, .int i]) = some (.bl true) := by
  simp [dEq, eqB, D.py, D.pyA, SeqAt.shaped, PyData.canLay0, PyData.canLayAll0, PyData.depth, PyData.depthAll, PyData.eqv, PyData.eqvAll, hs]
theorem heard_eq (cN : Addr) (r : List Pt) (l : List Nat) (hs : ∀ p ∈ r, p.small) (hl : (l.length + 1000) * 2 ^ r.length ≤ 8000000) :
    M__law_heard_run cN [.pv (.tup (r.map Pt.d)), .pv (T l)] = (match runP 0 r l with
      | .ok l' => .ret (.tup [.str "text", T l']) []
      | .error e => .ret (.tup [.str "stuck", .int (e : Int)]) []) := by
  have re := run_eq cN r l hs hl
  refine (fn_at (cs' := [.pv (.tup (r.map Pt.d)), .pv (T l), .un, .un, .un]) rfl rfl).trans ?_
  cases q : runP 0 r l with
  | ok l' =>
    rw [q] at re
    simp [B__law_heard_run, SZ, sTry, re, dIsN, endOf, lentOf, isOl, List.findIdx?, List.findIdx?.go]
  | error e =>
    rw [q] at re
    have k : D.tag (.exc cN [("index", .int (e : Int))]) = some (.cls cN) := rfl
    simp [B__law_heard_run, SZ, sTry, re, dIsN, onlyC, unk, k, tagC, truD, mXf, List.lookup, endOf, lentOf, isOl, List.findIdx?, List.findIdx?.go]
theorem dAdd_T {a b : List Nat} (h : a.length + b.length ≤ SZ) : dAdd (T a) (T b) = some (T (a ++ b)) := by
  show (if (⟨a.toArray⟩ : Str).length + (⟨b.toArray⟩ : Str).length ≤ SZ then some (D.str ((⟨a.toArray⟩ : Str) ++ (⟨b.toArray⟩ : Str))) else none) = _
  rw [T_len, T_len, if_pos h, T_app]
  rfl
theorem dLen_T {a : List Nat} (h : a.length ≤ SZ) : dLen [T a] = some (.int (a.length : Int)) := by
  show (if (⟨a.toArray⟩ : Str).length ≤ SZ then some (D.int ((⟨a.toArray⟩ : Str).length : Int)) else none) = _
  rw [T_len, if_pos h]
end KL

end

section
set_option linter.all false
set_option maxRecDepth 100000
set_option maxHeartbeats 4000000
namespace KL
open PySem L2 VL
theorem dAdd_i (i j : Int) : dAdd (.int i) (.int j) = some (.int (i + j)) := Eq.trans rfl rfl
theorem atI_nat' {ns : List Int} {k : Nat} (h : k < ns.length) : atI ns (k : Int) = some ns[k] := by
  unfold atI ixN
  rw [if_pos (by omega), if_pos (by omega)]
  simp [h]
theorem pw1 : ∃ P B : Int, 0 < B ∧ dPow (.int 10) (.int 60) = some (.int P) ∧ dPow (.int P) (.int 5) = some (.int B) := by
  have p1 : dPow (.int 10) (.int 60) = some (.int (10 ^ 60)) := by
    show (if 0 ≤ (60 : Int) ∧ (60 : Int) ≤ 1000 ∧ (10 : Int).natAbs < 2 ^ 512 then some (D.int ((10 : Int) ^ (60 : Int).toNat)) else none) = _
    rw [if_pos (by decide +kernel)]
    rfl
  have p2 : dPow (.int (10 ^ 60)) (.int 5) = some (.int ((10 ^ 60) ^ 5)) := by
    show (if 0 ≤ (5 : Int) ∧ (5 : Int) ≤ 1000 ∧ ((10 : Int) ^ 60).natAbs < 2 ^ 512 then some (D.int (((10 : Int) ^ 60) ^ (5 : Int).toNat)) else none) = _
    rw [if_pos (by decide +kernel)]
    rfl
  exact ⟨_, _, by decide +kernel, p1, p2⟩
theorem pw2 : ∃ B : Int, dPow (.int 10) (.int 18) = some (.int B) := by
  have p3 : dPow (.int 10) (.int 18) = some (.int (10 ^ 18)) := by
    show (if 0 ≤ (18 : Int) ∧ (18 : Int) ≤ 1000 ∧ (10 : Int).natAbs < 2 ^ 512 then some (D.int ((10 : Int) ^ (18 : Int).toNat)) else none) = _
    rw [if_pos (by decide +kernel)]
    rfl
  exact ⟨_, p3⟩
theorem mod_ok {a b : Int} (h : 0 < b) : dMod (.int a) (.int b) = some (.int (a % b)) := by
  show (if 0 < b then some (D.int (a % b)) else none) = _
  rw [if_pos h]
theorem mul_ok {a b : Int} (h : mulOk a b = true) : dMul (.int a) (.int b) = some (.int (a * b)) := by
  show (if mulOk a b = true then some (D.int (a * b)) else none) = _
  rw [if_pos h]
theorem jar_eq (ns : List Int) (k : Nat) (hk : k ≤ 10) : ∃ j, JarOk j ∧ M__law_jar [.pv (.scr ns), .pv (.int (k : Int))] = .own (jarD j) [] := by
  obtain ⟨P, B, hB, w0, w1⟩ := pw1
  obtain ⟨C, w2⟩ := pw2
  have cellv : ∃ cell : Int, mIf (asB (m2 (dCmp fun i j => decide (i < j)) (mVar 1) (mCall dLen (mCons (mVar 0) mNil)))) (m2 dIx (mVar 0) (mVar 1)) (m2 dAdd (m2 dMul (mC (.int 61)) (mVar 1)) (mC (.int 29))) [.pv (.scr ns), .pv (.int (k : Int)), .un, .un] = .ok (.d (.int cell)) [.pv (.scr ns), .pv (.int (k : Int)), .un, .un] := by
    by_cases h : k < ns.length
    · refine ⟨ns[k], ?_⟩
      have := atI_nat' h
      simp [rdA, dLen, dCmp, h, dIx, this]
    · refine ⟨61 * (k : Int) + 29, ?_⟩
      have m1 : dMul (.int 61) (.int (k : Int)) = some (.int (61 * (k : Int))) := mul_ok (by simp [mulOk])
      simp [rdA, dLen, dCmp, h, m1, dAdd_i]
  obtain ⟨cell, hc⟩ := cellv
  refine (fun {j} (h1 : JarOk j) h2 => (⟨j, h1, h2⟩ : ∃ j, JarOk j ∧ M__law_jar [.pv (.scr ns), .pv (.int (k : Int))] = .own (jarD j) [])) (j := ((if cell < 0 then -cell else cell) % B * (if decide (C ≤ (if cell < 0 then -cell else cell)) = true then 1 else 0), (cell % 2305843009213693951 * 70001 + 6301 * (k : Int) * (k : Int) + 97) % 2305843009213693921)) ⟨?_, ?_⟩ ?_
  · have := Int.emod_nonneg (if cell < 0 then -cell else cell) (by omega : B ≠ 0)
    exact Int.mul_nonneg this (by split <;> omega)
  · exact Int.emod_nonneg _ (by decide)
  · refine (fn_at (cs' := [.pv (.scr ns), .pv (.int (k : Int)), .un, .un]) rfl rfl).trans ?_
    have m1 : ∀ (x : Int) (b : Bool), dMul (.int x) (.int (if b = true then 1 else 0)) = some (.int (x * (if b = true then 1 else 0))) := fun x b => mul_ok (by cases b <;> simp [mulOk])
    have m2' : ∀ x : Int, dMul (.int (x % 2305843009213693951)) (.int 70001) = some (.int (x % 2305843009213693951 * 70001)) := fun x => mul_ok (by simp [mulOk])
    have m3 : dMul (.int 6301) (.int (k : Int)) = some (.int (6301 * (k : Int))) := mul_ok (by simp [mulOk])
    have m4 : dMul (.int (6301 * (k : Int))) (.int (k : Int)) = some (.int (6301 * (k : Int) * (k : Int))) := mul_ok (by simp [mulOk]; omega)
    have d1 : ∀ x : Int, dMod (.int x) (.int B) = some (.int (x % B)) := fun x => mod_ok hB
    have d2 : ∀ x : Int, dMod (.int x) (.int 2305843009213693951) = some (.int (x % 2305843009213693951)) := fun x => mod_ok (by decide)
    have d3 : ∀ x : Int, dMod (.int x) (.int 2305843009213693921) = some (.int (x % 2305843009213693921)) := fun x => mod_ok (by decide)
    have ai : ∀ x : Int, dInt [.int x] = some (.int x) := fun _ => Eq.trans rfl rfl
    have ab : ∀ x : Bool, dInt [.bl x] = some (.int (if x = true then 1 else 0)) := fun _ => Eq.trans rfl rfl
    have aa : ∀ x : Int, dAbs [.int x] = some (.int (if x < 0 then -x else x)) := fun _ => Eq.trans rfl rfl
    have cc : ∀ x : Int, dCmp (fun i j => decide (j ≤ i)) (.int x) (.int C) = some (.bl (decide (C ≤ x))) := fun _ => Eq.trans rfl rfl
    have r0 : ∀ ρ, rdA ρ [] = some [] := fun _ => rfl
    have r1 : ∀ (ρ : Sl) (d : D), rdA ρ [.d d] = some [d] := fun _ _ => rfl
    unfold B__law_jar
    rw [e_seq, e_set, hc]
    simp only [e_sok, List.set_cons_succ, List.set_cons_zero, e_seq, e_set, e_2, e_call, e_cons, e_nil, e_var, List.getElem?_cons_succ, List.getElem?_cons_zero, e_bok, r1, aa, ai, ab, cc, w0, w1, w2, d1, m1, d2, m2', m3, m4, d3, dAdd_i, e_ro2d, e_c, e_retN, e_nlst, e_datas1, e_datas0, Option.map_some, e_nx, jarD]
    simp [SZ, endOf, lentOf, isOl, List.findIdx?, List.findIdx?.go]

theorem bls_true {α : Type} : ∀ xs : List α, blsOf (xs.map fun _ => D.bl true) = some (xs.map fun _ => true)
  | [] => rfl
  | x :: r => by
    show (blsOf (r.map fun _ => D.bl true)).map _ = _
    rw [bls_true r]
    rfl
theorem all_true {α : Type} (xs : List α) : dAll [.lst (xs.map fun _ => D.bl true)] = some (.bl true) := by
  simp only [dAll, bls_true, Option.map_some]
  congr 2
  simp
theorem lc_true {fe : Sl → Res Val} {ρ : Sl} {v w : Nat} {α : Type} (f g : α → D) : ∀ (xs : List α) (acc : List D), (∀ x ∈ xs, fe ((ρ.set v (.pv (f x))).set w (.pv (g x))) = .ok (.d (.bl true)) ((ρ.set v (.pv (f x))).set w (.pv (g x)))) →
    (∀ x, wipC ((ρ.set v (.pv (f x))).set w (.pv (g x))) [v, w] = ρ) → acc.length + xs.length ≤ SZ →
    lcL (.tp [v, w]) mYes fe [v, w] (xs.map fun x => .tup [f x, g x]) ρ acc = .ok (acc ++ xs.map fun _ => .bl true) ρ
  | [], acc, _, _, _ => by simp [lcL]
  | x :: r, acc, h1, h2, hl => by
    rw [List.length_cons] at hl
    rw [List.map_cons, lcL]
    simp only [e_tp, List.length_cons, List.length_nil, if_true, e_sa1, e_sa0, mYes, h1 x List.mem_cons_self]
    rw [if_pos (by omega), h2, lc_true f g r (acc ++ [D.bl true]) (fun y hy => h1 y (List.mem_cons_of_mem _ hy)) h2 (by rw [List.length_append, List.length_singleton]; omega), List.append_assoc]
    rfl
theorem seq_to {s r : Sl → SR} {ρ ρ1 : Sl} {q : SR} (h1 : s ρ = .nx ρ1) (h2 : r ρ1 = q) : sSeq s r ρ = q := by
  rw [e_seq, h1]
  exact h2
/-- the cells that a law looks at -/
theorem cells_eq (ns : List Int) (c : Nat) (hc : c ≤ 10) {ρ : Sl} (h0 : ρ[0]? = some (.pv (.scr ns))) : ∃ m : Nat, m ≤ 10 ∧ mRng1 (mCons (mCall dMax (mCons (mC (.int 1)) (mCons (mCall dMin (mCons (mC (.int (c : Int))) (mCons (mCall dLen (mCons (mVar 0) mNil)) mNil))) mNil))) mNil) ρ = .ok (rangeD 0 m) ρ := by
  refine ⟨max 1 (min c ns.length), by omega, ?_⟩
  have r1 : ∀ (ρ : Sl) (d : D), rdA ρ [.d d] = some [d] := fun _ _ => rfl
  have r2 : ∀ (ρ : Sl) (d e : D), rdA ρ [.d d, .d e] = some [d, e] := fun _ _ _ => rfl
  have d1 : dLen [.scr ns] = some (.int (ns.length : Int)) := Eq.trans rfl rfl
  have d2 : ∀ i j : Int, dMin [.int i, .int j] = some (.int (if j < i then j else i)) := fun _ _ => Eq.trans rfl rfl
  have d3 : ∀ i j : Int, dMax [.int i, .int j] = some (.int (if j > i then j else i)) := fun _ _ => Eq.trans rfl rfl
  refine rng1_eq (n := max 1 (min c ns.length)) ?_ (by omega)
  simp only [e_call, e_cons, e_nil, e_c, e_var, h0, e_bok, r1, r2, d1, d2, d3]
  congr 4
  split <;> split <;> omega
end KL

end

section
set_option linter.all false
set_option maxRecDepth 100000
set_option maxHeartbeats 4000000
namespace KL
open PySem L2 VL
theorem dCut_T (l : List Nat) (a : Nat) (h : l.length ≤ SZ) : dCut (T l) (some (a : Int)) none = some (T (l.drop a)) := by
  show (if (⟨l.toArray⟩ : Str).length ≤ SZ then some (D.str (cutS ⟨l.toArray⟩ (some (a : Int)) none)) else none) = _
  rw [T_len, if_pos h]
  unfold cutS T
  rw [T_len, HT.sIx_nat, HT.sIx_none]
  congr 3
  show ((l.toArray.toList.drop (min a l.length)).take (l.length - min a l.length)).toArray = _
  congr 1
  by_cases z : a ≤ l.length
  · rw [Nat.min_eq_left z, List.take_of_length_le (by rw [List.length_drop]; simp)]
  · rw [Nat.min_eq_right (by omega), Nat.sub_self, List.take_zero, List.drop_eq_nil_of_le (by omega)]
theorem rep_len (n : Nat) (l : List Nat) : (List.replicate n l).flatten.length = n * l.length := by
  induction n with
  | zero => simp
  | succ n ih => rw [List.replicate_succ, List.flatten_cons, List.length_append, ih, Nat.succ_mul]; omega
theorem dMul_T (l : List Nat) (n : Nat) (hn : n ≤ 100000) (hl : l.length ≤ 100) : dMul (T l) (.int (n : Int)) = some (T (List.replicate n l).flatten) := by
  show (if 0 ≤ (n : Int) ∧ (n : Int) ≤ 100000 ∧ (⟨l.toArray⟩ : Str).length ≤ 100 then some (D.str (repS ⟨l.toArray⟩ (n : Int).toNat)) else none) = _
  rw [if_pos ⟨by omega, by omega, by rw [T_len]; exact hl⟩, Int.toNat_natCast]
  rfl
theorem rep1 (n c : Nat) : (List.replicate n [c]).flatten = List.replicate n c := by
  induction n with
  | zero => rfl
  | succ n ih => rw [List.replicate_succ, List.flatten_cons, ih, List.replicate_succ]; rfl
theorem lit_b : D.str "b" = T [98] := by kernel_rfl
theorem lit_qq : D.str "q" = T [113] := by kernel_rfl
theorem lit_e : D.str "" = T [] := by kernel_rfl
theorem dEqb {x y : D} {b : Bool} (h : eqB x y = some b) : dEq x y = some (.bl b) ∧ dNe x y = some (.bl (!b)) := by
  unfold dEq dNe
  rw [h]
  exact ⟨rfl, rfl⟩
theorem dNe_of {x y : D} {b : Bool} (h : dEq x y = some (.bl b)) : dNe x y = some (.bl (!b)) := by
  unfold dEq at h
  cases q : eqB x y with
  | none => rw [q] at h; cases h
  | some c =>
    rw [q] at h
    have : c = b := by
      simp at h
      exact h
    rw [this] at q
    exact (dEqb q).2
theorem dEq_T {l : List Nat} (h : Okt l) : dEq (T l) (T l) = some (.bl true) := by
  have := okT h
  have e := dEq_str this this
  rw [beq_self_eq_true] at e
  exact e
theorem heard_ok {cN : Addr} {r : List Pt} {l l' : List Nat} (h : runP 0 r l = .ok l') (hs : ∀ p ∈ r, p.small) (hl : (l.length + 1000) * 2 ^ r.length ≤ 8000000) : M__law_heard_run cN [.pv (.tup (r.map Pt.d)), .pv (T l)] = .ret (.tup [.str "text", T l']) [] := by
  rw [heard_eq cN r l hs hl, h]
theorem heard_no {cN : Addr} {r : List Pt} {l : List Nat} {e : Nat} (h : runP 0 r l = .error e) (hs : ∀ p ∈ r, p.small) (hl : (l.length + 1000) * 2 ^ r.length ≤ 8000000) : M__law_heard_run cN [.pv (.tup (r.map Pt.d)), .pv (T l)] = .ret (.tup [.str "stuck", .int (e : Int)]) [] := by
  rw [heard_eq cN r l hs hl, h]
end KL

end

section
set_option linter.all false
set_option maxRecDepth 100000
set_option maxHeartbeats 8000000
namespace KL
open PySem L2 VL
theorem lspot (z : Bool) (i n : Nat) : M__law_spot [.pv (spot z i), .pv (.int (n : Int))] = .ret (if n < i then .non else .int ((ps z i n : Nat) : Int)) [] := by
  refine (fn_at (cs' := [.pv (spot z i), .pv (.int (n : Int)), .un, .un]) rfl rfl).trans ?_
  by_cases h : n < i
  · have h' : (n : Int) < (i : Int) := by omega
    simp [B__law_spot, spot, dCmp, h, h', endOf, lentOf, isOl, List.findIdx?, List.findIdx?.go]
  · have h' : ¬ (n : Int) < (i : Int) := by omega
    have e := ps_int (z := z) (i := i) (n := n) (by omega)
    cases z
    · simp only [Bool.not_false, if_true] at e
      simp [B__law_spot, spot, dCmp, h, h', ← e, dSub, endOf, lentOf, isOl, List.findIdx?, List.findIdx?.go]
    · simp only [Bool.not_true, if_false, Bool.false_eq_true] at e
      simp [B__law_spot, spot, dCmp, h, h', ← e, dSub, endOf, lentOf, isOl, List.findIdx?, List.findIdx?.go]
def resD : Option (List Nat) → D
  | none => .non
  | some l => .lst (l.map sg)
def stepP (p : Pt) (l : List Nat) : Option (List Nat) := (p.ix l.length).map fun ks => p.out ks l
theorem j_put : dIn (.str "put") (.tup [.str "put", .str "over"]) = some (.bl true) := by kernel_rfl
theorem j_over : dIn (.str "over") (.tup [.str "put", .str "over"]) = some (.bl true) := by kernel_rfl
theorem j_cut : dIn (.str "cut") (.tup [.str "put", .str "over"]) = some (.bl false) := by kernel_rfl
theorem j_copy : dIn (.str "copy") (.tup [.str "put", .str "over"]) = some (.bl false) := by kernel_rfl
theorem if_t {t : Sl → Res Bool} {s r : Sl → SR} {ρ ρ1 : Sl} {q : SR} (h : t ρ = .ok true ρ1) (h2 : s ρ1 = q) : sIf t s r ρ = q := by
  rw [e_if, h, e_sok, if_pos rfl]
  exact h2
theorem if_f {t : Sl → Res Bool} {s r : Sl → SR} {ρ ρ1 : Sl} {q : SR} (h : t ρ = .ok false ρ1) (h2 : r ρ1 = q) : sIf t s r ρ = q := by
  rw [e_if, h, e_sok, if_neg Bool.false_ne_true]
  exact h2
theorem di (b : Bool) : dInt [.bl b] = some (.int (if b = true then 1 else 0)) := Eq.trans rfl rfl
theorem mul_0 (a : Int) : dMul (.int a) (.int 0) = some (.int 0) := by
  rw [mul_ok (by simp [mulOk]), Int.mul_zero]
theorem mul_1 (a : Int) : dMul (.int a) (.int 1) = some (.int a) := by
  rw [mul_ok (by simp [mulOk]), Int.mul_one]
/-- what put and over come to, once the place is known -/
theorem lp_text (o : Bool) (z : Bool) (i : Nat) (t : List Nat) (ht : t.length ≤ 1000) (l : List Nat) (hl : 2 * l.length + 2000 ≤ SZ) :
    M__law_patched [.pv (.tup [.str (if o then "over" else "put"), spot z i, T t]), .pv (.lst (l.map sg))] = .ret (resD (if l.length < i then none else if l.length < ps z i l.length + (if o then t.length else 0) then none else some (l.take (ps z i l.length) ++ t ++ l.drop (ps z i l.length + (if o then t.length else 0))))) [] := by
  refine (fn_at (cs' := [.pv (.tup [.str (if o then "over" else "put"), spot z i, T t]), .pv (.lst (l.map sg)), .un, .un, .un, .un, .un, .un, .un]) rfl rfl).trans ?_
  have hz : 2 * l.length + 2000 ≤ 16777216 := hl
  have s1 := lspot z i l.length
  have lt := list_T t ht
  have hin : dIn (.str (if o then "over" else "put")) (.tup [.str "put", .str "over"]) = some (.bl true) := by
    cases o
    · exact j_put
    · exact j_over
  have heq : dEq (.str (if o then "over" else "put")) (.str "over") = some (.bl o) := by
    cases o
    · exact q_put_over
    · exact q_over_over
  have hmul : dMul (.int (t.length : Int)) (.int (if o = true then 1 else 0)) = some (.int (((if o then t.length else 0 : Nat)) : Int)) := by
    cases o
    · exact mul_0 _
    · exact mul_1 _
  generalize hk : (if o then t.length else 0) = kk at *
  have kk' : kk ≤ 1000 := by rw [← hk]; split <;> omega
  generalize (if o then ("over" : Str) else "put") = nm at *
  generalize T t = tt at *
  generalize hsp : spot z i = sp at *
  unfold B__law_patched
  refine seq_nx (ρ1 := [.pv (.tup [.str nm, sp, tt]), .pv (.lst (l.map sg)), .pv (.int (l.length : Int)), .pv (.str nm), .un, .un, .un, .un, .un]) (by simp [dLen, rdA, SZ, dIx, atI, ixN]) ?_
  by_cases h : l.length < i
  · rw [if_pos h] at s1 ⊢
    refine seq_nx (ρ1 := [.pv (.tup [.str nm, sp, tt]), .pv (.lst (l.map sg)), .pv (.int (l.length : Int)), .pv (.str nm), .pv .non, .un, .un, .un, .un]) (by simp [dIx, atI, ixN, s1]) ?_
    refine seq_rt (ρ1 := [.pv (.tup [.str nm, sp, tt]), .pv (.lst (l.map sg)), .pv (.int (l.length : Int)), .pv (.str nm), .pv .non, .pv (.lst (t.map sg)), .pv .non, .un, .un]) (d := .non) ?_ (by simp [endOf, lentOf, isOl, resD, List.findIdx?, List.findIdx?.go])
    refine if_t (ρ1 := [.pv (.tup [.str nm, sp, tt]), .pv (.lst (l.map sg)), .pv (.int (l.length : Int)), .pv (.str nm), .pv .non, .un, .un, .un, .un]) (by simp [hin, SZ]) ?_
    refine seq_to (ρ1 := [.pv (.tup [.str nm, sp, tt]), .pv (.lst (l.map sg)), .pv (.int (l.length : Int)), .pv (.str nm), .pv .non, .pv (.lst (t.map sg)), .un, .un, .un]) (by simp [dIx, atI, ixN, rdA, lt]) ?_
    refine seq_to (ρ1 := [.pv (.tup [.str nm, sp, tt]), .pv (.lst (l.map sg)), .pv (.int (l.length : Int)), .pv (.str nm), .pv .non, .pv (.lst (t.map sg)), .pv .non, .un, .un]) (by simp [dIsN]) ?_
    simp [dIsN]
  · rw [if_neg h] at s1 ⊢
    have le := ps_le (z := z) (i := i) (n := l.length) (by omega)
    generalize ps z i l.length = a at *
    refine seq_nx (ρ1 := [.pv (.tup [.str nm, sp, tt]), .pv (.lst (l.map sg)), .pv (.int (l.length : Int)), .pv (.str nm), .pv (.int (a : Int)), .un, .un, .un, .un]) (by simp [dIx, atI, ixN, s1]) ?_
    have fin : ∀ {d : D}, (sSeq (sRet (mIf (mOrT (asB (m2 dIsN (mVar 6) (mC .non))) (asB (m2 (dCmp fun i j => decide (j < i)) (mVar 6) (mVar 2)))) (mC .non) (m2 dAdd (m2 dAdd (mCut (mVar 1) mNoP (mPart (mVar 4))) (mVar 5)) (mCut (mVar 1) (mPart (mVar 6)) mNoP)))) sNx)
        [.pv (.tup [.str nm, sp, tt]), .pv (.lst (l.map sg)), .pv (.int (l.length : Int)), .pv (.str nm), .pv (.int (a : Int)), .pv (.lst (t.map sg)), .pv (.int ((a + kk : Nat) : Int)), .un, .un] = .rt d [.pv (.tup [.str nm, sp, tt]), .pv (.lst (l.map sg)), .pv (.int (l.length : Int)), .pv (.str nm), .pv (.int (a : Int)), .pv (.lst (t.map sg)), .pv (.int ((a + kk : Nat) : Int)), .un, .un] →
        endOf [.pv (.tup [.str nm, sp, tt]), .pv (.lst (l.map sg))] (sSeq (sIf (asB (m2 dIn (mVar 3) (mTup (mCons (mC (.str "put")) (mCons (mC (.str "over")) mNil))))) (sSeq (sSet 5 (mCall dList (mCons (m2 dIx (mVar 0) (mC (.int 2))) mNil)))
  (sSeq (sSet 6 (mIf (asB (m2 dIsN (mVar 4) (mC .non))) (mC .non) (m2 dAdd (mVar 4) (m2 dMul (mCall dLen (mCons (mVar 5) mNil)) (mCall dInt (mCons (m2 dEq (mVar 3) (mC (.str "over"))) mNil))))))
  (sSeq (sRet (mIf (mOrT (asB (m2 dIsN (mVar 6) (mC .non))) (asB (m2 (dCmp fun i j => decide (j < i)) (mVar 6) (mVar 2)))) (mC .non) (m2 dAdd (m2 dAdd (mCut (mVar 1) mNoP (mPart (mVar 4))) (mVar 5)) (mCut (mVar 1) (mPart (mVar 6)) mNoP))))
  sNx))) sNx) (sSeq (sSet 7 (mFn M__law_spot [] (mCons (m2 dIx (mVar 0) (mC (.int 2))) (mCons (mVar 2) mNil))))
  (sSeq (sIf (mOrT (asB (m2 dIsN (mVar 4) (mC .non))) (mOrT (asB (m2 dIsN (mVar 7) (mC .non))) (asB (m2 (dCmp fun i j => decide (i < j)) (mVar 7) (mVar 4))))) (sSeq (sRet (mC .non))
  sNx) sNx)
  (sSeq (sIf (asB (m2 dEq (mVar 3) (mC (.str "cut")))) (sSeq (sRet (m2 dAdd (mCut (mVar 1) mNoP (mPart (mVar 4))) (mCut (mVar 1) (mPart (mVar 7)) mNoP)))
  sNx) sNx)
  (sSeq (sSet 8 (mFn M__law_spot [] (mCons (m2 dIx (mVar 0) (mC (.int 3))) (mCons (mVar 2) mNil))))
  (sSeq (sIf (asB (m2 dIsN (mVar 8) (mC .non))) (sSeq (sRet (mC .non))
  sNx) sNx)
  (sSeq (sRet (m2 dAdd (m2 dAdd (mCut (mVar 1) mNoP (mPart (mVar 8))) (mCut (mVar 1) (mPart (mVar 4)) (mPart (mVar 7)))) (mCut (mVar 1) (mPart (mVar 8)) mNoP)))
  sNx)))))) [.pv (.tup [.str nm, sp, tt]), .pv (.lst (l.map sg)), .pv (.int (l.length : Int)), .pv (.str nm), .pv (.int (a : Int)), .un, .un, .un, .un]) = .ret d [] := fun {d} hd => by
      refine seq_rt (d := d) (ρ1 := [.pv (.tup [.str nm, sp, tt]), .pv (.lst (l.map sg)), .pv (.int (l.length : Int)), .pv (.str nm), .pv (.int (a : Int)), .pv (.lst (t.map sg)), .pv (.int ((a + kk : Nat) : Int)), .un, .un]) ?_ (by simp [endOf, lentOf, isOl, List.findIdx?, List.findIdx?.go])
      refine if_t (ρ1 := [.pv (.tup [.str nm, sp, tt]), .pv (.lst (l.map sg)), .pv (.int (l.length : Int)), .pv (.str nm), .pv (.int (a : Int)), .un, .un, .un, .un]) (by simp [hin, SZ]) ?_
      refine seq_to (ρ1 := [.pv (.tup [.str nm, sp, tt]), .pv (.lst (l.map sg)), .pv (.int (l.length : Int)), .pv (.str nm), .pv (.int (a : Int)), .pv (.lst (t.map sg)), .un, .un, .un]) (by simp [dIx, atI, ixN, rdA, lt]) ?_
      refine seq_to (ρ1 := [.pv (.tup [.str nm, sp, tt]), .pv (.lst (l.map sg)), .pv (.int (l.length : Int)), .pv (.str nm), .pv (.int (a : Int)), .pv (.lst (t.map sg)), .pv (.int ((a + kk : Nat) : Int)), .un, .un]) ?_ hd
      have d1 : dLen [.lst (t.map sg)] = some (.int (t.length : Int)) := by
        show some (D.int ((t.map sg).length : Int)) = _
        rw [List.length_map]
      simp [dIsN, rdA, d1, heq, di, hmul, dAdd_i]
    refine fin ?_
    by_cases h2 : l.length < a + kk
    · rw [if_pos h2]
      have h2' : (l.length : Int) < ((a + kk : Nat) : Int) := by omega
      generalize ((a + kk : Nat) : Int) = w at *
      simp [dIsN, dCmp, h2', resD]
    · rw [if_neg h2]
      have h2' : ¬ (l.length : Int) < ((a + kk : Nat) : Int) := by omega
      have c1 := cut_lo (l.map sg) a
      have c2 := cut_hi (l.map sg) (a + kk)
      have b1 : dAdd (.lst ((l.map sg).take a)) (.lst (t.map sg)) = some (.lst ((l.map sg).take a ++ t.map sg)) := by
        show (if _ ≤ SZ then _ else none) = _
        rw [if_pos (by simp [SZ]; omega)]
      have b2 : dAdd (.lst ((l.map sg).take a ++ t.map sg)) (.lst ((l.map sg).drop (a + kk))) = some (.lst ((l.map sg).take a ++ t.map sg ++ (l.map sg).drop (a + kk))) := by
        show (if _ ≤ SZ then _ else none) = _
        rw [if_pos (by simp [SZ]; omega)]
      have r : resD (some (l.take a ++ t ++ l.drop (a + kk))) = .lst ((l.map sg).take a ++ t.map sg ++ (l.map sg).drop (a + kk)) := by
        simp [resD, List.map_take, List.map_drop]
      rw [r]
      generalize ((a + kk : Nat) : Int) = w at *
      generalize (l.map sg).take a ++ t.map sg ++ (l.map sg).drop (a + kk) = R at *
      generalize (l.map sg).take a ++ t.map sg = R1 at *
      simp [dIsN, dCmp, h2', c1, c2, b1, b2]
theorem lp_put (z : Bool) (i : Nat) (t : List Nat) (hp : Pt.small (.put z i t)) (l : List Nat) (hl : 2 * l.length + 2000 ≤ SZ) : M__law_patched [.pv (Pt.d (.put z i t)), .pv (.lst (l.map sg))] = .ret (resD (stepP (.put z i t) l)) [] := by
  have := lp_text false z i t hp l hl
  refine this.trans ?_
  congr 2
  by_cases h : l.length < i
  · simp [stepP, Pt.ix, h]
  · have le := ps_le (z := z) (i := i) (n := l.length) (by omega)
    have b3 : ¬ l.length < ps z i l.length := by omega
    simp [stepP, Pt.ix, Pt.out, h, b3]
theorem lp_over (z : Bool) (i : Nat) (t : List Nat) (hp : Pt.small (.over z i t)) (l : List Nat) (hl : 2 * l.length + 2000 ≤ SZ) : M__law_patched [.pv (Pt.d (.over z i t)), .pv (.lst (l.map sg))] = .ret (resD (stepP (.over z i t) l)) [] := by
  have := lp_text true z i t hp l hl
  refine this.trans ?_
  congr 2
  by_cases h : l.length < i
  · simp [stepP, Pt.ix, h]
  · by_cases h2 : l.length < ps z i l.length + t.length <;> simp [stepP, Pt.ix, Pt.out, h, h2]
theorem lp_cut (z : Bool) (i : Nat) (z' : Bool) (i' : Nat) (hp : Pt.small (.cut z i z' i')) (l : List Nat) (hl : 2 * l.length + 2000 ≤ SZ) : M__law_patched [.pv (Pt.d (.cut z i z' i')), .pv (.lst (l.map sg))] = .ret (resD (stepP (.cut z i z' i') l)) [] := by
  refine (fn_at (cs' := [.pv (Pt.d (.cut z i z' i')), .pv (.lst (l.map sg)), .un, .un, .un, .un, .un, .un, .un]) rfl rfl).trans ?_
  have hz : 2 * l.length + 2000 ≤ 16777216 := hl
  have di : ∀ b : Bool, dInt [.bl b] = some (.int (if b = true then 1 else 0)) := fun b => Eq.trans rfl rfl
  have s1 := lspot z i l.length
  have s2 := lspot z' i' l.length
  by_cases h : l.length < i
  · rw [if_pos h] at s1
    by_cases h2 : l.length < i'
    · rw [if_pos h2] at s2
      simp [B__law_patched, Pt.d, stepP, Pt.ix, resD, dLen, rdA, SZ, dIx, atI, ixN, s1, s2, j_cut, dIsN, h, endOf, lentOf, isOl, List.findIdx?, List.findIdx?.go]
    · rw [if_neg h2] at s2
      simp [B__law_patched, Pt.d, stepP, Pt.ix, resD, dLen, rdA, SZ, dIx, atI, ixN, s1, s2, j_cut, dIsN, h, endOf, lentOf, isOl, List.findIdx?, List.findIdx?.go]
  · rw [if_neg h] at s1
    by_cases h2 : l.length < i'
    · rw [if_pos h2] at s2
      simp [B__law_patched, Pt.d, stepP, Pt.ix, resD, dLen, rdA, SZ, dIx, atI, ixN, s1, s2, j_cut, dIsN, h, h2, endOf, lentOf, isOl, List.findIdx?, List.findIdx?.go]
    · rw [if_neg h2] at s2
      by_cases h3 : ps z' i' l.length < ps z i l.length
      · simp [B__law_patched, Pt.d, stepP, Pt.ix, resD, dLen, rdA, SZ, dIx, atI, ixN, s1, s2, j_cut, dIsN, dCmp, h, h2, h3, endOf, lentOf, isOl, List.findIdx?, List.findIdx?.go]
      · have b1 : min (ps z i l.length) l.length + (l.length - ps z' i' l.length) ≤ 16777216 := by omega
        simp [B__law_patched, Pt.d, stepP, Pt.ix, Pt.out, resD, dLen, rdA, SZ, dIx, atI, ixN, s1, s2, j_cut, dIsN, dCmp, h, h2, h3, dAdd, cut_lo, cut_hi, b1, List.map_take, List.map_drop, endOf, lentOf, isOl, List.findIdx?, List.findIdx?.go]
theorem lp_copy (z : Bool) (i : Nat) (z' : Bool) (i' : Nat) (y : Bool) (k : Nat) (hp : Pt.small (.copy z i z' i' y k)) (l : List Nat) (hl : 2 * l.length + 2000 ≤ SZ) : M__law_patched [.pv (Pt.d (.copy z i z' i' y k)), .pv (.lst (l.map sg))] = .ret (resD (stepP (.copy z i z' i' y k) l)) [] := by
  refine (fn_at (cs' := [.pv (Pt.d (.copy z i z' i' y k)), .pv (.lst (l.map sg)), .un, .un, .un, .un, .un, .un, .un]) rfl rfl).trans ?_
  have hz : 2 * l.length + 2000 ≤ 16777216 := hl
  have di : ∀ b : Bool, dInt [.bl b] = some (.int (if b = true then 1 else 0)) := fun b => Eq.trans rfl rfl
  have s1 := lspot z i l.length
  have s2 := lspot z' i' l.length
  have s3 := lspot y k l.length
  by_cases h : l.length < i
  · rw [if_pos h] at s1
    by_cases h2 : l.length < i'
    · rw [if_pos h2] at s2
      simp [B__law_patched, Pt.d, stepP, Pt.ix, resD, dLen, rdA, SZ, dIx, atI, ixN, s1, s2, j_copy, dIsN, h, endOf, lentOf, isOl, List.findIdx?, List.findIdx?.go]
    · rw [if_neg h2] at s2
      simp [B__law_patched, Pt.d, stepP, Pt.ix, resD, dLen, rdA, SZ, dIx, atI, ixN, s1, s2, j_copy, dIsN, h, endOf, lentOf, isOl, List.findIdx?, List.findIdx?.go]
  · rw [if_neg h] at s1
    by_cases h2 : l.length < i'
    · rw [if_pos h2] at s2
      simp [B__law_patched, Pt.d, stepP, Pt.ix, resD, dLen, rdA, SZ, dIx, atI, ixN, s1, s2, j_copy, dIsN, h, h2, endOf, lentOf, isOl, List.findIdx?, List.findIdx?.go]
    · rw [if_neg h2] at s2
      by_cases h3 : ps z' i' l.length < ps z i l.length
      · simp [B__law_patched, Pt.d, stepP, Pt.ix, resD, dLen, rdA, SZ, dIx, atI, ixN, s1, s2, j_copy, dIsN, dCmp, h, h2, h3, endOf, lentOf, isOl, List.findIdx?, List.findIdx?.go]
      · by_cases h4 : l.length < k
        · rw [if_pos h4] at s3
          simp [B__law_patched, Pt.d, stepP, Pt.ix, resD, dLen, rdA, SZ, dIx, atI, ixN, s1, s2, s3, j_copy, dIsN, dCmp, h, h2, h3, h4, endOf, lentOf, isOl, List.findIdx?, List.findIdx?.go]
        · rw [if_neg h4] at s3
          have k1 : ps z' i' l.length ≤ l.length := ps_le (by omega)
          have b1 : min (ps y k l.length) l.length + min (ps z' i' l.length - ps z i l.length) (l.length - ps z i l.length) ≤ 16777216 := by omega
          have b2 : min (ps y k l.length) l.length + (min (ps z' i' l.length - ps z i l.length) (l.length - ps z i l.length) + (l.length - ps y k l.length)) ≤ 16777216 := by omega
          have cm := cut_mid (l.map sg) (ps z i l.length) (ps z' i' l.length) (by rw [List.length_map]; exact k1) (by omega)
          simp [B__law_patched, Pt.d, stepP, Pt.ix, Pt.out, resD, dLen, rdA, SZ, dIx, atI, ixN, s1, s2, s3, j_copy, dIsN, dCmp, h, h2, h3, h4, dAdd, cm, cut_lo, cut_hi, b1, b2, Nat.add_assoc, List.map_take, List.map_drop, endOf, lentOf, isOl, List.findIdx?, List.findIdx?.go]

theorem lpatched (p : Pt) (hp : p.small) (l : List Nat) (hl : 2 * l.length + 2000 ≤ SZ) : M__law_patched [.pv p.d, .pv (.lst (l.map sg))] = .ret (resD (stepP p l)) [] := by
  cases p with
  | put z i t => exact lp_put z i t hp l hl
  | over z i t => exact lp_over z i t hp l hl
  | cut z i z' i' => exact lp_cut z i z' i' hp l hl
  | copy z i z' i' y k => exact lp_copy z i z' i' y k hp l hl
end KL

end

section
set_option linter.all false
set_option maxRecDepth 100000
set_option maxHeartbeats 8000000
namespace KL
open PySem L2 VL
theorem runP_len : ∀ (r : List Pt) (k : Nat) (l l' : List Nat), (∀ p ∈ r, p.small) → runP k r l = .ok l' → l'.length + 1000 ≤ (l.length + 1000) * 2 ^ r.length
  | [], k, l, l', _, h => by
    simp only [runP, Except.ok.injEq] at h
    subst h
    simp
  | p :: r, k, l, l', hs, h => by
    unfold runP at h
    split at h
    · cases h
    · rename_i ks q
      have ih := runP_len r (k + 1) _ l' (fun x hx => hs x (List.mem_cons_of_mem _ hx)) h
      have ol := out_le p (hs p List.mem_cons_self) ks l
      rw [List.length_cons, Nat.pow_succ, Nat.mul_comm (2 ^ r.length) 2, ← Nat.mul_assoc]
      exact Nat.le_trans ih (Nat.mul_le_mul_right _ (by omega))
def Pt.okt : Pt → Prop
  | .put _ _ t => Okt t
  | .over _ _ t => Okt t
  | _ => True
theorem okt_app {a b : List Nat} (ha : Okt a) (hb : Okt b) : Okt (a ++ b) := fun c hc => by
  rcases List.mem_append.mp hc with z | z
  · exact ha c z
  · exact hb c z
theorem okt_take {a : List Nat} (ha : Okt a) (n : Nat) : Okt (a.take n) := fun c hc => ha c (List.mem_of_mem_take hc)
theorem okt_drop {a : List Nat} (ha : Okt a) (n : Nat) : Okt (a.drop n) := fun c hc => ha c (List.mem_of_mem_drop hc)
theorem out_okt (p : Pt) (hp : p.okt) (ks l : List Nat) (hl : Okt l) : Okt (p.out ks l) := by
  unfold Pt.out
  split
  · exact okt_app (okt_app (okt_take hl _) hp) (okt_drop hl _)
  · exact okt_app (okt_take hl _) (okt_drop hl _)
  · exact okt_app (okt_app (okt_take hl _) hp) (okt_drop hl _)
  · exact okt_app (okt_app (okt_take hl _) (okt_take (okt_drop hl _) _)) (okt_drop hl _)
  · exact hl
theorem runP_okt : ∀ (r : List Pt) (k : Nat) (l l' : List Nat), (∀ p ∈ r, p.okt) → Okt l → runP k r l = .ok l' → Okt l'
  | [], k, l, l', _, hl, h => by
    simp only [runP, Except.ok.injEq] at h
    subst h
    exact hl
  | p :: r, k, l, l', hs, hl, h => by
    unfold runP at h
    split at h
    · cases h
    · rename_i ks q
      exact runP_okt r (k + 1) _ l' (fun x hx => hs x (List.mem_cons_of_mem _ hx)) (out_okt p (hs p List.mem_cons_self) ks l hl) h
theorem runP_err : ∀ (r : List Pt) (k : Nat) (l : List Nat) (e : Nat), runP k r l = .error e → e < k + r.length
  | [], k, l, e, h => by cases h
  | p :: r, k, l, e, h => by
    unfold runP at h
    split at h
    · cases h
      rw [List.length_cons]; omega
    · rename_i ks q
      have := runP_err r (k + 1) _ e h
      rw [List.length_cons]; omega
abbrev bodyR : Sl → SR := (sSeq (sSet 2 (mFn M__law_patched [] (mCons (mVar 4) (mCons (mVar 2) mNil))))
  (sSeq (sIf (asB (m2 dIsN (mVar 2) (mC .non))) (sSeq (sRet (mTup (mCons (mC (.str "stuck")) (mCons (mVar 3) mNil))))
  sNx) sNx)
  sNx))
theorem loopR_eq (s0 s1 : Cell) : ∀ (r : List Pt) (k : Nat) (l : List Nat) (c3 c4 : Cell), (∀ p ∈ r, p.small) → (l.length + 1000) * 2 ^ r.length ≤ 8000000 →
    match runP k r l with
    | .ok l' => (∃ d3 d4, forL (.tp [3, 4]) bodyR (en k (r.map Pt.d)) [s0, s1, .pv (.lst (l.map sg)), c3, c4] = .nx [s0, s1, .pv (.lst (l'.map sg)), d3, d4])
    | .error e => ∃ ρ', forL (.tp [3, 4]) bodyR (en k (r.map Pt.d)) [s0, s1, .pv (.lst (l.map sg)), c3, c4] = .rt (.tup [.str "stuck", .int (e : Int)]) ρ'
  | [], k, l, c3, c4, _, hl => ⟨c3, c4, rfl⟩
  | p :: r, k, l, c3, c4, hs, hl => by
    have hp := hs p List.mem_cons_self
    rw [List.length_cons, Nat.pow_succ] at hl
    have h1 : l.length + 1000 ≤ (l.length + 1000) * 2 ^ r.length := Nat.le_mul_of_pos_right _ (Nat.pow_pos (by omega))
    have hl2 : (l.length + 1000) * 2 ^ r.length * 2 ≤ 8000000 := by rw [Nat.mul_assoc]; exact hl
    have ie := lpatched p hp l (by simp [SZ]; omega)
    unfold stepP at ie
    unfold runP
    cases q : p.ix l.length with
    | none =>
      rw [q] at ie
      simp only [Option.map_none, resD] at ie
      simp [en, forL, ie, dIsN, SZ]
    | some ks =>
      rw [q] at ie
      simp only [Option.map_some, resD] at ie
      have ol := out_le p hp ks l
      have nx := loopR_eq s0 s1 r (k + 1) (p.out ks l) (.pv (.int (k : Int))) (.pv p.d) (fun x hx => hs x (List.mem_cons_of_mem _ hx)) (by
        have h3 : (p.out ks l).length + 1000 ≤ (l.length + 1000) * 2 := by omega
        have h4 := Nat.mul_le_mul_right (2 ^ r.length) h3
        rw [Nat.mul_assoc, Nat.mul_comm 2, ← Nat.mul_assoc] at h4
        omega)
      have step : forL (.tp [3, 4]) bodyR (en k ((p :: r).map Pt.d)) [s0, s1, .pv (.lst (l.map sg)), c3, c4] = forL (.tp [3, 4]) bodyR (en (k + 1) (r.map Pt.d)) [s0, s1, .pv (.lst ((p.out ks l).map sg)), .pv (.int (k : Int)), .pv p.d] := by
        rw [List.map_cons, en, forL]
        simp [ie, dIsN]
      simp only []
      rw [step]
      exact nx
/-- what a run comes to, told -/
def toldD : Except Nat (List Nat) → D
  | .ok l => .tup [.str "text", T l]
  | .error e => .tup [.str "stuck", .int (e : Int)]
theorem ran_eq (r : List Pt) (l : List Nat) (hs : ∀ p ∈ r, p.small) (hl : (l.length + 1000) * 2 ^ r.length ≤ 8000000) : M__law_ran [.pv (.tup (r.map Pt.d)), .pv (T l)] = .ret (toldD (runP 0 r l)) [] := by
  have h1 : l.length + 1000 ≤ (l.length + 1000) * 2 ^ r.length := Nat.le_mul_of_pos_right _ (Nat.pow_pos (by omega))
  have L := loopR_eq (.pv (.tup (r.map Pt.d))) (.pv (T l)) r 0 l .un .un hs hl
  refine (fn_at (cs' := [.pv (.tup (r.map Pt.d)), .pv (T l), .un, .un, .un]) rfl rfl).trans ?_
  have hd : dList [T l] = some (.lst (l.map sg)) := by
    show (if (⟨l.toArray⟩ : Str).length ≤ SZ then some (D.lst (signsD ⟨l.toArray⟩)) else none) = _
    rw [T_len, if_pos (by simp [SZ]; omega), signs_T]
  unfold B__law_ran
  refine seq_nx (ρ1 := [.pv (.tup (r.map Pt.d)), .pv (T l), .pv (.lst (l.map sg)), .un, .un]) (by simp [rdA, hd]) ?_
  have en_ : mEnm (mVar 0) [.pv (.tup (r.map Pt.d)), .pv (T l), .pv (.lst (l.map sg)), .un, .un] = .ok (en 0 (r.map Pt.d)) [.pv (.tup (r.map Pt.d)), .pv (T l), .pv (.lst (l.map sg)), .un, .un] := by simp [enum_en]
  cases q : runP 0 r l with
  | ok l' =>
    rw [q] at L
    obtain ⟨d3, d4, L⟩ := L
    have ll := runP_len r 0 l l' hs q
    refine seq_nx (ρ1 := [.pv (.tup (r.map Pt.d)), .pv (T l), .pv (.lst (l'.map sg)), d3, d4]) (by rw [e_for, en_, e_sok]; exact L) ?_
    have jj := join_sg l' (by simp [SZ]; omega)
    simp [jj, SZ, toldD, endOf, lentOf, isOl, List.findIdx?, List.findIdx?.go]
  | error e =>
    rw [q] at L
    obtain ⟨ρ', L⟩ := L
    refine seq_rt (ρ1 := ρ') (d := .tup [.str "stuck", .int (e : Int)]) (by rw [e_for, en_, e_sok]; exact L) ?_
    simp [toldD, endOf, lentOf, isOl, List.findIdx?, List.findIdx?.go]
theorem heard2 (cN : Addr) (r : List Pt) (l : List Nat) (hs : ∀ p ∈ r, p.small) (hl : (l.length + 1000) * 2 ^ r.length ≤ 8000000) : M__law_heard_run cN [.pv (.tup (r.map Pt.d)), .pv (T l)] = .ret (toldD (runP 0 r l)) [] := by
  rw [heard_eq cN r l hs hl]
  cases runP 0 r l <;> rfl
def nameD : Except Nat (List Nat) → D
  | .ok l => T l
  | .error _ => .non
theorem names_eq (cN : Addr) (r : List Pt) (l : List Nat) (hs : ∀ p ∈ r, p.small) (hl : (l.length + 1000) * 2 ^ r.length ≤ 8000000) : M__law_by_names cN [.pv (.tup (r.map Pt.d)), .pv (T l)] = .ret (nameD (runP 0 r l)) [] := by
  have re := run_eq cN r l hs hl
  refine (fn_at (cs' := [.pv (.tup (r.map Pt.d)), .pv (T l), .un]) rfl rfl).trans ?_
  unfold B__law_by_names
  refine seq_nx (ρ1 := [.pv (.tup (r.map Pt.d)), .pv (T l), .pv .non]) (by simp) ?_
  have kw : mKw 1 1 [0, 1] (mCons (mVar 0) mNil) (mCons (mVar 1) mNil) [.pv (.tup (r.map Pt.d)), .pv (T l), .pv .non] = .ok [.d (.tup (r.map Pt.d)), .d (T l)] [.pv (.tup (r.map Pt.d)), .pv (T l), .pv .non] := by
    rw [e_kw]
    simp [pk]
  cases q : runP 0 r l with
  | ok l' =>
    rw [q] at re
    simp only at re
    refine seq_nx (ρ1 := [.pv (.tup (r.map Pt.d)), .pv (T l), .pv (T l')]) (by rw [e_tryN]; simp [kw, re]) ?_
    simp [nameD, endOf, lentOf, isOl, List.findIdx?, List.findIdx?.go]
  | error e =>
    rw [q] at re
    simp only at re
    refine seq_rt (ρ1 := [.un, .un, .un]) (d := .non) (by rw [e_tryN]; simp [kw, re, onlyC, unk, noExc]) ?_
    simp [nameD, endOf, lentOf, isOl, List.findIdx?, List.findIdx?.go]
end KL

end

section
set_option linter.all false
set_option maxRecDepth 100000
set_option maxHeartbeats 8000000
namespace KL
open PySem L2 VL
/-- patches as they are drawn -/
def Pt.fit : Pt → Prop
  | .put _ i t => i ≤ 1000 ∧ t.length ≤ 1000 ∧ Okt t
  | .cut _ i _ k => i ≤ 1000 ∧ k ≤ 1000
  | .over _ i t => i ≤ 1000 ∧ t.length ≤ 1000 ∧ Okt t
  | .copy _ i _ k _ m => i ≤ 1000 ∧ k ≤ 1000 ∧ m ≤ 1000
theorem Pt.fit.s {p : Pt} (h : p.fit) : p.small := by
  cases p with
  | put z i t => exact h.2.1
  | over z i t => exact h.2.1
  | cut _ _ _ _ => trivial
  | copy _ _ _ _ _ _ => trivial
theorem Pt.fit.o {p : Pt} (h : p.fit) : p.okt := by
  cases p with
  | put z i t => exact h.2.2
  | over z i t => exact h.2.2
  | cut _ _ _ _ => trivial
  | copy _ _ _ _ _ _ => trivial
theorem cps_lit {s : String} {l : List Nat} (h : (s : Str).cps.toList = l) (hl : ∀ c ∈ l, c < 1114112) : Rg 0 l.length (.str s) := by
  have := rg_str (z := s) (by rw [h]; exact hl)
  have e : (s : Str).length = l.length := by
    rw [← h]
    rfl
  rw [e] at this
  exact this
theorem rg_put : Rg 0 3 (.str "put") := cps_lit (l := [112, 117, 116]) (by decide +kernel) (by decide)
theorem rg_cut : Rg 0 3 (.str "cut") := cps_lit (l := [99, 117, 116]) (by decide +kernel) (by decide)
theorem rg_over : Rg 0 4 (.str "over") := cps_lit (l := [111, 118, 101, 114]) (by decide +kernel) (by decide)
theorem rg_copy : Rg 0 4 (.str "copy") := cps_lit (l := [99, 111, 112, 121]) (by decide +kernel) (by decide)
theorem rg_text : Rg 0 4 (.str "text") := cps_lit (l := [116, 101, 120, 116]) (by decide +kernel) (by decide)
theorem rg_stuck : Rg 0 5 (.str "stuck") := cps_lit (l := [115, 116, 117, 99, 107]) (by decide +kernel) (by decide)
theorem rg_side (z : Bool) : Rg 0 1 (.str (side z)) := by
  cases z
  · exact cps_lit (s := "a") (l := [97]) (by decide +kernel) (by decide)
  · exact cps_lit (s := "z") (l := [122]) (by decide +kernel) (by decide)
theorem rg_spot (z : Bool) (i : Nat) (h : i ≤ 1000) : Rg 1 23 (spot z i) := (rg_tup (k := 0) (rg_cons' (rg_side z) (rg_cons' (rg_int (i := (i : Int)) (by omega)) rg_nil))).mono (Nat.le_refl _) (by omega)
theorem rg_pt {p : Pt} (h : p.fit) : Rg 2 1100 p.d := by
  have up : ∀ {w : Nat} {d : D}, Rg 0 w d → Rg 1 w d := fun h => h.mono (by omega) (Nat.le_refl _)
  have nl : RgA 1 0 [] := rg_nil.mono (by omega) (Nat.le_refl _)
  cases p with
  | put z i t => exact (rg_tup (rg_cons' (up rg_put) (rg_cons' (rg_spot z i h.1) (rg_cons' (up (rg_T h.2.2)) nl)))).mono (Nat.le_refl _) (by have := h.2.1; omega)
  | over z i t => exact (rg_tup (rg_cons' (up rg_over) (rg_cons' (rg_spot z i h.1) (rg_cons' (up (rg_T h.2.2)) nl)))).mono (Nat.le_refl _) (by have := h.2.1; omega)
  | cut z i z' k => exact (rg_tup (rg_cons' (up rg_cut) (rg_cons' (rg_spot z i h.1) (rg_cons' (rg_spot z' k h.2) nl)))).mono (Nat.le_refl _) (by omega)
  | copy z i z' k y m => exact (rg_tup (rg_cons' (up rg_copy) (rg_cons' (rg_spot z i h.1) (rg_cons' (rg_spot z' k h.2.1) (rg_cons' (rg_spot y m h.2.2) nl))))).mono (Nat.le_refl _) (by omega)
theorem right_eq (cN : Addr) (r : List Pt) (l : List Nat) (hr : r.length ≤ 8) (hs : ∀ p ∈ r, p.fit) (hl : l.length ≤ 400) (hk : Okt l) : M__law_right cN [.pv (.tup (r.map Pt.d)), .pv (T l)] = .ret (.bl true) [] := by
  have ss : ∀ p ∈ r, p.small := fun p hp => (hs p hp).s
  have p2 : (l.length + 1000) * 2 ^ r.length ≤ 358400 := by
    have a1 : 2 ^ r.length ≤ 2 ^ 8 := Nat.pow_le_pow_right (by omega) hr
    have := Nat.mul_le_mul (show l.length + 1000 ≤ 1400 by omega) a1
    omega
  have e1 := ran_eq r l ss (by omega)
  have e2 := heard2 cN r l ss (by omega)
  have e3 := names_eq cN r l ss (by omega)
  obtain ⟨y, hy⟩ := repr_of (rg_tup (rg_map (f := Pt.d) (xs := r) fun p hp => rg_pt (hs p hp))) (by omega) (by
    have : 1101 * r.length ≤ 1101 * 8 := Nat.mul_le_mul_left _ hr
    simp [SZ]; omega)
  have told : Rg 1 400000 (toldD (runP 0 r l)) ∧ Rg 0 400000 (nameD (runP 0 r l)) := by
    cases q : runP 0 r l with
    | ok l' =>
      have b1 := runP_len r 0 l l' ss q
      have b2 := runP_okt r 0 l l' (fun p hp => (hs p hp).o) hk q
      exact ⟨(rg_tup (rg_cons' rg_text (rg_cons' (rg_T b2) rg_nil))).mono (Nat.le_refl _) (by omega), (rg_T b2).mono (Nat.le_refl _) (by omega)⟩
    | error e =>
      have b1 := runP_err r 0 l e q
      exact ⟨(rg_tup (rg_cons' rg_stuck (rg_cons' (rg_int (i := (e : Int)) (by omega)) rg_nil))).mono (Nat.le_refl _) (by omega), rg_non.mono (Nat.le_refl _) (by omega)⟩
  obtain ⟨x, hx⟩ := repr_of (rg_lst (rg_cons' told.1 (rg_cons' told.1 (rg_nil.mono (by omega) (Nat.le_refl _))))) (by omega) (by simp [SZ])
  obtain ⟨w, hw⟩ := repr_of told.2 (by omega) (by simp [SZ])
  have y' := dRepr_of hy
  have x' := dRepr_of hx
  have w' := dRepr_of hw
  have due : mIf (asB (m2 dEq (m2 dIx (mVar 2) (mC (.int 0))) (mC (.str "text")))) (m2 dIx (mVar 2) (mC (.int 1))) (mC .non) [.pv (.tup (r.map Pt.d)), .pv (T l), .pv (toldD (runP 0 r l)), .pv (.str y), .un] = .ok (.d (nameD (runP 0 r l))) [.pv (.tup (r.map Pt.d)), .pv (T l), .pv (toldD (runP 0 r l)), .pv (.str y), .un] := by
    have q1 : dEq (.str "text") (.str "text") = some (.bl true) := by kernel_rfl
    have q2 : dEq (.str "stuck") (.str "text") = some (.bl false) := by kernel_rfl
    cases runP 0 r l with
    | ok l' => simp [toldD, nameD, dIx, atI, ixN, q1]
    | error e => simp [toldD, nameD, dIx, atI, ixN, q2]
  refine (fn_at (cs' := [.pv (.tup (r.map Pt.d)), .pv (T l), .un, .un, .un]) rfl rfl).trans ?_
  generalize toldD (runP 0 r l) = V at *
  generalize nameD (runP 0 r l) = N at *
  generalize D.tup (r.map Pt.d) = S at *
  generalize T l = X at *
  unfold B__law_right
  refine seq_nx (ρ1 := [.pv S, .pv X, .pv V, .pv (.str y), .un]) (by simp [e1, rdA, y', SZ]) ?_
  have L := lc_map (R := [.pv S, .pv X, .pv V, .pv (.str y), .un]) (v := 4) (fe := mFn (M__law_heard_run cN) [] (mCons (mVar 0) (mCons (mVar 1) mNil))) (h := fun _ => V) (fun item => by simp [wipC]) (rangeD 0 2) [] (fun item _ => by simp [e2]) (by simp [rangeD, SZ])
  rw [List.nil_append] at L
  have q := nlc_eq (fI := mRng1 (mCons (mC (.int 2)) mNil)) (ρ := [.pv S, .pv X, .pv V, .pv (.str y), .un]) (rng1_eq (n := 2) (ρ1 := [.pv S, .pv X, .pv V, .pv (.str y), .un]) (by simp) (by omega)) (by simp [noOwn]) L
  have q3 : backC [.pv S, .pv X, .pv V, .pv (.str y), .un] [.pv S, .pv X, .pv V, .pv (.str y), .un] [4] = [.pv S, .pv X, .pv V, .pv (.str y), .un] := by simp [backC]
  have q4 : (rangeD 0 2).map (fun _ => V) = [V, V] := rfl
  rw [q3, q4] at q
  refine seq_nx (ρ1 := [.pv S, .pv X, .pv V, .pv (.str y), .un]) (by simp [q, rdA, x', y', SZ]) ?_
  refine seq_rt (ρ1 := [.pv S, .pv X, .pv V, .pv (.str y), .un]) (d := .bl true) ?_ (by simp [endOf, lentOf, isOl, List.findIdx?, List.findIdx?.go])
  have g1 : mCall dRepr (mCons (mFn (M__law_by_names cN) [] (mCons (mVar 0) (mCons (mVar 1) mNil))) mNil) [.pv S, .pv X, .pv V, .pv (.str y), .un] = .ok (.d (.str w)) [.pv S, .pv X, .pv V, .pv (.str y), .un] := by
    simp [e3, rdA, w']
  have g2 : mCall dRepr (mCons (mIf (asB (m2 dEq (m2 dIx (mVar 2) (mC (.int 0))) (mC (.str "text")))) (m2 dIx (mVar 2) (mC (.int 1))) (mC .non)) mNil) [.pv S, .pv X, .pv V, .pv (.str y), .un] = .ok (.d (.str w)) [.pv S, .pv X, .pv V, .pv (.str y), .un] := by
    rw [e_call, e_cons, due]
    simp [rdA, w']
  rw [e_ret, e_2, g1, e_bok, g2, e_bok, e_ro2d, eqS_same]
  rfl
end KL

end

section
set_option linter.all false
set_option maxRecDepth 100000
set_option maxHeartbeats 8000000
namespace KL
open PySem L2 VL
theorem lit_az : D.str "az" = T [97, 122] := by kernel_rfl
theorem lit_aaz : D.str "aaz" = T [97, 97, 122] := by kernel_rfl
theorem lit_azz : D.str "azz" = T [97, 122, 122] := by kernel_rfl
theorem sg_side {c : Nat} (h : c = 97 ∨ c = 122) : ∃ z, sg c = .str (side z) ∧ T [c] = .str (side z) := by
  rcases h with rfl | rfl
  · exact ⟨false, by kernel_rfl, by kernel_rfl⟩
  · exact ⟨true, by kernel_rfl, by kernel_rfl⟩
theorem place_eq {j : Int × Int} (h : JarOk j) {l : List Nat} (h0 : l ≠ []) (hl : l.length ≤ 10) (hc : ∀ c ∈ l, c = 97 ∨ c = 122) : ∃ (z : Bool) (i : Nat) (j' : Int × Int), JarOk j' ∧ i ≤ 40 ∧ M__law_place [.ol false (jarD j), .pv (T l)] = .ret (spot z i) (jarD j') := by
  obtain ⟨c, j1, h1, hm, e1⟩ := ofs_eq (l := l) h h0 (by simp [SZ]; omega)
  obtain ⟨z, hz, _⟩ := sg_side (hc c hm)
  rw [hz] at e1
  obtain ⟨h2, t1, t2⟩ := take_ok (n := 41) h1 (by decide)
  have e2 := take_eq j1 41 (by decide) (by decide)
  obtain ⟨d, j3, h3, hd, e3⟩ := of_eq (xs := [.int 0, .int 0, .int 1, .int 2, .int 3, .int 5, .int (takeV j1 41), .int 40]) h2 (by simp) (by simp [SZ])
  have hi : ∃ i : Nat, d = .int (i : Int) ∧ i ≤ 40 := by
    simp only [List.mem_cons, List.not_mem_nil, or_false] at hd
    rcases hd with rfl | rfl | rfl | rfl | rfl | rfl | rfl | rfl
    · exact ⟨0, rfl, by omega⟩
    · exact ⟨0, rfl, by omega⟩
    · exact ⟨1, rfl, by omega⟩
    · exact ⟨2, rfl, by omega⟩
    · exact ⟨3, rfl, by omega⟩
    · exact ⟨5, rfl, by omega⟩
    · obtain ⟨n, hn⟩ := Int.eq_ofNat_of_zero_le t1
      exact ⟨n, by rw [hn], by omega⟩
    · exact ⟨40, rfl, by omega⟩
  obtain ⟨i, rfl, i2⟩ := hi
  refine ⟨z, i, j3, h3, i2, ?_⟩
  refine (fn_at (cs' := [.ol false (jarD j), .pv (T l)]) rfl rfl).trans ?_
  simp [B__law_place, e1, e2, e3, SZ, spot, endOf, lentOf, isOl, List.findIdx?, List.findIdx?.go]
theorem place_az {j : Int × Int} (h : JarOk j) : ∃ (z : Bool) (i : Nat) (j' : Int × Int), JarOk j' ∧ i ≤ 40 ∧ M__law_place [.ol false (jarD j), .pv (.str "az")] = .ret (spot z i) (jarD j') := by
  rw [lit_az]
  exact place_eq h (by simp) (by simp) (by decide)
theorem place_aaz {j : Int × Int} (h : JarOk j) : ∃ (z : Bool) (i : Nat) (j' : Int × Int), JarOk j' ∧ i ≤ 40 ∧ M__law_place [.ol false (jarD j), .pv (.str "aaz")] = .ret (spot z i) (jarD j') := by
  rw [lit_aaz]
  exact place_eq h (by simp) (by simp) (by decide)
theorem place_azz {j : Int × Int} (h : JarOk j) : ∃ (z : Bool) (i : Nat) (j' : Int × Int), JarOk j' ∧ i ≤ 40 ∧ M__law_place [.ol false (jarD j), .pv (.str "azz")] = .ret (spot z i) (jarD j') := by
  rw [lit_azz]
  exact place_eq h (by simp) (by simp) (by decide)
theorem place_side {j : Int × Int} (h : JarOk j) (s : Bool) : ∃ (z : Bool) (i : Nat) (j' : Int × Int), JarOk j' ∧ i ≤ 40 ∧ M__law_place [.ol false (jarD j), .pv (.str (side s))] = .ret (spot z i) (jarD j') := by
  have e : ∃ c, (c = 97 ∨ c = 122) ∧ D.str (side s) = T [c] := by
    cases s
    · exact ⟨97, .inl rfl, by kernel_rfl⟩
    · exact ⟨122, .inr rfl, by kernel_rfl⟩
  obtain ⟨c, hc, e⟩ := e
  rw [e]
  exact place_eq h (by simp) (by simp) (fun x hx => by rw [List.mem_singleton.mp hx]; exact hc)
theorem patch_eq {j : Int × Int} (h : JarOk j) : ∃ (p : Pt) (j' : Int × Int), JarOk j' ∧ p.fit ∧ M__law_patch [.ol false (jarD j)] = .ret p.d (jarD j') := by
  obtain ⟨h1, t1, t2⟩ := take_ok (n := 8) h (by decide)
  have e1 := take_eq j 8 (by decide) (by decide)
  obtain ⟨h2, t3, t4⟩ := take_ok (n := 40) h1 (by decide)
  have e2 := take_eq (takeJ j 8) 40 (by decide) (by decide)
  obtain ⟨d, j3, h3, hd, e3⟩ := of_eq (xs := [.int 1, .int 1, .int 2, .int 3, .int (1 + takeV (takeJ j 8) 40)]) h2 (by simp) (by simp [SZ])
  have hm : ∃ m : Nat, d = .int (m : Int) ∧ m ≤ 40 := by
    simp only [List.mem_cons, List.not_mem_nil, or_false] at hd
    rcases hd with rfl | rfl | rfl | rfl | rfl
    · exact ⟨1, rfl, by omega⟩
    · exact ⟨1, rfl, by omega⟩
    · exact ⟨2, rfl, by omega⟩
    · exact ⟨3, rfl, by omega⟩
    · obtain ⟨n, hn⟩ := Int.eq_ofNat_of_zero_le (show 0 ≤ 1 + takeV (takeJ j 8) 40 by omega)
      exact ⟨n, by rw [hn], by omega⟩
  obtain ⟨m, rfl, hm⟩ := hm
  have start : ∀ {q : FR} {rest : Sl → SR}, endOf [.ol false (jarD j)] (rest [.ol false (jarD j3), .pv (.int (takeV j 8)), .pv (.int (m : Int)), .un]) = q →
      endOf [.ol false (jarD j)] (sSeq (sUnp (.tp [1, 2]) (mTup (mCons (mFn M__law_take [] (mCons (mVar 0) (mCons (mC (.int 8)) mNil))) (mCons (mFn M__law_of [] (mCons (mVar 0) (mCons (mLst (mCons (mC (.int 1)) (mCons (mC (.int 1)) (mCons (mC (.int 2)) (mCons (mC (.int 3)) (mCons (m2 dAdd (mC (.int 1)) (mFn M__law_take [] (mCons (mVar 0) (mCons (mC (.int 40)) mNil)))) mNil)))))) mNil))) mNil)))) rest [.ol false (jarD j), .un, .un, .un]) = q := fun {q rest} hq =>
    seq_nx (ρ1 := [.ol false (jarD j3), .pv (.int (takeV j 8)), .pv (.int (m : Int)), .un]) (by simp [e1, e2, e3, dAdd_i, SZ]) hq
  by_cases w3 : takeV j 8 < 3
  · obtain ⟨z, i, j4, h4, hi, e4⟩ := place_az h3
    obtain ⟨l, j5, h5, hl, hk, e5⟩ := word_eq (n := m) h4 (by omega)
    refine ⟨.put z i l, j5, h5, ⟨by omega, by omega, hk.t⟩, ?_⟩
    refine (fn_at (cs' := [.ol false (jarD j), .un, .un, .un]) rfl rfl).trans ?_
    unfold B__law_patch
    refine start ?_
    simp [dCmp, w3, e4, e5, SZ, Pt.d, endOf, lentOf, isOl, List.findIdx?, List.findIdx?.go]
  · by_cases w5 : takeV j 8 < 5
    · obtain ⟨z, i, j4, h4, hi, e4⟩ := place_aaz h3
      obtain ⟨z', i', j5, h5, hi', e5⟩ := place_azz h4
      refine ⟨.cut z i z' i', j5, h5, ⟨by omega, by omega⟩, ?_⟩
      refine (fn_at (cs' := [.ol false (jarD j), .un, .un, .un]) rfl rfl).trans ?_
      unfold B__law_patch
      refine start ?_
      simp [dCmp, w3, w5, e4, e5, SZ, Pt.d, endOf, lentOf, isOl, List.findIdx?, List.findIdx?.go]
    · have qe : ∀ b : Bool, (decide (takeV j 8 = 5)) = b → dEq (.int (takeV j 8)) (.int 5) = some (.bl b) := fun b hb => by
        have : eqB (.int (takeV j 8)) (.int 5) = some (takeV j 8 == 5) := by
          unfold eqB
          simp only [D.py]
          rw [if_pos ⟨by kernel_rfl, by kernel_rfl⟩]
          rfl
        have := (dEqb this).1
        rw [this, ← hb]
        congr 2
      by_cases w6 : takeV j 8 = 5
      · have q1 := qe true (by simp [w6])
        obtain ⟨z, i, j4, h4, hi, e4⟩ := place_az h3
        obtain ⟨l, j5, h5, hl, hk, e5⟩ := word_eq (n := m) h4 (by omega)
        refine ⟨.over z i l, j5, h5, ⟨by omega, by omega, hk.t⟩, ?_⟩
        refine (fn_at (cs' := [.ol false (jarD j), .un, .un, .un]) rfl rfl).trans ?_
        unfold B__law_patch
        refine start ?_
        simp [dCmp, w3, w5, q1, e4, e5, SZ, Pt.d, endOf, lentOf, isOl, List.findIdx?, List.findIdx?.go]
      · have q1 := qe false (by simp [w6])
        obtain ⟨c, j4, h4, hc, e4⟩ := ofs_eq (l := [97, 122]) h3 (by simp) (by simp [SZ])
        obtain ⟨s, hs, _⟩ := sg_side (show c = 97 ∨ c = 122 by simpa using hc)
        rw [hs, ← lit_az] at e4
        obtain ⟨z, i, j5, h5, hi, e5⟩ := place_side h4 s
        obtain ⟨z', i', j6, h6, hi', e6⟩ := place_side h5 s
        obtain ⟨y, k, j7, h7, hk, e7⟩ := place_az h6
        refine ⟨.copy z i z' i' y k, j7, h7, ⟨by omega, by omega, by omega⟩, ?_⟩
        refine (fn_at (cs' := [.ol false (jarD j), .un, .un, .un]) rfl rfl).trans ?_
        unfold B__law_patch
        refine start ?_
        simp [dCmp, w3, w5, q1, e4, e5, e6, e7, SZ, Pt.d, endOf, lentOf, isOl, List.findIdx?, List.findIdx?.go]
theorem patches_eq {j : Int × Int} (h : JarOk j) : ∃ (r : List Pt) (j' : Int × Int), JarOk j' ∧ r.length ≤ 8 ∧ (∀ p ∈ r, p.fit) ∧ M__law_patches [.ol false (jarD j), .pv (.int 8)] = .ret (.tup (r.map Pt.d)) (jarD j') := by
  obtain ⟨h1, t1, t2⟩ := take_ok (n := 9) h (by decide)
  have e1 := take_eq j 9 (by decide) (by decide)
  obtain ⟨n, hn⟩ := Int.eq_ofNat_of_zero_le t1
  rw [hn] at e1
  have L := lc_draw (J := Int × Int) JarOk (fun j => [.ol false (jarD j), .pv (.int 8), .un]) 2 (mFn M__law_patch [] (mCons (mVar 0) mNil)) (fun d => ∃ p : Pt, p.fit ∧ d = p.d) (fun j item hj => by
    obtain ⟨p, j', a1, a2, a3⟩ := patch_eq hj
    exact ⟨p.d, j', a1, ⟨p, a2, rfl⟩, by simp [a3]⟩) (fun j item => by simp [wipC]) (rangeD 0 n) [] (takeJ j 9) h1 (by simp [rangeD, SZ]; omega)
  obtain ⟨ds, j2, h2, hd, hp, e2⟩ := L
  obtain ⟨r, rfl, hl, hf⟩ := ex_map hp
  refine ⟨r, j2, h2, by rw [hl, hd]; simp [rangeD]; omega, hf, ?_⟩
  refine (fn_at (cs' := [.ol false (jarD j), .pv (.int 8), .un]) rfl rfl).trans ?_
  have q := nlc_eq (fI := mRng1 (mCons (mFn M__law_take [] (mCons (mVar 0) (mCons (m2 dAdd (mVar 1) (mC (.int 1))) mNil))) mNil)) (ρ := [.ol false (jarD j), .pv (.int 8), .un]) (rng1_eq (n := n) (ρ1 := [.ol false (jarD (takeJ j 9)), .pv (.int 8), .un]) (by simp [dAdd_i, e1]) (by omega)) (by simp [noOwn]) e2
  have q3 : backC [.ol false (jarD (takeJ j 9)), .pv (.int 8), .un] [.ol false (jarD j2), .pv (.int 8), .un] [2] = [.ol false (jarD j2), .pv (.int 8), .un] := by simp [backC]
  rw [q3, List.nil_append] at q
  have dt : dTuple [.lst (r.map Pt.d)] = some (.tup (r.map Pt.d)) := rfl
  unfold B__law_patches
  refine seq_rt (ρ1 := [.ol false (jarD j2), .pv (.int 8), .un]) (d := .tup (r.map Pt.d)) ?_ (by simp [endOf, lentOf, isOl, List.findIdx?, List.findIdx?.go])
  rw [e_ret, e_call, e_cons, e_nval, q]
  simp [rdA, dt]
end KL

end

section
set_option linter.all false
set_option maxRecDepth 100000
set_option maxHeartbeats 8000000
namespace KL
open PySem L2 VL
abbrev turnB (cN : Addr) : Sl → SR := (sSeq (sSet 4 (mFn M__law_patches [] (mCons (mVar 2) (mCons (mC (.int 8)) mNil))))
  (sSeq (sSet 5 (mLst (mCons (mC (.int 0)) (mCons (mC (.int 1)) (mCons (mC (.int 3)) (mCons (mFn M__law_take [] (mCons (mVar 2) (mCons (mC (.int 10)) mNil))) (mCons (mFn M__law_take [] (mCons (mVar 2) (mCons (mC (.int 41)) mNil))) (mCons (mFn M__law_of [] (mCons (mVar 2) (mCons (mLst (mCons (mC (.int 5)) (mCons (mC (.int 40)) (mCons (mC (.int 41)) (mCons (mC (.int 80)) (mCons (mC (.int 400)) mNil)))))) mNil))) mNil))))))))
  (sSeq (sIf (mNotT (mTru (mCall dAll (mCons (nVal (nLc (mItems (mVar 5)) (.nm 6) mYes (mFn (M__law_right cN) [] (mCons (mVar 4) (mCons (mFn M__law_word [] (mCons (mVar 2) (mCons (mVar 6) mNil))) mNil))) [6])) mNil)))) (sSeq (sRet (mC (.bl false)))
  sNx) sNx)
  sNx)))
theorem turn_eq (cN : Addr) {ns : List Int} {c1 c3 c4 c5 : Cell} {j : Int × Int} (h : JarOk j) :
    ∃ j' d4 d5, JarOk j' ∧ turnB cN [.pv (.scr ns), c1, .ol true (jarD j), c3, c4, c5, .un] = .nx [.pv (.scr ns), c1, .ol true (jarD j'), c3, d4, d5, .un] := by
  obtain ⟨r, j1, h1, hr, hf, e1⟩ := patches_eq h
  obtain ⟨h2, t1, t2⟩ := take_ok (n := 10) h1 (by decide)
  have e2 := take_eq j1 10 (by decide) (by decide)
  obtain ⟨h3, t3, t4⟩ := take_ok (n := 41) h2 (by decide)
  have e3 := take_eq (takeJ j1 10) 41 (by decide) (by decide)
  obtain ⟨d, j4, h4, hd, e4⟩ := of_eq (xs := [.int 5, .int 40, .int 41, .int 80, .int 400]) h3 (by simp) (by simp [SZ])
  have num : ∀ x ∈ [D.int 0, .int 1, .int 3, .int (takeV j1 10), .int (takeV (takeJ j1 10) 41), d], ∃ n : Nat, x = .int (n : Int) ∧ n ≤ 400 := by
    intro x hx
    simp only [List.mem_cons, List.not_mem_nil, or_false] at hx hd
    rcases hx with rfl | rfl | rfl | rfl | rfl | rfl
    · exact ⟨0, rfl, by omega⟩
    · exact ⟨1, rfl, by omega⟩
    · exact ⟨3, rfl, by omega⟩
    · obtain ⟨n, hn⟩ := Int.eq_ofNat_of_zero_le t1
      exact ⟨n, by rw [hn], by omega⟩
    · obtain ⟨n, hn⟩ := Int.eq_ofNat_of_zero_le t3
      exact ⟨n, by rw [hn], by omega⟩
    · rcases hd with rfl | rfl | rfl | rfl | rfl
      · exact ⟨5, rfl, by omega⟩
      · exact ⟨40, rfl, by omega⟩
      · exact ⟨41, rfl, by omega⟩
      · exact ⟨80, rfl, by omega⟩
      · exact ⟨400, rfl, by omega⟩
  generalize hL : [D.int 0, .int 1, .int 3, .int (takeV j1 10), .int (takeV (takeJ j1 10) 41), d] = items at num
  have hlen : items.length = 6 := by rw [← hL]; rfl
  have L := lc_drawM (J := Int × Int) JarOk (fun j => [.pv (.scr ns), c1, .ol true (jarD j), c3, .pv (.tup (r.map Pt.d)), .pv (.lst items), .un]) 6 (mFn (M__law_right cN) [] (mCons (mVar 4) (mCons (mFn M__law_word [] (mCons (mVar 2) (mCons (mVar 6) mNil))) mNil))) (fun d => d = .bl true)
    (fun j item => by simp [wipC]) items [] j4 (fun j item hi hj => by
      obtain ⟨n, rfl, hn⟩ := num item hi
      obtain ⟨l, j', a1, a2, a3, a4⟩ := word_eq (n := n) hj (by omega)
      have re := right_eq cN r l hr hf (by omega) a3.t
      exact ⟨_, j', a1, rfl, by simp [a4, re]⟩) h4 (by rw [hlen]; simp [SZ])
  obtain ⟨ds, j5, h5, hd5, hp, e5⟩ := L
  have q := nlc_eq (fI := mItems (mVar 5)) (ρ := [.pv (.scr ns), c1, .ol true (jarD j4), c3, .pv (.tup (r.map Pt.d)), .pv (.lst items), .un]) (ρ1 := [.pv (.scr ns), c1, .ol true (jarD j4), c3, .pv (.tup (r.map Pt.d)), .pv (.lst items), .un]) (by simp [itemsD]) (by simp [noOwn]) e5
  have q3 : backC [.pv (.scr ns), c1, .ol true (jarD j4), c3, .pv (.tup (r.map Pt.d)), .pv (.lst items), .un] [.pv (.scr ns), c1, .ol true (jarD j5), c3, .pv (.tup (r.map Pt.d)), .pv (.lst items), .un] [6] = [.pv (.scr ns), c1, .ol true (jarD j5), c3, .pv (.tup (r.map Pt.d)), .pv (.lst items), .un] := by simp [backC]
  rw [q3, List.nil_append] at q
  have al := all_of hp
  refine ⟨j5, .pv (.tup (r.map Pt.d)), .pv (.lst items), h5, ?_⟩
  refine seq_to (ρ1 := [.pv (.scr ns), c1, .ol true (jarD j1), c3, .pv (.tup (r.map Pt.d)), c5, .un]) (by simp [e1]) ?_
  refine seq_to (ρ1 := [.pv (.scr ns), c1, .ol true (jarD j4), c3, .pv (.tup (r.map Pt.d)), .pv (.lst items), .un]) (by simp [e2, e3, e4, SZ, ← hL]) ?_
  have r1 : ∀ (ρ : Sl) (d : D), rdA ρ [.d d] = some [d] := fun _ _ => rfl
  refine seq_to (ρ1 := [.pv (.scr ns), c1, .ol true (jarD j5), c3, .pv (.tup (r.map Pt.d)), .pv (.lst items), .un]) ?_ rfl
  rw [e_if, e_notT, e_tru, e_call, e_cons, e_nval, q]
  simp [r1, al, truD]
theorem law_true (cN : Addr) (ns : List Int) (hn : ns.length ≤ 63) : M_law cN [.pv (.scr ns)] = .ret (.bl true) [] := by
  refine (fn_at (cs' := [.pv (.scr ns), .un, .un, .un, .un, .un, .un]) rfl rfl).trans ?_
  obtain ⟨m, hm, em⟩ := cells_eq ns 3 (by omega) (ρ := [.pv (.scr ns), .un, .un, .un, .un, .un, .un]) rfl
  rw [show ((3 : Nat) : Int) = 3 from rfl] at em
  have inner : ∀ (k : Nat) (c2 c3 c4 c5 : Cell), k ≤ 10 → ∃ d2 d3 d4 d5, (sSeq (sOwn 2 (nFn M__law_jar [] (mCons (mVar 0) (mCons (mVar 1) mNil)))) (sSeq (sFor (.nm 3) (mRng1 (mCons (mC (.int 12)) mNil)) (turnB cN)) sNx)) [.pv (.scr ns), .pv (.int (k : Int)), c2, c3, c4, c5, .un] = .nx [.pv (.scr ns), .pv (.int (k : Int)), d2, d3, d4, d5, .un] := by
    intro k c2 c3 c4 c5 hk
    obtain ⟨j, hj, ej⟩ := jar_eq ns k (by omega)
    have L := for_inv (I := fun ρ => ∃ j c3 c4 c5, JarOk j ∧ ρ = [.pv (.scr ns), .pv (.int (k : Int)), .ol true (jarD j), c3, c4, c5, .un]) (t := .nm 3) (body := turnB cN) (rangeD 0 12) [.pv (.scr ns), .pv (.int (k : Int)), .ol true (jarD j), c3, c4, c5, .un] (fun d ρ _ hI => by
      obtain ⟨j, c3, c4, c5, hj, rfl⟩ := hI
      obtain ⟨j', d4, d5, hj', e⟩ := turn_eq cN (ns := ns) (c1 := .pv (.int (k : Int))) (c3 := .pv d) (c4 := c4) (c5 := c5) hj
      exact ⟨_, _, rfl, e, j', .pv d, d4, d5, hj', rfl⟩) ⟨j, c3, c4, c5, hj, rfl⟩
    obtain ⟨ρ', f1, j', d3, d4, d5, _, rfl⟩ := L
    refine ⟨.ol true (jarD j'), d3, d4, d5, ?_⟩
    refine seq_to (ρ1 := [.pv (.scr ns), .pv (.int (k : Int)), .ol true (jarD j), c3, c4, c5, .un]) (by simp [ej]) ?_
    refine seq_to (ρ1 := [.pv (.scr ns), .pv (.int (k : Int)), .ol true (jarD j'), d3, d4, d5, .un]) ?_ rfl
    rw [e_for, rng1_eq (n := 12) (ρ1 := [.pv (.scr ns), .pv (.int (k : Int)), .ol true (jarD j), c3, c4, c5, .un]) (by simp) (by omega), e_sok]
    exact f1
  have O := for_inv (I := fun ρ => ∃ c1 c2 c3 c4 c5, ρ = [.pv (.scr ns), c1, c2, c3, c4, c5, .un]) (t := .nm 1) (body := (sSeq (sOwn 2 (nFn M__law_jar [] (mCons (mVar 0) (mCons (mVar 1) mNil)))) (sSeq (sFor (.nm 3) (mRng1 (mCons (mC (.int 12)) mNil)) (turnB cN)) sNx))) (rangeD 0 m) [.pv (.scr ns), .un, .un, .un, .un, .un, .un] (fun d ρ hd hI => by
    obtain ⟨c1, c2, c3, c4, c5, rfl⟩ := hI
    unfold rangeD at hd
    obtain ⟨k, hk, rfl⟩ := List.mem_map.mp hd
    rw [List.mem_range] at hk
    obtain ⟨d2, d3, d4, d5, e⟩ := inner k c2 c3 c4 c5 (by omega)
    refine ⟨_, _, rfl, ?_, .pv (.int (k : Int)), d2, d3, d4, d5, rfl⟩
    rw [Int.zero_add]
    exact e) ⟨.un, .un, .un, .un, .un, rfl⟩
  obtain ⟨ρ', f1, c1, c2, c3, c4, c5, rfl⟩ := O
  unfold B_law
  refine seq_nx (ρ1 := [.pv (.scr ns), c1, c2, c3, c4, c5, .un]) ?_ ?_
  · rw [e_for, em, e_sok]
    exact f1
  · simp [endOf, lentOf, isOl, List.findIdx?, List.findIdx?.go]
end KL

end

section
set_option maxRecDepth 100000
set_option maxHeartbeats 0
open PySem PySem.W PyProof.Rows
open_top head for PySem.Challenge.rw_piecestay_k02_texts_run_through_scripts

end

section
set_option maxRecDepth 100000
set_option maxHeartbeats 0
set_option linter.all false
set_option pp.maxSteps 100
set_option pp.deepTerms false
namespace KL
open PySem PySem.Spec PyProof.Rows L2 VL
theorem all_mk {l : PySem.W.OpenLaw} {w : World} {K : PySem.W.Frag} {h : Heap} {mg : Str → Option Value} {fa : Addr} (X : K.In h) (G : h.Ns mainGlobals mg) (hfa : mg "law" = some (.ref fa))
    {f0 : Addr} {od0 an0 : Option Addr} {sl0 : Array (Option Value)} {oc0 kV0 dc0 pm0 cd0 ct0 : Value}
    {f1 : Addr} {od1 an1 : Option Addr} {sl1 : Array (Option Value)} {oc1 kV1 dc1 pm1 cd1 ct1 : Value}
    {f2 : Addr} {od2 an2 : Option Addr} {sl2 : Array (Option Value)} {oc2 kV2 dc2 pm2 cd2 ct2 : Value}
    {f3 : Addr} {od3 an3 : Option Addr} {sl3 : Array (Option Value)} {oc3 kV3 dc3 pm3 cd3 ct3 : Value}
    {f4 : Addr} {od4 an4 : Option Addr} {sl4 : Array (Option Value)} {oc4 kV4 dc4 pm4 cd4 ct4 : Value}
    {f5 : Addr} {od5 an5 : Option Addr} {sl5 : Array (Option Value)} {oc5 kV5 dc5 pm5 cd5 ct5 : Value}
    {f6 : Addr} {od6 an6 : Option Addr} {sl6 : Array (Option Value)} {oc6 kV6 dc6 pm6 cd6 ct6 : Value}
    {f7 : Addr} {od7 an7 : Option Addr} {sl7 : Array (Option Value)} {oc7 kV7 dc7 pm7 cd7 ct7 : Value}
    {f8 : Addr} {od8 an8 : Option Addr} {sl8 : Array (Option Value)} {oc8 kV8 dc8 pm8 cd8 ct8 : Value}
    {f9 : Addr} {od9 an9 : Option Addr} {sl9 : Array (Option Value)} {oc9 kV9 dc9 pm9 cd9 ct9 : Value}
    {f10 : Addr} {od10 an10 : Option Addr} {sl10 : Array (Option Value)} {oc10 kV10 dc10 pm10 cd10 ct10 : Value}
    {f11 : Addr} {od11 an11 : Option Addr} {sl11 : Array (Option Value)} {oc11 kV11 dc11 pm11 cd11 ct11 : Value}
    {f12 : Addr} {od12 an12 : Option Addr} {sl12 : Array (Option Value)} {oc12 kV12 dc12 pm12 cd12 ct12 : Value}
    {f13 : Addr} {od13 an13 : Option Addr} {sl13 : Array (Option Value)} {oc13 kV13 dc13 pm13 cd13 ct13 : Value}
    {f14 : Addr} {od14 an14 : Option Addr} {sl14 : Array (Option Value)} {oc14 kV14 dc14 pm14 cd14 ct14 : Value}
    {f15 : Addr} {od15 an15 : Option Addr} {sl15 : Array (Option Value)} {oc15 kV15 dc15 pm15 cd15 ct15 : Value}
    {f16 : Addr} {od16 an16 : Option Addr} {sl16 : Array (Option Value)} {oc16 kV16 dc16 pm16 cd16 ct16 : Value}
    {f17 : Addr} {od17 an17 : Option Addr} {sl17 : Array (Option Value)} {oc17 kV17 dc17 pm17 cd17 ct17 : Value}
    {tk_BEGINNING : Tok}
    {tk_COPY : Tok}
    {tk_CUT : Tok}
    {tk_OVER : Tok}
    {tk_PUT : Tok}
    {p_PARTS n_PARTS : Nat} {es_PARTS : Array DictEntry}
    {cNoRun : Addr}
    {cStayError : Addr}
    {nm qn : Str} {xN : Addr} {bs bm : List Value} {sn : List Str} {sub : List Value} {ab : Bool} {col : Option Bool} {dd : Option Addr} {o0 o1 o2 o3 o5 : Option Value} {fI cc cda : Addr} {iname iqual : Str} {params : Arguments} {body : List Stmt} {scope : Scope} {dV kV doc pm ct oc : Value} {an od : Option Addr} {osl : Array (Option Value)} {cl : Value} {cld : Option Addr} {csl : Array (Option Value)} {ccl : Value} {cdd : Option Addr} {vs : Array Value} {ccs : Array (Option Value)} {file : Str} {tf : Tok} {p0 p1 p2 p3 p4 p5 p6 p7 p8 p9 : Pos} {ar : Arg}
    (a0 : PySem.W.nsIn K mainGlobals "indexes_of" = some (some (.ref f0)))
    (l0 : K.lookup f0 = some ⟨oc0, od0, .func (PySem.W.fnOf "indexes_of" "indexes_of" (defArgs s_indexes_of) (defBody s_indexes_of) (defScope s_indexes_of) .none kV0 dc0 pm0 an0 cd0 ct0), sl0⟩)
    (c0 : PySem.W.codeIn K cd0 "indexes_of" = true)
    (k0 : PySem.W.keepIn K (.ref f0) = true)
    (a1 : PySem.W.nsIn K mainGlobals "patched" = some (some (.ref f1)))
    (l1 : K.lookup f1 = some ⟨oc1, od1, .func (PySem.W.fnOf "patched" "patched" (defArgs s_patched) (defBody s_patched) (defScope s_patched) .none kV1 dc1 pm1 an1 cd1 ct1), sl1⟩)
    (c1 : PySem.W.codeIn K cd1 "patched" = true)
    (k1 : PySem.W.keepIn K (.ref f1) = true)
    (a2 : PySem.W.nsIn K mainGlobals "letters_behind" = some (some (.ref f2)))
    (l2 : K.lookup f2 = some ⟨oc2, od2, .func (PySem.W.fnOf "letters_behind" "letters_behind" (defArgs s_letters_behind) (defBody s_letters_behind) (defScope s_letters_behind) .none kV2 dc2 pm2 an2 cd2 ct2), sl2⟩)
    (c2 : PySem.W.codeIn K cd2 "letters_behind" = true)
    (k2 : PySem.W.keepIn K (.ref f2) = true)
    (a3 : PySem.W.nsIn K mainGlobals "run" = some (some (.ref f3)))
    (l3 : K.lookup f3 = some ⟨oc3, od3, .func (PySem.W.fnOf "run" "run" (defArgs s_run) (defBody s_run) (defScope s_run) .none kV3 dc3 pm3 an3 cd3 ct3), sl3⟩)
    (c3 : PySem.W.codeIn K cd3 "run" = true)
    (k3 : PySem.W.keepIn K (.ref f3) = true)
    (a4 : PySem.W.nsIn K mainGlobals "_law_jar" = some (some (.ref f4)))
    (l4 : K.lookup f4 = some ⟨oc4, od4, .func (PySem.W.fnOf "_law_jar" "_law_jar" (defArgs s__law_jar) (defBody s__law_jar) (defScope s__law_jar) .none kV4 dc4 pm4 an4 cd4 ct4), sl4⟩)
    (c4 : PySem.W.codeIn K cd4 "_law_jar" = true)
    (k4 : PySem.W.keepIn K (.ref f4) = true)
    (a5 : PySem.W.nsIn K mainGlobals "_law_take" = some (some (.ref f5)))
    (l5 : K.lookup f5 = some ⟨oc5, od5, .func (PySem.W.fnOf "_law_take" "_law_take" (defArgs s__law_take) (defBody s__law_take) (defScope s__law_take) .none kV5 dc5 pm5 an5 cd5 ct5), sl5⟩)
    (c5 : PySem.W.codeIn K cd5 "_law_take" = true)
    (k5 : PySem.W.keepIn K (.ref f5) = true)
    (a6 : PySem.W.nsIn K mainGlobals "_law_of" = some (some (.ref f6)))
    (l6 : K.lookup f6 = some ⟨oc6, od6, .func (PySem.W.fnOf "_law_of" "_law_of" (defArgs s__law_of) (defBody s__law_of) (defScope s__law_of) .none kV6 dc6 pm6 an6 cd6 ct6), sl6⟩)
    (c6 : PySem.W.codeIn K cd6 "_law_of" = true)
    (k6 : PySem.W.keepIn K (.ref f6) = true)
    (a7 : PySem.W.nsIn K mainGlobals "_law_word" = some (some (.ref f7)))
    (l7 : K.lookup f7 = some ⟨oc7, od7, .func (PySem.W.fnOf "_law_word" "_law_word" (defArgs s__law_word) (defBody s__law_word) (defScope s__law_word) .none kV7 dc7 pm7 an7 cd7 ct7), sl7⟩)
    (c7 : PySem.W.codeIn K cd7 "_law_word" = true)
    (k7 : PySem.W.keepIn K (.ref f7) = true)
    (a8 : PySem.W.nsIn K mainGlobals "_law_place" = some (some (.ref f8)))
    (l8 : K.lookup f8 = some ⟨oc8, od8, .func (PySem.W.fnOf "_law_place" "_law_place" (defArgs s__law_place) (defBody s__law_place) (defScope s__law_place) .none kV8 dc8 pm8 an8 cd8 ct8), sl8⟩)
    (c8 : PySem.W.codeIn K cd8 "_law_place" = true)
    (k8 : PySem.W.keepIn K (.ref f8) = true)
    (a9 : PySem.W.nsIn K mainGlobals "_law_patch" = some (some (.ref f9)))
    (l9 : K.lookup f9 = some ⟨oc9, od9, .func (PySem.W.fnOf "_law_patch" "_law_patch" (defArgs s__law_patch) (defBody s__law_patch) (defScope s__law_patch) .none kV9 dc9 pm9 an9 cd9 ct9), sl9⟩)
    (c9 : PySem.W.codeIn K cd9 "_law_patch" = true)
    (k9 : PySem.W.keepIn K (.ref f9) = true)
    (a10 : PySem.W.nsIn K mainGlobals "_law_patches" = some (some (.ref f10)))
    (l10 : K.lookup f10 = some ⟨oc10, od10, .func (PySem.W.fnOf "_law_patches" "_law_patches" (defArgs s__law_patches) (defBody s__law_patches) (defScope s__law_patches) .none kV10 dc10 pm10 an10 cd10 ct10), sl10⟩)
    (c10 : PySem.W.codeIn K cd10 "_law_patches" = true)
    (k10 : PySem.W.keepIn K (.ref f10) = true)
    (a11 : PySem.W.nsIn K mainGlobals "_law_spot" = some (some (.ref f11)))
    (l11 : K.lookup f11 = some ⟨oc11, od11, .func (PySem.W.fnOf "_law_spot" "_law_spot" (defArgs s__law_spot) (defBody s__law_spot) (defScope s__law_spot) .none kV11 dc11 pm11 an11 cd11 ct11), sl11⟩)
    (c11 : PySem.W.codeIn K cd11 "_law_spot" = true)
    (k11 : PySem.W.keepIn K (.ref f11) = true)
    (a12 : PySem.W.nsIn K mainGlobals "_law_patched" = some (some (.ref f12)))
    (l12 : K.lookup f12 = some ⟨oc12, od12, .func (PySem.W.fnOf "_law_patched" "_law_patched" (defArgs s__law_patched) (defBody s__law_patched) (defScope s__law_patched) .none kV12 dc12 pm12 an12 cd12 ct12), sl12⟩)
    (c12 : PySem.W.codeIn K cd12 "_law_patched" = true)
    (k12 : PySem.W.keepIn K (.ref f12) = true)
    (a13 : PySem.W.nsIn K mainGlobals "_law_ran" = some (some (.ref f13)))
    (l13 : K.lookup f13 = some ⟨oc13, od13, .func (PySem.W.fnOf "_law_ran" "_law_ran" (defArgs s__law_ran) (defBody s__law_ran) (defScope s__law_ran) .none kV13 dc13 pm13 an13 cd13 ct13), sl13⟩)
    (c13 : PySem.W.codeIn K cd13 "_law_ran" = true)
    (k13 : PySem.W.keepIn K (.ref f13) = true)
    (a14 : PySem.W.nsIn K mainGlobals "_law_heard_run" = some (some (.ref f14)))
    (l14 : K.lookup f14 = some ⟨oc14, od14, .func (PySem.W.fnOf "_law_heard_run" "_law_heard_run" (defArgs s__law_heard_run) (defBody s__law_heard_run) (defScope s__law_heard_run) .none kV14 dc14 pm14 an14 cd14 ct14), sl14⟩)
    (c14 : PySem.W.codeIn K cd14 "_law_heard_run" = true)
    (k14 : PySem.W.keepIn K (.ref f14) = true)
    (a15 : PySem.W.nsIn K mainGlobals "_law_by_names" = some (some (.ref f15)))
    (l15 : K.lookup f15 = some ⟨oc15, od15, .func (PySem.W.fnOf "_law_by_names" "_law_by_names" (defArgs s__law_by_names) (defBody s__law_by_names) (defScope s__law_by_names) .none kV15 dc15 pm15 an15 cd15 ct15), sl15⟩)
    (c15 : PySem.W.codeIn K cd15 "_law_by_names" = true)
    (k15 : PySem.W.keepIn K (.ref f15) = true)
    (a16 : PySem.W.nsIn K mainGlobals "_law_right" = some (some (.ref f16)))
    (l16 : K.lookup f16 = some ⟨oc16, od16, .func (PySem.W.fnOf "_law_right" "_law_right" (defArgs s__law_right) (defBody s__law_right) (defScope s__law_right) .none kV16 dc16 pm16 an16 cd16 ct16), sl16⟩)
    (c16 : PySem.W.codeIn K cd16 "_law_right" = true)
    (k16 : PySem.W.keepIn K (.ref f16) = true)
    (a17 : PySem.W.nsIn K mainGlobals "law" = some (some (.ref f17)))
    (l17 : K.lookup f17 = some ⟨oc17, od17, .func (PySem.W.fnOf "law" "law" (defArgs s_law) (defBody s_law) (defScope s_law) .none kV17 dc17 pm17 an17 cd17 ct17), sl17⟩)
    (c17 : PySem.W.codeIn K cd17 "law" = true)
    (k17 : PySem.W.keepIn K (.ref f17) = true)
    (zb_ValueError : PySem.W.nsIn K mainGlobals "ValueError" = some none)
    (zb_abs : PySem.W.nsIn K mainGlobals "abs" = some none)
    (zb_all : PySem.W.nsIn K mainGlobals "all" = some none)
    (zb_any : PySem.W.nsIn K mainGlobals "any" = some none)
    (zb_enumerate : PySem.W.nsIn K mainGlobals "enumerate" = some none)
    (zb_int : PySem.W.nsIn K mainGlobals "int" = some none)
    (zb_isinstance : PySem.W.nsIn K mainGlobals "isinstance" = some none)
    (zb_len : PySem.W.nsIn K mainGlobals "len" = some none)
    (zb_list : PySem.W.nsIn K mainGlobals "list" = some none)
    (zb_max : PySem.W.nsIn K mainGlobals "max" = some none)
    (zb_min : PySem.W.nsIn K mainGlobals "min" = some none)
    (zb_range : PySem.W.nsIn K mainGlobals "range" = some none)
    (zb_repr : PySem.W.nsIn K mainGlobals "repr" = some none)
    (zb_tuple : PySem.W.nsIn K mainGlobals "tuple" = some none)
    (zb_zip : PySem.W.nsIn K mainGlobals "zip" = some none)
    (zc_BEGINNING : PySem.W.nsIn K mainGlobals "BEGINNING" = some (some (.str "a" tk_BEGINNING)))
    (zc_COPY : PySem.W.nsIn K mainGlobals "COPY" = some (some (.str "copy" tk_COPY)))
    (zc_CUT : PySem.W.nsIn K mainGlobals "CUT" = some (some (.str "cut" tk_CUT)))
    (zc_OVER : PySem.W.nsIn K mainGlobals "OVER" = some (some (.str "over" tk_OVER)))
    (zc_PUT : PySem.W.nsIn K mainGlobals "PUT" = some (some (.str "put" tk_PUT)))
    (ta_PARTS : PySem.W.nsIn K mainGlobals "PARTS" = some (some (.ref p_PARTS)))
    (tl_PARTS : K.lookup p_PARTS = some ⟨.type "dict", none, .dict es_PARTS n_PARTS, #[]⟩)
    (tk_PARTS : PySem.W.KeysLit w.params es_PARTS.toList)
    (ts_PARTS : (p_PARTS == sysModules) = false)
    (te_PARTS : TabE K es_PARTS.toList [(("put" : Str), (.tup [(.str "spot"), (.str "text")])), (("cut" : Str), (.tup [(.str "spot"), (.str "spot")])), (("over" : Str), (.tup [(.str "spot"), (.str "text")])), (("copy" : Str), (.tup [(.str "spot"), (.str "spot"), (.str "spot")]))])
    (ca_NoRun : PySem.W.nsIn K mainGlobals "NoRun" = some (some (.ref cNoRun)))
    (ca_StayError : PySem.W.nsIn K mainGlobals "StayError" = some (some (.ref cStayError)))
    (xl : K.lookup cNoRun = some (excClassObj nm qn cNoRun xN bs bm true sn sub ab col dd o0 o1 o2 o3 o5 "ValueError.__new__"))
    (xb : PySem.HandSPX.refsVE bm = true)
    (xsa : PySem.W.findIn K (.ref cNoRun) "__setattr__" = some (some (.builtin "object.__setattr__")))
    (xex : PySem.W.subIn K (.ref cNoRun) (.type "BaseException") = some true)
    (xty : PySem.W.typeIn K (.ref cNoRun) = some (.type "type"))
    (xk : PySem.W.keepIn K (.ref cNoRun) = true)
    (xi : PySem.W.findIn K (.ref cNoRun) "__init__" = some (some (.ref fI)))
    (xti : PySem.W.typeIn K (.ref fI) = some (.type "function"))
    (xlk : K.lookup fI = some ⟨oc, od, .func (PySem.W.ksFn iname iqual params body scope dV kV doc pm an (.ref cda) ct cc), osl⟩)
    (xbd : body = initBody "self" "index" "index" p0 p1 p2 p3 p4 p5 p6 p7 p8 p9)
    (xsc : InitSc scope "self" "index")
    (xcc : K.lookup cc = some ⟨cl, cld, .cell (some (.ref cNoRun)), csl⟩)
    (xcd : PySem.W.codeIn K (.ref cda) iqual = true)
    (xcl : K.lookup cda = some ⟨ccl, cdd, .fields vs, ccs⟩)
    (xvf : vs[2]? = some (.str file tf))
    (xff : ((l.prog.main.file : Str) == file) = true)
    (xtop : (l.prog.main.scope.names.lookup ("super" : Str)).isSome = false)
    (xsu : PySem.W.nsIn K mainGlobals "super" = some none)
    (xal : PySem.W.ks_superIn K cNoRun cNoRun "__init__" = some (some (.builtin "ValueError.__init__")))
    (xve : PySem.W.subIn K (.ref cNoRun) (.type "ValueError") = some true)
    (xow : PySem.W.mroIn K cNoRun (.ref cNoRun) = some true)
    (xtp : PySem.W.nsIn K cStatics "thirdparty.any" = some none)
    (xfl : PySem.W.findIn K (.ref cNoRun) "index" = some none)
    (xhp : (params.posonlyargs ++ params.args).head? = some ar)
    (xar : ar.arg = "self")
    (xhm : ∀ env : Env, ∃ pl : Sem Bool, eval (.Call (.Attribute (.Call (.Name "super" p0) [] [] p1) "__init__" p2) [.Name "index" p3] [] p4) env = (do
      let ov ← attributeBase (.Call (.Name "super" p0) [] [] p1) "__init__" env (eval (.Call (.Name "super" p0) [] [] p1) env)
      standAt p2.atName
      let (f, first) ← holding [ov] (getMethod ov "__init__" pl)
      callWith p4 f first (backTo p4 (starEach [.Name "index" p3] env)) []))
    (xbi : ∀ us : List Value, us.length = ["self", "index"].length → bindArgs (PySem.W.ksFn iname iqual params body scope dV kV doc pm an (.ref cda) ct cc) ⟨us, []⟩ = pure ((["self", "index"] : List Str).zip us))
    (xga : PySem.W.findIn K (.ref cNoRun) "__getattribute__" = some (some (.builtin "BaseException.__getattribute__")))
    (xgg : PySem.W.findIn K (.ref cNoRun) "__getattr__" = some none)
    (xhd : PySem.W.hasDictIn K cNoRun = true)
    (xca : PySem.W.findIn K (.ref cNoRun) "__class__" = some (some (.builtin "object.__class__")))
    (xcn : PySem.W.specialIn K (.builtin "object.__class__") "__get__" = some (some (.builtin "getset_descriptor.__get__")))
    (xct : PySem.W.takesIn K (.builtin "object.__class__") = some true)
    (xcm : PySem.W.mroIn K cNoRun (.type "object") = some true)
    (ye_NoRun : PySem.W.subIn K (.ref cNoRun) (.type "BaseException") = some true)
    (yh_NoRun : PySem.W.hasDictIn K cNoRun = true)
    (yt_NoRun : PySem.W.typeIn K (.ref cNoRun) = some (.type "type"))
    (ys_NoRun : PySem.W.subIn K (.ref cNoRun) (.ref cNoRun) = some true)
    (ye_StayError : PySem.W.subIn K (.ref cStayError) (.type "BaseException") = some true)
    (yh_StayError : PySem.W.hasDictIn K cStayError = true)
    (yt_StayError : PySem.W.typeIn K (.ref cStayError) = some (.type "type"))
    (ys_StayError : PySem.W.subIn K (.ref cNoRun) (.ref cStayError) = some true) :
    ∃ (M : List Cell → FR) (fd : FuncData), (∀ ns : List Int, ns.length ≤ 63 → M [.pv (.scr ns)] = .ret (.bl true) []) ∧ (∀ (s : Shared) (v : Value), BindsTo s fd ⟨[v], []⟩ [("_law_script", v)]) ∧ ∀ base : Heap, K.In base → base.Ns mainGlobals mg → FnG l.prog w K mg base 7 fa fd ["_law_script"] (spM K M) := by
  have e := hfa.symm.trans (PySem.W.mg_of X G a17)
  cases e
  subst xbd
  have TO : OexC K cNoRun := ⟨⟨nm, qn, xN, bs, bm, sn, sub, ab, col, dd, o0, o1, o2, o3, o5, xl, xb⟩, xsa, xex, xty, xk⟩
  have EF : ExcFacts l.prog K mg "NoRun" "index" "self" "index" cNoRun := ⟨PySem.W.mg_of X G ca_NoRun, TO, fI, cc, cda, iname, iqual, params, scope, dV, kV, doc, pm, ct, oc, an, od, osl, p0, p1, p2, p3, p4, p5, p6, p7, p8, p9, ar, xsc, ⟨TO, ⟨cl, cld, csl, xcc⟩, xcd, ⟨ccl, cdd, vs, ccs, file, tf, xcl, xvf, xff⟩, xtop, PySem.W.mg_none_of X G xsu, by first | boot_by_name | rfl | kernel_rfl, xal, xve, xow, xtp, xfl⟩, xlk, xhp, xar, xhm, xbi, xi, xti⟩
  have T : Top K mg w cNoRun cStayError := ⟨PySem.W.mg_none_of X G zb_ValueError, PySem.W.mg_none_of X G zb_abs, PySem.W.mg_none_of X G zb_all, PySem.W.mg_none_of X G zb_any, PySem.W.mg_none_of X G zb_enumerate, PySem.W.mg_none_of X G zb_int, PySem.W.mg_none_of X G zb_isinstance, PySem.W.mg_none_of X G zb_len, PySem.W.mg_none_of X G zb_list, PySem.W.mg_none_of X G zb_max, PySem.W.mg_none_of X G zb_min, PySem.W.mg_none_of X G zb_range, PySem.W.mg_none_of X G zb_repr, PySem.W.mg_none_of X G zb_tuple, PySem.W.mg_none_of X G zb_zip, ⟨_, PySem.W.mg_of X G zc_BEGINNING, ⟨_, rfl⟩⟩, ⟨_, PySem.W.mg_of X G zc_COPY, ⟨_, rfl⟩⟩, ⟨_, PySem.W.mg_of X G zc_CUT, ⟨_, rfl⟩⟩, ⟨_, PySem.W.mg_of X G zc_OVER, ⟨_, rfl⟩⟩, ⟨_, PySem.W.mg_of X G zc_PUT, ⟨_, rfl⟩⟩, tabK_mk (PySem.W.mg_of X G ta_PARTS) tl_PARTS tk_PARTS ts_PARTS te_PARTS, PySem.W.mg_of X G ca_NoRun, PySem.W.mg_of X G ca_StayError, kit_self, kit_ve xve, ⟨xga, xgg, xex, xhd, xca, xcn, xct, xcm⟩, ⟨xga, xgg, xex, xhd⟩, xfl, PySem.W.exm_ref ye_NoRun yh_NoRun yt_NoRun ys_NoRun, PySem.W.exm_ref ye_StayError yh_StayError yt_StayError ys_StayError⟩
  refine ⟨(M_law cNoRun), PySem.W.fnOf "law" "law" (defArgs s_law) (defBody s_law) (defScope s_law) .none kV17 dc17 pm17 an17 cd17 ct17, law_true cNoRun, fun s v => .of_eq rfl, fun base _ _ => ?_⟩
  have MK := excMk_mk (base := base) (w := w) EF
  have D_indexes_of := d_indexes_of (P := l.prog) (base := base) T (fun_mk (st := s_indexes_of) l0 c0 k0) (PySem.W.mg_of X G a0)
  have D_patched := d_patched (P := l.prog) (base := base) T (fun_mk (st := s_patched) l1 c1 k1) (PySem.W.mg_of X G a1)
  have D_letters_behind := d_letters_behind (P := l.prog) (base := base) T D_indexes_of D_patched MK (fun_mk (st := s_letters_behind) l2 c2 k2) (PySem.W.mg_of X G a2)
  have D_run__kw1_text := dk_run__kw1_text (P := l.prog) (base := base) T D_letters_behind (fun_mk (st := s_run) l3 c3 k3) (PySem.W.mg_of X G a3)
  have D_run := d_run (P := l.prog) (base := base) T D_letters_behind (fun_mk (st := s_run) l3 c3 k3) (PySem.W.mg_of X G a3)
  have D__law_jar := d__law_jar (P := l.prog) (base := base) T (fun_mk (st := s__law_jar) l4 c4 k4) (PySem.W.mg_of X G a4)
  have D__law_take := d__law_take (P := l.prog) (base := base) T (fun_mk (st := s__law_take) l5 c5 k5) (PySem.W.mg_of X G a5)
  have D__law_of := d__law_of (P := l.prog) (base := base) T D__law_take (fun_mk (st := s__law_of) l6 c6 k6) (PySem.W.mg_of X G a6)
  have D__law_word := d__law_word (P := l.prog) (base := base) T D__law_of (fun_mk (st := s__law_word) l7 c7 k7) (PySem.W.mg_of X G a7)
  have D__law_place := d__law_place (P := l.prog) (base := base) T D__law_of D__law_take (fun_mk (st := s__law_place) l8 c8 k8) (PySem.W.mg_of X G a8)
  have D__law_patch := d__law_patch (P := l.prog) (base := base) T D__law_of D__law_place D__law_take D__law_word (fun_mk (st := s__law_patch) l9 c9 k9) (PySem.W.mg_of X G a9)
  have D__law_patches := d__law_patches (P := l.prog) (base := base) T D__law_patch D__law_take (fun_mk (st := s__law_patches) l10 c10 k10) (PySem.W.mg_of X G a10)
  have D__law_spot := d__law_spot (P := l.prog) (base := base) T (fun_mk (st := s__law_spot) l11 c11 k11) (PySem.W.mg_of X G a11)
  have D__law_patched := d__law_patched (P := l.prog) (base := base) T D__law_spot (fun_mk (st := s__law_patched) l12 c12 k12) (PySem.W.mg_of X G a12)
  have D__law_ran := d__law_ran (P := l.prog) (base := base) T D__law_patched (fun_mk (st := s__law_ran) l13 c13 k13) (PySem.W.mg_of X G a13)
  have D__law_heard_run := d__law_heard_run (P := l.prog) (base := base) T D_run (fun_mk (st := s__law_heard_run) l14 c14 k14) (PySem.W.mg_of X G a14)
  have D__law_by_names := d__law_by_names (P := l.prog) (base := base) T D_run__kw1_text (fun_mk (st := s__law_by_names) l15 c15 k15) (PySem.W.mg_of X G a15)
  have D__law_right := d__law_right (P := l.prog) (base := base) T D__law_by_names D__law_heard_run D__law_ran (fun_mk (st := s__law_right) l16 c16 k16) (PySem.W.mg_of X G a16)
  exact f_law T D__law_jar D__law_of D__law_patches D__law_right D__law_take D__law_word (fun_mk (st := s_law) l17 c17 k17)
theorem walk {l : PySem.W.OpenLaw} {q : Program} {loose : List Str} {XP : (Str → Option Value) → Heap → Prop} {YP : World → Heap → Prop} {d : DefRec} {K : Params → PySem.W.Frag} (hn : l.most = some 63) (hdf : d.params.defaults = [])
    (hY : ∀ (w : World) (h : Heap), YP w h → (K w.params).In h)
    (F : ∀ (w : World) (mg : Str → Option Value) (fa : Addr) (h : Heap), (K w.params).In h → h.Ns mainGlobals mg → mg d.name = some (.ref fa) →
      ∃ (M : List Cell → FR) (fd : FuncData), (∀ ns : List Int, ns.length ≤ 63 → M [.pv (.scr ns)] = .ret (.bl true) []) ∧ (∀ (s : Shared) (u : Value), BindsTo s fd ⟨[u], []⟩ [("_law_script", u)]) ∧ ∀ base : Heap, (K w.params).In base → base.Ns mainGlobals mg → FnG l.prog w (K w.params) mg base 7 fa fd ["_law_script"] (spM (K w.params) M)) :
    PySem.W.WalkO q loose XP YP l.row.toRowW d [] (fun f vs => PySem.call f vs) :=
  VL.walk_ofG (n := 63) (k := 7) (x := "_law_script") (sp := fun w vs H Q E => ∃ ns : List Int, ∃ a, vs = [.ref a] ∧ ns.length ≤ 63 ∧ SqL (K w.params) H a (ns.map V.int) ∧ (∀ H' , Q (.bl true) H')) hn (by decide) hdf ⟨⟨rfl, by decide, by decide⟩, rfl⟩ hY
    (fun w mg fa h KX G hm => by
      obtain ⟨M, fd, hM, hb, hF⟩ := F w mg fa h KX G hm
      refine ⟨fd, hb, fun base kb gb => (hF base kb gb).imp fun vs H Q E hs => ?_⟩
      obtain ⟨ns, a, rfl, hl, hS, hq⟩ := hs
      refine ⟨H, none, [.pv (.scr ns)], Le.refl _, .cons (.pv (.scr hS)) .nil, fun a z => (by cases z), by simp [isOl], ?_⟩
      rw [hM ns hl]
      intro v G' H' _ _ r
      cases r
      exact hq H')
    (fun w H a ns hl hS => ⟨ns, a, rfl, hl, hS, fun _ => rfl⟩)
end KL
open PySem PySem.W PyProof.Rows
theorem PySem.Challenge.cw_piecestay_k02_texts_run_through_scripts_holds : PySem.Challenge.rw_piecestay_k02_texts_run_through_scripts.Holds :=
  head (by
  k_fill
  refine KL.walk (l := PySem.Challenge.rw_piecestay_k02_texts_run_through_scripts) rfl rfl (fun w h Y => PySem.W.kIn_of Y) ?F
  case F =>
    intro w mg fa h KX G hmg
    refine' KL.all_mk KX G hmg ?a0 ?l0 ?c0 ?k0 ?a1 ?l1 ?c1 ?k1 ?a2 ?l2 ?c2 ?k2 ?a3 ?l3 ?c3 ?k3 ?a4 ?l4 ?c4 ?k4 ?a5 ?l5 ?c5 ?k5 ?a6 ?l6 ?c6 ?k6 ?a7 ?l7 ?c7 ?k7 ?a8 ?l8 ?c8 ?k8 ?a9 ?l9 ?c9 ?k9 ?a10 ?l10 ?c10 ?k10 ?a11 ?l11 ?c11 ?k11 ?a12 ?l12 ?c12 ?k12 ?a13 ?l13 ?c13 ?k13 ?a14 ?l14 ?c14 ?k14 ?a15 ?l15 ?c15 ?k15 ?a16 ?l16 ?c16 ?k16 ?a17 ?l17 ?c17 ?k17 ?zb_ValueError ?zb_abs ?zb_all ?zb_any ?zb_enumerate ?zb_int ?zb_isinstance ?zb_len ?zb_list ?zb_max ?zb_min ?zb_range ?zb_repr ?zb_tuple ?zb_zip ?zc_BEGINNING ?zc_COPY ?zc_CUT ?zc_OVER ?zc_PUT ?ta_PARTS ?tl_PARTS ?tk_PARTS ?ts_PARTS ?te_PARTS ?ca_NoRun ?ca_StayError ?xl ?xb ?xsa ?xex ?xty ?xk ?xi ?xti ?xlk ?xbd ?xsc ?xcc ?xcd ?xcl ?xvf ?xff ?xtop ?xsu ?xal ?xve ?xow ?xtp ?xfl ?xhp ?xar ?xhm ?xbi ?xga ?xgg ?xhd ?xca ?xcn ?xct ?xcm ?ye_NoRun ?yh_NoRun ?yt_NoRun ?ys_NoRun ?ye_StayError ?yh_StayError ?yt_StayError ?ys_StayError
    (case a0 => k_is)
    (case l0 => k_is)
    (case c0 => k_is)
    (case k0 => k_is)
    (case a1 => k_is)
    (case l1 => k_is)
    (case c1 => k_is)
    (case k1 => k_is)
    (case a2 => k_is)
    (case l2 => k_is)
    (case c2 => k_is)
    (case k2 => k_is)
    (case a3 => k_is)
    (case l3 => k_is)
    (case c3 => k_is)
    (case k3 => k_is)
    (case a4 => k_is)
    (case l4 => k_is)
    (case c4 => k_is)
    (case k4 => k_is)
    (case a5 => k_is)
    (case l5 => k_is)
    (case c5 => k_is)
    (case k5 => k_is)
    (case a6 => k_is)
    (case l6 => k_is)
    (case c6 => k_is)
    (case k6 => k_is)
    (case a7 => k_is)
    (case l7 => k_is)
    (case c7 => k_is)
    (case k7 => k_is)
    (case a8 => k_is)
    (case l8 => k_is)
    (case c8 => k_is)
    (case k8 => k_is)
    (case a9 => k_is)
    (case l9 => k_is)
    (case c9 => k_is)
    (case k9 => k_is)
    (case a10 => k_is)
    (case l10 => k_is)
    (case c10 => k_is)
    (case k10 => k_is)
    (case a11 => k_is)
    (case l11 => k_is)
    (case c11 => k_is)
    (case k11 => k_is)
    (case a12 => k_is)
    (case l12 => k_is)
    (case c12 => k_is)
    (case k12 => k_is)
    (case a13 => k_is)
    (case l13 => k_is)
    (case c13 => k_is)
    (case k13 => k_is)
    (case a14 => k_is)
    (case l14 => k_is)
    (case c14 => k_is)
    (case k14 => k_is)
    (case a15 => k_is)
    (case l15 => k_is)
    (case c15 => k_is)
    (case k15 => k_is)
    (case a16 => k_is)
    (case l16 => k_is)
    (case c16 => k_is)
    (case k16 => k_is)
    (case a17 => k_is)
    (case l17 => k_is)
    (case c17 => k_is)
    (case k17 => k_is)
    (case zb_ValueError => k_is)
    (case zb_abs => k_is)
    (case zb_all => k_is)
    (case zb_any => k_is)
    (case zb_enumerate => k_is)
    (case zb_int => k_is)
    (case zb_isinstance => k_is)
    (case zb_len => k_is)
    (case zb_list => k_is)
    (case zb_max => k_is)
    (case zb_min => k_is)
    (case zb_range => k_is)
    (case zb_repr => k_is)
    (case zb_tuple => k_is)
    (case zb_zip => k_is)
    (case zc_BEGINNING => k_is)
    (case zc_COPY => k_is)
    (case zc_CUT => k_is)
    (case zc_OVER => k_is)
    (case zc_PUT => k_is)
    (case ta_PARTS => k_is)
    (case tl_PARTS => k_is)
    (case tk_PARTS => exact ⟨⟨_, _, rfl, rfl⟩, ⟨_, _, rfl, rfl⟩, ⟨_, _, rfl, rfl⟩, ⟨_, _, rfl, rfl⟩, trivial⟩)
    (case ts_PARTS => first | rfl | decide)
    (case te_PARTS => exact (.cons rfl (v := .ref _) rfl (VL.repK_tup (vs := [.str "spot", .str "text"]) (by k_is) rfl rfl (by decide) (.cons ⟨_, rfl⟩ (.cons ⟨_, rfl⟩ .nil)) (fun _ => (.cons (.str _) (.cons (.str _) .nil)))) (.cons rfl (v := .ref _) rfl (VL.repK_tup (vs := [.str "spot", .str "spot"]) (by k_is) rfl rfl (by decide) (.cons ⟨_, rfl⟩ (.cons ⟨_, rfl⟩ .nil)) (fun _ => (.cons (.str _) (.cons (.str _) .nil)))) (.cons rfl (v := .ref _) rfl (VL.repK_tup (vs := [.str "spot", .str "text"]) (by k_is) rfl rfl (by decide) (.cons ⟨_, rfl⟩ (.cons ⟨_, rfl⟩ .nil)) (fun _ => (.cons (.str _) (.cons (.str _) .nil)))) (.cons rfl (v := .ref _) rfl (VL.repK_tup (vs := [.str "spot", .str "spot", .str "spot"]) (by k_is) rfl rfl (by decide) (.cons ⟨_, rfl⟩ (.cons ⟨_, rfl⟩ (.cons ⟨_, rfl⟩ .nil))) (fun _ => (.cons (.str _) (.cons (.str _) (.cons (.str _) .nil))))) .nil)))))
    (case ca_NoRun => k_is)
    (case ca_StayError => k_is)
    (case xl => k_is)
    (case xb => rfl)
    (case xsa => k_is)
    (case xex => k_is)
    (case xty => k_is)
    (case xk => k_is)
    (case xi => k_is)
    (case xti => k_is)
    (case xlk => k_is)
    (case xbd => rfl)
    (case xsc => exact ⟨rfl, rfl, rfl, by decide +kernel, rfl, rfl, rfl, rfl, by decide +kernel, by decide +kernel, by decide +kernel⟩)
    (case xcc => k_is)
    (case xcd => k_is)
    (case xcl => k_is)
    (case xvf => rfl)
    (case xff => first | rfl | decide +kernel)
    (case xtop => first | rfl | decide +kernel)
    (case xsu => k_is)
    (case xal => ks_is)
    (case xve => k_is)
    (case xow => k_is)
    (case xtp => k_is)
    (case xfl => k_is)
    (case xhp => rfl)
    (case xar => rfl)
    (case xhm => exact fun _ => ⟨_, rfl⟩)
    (case xbi => exact fun us hl => match us, hl with | [_, _], _ => rfl)
    (case xga => k_is)
    (case xgg => k_is)
    (case xhd => k_is)
    (case xca => k_is)
    (case xcn => k_is)
    (case xct => k_is)
    (case xcm => k_is)
    (case ye_NoRun => k_is)
    (case yh_NoRun => k_is)
    (case yt_NoRun => k_is)
    (case ys_NoRun => k_is)
    (case ye_StayError => k_is)
    (case yh_StayError => k_is)
    (case yt_StayError => k_is)
    (case ys_StayError => k_is)
  )


end
