import PyProof.Rows.All
import Wide.All
import OpenK.AllK
import Wide.FinOn
import HandS.ForMost
import HandS.Exc
import HandS.ExcOwn
import HandS.WordsExc
import HandS.EndBits
import HandS.EndTab
import HandS.Lambda
import HandS.SortInts
import HandS.SortKw
import HandS.Wide
import HandS.Style
import HandS.TupAny
import HandS.Walk
import HandS.Defaults
import HandS.IsInst
import HandS.Conv
import KE.KTupSum
import KE.DataMinMax
import HandS.SetFor
import HandS.Remove
import HandS.Iter
import KE.GoesMore
import KE.GoesEnum
import HandS.Zip
import KE.GoesZip
import KE.GoesEnumKw
import OpenK.KMore
import KE.SortData
import HandS.TupMul
import HandS.ExcInit
import HandS.ExcField
import HandS.ExcIs
import HandS.MakeKw
import HandS.MakeKwOnly
import HandS.TryMany
import HandS.ExcValue
import KE.SortKeyHeap
import KE.KUnpack
import HandS.List
import KE.KExcIs
import PyProof.ReprText
import PyProof.Rows.ReprOcc
import HandS.Deep
import HandS.Dict
import HandS.DictComp
import PyProof.P3Eq
import PySem.Challenge.RW_cupkeep_k61_worst_told
set_option Elab.async false
set_option linter.all false
set_option maxRecDepth 100000
set_option maxHeartbeats 4000000
/-! # DL0: promises of defs that may ask for the text of a thing: no repr runs about them -/
namespace DL
open PySem PySem.Spec PyProof.Rows L2
/-- room, and no repr about -/
structure RoomG (k : Nat) (A : Around) : Prop where
  r : Room k A
  g : A.guards = some []
theorem RoomG.mono {j k : Nat} {A : Around} (h : RoomG k A) (l : j ≤ k) : RoomG j A := ⟨h.r.mono l, h.g⟩
theorem RoomG.in1 {k : Nat} {A : Around} (h : RoomG (k + 1) A) : RoomG k A.in1 := ⟨h.r.in1, h.g⟩
theorem RoomG.deeper {k : Nat} {A : Around} (h : RoomG (k + 1) A) (env : Env) : RoomG k (A.deeper env) := ⟨h.r.deeper env, h.g⟩
theorem RoomG.units {k : Nat} {A : Around} (h : RoomG k A) : A.units + 64 < cLine := h.r.units
/-- a def's promise where no repr is about -/
structure FnG (P : Program) (w : World) (K : PySem.W.Frag) (mg : Str → Option Value) (base : Heap) (k : Nat) (f : Addr) (fd : FuncData) (ps : List Str) (sp : Sp) : Prop where
  len : ∀ vs H Q E, sp vs H Q E → vs.length = ps.length
  run : ∀ (A : Around) (outer : List Env) (s : Shared) (H : Hp) (args : Args) (us : List Value) (vs : List V) (Q : VK) (E : XK), RoomG k A → Env0 P w K mg base A outer s H → BindsTo s fd args (ps.zip us) → Vals vs us → sp vs H Q E →
    codeAny (model P w) A (.call (.ref f) args) (CR (L2.CX P w) outer P w H s Q E) s
section
variable {P : Program} {w : World} {K : PySem.W.Frag} {mg : Str → Option Value} {base : Heap}
theorem fn_g {x qual : Str} {st : Stmt} {f : Addr} {fd : FuncData} {N ps : List Str} {k : Nat} {sp : Sp} (F : Fun K x qual st f fd) (S : FnScope N ps (defScope st)) (len : ∀ vs H Q E, sp vs H Q E → vs.length = ps.length)
    (hbody : ∀ (cdv : Value) (A : Around) (outer : List Env) (s : Shared) (H : Hp) (vs : List V) (Q : VK) (E : XK), fd.code = cdv → RoomG k (A.deeper (envOfC qual (defScope st) s.heap.objs.size f cdv)) → sp vs H Q E →
      ∃ t, PSs (cxOf (L2.CX P w) P w K mg base N qual (defScope st) f cdv A outer s H E) (defBody st) t ∧ t { nx := fun _ H' => Q .non H', rt := Q } (L2.start N vs) H) : FnG P w K mg base (k + 1) f fd ps sp := by
  obtain ⟨oc, od, kV, doc, pm, an, cdv, ct, osl, rfl, lk, hcd⟩ := F.ex
  exact ⟨len, fun A outer s H args us vs Q E hr e0 hb hv h => LamX.run_ofS lk hcd S hr.r e0 hb hv (len _ _ _ _ h) fun hr' => hbody cdv A outer s H vs Q E rfl ⟨hr', hr.g⟩ h⟩
end
section
variable {X : Cx} {k : Nat} {f : Addr} {fd : FuncData} {ps : List Str} {sp : Sp} {E : L2.St → XK} {x : Str} {e : Expr} {es : List Expr} {t : TA} {p pos : Pos}
theorem run_fnG {pins : List (Addr × Obj)} {σ : L2.St} {H : Hp} {s : Shared} {Q : VK} {us : List Value} {vs : List V} (F : FnG X.prog X.w X.K X.mg X.base k f fd ps sp) (hr : RoomG k X.A) (hb : Binds X.K fd ps []) (hx : PassesAt (L2.CX X.prog X.w) X σ (E σ))
    (I : Inv X pins σ H s) (r : Vals vs us) (h : sp vs H Q (E σ)) : wpAny (model X.prog X.w) X.A (call (.ref f) us) (EP X pins σ Q) X.xe s := by
  have bt := hb s us I.kIn (by rw [List.append_nil, ← r.length]; exact F.len _ _ _ _ h)
  rw [List.append_nil] at bt
  refine wpAny_call (codeAny_mono (F.run X.A X.stack s H ⟨us, []⟩ us vs Q (E σ) hr I.env0 bt r h) fun q s' hq => ?_)
  match q, hq with
  | .error er, hq => exact hx pins H s er s' I hq
  | .ok (.ret u), hq => exact I.after hq
  | .ok .next, hq => exact (show False from hq).elim
  | .ok .brk, hq => exact (show False from hq).elim
  | .ok .cont, hq => exact (show False from hq).elim
theorem pe_callG (F : FnG X.prog X.w X.K X.mg X.base k f fd ps sp) (hr : RoomG k X.A) (hg : Gl X x) (hm : X.mg x = some (.ref f)) (hk : PySem.W.keepIn X.K (.ref f) = true) (hb : Binds X.K fd ps []) (hx : ∀ σ, PassesAt (L2.CX X.prog X.w) X σ (E σ))
    (ha : PA X (e :: es) t) (hdb : (x == ("__debug__" : Str)) = false := by decide) (he : starEach (e :: es) X.env = (false, eval e X.env) :: starEach es X.env := by rfl) (hpl : (backTo pos (starEach es X.env)).any (·.1) = false := by rfl) :
    PE X (.Call (.Name x p) (e :: es) [] pos) (tCallS sp E t) :=
  ⟨fun pins s σ H Q I h => wpAny_Call_Name_kw (ld_glob I hg hm (PySem.W.callWith_K (h₀ := X.base) I.ok.mod.kin hk (thn (ha.run pos pins s σ H _ I h) fun us s1 ⟨vs, H1, I1, r, q⟩ => ⟨I1.kIn, run_fnG F hr hb (hx σ) I1 r q⟩) he hpl) hdb)⟩
end
/-! ### the end: the law's def called by the claim, tables and all -/
/-- what the claim's heap is told of: the tables, and the script where it is not of the written part -/
noncomputable def tellH (cs : List (Addr × Addr)) (own : Bool) (a : Addr) (u : HO) : Hp := fun b => if b ∈ cs.map (·.2) then some (.tbl #[]) else if own = true ∧ b = a then some u else none
section
variable {P : Program} {w : World} {K : PySem.W.Frag} {mg mb : Str → Option Value} {k : Nat} {fa a : Addr} {cs : List (Addr × Addr)} {fd : FuncData} {x : Str} {sp : Sp} {s₁ : Shared} {vs : List Value} {ns : List Int}
theorem law_callG (KX : K.In s₁.heap) (hns : s₁.heap.Ns mainGlobals mg) (hb : s₁.heap.Ns builtinsNs mb) (hbb : ∀ x : Str, x ≠ "__name__" → mb x = bootBuiltins x) (hlim : s₁.heap.NoLimit) (hg : s₁.gens = #[])
    (hT : ∀ p ∈ cs, s₁.heap.get? p.2 = some { cls := .none, data := .fields #[] }) (nT : ∀ p ∈ cs, K.lookup p.2 = none) (C : ∀ p ∈ cs, PySem.W.CodeHd s₁.heap p.1 p.2)
    (hbm : ∃ (bm : Addr) (ob : Obj), mg "__builtins__" = some (.ref bm) ∧ bm ≠ builtinsNs ∧ s₁.heap.get? bm = some ob ∧ ob.cls = .type "module" ∧ ob.dict = some builtinsNs ∧ ob.data = .plain)
    (ha : s₁.heap.get? a = some { cls := .type "list", data := .seq vs.toArray }) (hi : IntsAre vs ns) (hl : ns.length ≤ sizeLine) (hr : RoomG k callerA)
    (F : ∀ base : Heap, K.In base → base.Ns mainGlobals mg → (∀ p ∈ cs, LamX.TabB base mg p.1 p.2) → FnG P w K mg base k fa fd [x] sp) (hbind : ∀ (s : Shared) (u : Value), BindsTo s fd ⟨[u], []⟩ [(x, u)])
    (hsp : ∀ H : Hp, (∀ p ∈ cs, H p.2 = some (.tbl #[])) → SqL K H a (ns.map V.int) → sp [.ref a] H (fun v _ => v = .bl true) fun _ _ _ => False) :
    codeAny (model P w) callerA (.call (.ref fa) ⟨[.ref a], []⟩) (fun r s' => r = .ok (.ret (.bool true)) ∧ OldK s₁.heap s'.heap ∧ s'.os = s₁.os ∧ AllBare s'.gens) s₁ := by
  have rv := vals_ints hi
  obtain ⟨own, hown⟩ : ∃ own : Bool, own = (K.lookup a).isNone := ⟨_, rfl⟩
  generalize hH : tellH cs own a (.frz { cls := .type "list", data := .seq vs.toArray } (.lst (ns.map V.int))) = H
  have tab : ∀ b, b ∈ cs.map (·.2) → s₁.heap.get? b = some { cls := .none, data := .fields #[] } ∧ H b = some (.tbl #[]) := fun b hb => by
    obtain ⟨p, hp, e⟩ := List.mem_map.mp hb
    exact ⟨by rw [← e]; exact hT p hp, by rw [← hH]; exact if_pos hb⟩
  have aT : a ∉ cs.map (·.2) := fun z => by
    have q := (tab a z).1
    rw [ha] at q
    exact nomatch (congrArg Obj.data (Option.some.inj q) : Data.seq vs.toArray _ = Data.fields #[])
  have told : ∀ b u, H b = some u → (b ∈ cs.map (·.2) ∧ u = .tbl #[]) ∨ (own = true ∧ b = a ∧ u = .frz { cls := .type "list", data := .seq vs.toArray } (.lst (ns.map V.int))) := fun b u e => by
    rw [← hH] at e
    unfold tellH at e
    split at e
    · rename_i hb
      cases e
      exact .inl ⟨hb, rfl⟩
    · split at e
      · rename_i hb
        cases e
        exact .inr ⟨hb.1, hb.2, rfl⟩
      · cases e
  -- what is no such table nor the script is untold
  have free : ∀ {b : Addr} {o : Obj}, s₁.heap.get? b = some o → o.data ≠ .fields #[] → (∀ xs n, o.data ≠ .seq xs n) → H b = none := fun {b o} e h1 h2 => by
    cases q : H b with
    | none => rfl
    | some u =>
      rcases told b u q with ⟨z, _⟩ | ⟨_, z, _⟩
      · rw [(tab b z).1] at e
        cases e
        exact absurd rfl h1
      · rw [z, ha] at e
        cases e
        exact absurd rfl (h2 _ _)
  have keepB : ∀ {b : Addr} {o : Obj}, s₁.heap.get? b = some o → H b = none → (hidT s₁.heap H).get? b = some o := fun e n => hidT_get e n
  have nsB : ∀ {b : Addr} {m : Str → Option Value}, s₁.heap.Ns b m → (hidT s₁.heap H).Ns b m := fun {b m} ⟨o, es, ep, e, hd, rest⟩ =>
    ⟨o, es, ep, keepB e (free e (fun z => by rw [hd] at z; cases z) fun xs n z => by rw [hd] at z; cases z), hd, rest⟩
  have kB : K.In (hidT s₁.heap H) := fun b o e => keepB (KX b o e) (by
    cases q : H b with
    | none => rfl
    | some u =>
      rcases told b u q with ⟨z, _⟩ | ⟨ho, z, _⟩
      · obtain ⟨p, hp, ep⟩ := List.mem_map.mp z
        rw [← ep, nT p hp] at e
        cases e
      · rw [z] at e
        rw [hown, e] at ho
        cases ho)
  have hcodes : ∀ p ∈ cs, LamX.TabB (hidT s₁.heap H) mg p.1 p.2 := fun p hp => by
    have hTp := hT p hp
    obtain ⟨oc, us, file, tf, flags, tg, inF, text, tt, c1, c2, c3, c4, crest⟩ := C p hp
    obtain ⟨bm, ob, b1, b2, b3, b4, b5, b6⟩ := hbm
    refine ⟨⟨oc, us, file, tf, flags, tg, inF, text, tt, keepB c1 (free c1 (fun z => ?_) fun xs n z => by rw [c3] at z; cases z), c2, c3, c4, crest⟩, ⟨bm, ob, b1, b2, fun z => ?_, fun z => ?_, keepB b3 (free b3 (fun z => by rw [b6] at z; cases z) fun xs n z => by rw [b6] at z; cases z), b4, b5, b6⟩, fun z => ?_⟩
    · rw [c3] at z
      cases z
      simp at c4
    · obtain ⟨o, es, ep, e, hd, _⟩ := hns
      rw [z, e] at b3
      cases b3
      rw [hd] at b6
      cases b6
    · rw [z, hTp] at b3
      cases b3
      cases b6
    · obtain ⟨o, es, ep, e, hd, _⟩ := hns
      rw [z, hTp] at e
      cases e
      cases hd
  have hok : HOk P w H s₁.heap := fun b u e => by
    rcases told b u e with ⟨z, rfl⟩ | ⟨_, rfl, rfl⟩
    · exact (tab b z).1
    · exact ⟨ha, by rw [List.length_map]; exact hl, vs, _, rv, ha⟩
  have hS : SqL K H a (ns.map V.int) := by
    cases hk : K.lookup a with
    | none => exact .inl (.inr ⟨_, by rw [← hH]; unfold tellH; rw [if_neg aT, if_pos ⟨by rw [hown, hk]; rfl, rfl⟩]⟩)
    | some o =>
      have e := KX a o hk
      rw [ha] at e
      cases e
      exact .inr ⟨_, vs.toArray, _, hk, rfl, rfl, rfl, by rw [List.size_toArray, hi.length]; exact hl, by simpa using rv⟩
  have e0 : Env0 P w K mg (hidT s₁.heap H) callerA [] s₁ H :=
    ⟨rfl, ⟨kB, nsB hns, ⟨mb, nsB hb, hbb⟩, let ⟨mc, h1, h2⟩ := hlim; ⟨mc, nsB h1, h2⟩⟩, fun b o e => of_hidT e, Nat.le_of_eq (hidT_size _ _), trivial, fun b q => absurd (show b ∈ ([] : List Addr) from q) List.not_mem_nil, hok, .of_eq hg⟩
  refine codeAny_mono ((F _ kB (nsB hns) hcodes).run callerA [] s₁ H ⟨[.ref a], []⟩ [.ref a] [.ref a] _ _ hr e0 (hbind s₁ (.ref a)) (.cons rfl .nil) (hsp H (fun p hp => (tab p.2 (List.mem_map.mpr ⟨p, hp, rfl⟩)).2) hS)) fun r s' h => ?_
  match r, h with
  | .error e, h =>
    obtain ⟨_, _, _, _, _, _, _, _, _, _, _, _, z⟩ := (show L2.CX P w [] H s₁ (fun _ _ _ => False) e s' from h)
    exact False.elim z
  | .ok .next, h => exact (show False from h).elim
  | .ok .brk, h => exact (show False from h).elim
  | .ok .cont, h => exact (show False from h).elim
  | .ok (.ret u), h =>
    obtain ⟨v, H', os, bare, un, hok', r', rfl⟩ := h
    obtain rfl : u = Value.bool true := r'
    have still : ∀ b o, b ∉ cs.map (·.2) → s₁.heap.get? b = some o → s'.heap.get? b = some o := fun b o nb e => by
      cases q : H b with
      | none => exact un.keep b o e q List.not_mem_nil List.not_mem_nil
      | some u =>
        rcases told b u q with ⟨z, _⟩ | ⟨_, rfl, rfl⟩
        · exact absurd z nb
        · rw [ha] at e
          cases e
          exact (hok' b _ (un.frzs b _ _ q)).1
    have grown : ∀ b, b ∈ cs.map (·.2) → ∃ more : Array Value, s'.heap.get? b = some { cls := .none, data := .fields more } := fun b hb => by
      obtain ⟨more, z⟩ := un.tbls b #[] (tab b hb).2
      exact ⟨_, hok' b _ z⟩
    refine ⟨rfl, ⟨fun b o e => ?_, fun b o e => ?_⟩, os, bare⟩
    · by_cases hb : b ∈ cs.map (·.2)
      · obtain ⟨more, hm⟩ := grown b hb
        have e2 := (tab b hb).1
        rw [e] at e2
        cases e2
        obtain ⟨p, hp, ep⟩ := List.mem_map.mp hb
        exact .inr (.inl ⟨by rw [← ep]; exact ((C p hp).tab (hT p hp)).isCodeTable, rfl, #[], more, rfl, by rw [Array.empty_append]; exact hm⟩)
      · exact .inl (still b o hb e)
    · by_cases hb : b ∈ cs.map (·.2)
      · obtain ⟨more, hm⟩ := grown b hb
        exact ⟨_, hm⟩
      · exact ⟨o, still b o hb e⟩
end
theorem walk_ofG {l : PySem.W.OpenLaw} {n k : Nat} {q : Program} {loose : List Str} {XP : (Str → Option Value) → Heap → Prop} {YP : World → Heap → Prop} {d : DefRec} {K : Params → PySem.W.Frag} {x : Str}
    (hn : l.most = some n) (hn2 : n ≤ sizeLine) (hdf : d.params.defaults = []) (hr : RoomG k callerA) (hY : ∀ (w : World) (h : Heap), YP w h → (K w.params).In h)
    (F : ∀ (w : World) (mg : Str → Option Value) (fa : Addr) (h : Heap), YP w h → (K w.params).In h → h.Ns mainGlobals mg → mg d.name = some (.ref fa) →
      ∃ (fd : FuncData) (cs : List (Addr × Addr)) (sp : Sp), (∀ p ∈ cs, h.get? p.2 = some { cls := .none, data := .fields #[] }) ∧ (∀ p ∈ cs, (K w.params).lookup p.2 = none) ∧ (∀ p ∈ cs, PySem.W.CodeHd h p.1 p.2) ∧ (∀ (s : Shared) (u : Value), BindsTo s fd ⟨[u], []⟩ [(x, u)]) ∧
        (∀ (H : Hp) (a : Addr) (ns : List Int), ns.length ≤ n → (∀ z ∈ ns, Builtin.Int.intBits z ≤ 1048576) → (∀ p ∈ cs, H p.2 = some (.tbl #[])) → SqL (K w.params) H a (ns.map V.int) → sp [.ref a] H (fun v _ => v = .bl true) fun _ _ _ => False) ∧
        ∀ base : Heap, (K w.params).In base → base.Ns mainGlobals mg → (∀ p ∈ cs, LamX.TabB base mg p.1 p.2) → FnG l.prog w (K w.params) mg base k fa fd [x] sp) :
    PySem.W.WalkO q loose XP YP l.row.toRowW d [] (fun f vs => PySem.call f vs) :=
  Att.attach_callB hn hdf fun w s₀ s₁ mg mb fa o pm cd doc a vs ns G Y ho hd hcd hmg hobj hints hlen hbits hg => by
    have KX := hY w _ Y
    obtain ⟨fd, cs, sp, h1, h2, h3, h4, h5, h6⟩ := F w mg fa _ Y KX G.T.g hmg
    exact law_callG KX G.T.g G.T.b G.T.builtins G.T.nolimit hg h1 h2 h3 G.T.bmain hobj hints (Nat.le_trans hlen hn2) hr h6 h4 fun H hH hS => h5 H a ns hlen hbits hH hS
end DL
/-! # DL: a layer of denotations over the hand layer. Data are trees (PyData); a def's slots hold data, or own a list of its own. -/
namespace DL
open PySem PySem.Spec PyProof.Rows L2
abbrev D := PyData
/-- the tables of code objects that may grow, each with the name that its code objects bear -/
class TabC (K : PySem.W.Frag) where
  T : List (Addr × Str)
  /-- where a class of errors lies -/
  err : Str → Addr
  /-- the error at hand in an except suite, its dict, its class -/
  cur : Addr
  curd : Addr
  curC : Str
/-- no such table -/
def nT (o : HO) : Prop := ∀ ps, o ≠ .tbl ps
/-- no such table, nor a code object -/
def nt (o : HO) : Prop := (∀ ps, o ≠ .tbl ps) ∧ ∀ f, o ≠ .ext f
theorem tabs_on {T : List (Addr × Str)} {H H' : Hp} (t : LamX.Tabs T H) (h : ∀ b o, H b = some o → ¬ nt o → H' b = some o) : LamX.Tabs T H' := fun p hp => by
  obtain ⟨ps, h1, h2, h3⟩ := t p hp
  refine ⟨ps, h _ _ h1 (fun z => z.1 ps rfl), h2, fun pos cv hc => ?_⟩
  obtain ⟨c, e1, e2⟩ := h3 pos cv hc
  refine ⟨c, e1, h _ _ e2 (fun z => ?_)⟩
  unfold LamX.CodeO at z
  exact z.2 _ rfl
theorem tabs_upd {T : List (Addr × Str)} {H : Hp} {p : Addr} {u o : HO} (t : LamX.Tabs T H) (hp : H p = some u) (hu : nt u) : LamX.Tabs T (upd H p o) := tabs_on t fun b w e n => by
  rw [upd_ne (fun z => by rw [z, hp] at e; cases e; exact n hu)]; exact e
/-- the code tables stand, and none of them is frozen -/
structure TabR (T : List (Addr × Str)) (G H : Hp) : Prop where
  t : LamX.Tabs T H
  g : ∀ p ∈ T, G p.1 = none
  n : ∀ a ps, G a ≠ some (.tbl ps)
theorem TabR.to {T : List (Addr × Str)} {G H G' H' : Hp} (h : TabR T G H) (t : LamX.Tabs T H') (n : ∀ a ps, G' a = some (.tbl ps) → G a = some (.tbl ps)) (k : ∀ a, G' a ≠ none → G a ≠ none ∨ ∀ ps, H a ≠ some (.tbl ps)) : TabR T G' H' := ⟨t, fun p hp => by
  obtain ⟨ps, h1, _⟩ := h.t p hp
  cases e : G' p.1 with
  | none => rfl
  | some o =>
    rcases k p.1 (by rw [e]; exact fun z => nomatch z) with q | q
    · exact absurd (h.g p hp) q
    · exact absurd h1 (q ps), fun a ps z => h.n a ps (n a ps z)⟩
theorem nt_no {H : Hp} {p : Addr} {u : HO} (hu : H p = some u) (n : nt u) : ∀ ps, H p ≠ some (.tbl ps) := fun ps z => by
  rw [hu] at z
  exact n.1 ps (Option.some.inj z)
theorem nt_lst {xs : List V} : nt (.lst xs) := ⟨fun _ z => (nomatch z), fun _ z => by have z' : _ = HO.ext _ := z; cases z'⟩
theorem nt_ins {C dx : Addr} {fs : List (Str × V)} : nt (.ins C dx fs) := ⟨fun _ z => (nomatch z), fun _ z => by have z' : _ = HO.ext _ := z; cases z'⟩
theorem nt_dK {kvs : List (Key × V)} : nt (.dK kvs) := ⟨fun _ z => (nomatch z), fun _ z => by have z' : _ = HO.ext _ := z; cases z'⟩
def kD : Key → D
  | .inl i => .int i
  | .inr s => .str s
/-! ### data in the frozen part of the heap -/
mutual
inductive DP (K : PySem.W.Frag) (G : Hp) : V → D → Prop
  | non : DP K G .non .none
  | bl (b : Bool) : DP K G (.bl b) (.bool b)
  | int (i : Int) : DP K G (.int i) (.int i)
  | str (x : Str) : DP K G (.str x) (.str x)
  | lst {a : Addr} {xs : List V} {ds : List D} : SqL K G a xs → DPs K G xs ds → DP K G (.ref a) (.list ds)
  | tup {a : Addr} {xs : List V} {ds : List D} : SqT K G a xs → DPs K G xs ds → DP K G (.ref a) (.tuple ds)
  | dic {a : Addr} {kvs : List (Key × V)} {es : List (D × D)} : Rd G a (.dK kvs) → DPk K G kvs es → DP K G (.ref a) (.dict es)
inductive DPs (K : PySem.W.Frag) (G : Hp) : List V → List D → Prop
  | nil : DPs K G [] []
  | cons {v : V} {vs : List V} {d : D} {ds : List D} : DP K G v d → DPs K G vs ds → DPs K G (v :: vs) (d :: ds)
inductive DPk (K : PySem.W.Frag) (G : Hp) : List (Key × V) → List (D × D) → Prop
  | nil : DPk K G [] []
  | cons {k : Key} {v : V} {vs : List (Key × V)} {d : D} {ds : List (D × D)} : DP K G v d → DPk K G vs ds → DPk K G ((k, v) :: vs) ((kD k, d) :: ds)
end
theorem Rd.same {G G' : Hp} {a : Addr} {u : HO} (s : Same G G') (h : Rd G a u) : Rd G' a u := by
  rcases h with h | ⟨o, h⟩
  · exact .inl (s _ _ h)
  · exact .inr ⟨o, s _ _ h⟩
theorem SqT.same {K : PySem.W.Frag} {G G' : Hp} {a : Addr} {xs : List V} (s : Same G G') (h : SqT K G a xs) : SqT K G' a xs := by
  rcases h with h | h
  · exact .inl (Rd.same s h)
  · exact .inr h
mutual
theorem DP.mono {K : PySem.W.Frag} {G G' : Hp} (s : Same G G') : ∀ {v : V} {d : D}, DP K G v d → DP K G' v d
  | _, _, .non => .non
  | _, _, .bl b => .bl b
  | _, _, .int i => .int i
  | _, _, .str x => .str x
  | _, _, .lst h1 h2 => .lst (s.seq h1) (DPs.mono s h2)
  | _, _, .tup h1 h2 => .tup (SqT.same s h1) (DPs.mono s h2)
  | _, _, .dic h1 h2 => .dic (Rd.same s h1) (DPk.mono s h2)
theorem DPs.mono {K : PySem.W.Frag} {G G' : Hp} (s : Same G G') : ∀ {vs : List V} {ds : List D}, DPs K G vs ds → DPs K G' vs ds
  | _, _, .nil => .nil
  | _, _, .cons h1 h2 => .cons (DP.mono s h1) (DPs.mono s h2)
theorem DPk.mono {K : PySem.W.Frag} {G G' : Hp} (s : Same G G') : ∀ {vs : List (Key × V)} {ds : List (D × D)}, DPk K G vs ds → DPk K G' vs ds
  | _, _, .nil => .nil
  | _, _, .cons h1 h2 => .cons (DP.mono s h1) (DPk.mono s h2)
end
theorem DPs.length {K : PySem.W.Frag} {G : Hp} : ∀ {vs : List V} {ds : List D}, DPs K G vs ds → vs.length = ds.length
  | _, _, .nil => rfl
  | _, _, .cons _ h => congrArg (· + 1) (DPs.length h)
theorem DPs.get {K : PySem.W.Frag} {G : Hp} : ∀ {vs : List V} {ds : List D} {i : Nat} {d : D}, DPs K G vs ds → ds[i]? = some d → ∃ v, vs[i]? = some v ∧ DP K G v d
  | _, _, _, _, .nil, e => by simp at e
  | _, _, 0, _, .cons h _, e => by simp at e; subst e; exact ⟨_, rfl, h⟩
  | _, _, i + 1, d, .cons _ h, e => by
    obtain ⟨v, h1, h2⟩ := DPs.get (i := i) (d := d) h (by simpa using e)
    exact ⟨v, by simpa using h1, h2⟩
theorem DPs.getV {K : PySem.W.Frag} {G : Hp} : ∀ {vs : List V} {ds : List D} {i : Nat} {v : V}, DPs K G vs ds → vs[i]? = some v → ∃ d, ds[i]? = some d ∧ DP K G v d
  | _, _, _, _, .nil, e => by simp at e
  | _, _, 0, _, .cons h _, e => by simp at e; subst e; exact ⟨_, rfl, h⟩
  | _, _, i + 1, v, .cons _ h, e => by
    obtain ⟨d, h1, h2⟩ := DPs.getV (i := i) (v := v) h (by simpa using e)
    exact ⟨d, by simpa using h1, h2⟩
theorem DPs.append {K : PySem.W.Frag} {G : Hp} : ∀ {vs ws : List V} {ds es : List D}, DPs K G vs ds → DPs K G ws es → DPs K G (vs ++ ws) (ds ++ es)
  | _, _, _, _, .nil, h => h
  | _, _, _, _, .cons h1 h2, h => .cons h1 (DPs.append h2 h)
theorem DPs.snoc {K : PySem.W.Frag} {G : Hp} {vs : List V} {ds : List D} {v : V} {d : D} (h : DPs K G vs ds) (h1 : DP K G v d) : DPs K G (vs ++ [v]) (ds ++ [d]) := DPs.append h (.cons h1 .nil)
theorem DPs.drop {K : PySem.W.Frag} {G : Hp} : ∀ {vs : List V} {ds : List D} (n : Nat), DPs K G vs ds → DPs K G (vs.drop n) (ds.drop n)
  | _, _, 0, h => h
  | _, _, n + 1, .nil => .nil
  | _, _, n + 1, .cons _ h => DPs.drop n h
theorem DPs.take {K : PySem.W.Frag} {G : Hp} : ∀ {vs : List V} {ds : List D} (n : Nat), DPs K G vs ds → DPs K G (vs.take n) (ds.take n)
  | _, _, 0, _ => .nil
  | _, _, n + 1, .nil => .nil
  | _, _, n + 1, .cons h1 h => .cons h1 (DPs.take n h)
theorem DPs.set {K : PySem.W.Frag} {G : Hp} {v : V} {d : D} (h1 : DP K G v d) : ∀ {vs : List V} {ds : List D} (n : Nat), DPs K G vs ds → DPs K G (vs.set n v) (ds.set n d)
  | _, _, _, .nil => .nil
  | _, _, 0, .cons _ h => .cons h1 h
  | _, _, n + 1, .cons h h2 => .cons h (DPs.set h1 n h2)
theorem DPs.reverse {K : PySem.W.Frag} {G : Hp} : ∀ {vs : List V} {ds : List D}, DPs K G vs ds → DPs K G vs.reverse ds.reverse
  | _, _, .nil => .nil
  | _, _, .cons h1 h => by rw [List.reverse_cons, List.reverse_cons]; exact DPs.snoc (DPs.reverse h) h1
/-- a list of whole numbers -/
theorem DPs.ints {K : PySem.W.Frag} {G : Hp} : ∀ {vs : List V} {ns : List Int}, DPs K G vs (ns.map .int) → vs = ns.map V.int
  | _, [], .nil => rfl
  | _, n :: ns, .cons h1 h => by cases h1; exact congrArg (V.int n :: ·) (DPs.ints h)
theorem DPs.of_ints {K : PySem.W.Frag} {G : Hp} : ∀ (ns : List Int), DPs K G (ns.map V.int) (ns.map .int)
  | [] => .nil
  | n :: ns => .cons (.int n) (DPs.of_ints ns)
theorem DPs.bools {K : PySem.W.Frag} {G : Hp} : ∀ {vs : List V} {ns : List Bool}, DPs K G vs (ns.map .bool) → vs = ns.map V.bl
  | _, [], .nil => rfl
  | _, n :: ns, .cons h1 h => by cases h1; exact congrArg (V.bl n :: ·) (DPs.bools h)
/-! ### what a slot holds -/
/-- where a global name's object lies (a class) -/
def errAt (K : PySem.W.Frag) (x : Str) : Addr := match PySem.W.nsIn K mainGlobals x with
  | some (some (.ref C)) => C
  | _ => 0
inductive Own where
  | lst (ds : List D)
  | ins (C : Str) (fs : List (Str × D))
  | dic (es : List (D × D))
def Fld (K : PySem.W.Frag) (G : Hp) : List (Str × V) → List (Str × D) → Prop
  | [], [] => True
  | (x, v) :: vs, (y, d) :: ds => x = y ∧ DP K G v d ∧ Fld K G vs ds
  | _, _ => False
theorem Fld.mono {K : PySem.W.Frag} {G G' : Hp} (s : Same G G') : ∀ {vs : List (Str × V)} {ds : List (Str × D)}, Fld K G vs ds → Fld K G' vs ds
  | [], [], _ => trivial
  | (_, _) :: _, (_, _) :: _, ⟨h1, h2, h3⟩ => ⟨h1, h2.mono s, Fld.mono s h3⟩
  | [], _ :: _, h => h.elim
  | _ :: _, [], h => h.elim
def OwnAt (K : PySem.W.Frag) (G H : Hp) (p : Addr) : Own → Prop
  | .lst ds => ∃ vs, H p = some (.lst vs) ∧ DPs K G vs ds
  | .ins C fs => ∃ dx vs, H p = some (.ins (errAt K C) dx vs) ∧ Fld K G vs fs
  | .dic es => ∃ kvs, H p = some (.dK kvs) ∧ DPk K G kvs es
theorem OwnAt.step {K : PySem.W.Frag} {G G' H H' : Hp} {p : Addr} (s : Same G G') : ∀ {o : Own}, (H' p = H p) → OwnAt K G H p o → OwnAt K G' H' p o
  | .lst _, e, ⟨vs, h1, h2⟩ => ⟨vs, by rw [e]; exact h1, h2.mono s⟩
  | .ins _ _, e, ⟨dx, vs, h1, h2⟩ => ⟨dx, vs, by rw [e]; exact h1, h2.mono s⟩
  | .dic _, e, ⟨kvs, h1, h2⟩ => ⟨kvs, by rw [e]; exact h1, h2.mono s⟩
theorem OwnAt.thereN {K : PySem.W.Frag} {G H : Hp} {p : Addr} : ∀ {o : Own}, OwnAt K G H p o → ∃ u, H p = some u ∧ nt u
  | .lst _, ⟨_, h, _⟩ => ⟨_, h, nt_lst⟩
  | .ins _ _, ⟨_, _, h, _⟩ => ⟨_, h, nt_ins⟩
  | .dic _, ⟨_, h, _⟩ => ⟨_, h, nt_dK⟩
theorem OwnAt.there {K : PySem.W.Frag} {G H : Hp} {p : Addr} {o : Own} (h : OwnAt K G H p o) : ∃ u, H p = some u := let ⟨u, e, _⟩ := h.thereN; ⟨u, e⟩
structure Exn where
  C : Str
  fld : Str
  d : D
inductive Sl where
  | non
  | val (d : D)
  | own (pin : Bool) (o : Own)
  | exn (x : Exn)
inductive RV where
  | val (d : D)
  | own (o : Own)
abbrev Rho := List Sl
/-- the error at hand in slot i -/
structure ExnAt (K : PySem.W.Frag) [TabC K] (G : Hp) (σ : L2.St) (i : Nat) (x : Exn) : Prop where
  at_ : σ[i]? = some (some (.ref (TabC.cur K)))
  cls : x.C = TabC.curC K
  fld : ∃ v, G (TabC.curd K) = some (.xd [(x.fld, v)]) ∧ DP K G v x.d
theorem ExnAt.mono {K : PySem.W.Frag} {tcK : TabC K} {G G' : Hp} {σ : L2.St} {i : Nat} {x : Exn} (h : ExnAt K G σ i x) (s : Same G G') : ExnAt K G' σ i x :=
  ⟨h.at_, h.cls, let ⟨v, h1, h2⟩ := h.fld; ⟨v, s _ _ h1, h2.mono s⟩⟩
theorem ExnAt.st {K : PySem.W.Frag} {tcK : TabC K} {G : Hp} {σ σ' : L2.St} {i : Nat} {x : Exn} (h : ExnAt K G σ i x) (e : σ'[i]? = σ[i]?) : ExnAt K G σ' i x := ⟨e.trans h.at_, h.cls, h.fld⟩
/-- slots and heap hold what is told: G the frozen part, as where the own things stand -/
structure Rel (K : PySem.W.Frag) [TabC K] (G : Hp) (as : Nat → Addr) (r : Rho) (σ : L2.St) (H : Hp) : Prop where
  le : Same G H
  len : r.length = σ.length
  val : ∀ (i : Nat) (d : D), r[i]? = some (Sl.val d) → ∃ v, σ[i]? = some (some v) ∧ DP K G v d
  own : ∀ (i : Nat) (p : Bool) (o : Own), r[i]? = some (Sl.own p o) → σ[i]? = some (some (.ref (as i))) ∧ OwnAt K G H (as i) o ∧ G (as i) = none
  inj : ∀ (i j : Nat) (p : Bool) (o : Own) (q : Bool) (u : Own), r[i]? = some (Sl.own p o) → r[j]? = some (Sl.own q u) → as i = as j → i = j
  tabs : TabR (TabC.T K) G H
  exn : ∀ (i : Nat) (x : Exn), r[i]? = some (Sl.exn x) → ExnAt K G σ i x
def Owned (as : Nat → Addr) (r : Rho) (a : Addr) : Prop := ∃ (i : Nat) (p : Bool) (o : Own), r[i]? = some (Sl.own p o) ∧ as i = a
def Owned0 (as : Nat → Addr) (r : Rho) (a : Addr) : Prop := ∃ (i : Nat) (o : Own), r[i]? = some (Sl.own false o) ∧ as i = a
theorem Owned0.owned {as : Nat → Addr} {r : Rho} {a : Addr} (h : Owned0 as r a) : Owned as r a := let ⟨i, o, e, z⟩ := h; ⟨i, false, o, e, z⟩
theorem Rel.owned_there {K : PySem.W.Frag} {tcK : TabC K} {G H : Hp} {as : Nat → Addr} {r : Rho} {σ : L2.St} {a : Addr} (R : Rel K G as r σ H) (h : Owned as r a) : ∃ u, H a = some u := by
  obtain ⟨i, p, o, e, rfl⟩ := h
  exact (R.own i p o e).2.1.there
/-- from one state to a later one -/
structure Stp (G : Hp) (as : Nat → Addr) (r : Rho) (H G' : Hp) (as' : Nat → Addr) (r' : Rho) (H' : Hp) : Prop where
  g : Same G G'
  fr : ∀ a, G' a ≠ none → G a ≠ none ∨ H a = none ∨ Owned0 as r a
  keep : ∀ a o, H a = some o → ¬ Owned as r a → nT o → H' a = some o
  alive : ∀ a, H a ≠ none → H' a ≠ none
  own : ∀ a, Owned as' r' a → Owned as r a ∨ H a = none
  pin : ∀ (i : Nat) (o : Own), r[i]? = some (Sl.own true o) → as' i = as i ∧ ∃ o', r'[i]? = some (Sl.own true o')
theorem Stp.refl {G : Hp} {as : Nat → Addr} {r : Rho} {H : Hp} : Stp G as r H G as r H :=
  ⟨Same.refl G, fun _ h => .inl h, fun _ _ h _ _ => h, fun _ h => h, fun _ h => .inl h, fun _ o h => ⟨rfl, o, h⟩⟩
theorem Stp.trans {K : PySem.W.Frag} {tcK : TabC K} {G G1 G2 : Hp} {as as1 as2 : Nat → Addr} {r r1 r2 : Rho} {H H1 H2 : Hp} {σ1 : L2.St} (R1 : Rel K G1 as1 r1 σ1 H1)
    (a : Stp G as r H G1 as1 r1 H1) (b : Stp G1 as1 r1 H1 G2 as2 r2 H2) : Stp G as r H G2 as2 r2 H2 where
  g := a.g.trans b.g
  fr := fun x h => by
    rcases b.fr x h with h | h | h
    · exact a.fr x h
    · refine .inr (.inl ?_)
      cases e : H x with
      | none => rfl
      | some o => exact absurd h (a.alive x (by rw [e]; exact fun z => nomatch z))
    · rcases a.own x h.owned with q | q
      · obtain ⟨i, p, o, e, rfl⟩ := q
        cases p with
        | false => exact .inr (.inr ⟨i, o, e, rfl⟩)
        | true =>
          obtain ⟨e1, o', e2⟩ := a.pin i o e
          obtain ⟨j, o2, e3, e4⟩ := h
          have : i = j := R1.inj i j _ _ _ _ e2 e3 (by rw [e1, e4])
          subst this
          rw [e2] at e3; cases e3
      · exact .inr (.inl q)
  keep := fun x o h n nn => b.keep x o (a.keep x o h n nn) (fun z => by
    rcases a.own x z with q | q
    · exact n q
    · rw [h] at q; cases q) nn
  alive := fun x h => b.alive x (a.alive x h)
  own := fun x h => by
    rcases b.own x h with q | q
    · exact a.own x q
    · refine .inr ?_
      cases e : H x with
      | none => rfl
      | some o => exact absurd q (a.alive x (by rw [e]; exact fun z => nomatch z))
  pin := fun i o h => by
    obtain ⟨e1, o1, h1⟩ := a.pin i o h
    obtain ⟨e2, o2, h2⟩ := b.pin i o1 h1
    exact ⟨e2.trans e1, o2, h2⟩
/-- the value of an expression: data, or an own thing that nobody else holds -/
def RVat (K : PySem.W.Frag) (as0 : Nat → Addr) (r0 : Rho) (H0 : Hp) (G : Hp) (as : Nat → Addr) (r : Rho) (H : Hp) (v : V) : RV → Prop
  | .val d => DP K G v d
  | .own o => ∃ p, v = .ref p ∧ OwnAt K G H p o ∧ G p = none ∧ ¬ Owned as r p ∧ (H0 p = none ∨ Owned0 as0 r0 p)
theorem RVat.back {K : PySem.W.Frag} {tcK : TabC K} {G0 G1 G2 : Hp} {as as1 as2 : Nat → Addr} {r r1 r2 : Rho} {H H1 H2 : Hp} {σ1 : L2.St} {v : V} {rv : RV} (R1 : Rel K G1 as1 r1 σ1 H1) (S : Stp G0 as r H G1 as1 r1 H1)
    (h : RVat K as1 r1 H1 G2 as2 r2 H2 v rv) : RVat K as r H G2 as2 r2 H2 v rv := by
  cases rv with
  | val d => exact h
  | own o =>
    obtain ⟨p, e, h1, h2, h3, h4⟩ := h
    refine ⟨p, e, h1, h2, h3, ?_⟩
    rcases h4 with h4 | h4
    · refine .inl ?_
      cases e : H p with
      | none => rfl
      | some o => exact absurd h4 (S.alive p (by rw [e]; exact fun z => nomatch z))
    · rcases S.own p h4.owned with q | q
      · obtain ⟨i, pn, o', e, rfl⟩ := q
        cases pn with
        | false => exact .inr ⟨i, o', e, rfl⟩
        | true =>
          obtain ⟨e1, o2, e2⟩ := S.pin i o' e
          obtain ⟨j, o3, e3, e4⟩ := h4
          have : i = j := R1.inj i j _ _ _ _ e2 e3 (by rw [e1, e4])
          subst this
          rw [e2] at e3; cases e3
      · exact .inl q
/-! ### outcomes -/
/-- an end: a value, an exception with the slots as they are then, or nothing told -/
inductive Res (α : Type) where
  | ok (a : α)
  | ex (x : Exn × Rho)
  | no
def Res.bind {α β : Type} : Res α → (α → Res β) → Res β
  | .ok a, f => f a
  | .ex x, _ => .ex x
  | .no, _ => .no
def Wp {α : Type} (m : Res α) (P : α → Prop) (E : Exn × Rho → Prop) : Prop := match m with
  | .ok a => P a
  | .ex x => E x
  | .no => False
theorem Wp.bind {α β : Type} {m : Res α} {f : α → Res β} {P : β → Prop} {E : Exn × Rho → Prop} (h : Wp (m.bind f) P E) : Wp m (fun a => Wp (f a) P E) E := by
  cases m with
  | ok a => exact h
  | ex x => exact h
  | no => exact h
theorem Wp.mono {α : Type} {m : Res α} {P P' : α → Prop} {E E' : Exn × Rho → Prop} (h : Wp m P E) (hP : ∀ a, P a → P' a) (hE : ∀ x, E x → E' x) : Wp m P' E' := by
  cases m with
  | ok a => exact hP a h
  | ex x => exact hE x h
  | no => exact h
/-- what is wanted of an exception -/
def ExAt (K : PySem.W.Frag) (as' : Nat → Addr) (r' : Rho) (H G' H' : Hp) (x : Exn) (xd : Addr) : Prop :=
  ∃ v, H' xd = some (.xd [(x.fld, v)]) ∧ H xd = none ∧ ¬ Owned as' r' xd ∧ DP K G' v x.d
def XPost (K : PySem.W.Frag) [TabC K] (G : Hp) (as : Nat → Addr) (r : Rho) (σ : L2.St) (H : Hp) (E : WX) (x : Exn × Rho) : Prop :=
  ∀ G' H' xd, Stp G as r H G' as x.2 H' → Rel K G' as x.2 σ H' → ExAt K as x.2 H G' H' x.1 xd → E (.ref (TabC.err K x.1.C)) (some xd) σ H'
/-- .. of a statement -/
def YPost (K : PySem.W.Frag) [TabC K] (G : Hp) (as : Nat → Addr) (r : Rho) (H : Hp) (E : WX) (x : Exn × Rho) : Prop :=
  ∀ G' as' σ' H' xd, Stp G as r H G' as' x.2 H' → Rel K G' as' x.2 σ' H' → ExAt K as' x.2 H G' H' x.1 xd → E (.ref (TabC.err K x.1.C)) (some xd) σ' H'
theorem YPost.x {K : PySem.W.Frag} {tcK : TabC K} {G : Hp} {as : Nat → Addr} {r : Rho} {σ : L2.St} {H : Hp} {E : WX} {x : Exn × Rho} (h : YPost K G as r H E x) : XPost K G as r σ H E x := fun G' H' xd S R e => h G' as σ H' xd S R e
def EPost (K : PySem.W.Frag) [TabC K] (G : Hp) (as : Nat → Addr) (r : Rho) (σ : L2.St) (H : Hp) (Q : VK) (a : RV × Rho) : Prop :=
  ∀ G' H' v, Stp G as r H G' as a.2 H' → Rel K G' as a.2 σ H' → RVat K as r H G' as a.2 H' v a.1 → Q v H'
def DPost (K : PySem.W.Frag) [TabC K] (G : Hp) (as : Nat → Addr) (r : Rho) (σ : L2.St) (H : Hp) (Q : VK) (a : D × Rho) : Prop :=
  ∀ G' H' v, Stp G as r H G' as a.2 H' → Rel K G' as a.2 σ H' → DP K G' v a.1 → Q v H'
def APost (K : PySem.W.Frag) [TabC K] (G : Hp) (as : Nat → Addr) (r : Rho) (σ : L2.St) (H : Hp) (Q : List V → Hp → Prop) (a : List D × Rho) : Prop :=
  ∀ G' H' vs, Stp G as r H G' as a.2 H' → Rel K G' as a.2 σ H' → DPs K G' vs a.1 → Q vs H'
def TPost (K : PySem.W.Frag) [TabC K] (G : Hp) (as : Nat → Addr) (r : Rho) (σ : L2.St) (H : Hp) (Q : Bool → Hp → Prop) (a : Bool × Rho) : Prop :=
  ∀ G' H', Stp G as r H G' as a.2 H' → Rel K G' as a.2 σ H' → Q a.1 H'
inductive Fl where
  | nx | bk | ct
  | rt (rv : RV)
def SPost (K : PySem.W.Frag) [TabC K] (G : Hp) (as : Nat → Addr) (r : Rho) (H : Hp) (D : Ends) (a : Fl × Rho) : Prop := match a.1 with
  | .nx => ∀ G' as' σ' H', Stp G as r H G' as' a.2 H' → Rel K G' as' a.2 σ' H' → D.nx σ' H'
  | .bk => ∀ G' as' σ' H', Stp G as r H G' as' a.2 H' → Rel K G' as' a.2 σ' H' → D.bk σ' H'
  | .ct => ∀ G' as' σ' H', Stp G as r H G' as' a.2 H' → Rel K G' as' a.2 σ' H' → D.ct σ' H'
  | .rt rv => ∀ G' as' σ' H' v, Stp G as r H G' as' a.2 H' → Rel K G' as' a.2 σ' H' → RVat K as r H G' as' a.2 H' v rv → D.rt v H'
abbrev M (α : Type) := Rho → Res (α × Rho)
abbrev SM := Rho → Res (Fl × Rho)
def AbsE (K : PySem.W.Frag) [TabC K] (E : WX) (t : TE) (m : M RV) : Prop :=
  ∀ G as r σ H Q, Rel K G as r σ H → Wp (m r) (EPost K G as r σ H Q) (XPost K G as r σ H E) → t σ H Q
def AbsD (K : PySem.W.Frag) [TabC K] (E : WX) (t : TE) (m : M D) : Prop :=
  ∀ G as r σ H Q, Rel K G as r σ H → Wp (m r) (DPost K G as r σ H Q) (XPost K G as r σ H E) → t σ H Q
def AbsA (K : PySem.W.Frag) [TabC K] (E : WX) (t : TA) (m : M (List D)) : Prop :=
  ∀ G as r σ H Q, Rel K G as r σ H → Wp (m r) (APost K G as r σ H Q) (XPost K G as r σ H E) → t σ H Q
def AbsT (K : PySem.W.Frag) [TabC K] (E : WX) (t : TT) (m : M Bool) : Prop :=
  ∀ G as r σ H Q, Rel K G as r σ H → Wp (m r) (TPost K G as r σ H Q) (XPost K G as r σ H E) → t σ H Q
def AbsS (K : PySem.W.Frag) [TabC K] (E : WX) (t : TS) (m : SM) : Prop :=
  ∀ G as r σ H D, Rel K G as r σ H → Wp (m r) (SPost K G as r H D) (YPost K G as r H E) → t D σ H
/-! ### moving the wishes along -/
section
variable {K : PySem.W.Frag} {tcK : TabC K} {G G1 : Hp} {as as1 : Nat → Addr} {r r1 : Rho} {σ σ1 : L2.St} {H H1 : Hp} {E : WX}
theorem ExAt.on {as' : Nat → Addr} {r' : Rho} {G' H' : Hp} {x : Exn} {xd : Addr} (S : Stp G as r H G1 as1 r1 H1) (h : ExAt K as' r' H1 G' H' x xd) : ExAt K as' r' H G' H' x xd := by
  obtain ⟨v, h1, h2, h3, h4⟩ := h
  refine ⟨v, h1, ?_, h3, h4⟩
  cases e : H xd with
  | none => rfl
  | some o => exact absurd h2 (S.alive xd (by rw [e]; exact fun z => nomatch z))
theorem XPost.on (R1 : Rel K G1 as r1 σ H1) (S : Stp G as r H G1 as r1 H1) {x : Exn × Rho} (h : XPost K G as r σ H E x) : XPost K G1 as r1 σ H1 E x :=
  fun G' H' xd S' R' e => h G' H' xd (S.trans R1 S') R' (e.on S)
theorem YPost.on (R1 : Rel K G1 as1 r1 σ1 H1) (S : Stp G as r H G1 as1 r1 H1) {x : Exn × Rho} (h : YPost K G as r H E x) : YPost K G1 as1 r1 H1 E x :=
  fun G' as' σ' H' xd S' R' e => h G' as' σ' H' xd (S.trans R1 S') R' (e.on S)
theorem EPost.on (R1 : Rel K G1 as r1 σ H1) (S : Stp G as r H G1 as r1 H1) {Q : VK} {a : RV × Rho} (h : EPost K G as r σ H Q a) : EPost K G1 as r1 σ H1 Q a :=
  fun G' H' v S' R' h1 => h G' H' v (S.trans R1 S') R' (RVat.back R1 S h1)
theorem DPost.on (R1 : Rel K G1 as r1 σ H1) (S : Stp G as r H G1 as r1 H1) {Q : VK} {a : D × Rho} (h : DPost K G as r σ H Q a) : DPost K G1 as r1 σ H1 Q a :=
  fun G' H' v S' R' h1 => h G' H' v (S.trans R1 S') R' h1
theorem APost.on (R1 : Rel K G1 as r1 σ H1) (S : Stp G as r H G1 as r1 H1) {Q : List V → Hp → Prop} {a : List D × Rho} (h : APost K G as r σ H Q a) : APost K G1 as r1 σ H1 Q a :=
  fun G' H' v S' R' h1 => h G' H' v (S.trans R1 S') R' h1
theorem TPost.on (R1 : Rel K G1 as r1 σ H1) (S : Stp G as r H G1 as r1 H1) {Q : Bool → Hp → Prop} {a : Bool × Rho} (h : TPost K G as r σ H Q a) : TPost K G1 as r1 σ H1 Q a :=
  fun G' H' S' R' => h G' H' (S.trans R1 S') R'
theorem SPost.on (R1 : Rel K G1 as1 r1 σ1 H1) (S : Stp G as r H G1 as1 r1 H1) {D : Ends} {a : Fl × Rho} (h : SPost K G as r H D a) : SPost K G1 as1 r1 H1 D a := by
  obtain ⟨f, r'⟩ := a
  cases f with
  | nx => exact fun G' as' σ' H' S' R' => h G' as' σ' H' (S.trans R1 S') R'
  | bk => exact fun G' as' σ' H' S' R' => h G' as' σ' H' (S.trans R1 S') R'
  | ct => exact fun G' as' σ' H' S' R' => h G' as' σ' H' (S.trans R1 S') R'
  | rt rv => exact fun G' as' σ' H' v S' R' h1 => h G' as' σ' H' v (S.trans R1 S') R' (RVat.back R1 S h1)
end
/-! ### new frozen objects -/
/-- the heap has grown by new things, some of them frozen -/
structure Grow (G H G' H' : Hp) : Prop where
  g : Same G G'
  h : Same H H'
  fr : ∀ a, G' a ≠ none → G a ≠ none ∨ H a = none
  le : Same G' H'
  n : ∀ a ps, G' a = some (.tbl ps) → G a = some (.tbl ps)
theorem Grow.refl {G H : Hp} (le : Same G H) : Grow G H G H := ⟨Same.refl G, Same.refl H, fun _ h => .inl h, le, fun _ _ z => z⟩
theorem no_tbl_upd {G : Hp} {p : Addr} {o : HO} (ho : ∀ ps, o ≠ .tbl ps) (a : Addr) (ps : Array Value) (z : upd G p o a = some (.tbl ps)) : G a = some (.tbl ps) := by
  by_cases h : a = p
  · rw [h, upd_same] at z
    exact absurd (Option.some.inj z) (ho ps)
  · rw [upd_ne h] at z
    exact z
theorem Grow.new {G H : Hp} (le : Same G H) {p : Addr} (hp : H p = none) (o : HO) (ho : ∀ ps, o ≠ .tbl ps := by exact fun _ z => nomatch z) : Grow G H (upd G p o) (upd H p o) := by
  have gp : G p = none := le.free hp
  refine ⟨fun b u e => ?_, fun b u e => ?_, fun b e => ?_, fun b u e => ?_, no_tbl_upd ho⟩
  · rw [upd_ne (ne_of_none e gp)]; exact e
  · rw [upd_ne (ne_of_none e hp)]; exact e
  · by_cases hb : b = p
    · subst hb; exact .inr hp
    · rw [upd_ne hb] at e; exact .inl e
  · by_cases hb : b = p
    · subst hb; rw [upd_same] at e ⊢; exact e
    · rw [upd_ne hb] at e ⊢; exact le b u e
/-- a new object that is not frozen -/
theorem Grow.bare {G H : Hp} (le : Same G H) {p : Addr} (hp : H p = none) (o : HO) : Grow G H G (upd H p o) := by
  refine ⟨Same.refl G, fun b u e => ?_, fun b e => .inl e, fun b u e => ?_, fun _ _ z => z⟩
  · rw [upd_ne (ne_of_none e hp)]; exact e
  · rw [upd_ne (ne_of_none e (le.free hp))]; exact le b u e
section
variable {K : PySem.W.Frag} {tcK : TabC K} {G G' : Hp} {as : Nat → Addr} {r : Rho} {σ : L2.St} {H H' : Hp}
theorem Grow.rel (g : Grow G H G' H') (R : Rel K G as r σ H) : Rel K G' as r σ H' := by
  refine ⟨g.le, R.len, fun i d e => ?_, fun i p o e => ?_, R.inj, R.tabs.to (R.tabs.t.ext g.h) g.n fun a ha => (g.fr a ha).elim .inl (fun q => .inr fun ps z => by rw [q] at z; cases z), fun i x e => (R.exn i x e).mono g.g⟩
  · obtain ⟨v, h1, h2⟩ := R.val i d e
    exact ⟨v, h1, h2.mono g.g⟩
  · obtain ⟨h1, h2, h3⟩ := R.own i p o e
    obtain ⟨u, hu⟩ := h2.there
    refine ⟨h1, h2.step g.g (by rw [hu]; exact g.h _ _ hu), ?_⟩
    cases q : G' (as i) with
    | none => rfl
    | some w =>
      rcases g.fr (as i) (by rw [q]; exact fun z => nomatch z) with z | z
      · exact absurd h3 z
      · rw [hu] at z; cases z
theorem Grow.stp (g : Grow G H G' H') (R : Rel K G as r σ H) : Stp G as r H G' as r H' :=
  ⟨g.g, fun a h => (g.fr a h).elim .inl fun z => .inr (.inl z), fun a o h _ _ => g.h a o h, (fun a h => by
    cases e : H a with
    | none => exact absurd e h
    | some o => rw [g.h a o e]; exact fun z => nomatch z), fun a h => .inl h, fun i o h => ⟨rfl, o, h⟩⟩
end
/-! ### freezing -/
/-- a result as data -/
def fzR : RV → Res D
  | .val d => .ok d
  | .own (.lst ds) => .ok (.list ds)
  | .own (.dic es) => .ok (.dict es)
  | .own (.ins _ _) => .no
def fz (m : M RV) : M D := fun r => (m r).bind fun a => (fzR a.1).bind fun d => .ok (d, a.2)
theorem freeze {K : PySem.W.Frag} {tcK : TabC K} {G0 G : Hp} {as : Nat → Addr} {r0 r : Rho} {σ : L2.St} {H0 H : Hp} {v : V} {rv : RV} {d : D} (S : Stp G0 as r0 H0 G as r H) (R : Rel K G as r σ H) (h : RVat K as r0 H0 G as r H v rv) (e : fzR rv = .ok d) :
    ∃ G', Stp G0 as r0 H0 G' as r H ∧ Rel K G' as r σ H ∧ DP K G' v d := by
  have main : ∀ (p : Addr) (u : HO), H p = some u → nt u → G p = none → ¬ Owned as r p → (H0 p = none ∨ Owned0 as r0 p) → Same G (upd G p u) ∧ Stp G0 as r0 H0 (upd G p u) as r H ∧ Rel K (upd G p u) as r σ H := by
    intro p u hu hnt hg hn hf
    have sg : Same G (upd G p u) := fun b o e => by rw [upd_ne (ne_of_none e hg)]; exact e
    refine ⟨sg, ⟨S.g.trans sg, fun a ha => ?_, S.keep, S.alive, S.own, S.pin⟩, ⟨fun b o e => ?_, R.len, fun i d e => ?_, fun i q o e => ?_, R.inj, R.tabs.to R.tabs.t (no_tbl_upd fun ps z => hnt.1 ps z) fun a ha => (by
      by_cases hap : a = p
      · rw [hap]; exact .inr (nt_no hu hnt)
      · rw [upd_ne hap] at ha; exact .inl ha), fun i x e => (R.exn i x e).mono sg⟩⟩
    · by_cases ha' : a = p
      · subst ha'; exact .inr hf
      · rw [upd_ne ha'] at ha; exact S.fr a ha
    · by_cases hb : b = p
      · subst hb; rw [upd_same] at e; rw [hu]; exact e
      · rw [upd_ne hb] at e; exact R.le b o e
    · obtain ⟨v, h1, h2⟩ := R.val i d e
      exact ⟨v, h1, h2.mono sg⟩
    · obtain ⟨h1, h2, h3⟩ := R.own i q o e
      refine ⟨h1, h2.step sg rfl, ?_⟩
      rw [upd_ne fun z => hn ⟨i, q, o, e, z⟩]; exact h3
  cases rv with
  | val d' =>
    have e' : d' = d := by cases e; rfl
    subst e'
    exact ⟨G, S, R, h⟩
  | own o =>
    obtain ⟨p, rfl, h1, h2, h3, h4⟩ := h
    cases o with
    | lst ds =>
      cases e
      obtain ⟨vs, a1, a2⟩ := h1
      obtain ⟨sg, S', R'⟩ := main p _ a1 nt_lst h2 h3 h4
      exact ⟨_, S', R', .lst (.inl (.inl upd_same)) (a2.mono sg)⟩
    | dic es =>
      cases e
      obtain ⟨vs, a1, a2⟩ := h1
      obtain ⟨sg, S', R'⟩ := main p _ a1 nt_dK h2 h3 h4
      exact ⟨_, S', R', .dic (.inl upd_same) (a2.mono sg)⟩
    | ins C fs => cases e
theorem AbsE.fz {K : PySem.W.Frag} {tcK : TabC K} {E : WX} {t : TE} {m : M RV} (h : AbsE K E t m) : AbsD K E t (fz m) := by
  intro G as r σ H Q R w
  refine h G as r σ H Q R ((Wp.bind w).mono (fun a w' => ?_) fun _ z => z)
  obtain ⟨rv, r'⟩ := a
  intro G' H' v S' R' hv
  cases e : fzR rv with
  | ok d =>
    simp only [e, Res.bind, Wp] at w'
    obtain ⟨G2, S2, R2, h2⟩ := freeze S' R' hv e
    exact w' G2 H' v S2 R2 h2
  | ex x => cases rv with
    | val d => cases e
    | own o => cases o <;> cases e
  | no => simp only [e, Res.bind, Wp] at w'
def ofD (m : M D) : M RV := fun r => (m r).bind fun a => .ok (.val a.1, a.2)
theorem AbsD.rv {K : PySem.W.Frag} {tcK : TabC K} {E : WX} {t : TE} {m : M D} (h : AbsD K E t m) : AbsE K E t (ofD m) := by
  intro G as r σ H Q R w
  refine h G as r σ H Q R ((Wp.bind w).mono (fun a w' => ?_) fun _ z => z)
  intro G' H' v S' R' hv
  exact w' G' H' v S' R' hv
end DL
/-! # DL2: rules of statements and of the expressions' frame -/
namespace DL
open PySem PySem.Spec PyProof.Rows L2
/-- no exception is let out -/
def W0 : WX := fun _ _ _ _ => False
/-! ### slots changed -/
def free (r : Rho) (i : Nat) : Bool := match r[i]? with
  | some (.own true _) => false
  | some _ => true
  | none => false
theorem free_lt {r : Rho} {i : Nat} (h : free r i = true) : i < r.length := by
  unfold free at h
  cases e : r[i]? with
  | none => rw [e] at h; cases h
  | some s => exact (List.getElem?_eq_some_iff.mp e).1
theorem free_pin {r : Rho} {i : Nat} {o : Own} (h : free r i = true) : r[i]? ≠ some (.own true o) := by
  intro e
  unfold free at h
  rw [e] at h
  cases h
section
variable {K : PySem.W.Frag} {tcK : TabC K} {G : Hp} {as : Nat → Addr} {r : Rho} {σ : L2.St} {H : Hp}
theorem set_get {α : Type} {l : List α} {i j : Nat} {x y : α} (h : (l.set i x)[j]? = some y) : (i = j ∧ y = x) ∨ (i ≠ j ∧ l[j]? = some y) := by
  by_cases e : i = j
  · subst e
    by_cases hl : i < l.length
    · rw [List.getElem?_set_self hl] at h; exact .inl ⟨rfl, (Option.some.inj h).symm⟩
    · rw [List.getElem?_eq_none (by simpa using hl)] at h; cases h
  · rw [List.getElem?_set_ne e] at h
    exact .inr ⟨e, h⟩
theorem exn_set (R : Rel K G as r σ H) {i : Nat} {s : Sl} {v : Option V} (hs : ∀ x, s ≠ .exn x) : ∀ (j : Nat) (x : Exn), (r.set i s)[j]? = some (.exn x) → ExnAt K G (σ.set i v) j x := fun j x e => by
  rcases set_get e with ⟨_, z⟩ | ⟨hne, e⟩
  · exact absurd z.symm (hs x)
  · exact (R.exn j x e).st (List.getElem?_set_ne hne)
theorem exn_setN (R : Rel K G as r σ H) {i : Nat} {s : Sl} (hs : ∀ x, s ≠ .exn x) : ∀ (j : Nat) (x : Exn), (r.set i s)[j]? = some (.exn x) → ExnAt K G σ j x := fun j x e => by
  rcases set_get e with ⟨_, z⟩ | ⟨hne, e⟩
  · exact absurd z.symm (hs x)
  · exact R.exn j x e
/-- a slot gets data -/
theorem Rel.setV (R : Rel K G as r σ H) {i : Nat} {v : V} {d : D} (hi : free r i = true) (h : DP K G v d) : Rel K G as (r.set i (.val d)) (σ.set i (some v)) H := by
  have hil : i < σ.length := by rw [← R.len]; exact free_lt hi
  refine ⟨R.le, by rw [List.length_set, List.length_set]; exact R.len, fun j d' e => ?_, fun j p o e => ?_, fun j k p o q u e1 e2 => ?_, R.tabs, exn_set R fun _ z => nomatch z⟩
  · rcases set_get e with ⟨rfl, z⟩ | ⟨hne, e⟩
    · cases z; exact ⟨v, by rw [List.getElem?_set_self hil], h⟩
    · rw [List.getElem?_set_ne hne]; exact R.val j d' e
  · rcases set_get e with ⟨rfl, z⟩ | ⟨hne, e⟩
    · cases z
    · rw [List.getElem?_set_ne hne]; exact R.own j p o e
  · rcases set_get e1 with ⟨rfl, z⟩ | ⟨_, e1⟩
    · cases z
    · rcases set_get e2 with ⟨rfl, z⟩ | ⟨_, e2⟩
      · cases z
      · exact R.inj j k p o q u e1 e2
theorem Stp.setV (R : Rel K G as r σ H) {i : Nat} {d : D} (hi : free r i = true) : Stp G as r H G as (r.set i (.val d)) H := by
  refine ⟨Same.refl G, fun _ h => .inl h, fun _ _ h _ _ => h, fun _ h => h, fun a h => ?_, fun j o e => ⟨rfl, o, ?_⟩⟩
  · obtain ⟨j, p, o, e, z⟩ := h
    rcases set_get e with ⟨rfl, q⟩ | ⟨_, e⟩
    · cases q
    · exact .inl ⟨j, p, o, e, z⟩
  · have hne : i ≠ j := fun z => by subst z; exact free_pin hi e
    rw [List.getElem?_set_ne hne]; exact e
/-- a slot is forgotten -/
theorem Rel.setN (R : Rel K G as r σ H) {i : Nat} : Rel K G as (r.set i .non) σ H := by
  refine ⟨R.le, by rw [List.length_set]; exact R.len, fun j d' e => ?_, fun j p o e => ?_, fun j k p o q u e1 e2 => ?_, R.tabs, exn_setN R fun _ z => nomatch z⟩
  · rcases set_get e with ⟨rfl, z⟩ | ⟨hne, e⟩
    · cases z
    · exact R.val j d' e
  · rcases set_get e with ⟨rfl, z⟩ | ⟨hne, e⟩
    · cases z
    · exact R.own j p o e
  · rcases set_get e1 with ⟨rfl, z⟩ | ⟨_, e1⟩
    · cases z
    · rcases set_get e2 with ⟨rfl, z⟩ | ⟨_, e2⟩
      · cases z
      · exact R.inj j k p o q u e1 e2
theorem Stp.setN (R : Rel K G as r σ H) {i : Nat} (hi : free r i = true) : Stp G as r H G as (r.set i .non) H := by
  refine ⟨Same.refl G, fun _ h => .inl h, fun _ _ h _ _ => h, fun _ h => h, fun a h => ?_, fun j o e => ⟨rfl, o, ?_⟩⟩
  · obtain ⟨j, p, o, e, z⟩ := h
    rcases set_get e with ⟨rfl, q⟩ | ⟨_, e⟩
    · cases q
    · exact .inl ⟨j, p, o, e, z⟩
  · have hne : i ≠ j := fun z => by subst z; exact free_pin hi e
    rw [List.getElem?_set_ne hne]; exact e
def upA (as : Nat → Addr) (i : Nat) (p : Addr) : Nat → Addr := fun j => if j = i then p else as j
theorem upA_same {i : Nat} {p : Addr} : upA as i p i = p := if_pos rfl
theorem upA_ne {i j : Nat} {p : Addr} (h : j ≠ i) : upA as i p j = as j := if_neg h
/-- a slot gets a thing of its own -/
theorem Rel.setO (R : Rel K G as r σ H) {i : Nat} {p : Addr} {o : Own} (hi : free r i = true) (h : OwnAt K G H p o) (hg : G p = none) (hn : ¬ Owned as r p) :
    Rel K G (upA as i p) (r.set i (.own false o)) (σ.set i (some (.ref p))) H := by
  have hil : i < σ.length := by rw [← R.len]; exact free_lt hi
  refine ⟨R.le, by rw [List.length_set, List.length_set]; exact R.len, fun j d' e => ?_, fun j q u e => ?_, fun j k q u q' u' e1 e2 e3 => ?_, R.tabs, exn_set R fun _ z => nomatch z⟩
  · rcases set_get e with ⟨rfl, z⟩ | ⟨hne, e⟩
    · cases z
    · rw [List.getElem?_set_ne hne]; exact R.val j d' e
  · rcases set_get e with ⟨rfl, z⟩ | ⟨hne, e⟩
    · cases z
      rw [upA_same]
      exact ⟨by rw [List.getElem?_set_self hil], h, hg⟩
    · rw [List.getElem?_set_ne hne, upA_ne (Ne.symm hne)]; exact R.own j q u e
  · rcases set_get e1 with ⟨h1, z1⟩ | ⟨h1, e1⟩
    · rcases set_get e2 with ⟨h2, z2⟩ | ⟨h2, e2⟩
      · rw [← h1, ← h2]
      · subst h1
        rw [upA_same, upA_ne (Ne.symm h2)] at e3
        exact absurd ⟨k, q', u', e2, e3.symm⟩ hn
    · rcases set_get e2 with ⟨h2, z2⟩ | ⟨h2, e2⟩
      · subst h2
        rw [upA_same, upA_ne (Ne.symm h1)] at e3
        exact absurd ⟨j, q, u, e1, e3⟩ hn
      · rw [upA_ne (Ne.symm h1), upA_ne (Ne.symm h2)] at e3
        exact R.inj j k q u q' u' e1 e2 e3
end
/-- the stores of a result -/
def toSl : RV → Sl
  | .val d => .val d
  | .own o => .own false o
theorem store {K : PySem.W.Frag} {tcK : TabC K} {G0 G : Hp} {as0 as : Nat → Addr} {r0 r : Rho} {σ : L2.St} {H0 H : Hp} {i : Nat} {v : V} {rv : RV} (S : Stp G0 as0 r0 H0 G as r H) (R : Rel K G as r σ H) (hi : free r i = true) (h : RVat K as0 r0 H0 G as r H v rv) :
    ∃ as', Stp G0 as0 r0 H0 G as' (r.set i (toSl rv)) H ∧ Rel K G as' (r.set i (toSl rv)) (σ.set i (some v)) H := by
  cases rv with
  | val d => exact ⟨as, S.trans R (Stp.setV R hi), R.setV hi h⟩
  | own o =>
    obtain ⟨p, rfl, h1, h2, h3, h4⟩ := h
    refine ⟨upA as i p, ⟨S.g, S.fr, S.keep, S.alive, fun a ha => ?_, fun j o' e => ?_⟩, R.setO hi h1 h2 h3⟩
    · obtain ⟨j, q, u, e, z⟩ := ha
      rcases set_get e with ⟨h5, _⟩ | ⟨hne, e⟩
      · subst h5
        rw [upA_same] at z; subst z
        rcases h4 with h4 | h4
        · exact .inr h4
        · exact .inl h4.owned
      · rw [upA_ne (Ne.symm hne)] at z
        exact S.own a ⟨j, q, u, e, z⟩
    · obtain ⟨e1, o2, e2⟩ := S.pin j o' e
      have hne : i ≠ j := fun z => by subst z; exact free_pin hi e2
      exact ⟨by rw [upA_ne (Ne.symm hne)]; exact e1, o2, by rw [List.getElem?_set_ne hne]; exact e2⟩
/-! ### expressions: names, constants -/
section
variable {K : PySem.W.Frag} {tcK : TabC K} {E : WX}
def dC (d : D) : M D := fun r => .ok (d, r)
def dCOk : V → D → Prop
  | .non, .none => True
  | .bl b, .bool c => b = c
  | .int i, .int j => i = j
  | .str x, .str y => x = y
  | _, _ => False
theorem absC {v : V} {d : D} (h : ∀ G, DP K G v d) : AbsD K E (tC v) (dC d) := fun G as r σ H Q R w => w G H v Stp.refl R (h G)
/-- a name read: an own thing is frozen by it -/
def dVar (i : Nat) : M D := fun r => match r[i]? with
  | some (.val d) => .ok (d, r)
  | some (.own false (.lst ds)) => .ok (.list ds, r.set i (.val (.list ds)))
  | some (.own false (.dic es)) => .ok (.dict es, r.set i (.val (.dict es)))
  | _ => .no
/-- the thing of a slot goes out of it -/
def eMove (i : Nat) : M RV := fun r => match r[i]? with
  | some (.val d) => .ok (.val d, r)
  | some (.own false o) => .ok (.own o, r.set i .non)
  | _ => .no
theorem free_of {r : Rho} {i : Nat} {s : Sl} (h : r[i]? = some s) (hs : ∀ o, s ≠ .own true o) : free r i = true := by
  unfold free
  rw [h]
  cases s with
  | non => rfl
  | val d => rfl
  | exn x => rfl
  | own p o =>
    cases p with
    | true => exact absurd rfl (hs o)
    | false => rfl
theorem absMove (i : Nat) : AbsE K E (tVar i) (eMove i) := by
  intro G as r σ H Q R w
  unfold eMove at w
  cases e : r[i]? with
  | none => rw [e] at w; exact w.elim
  | some s =>
    rw [e] at w
    cases s with
    | non => exact w.elim
    | exn x => exact w.elim
    | val d =>
      obtain ⟨v, h1, h2⟩ := R.val i d e
      exact ⟨v, h1, w G H v Stp.refl R h2⟩
    | own p o =>
      cases p with
      | true => exact w.elim
      | false =>
        obtain ⟨h1, h2, h3⟩ := R.own i false o e
        have hf : free r i = true := free_of e (fun o => fun z => nomatch z)
        refine ⟨_, h1, w G H _ (Stp.setN R hf) R.setN ⟨_, rfl, h2, h3, ?_, .inr ⟨i, o, e, rfl⟩⟩⟩
        rintro ⟨j, q, u, e2, e3⟩
        rcases set_get e2 with ⟨_, z⟩ | ⟨hne, e2⟩
        · cases z
        · exact hne (R.inj j i q u false o e2 e e3).symm
theorem absVar (i : Nat) : AbsD K E (tVar i) (dVar i) := by
  intro G as r σ H Q R w
  unfold dVar at w
  cases e : r[i]? with
  | none => rw [e] at w; exact w.elim
  | some s =>
    rw [e] at w
    cases s with
    | non => exact w.elim
    | exn x => exact w.elim
    | val d =>
      obtain ⟨v, h1, h2⟩ := R.val i d e
      exact ⟨v, h1, w G H v Stp.refl R h2⟩
    | own p o =>
      cases p with
      | true => exact w.elim
      | false =>
        obtain ⟨h1, h2, h3⟩ := R.own i false o e
        have hf : free r i = true := free_of e (fun o => fun z => nomatch z)
        have hno : ¬ Owned as (r.set i .non) (as i) := by
          rintro ⟨j, q, u, e2, e3⟩
          rcases set_get e2 with ⟨_, z⟩ | ⟨hne, e2⟩
          · cases z
          · exact hne (R.inj j i q u false o e2 e e3).symm
        have hil : i < r.length := free_lt hf
        have go : ∀ d, fzR (.own o) = .ok d → DPost K G as r σ H Q (d, r.set i (.val d)) → ∃ v, σ[i]? = some (some v) ∧ Q v H := by
          intro d ed w
          obtain ⟨G2, S2, R2, h4⟩ := freeze (rv := .own o) (v := .ref (as i)) (Stp.setN R hf) (R.setN (i := i)) ⟨_, rfl, h2, h3, hno, .inr ⟨i, o, e, rfl⟩⟩ ed
          have hf2 : free (r.set i .non) i = true := free_of (List.getElem?_set_self hil) (fun o => fun z => nomatch z)
          have R3 := R2.setV (v := .ref (as i)) hf2 h4
          have S3 := S2.trans R2 (Stp.setV R2 (d := d) hf2)
          rw [List.set_set] at R3 S3
          have es : σ.set i (some (.ref (as i))) = σ := by
            apply List.ext_getElem?
            intro j
            by_cases hj : i = j
            · subst hj
              rw [List.getElem?_set_self (by rw [← R.len]; exact hil), h1]
            · rw [List.getElem?_set_ne hj]
          rw [es] at R3
          exact ⟨_, h1, w G2 H _ S3 R3 h4⟩
        cases o with
        | lst ds => exact go _ rfl w
        | dic es => exact go _ rfl w
        | ins C fs => exact w.elim
end
/-! ### operators by values -/
/-- a rule of two values answers by data -/
def A2 (K : PySem.W.Frag) (r : R2) (f : D → D → Option D) : Prop :=
  ∀ G H x y dx dy (Q : VK), Same G H → DP K G x dx → DP K G y dy → ∀ d, f dx dy = some d → (∀ G' H' v, Grow G H G' H' → DP K G' v d → Q v H') → r x y H Q
/-- what a rule by values leaves: data, or a new list of its own -/
def RVg (K : PySem.W.Frag) (H G' H' : Hp) (v : V) : RV → Prop
  | .val d => DP K G' v d
  | .own o => ∃ p, v = .ref p ∧ H p = none ∧ G' p = none ∧ OwnAt K G' H' p o
def A2R (K : PySem.W.Frag) (r : R2) (f : D → D → Option RV) : Prop :=
  ∀ G H x y dx dy (Q : VK), Same G H → DP K G x dx → DP K G y dy → ∀ d, f dx dy = some d → (∀ G' H' v, Grow G H G' H' → RVg K H G' H' v d → Q v H') → r x y H Q
def A1 (K : PySem.W.Frag) (r : V → Hp → VK → Prop) (f : D → Option D) : Prop :=
  ∀ G H x dx (Q : VK), Same G H → DP K G x dx → ∀ d, f dx = some d → (∀ G' H' v, Grow G H G' H' → DP K G' v d → Q v H') → r x H Q
def AN (K : PySem.W.Frag) (r : List V → Hp → VK → Prop) (f : List D → Option D) : Prop :=
  ∀ G H xs ds (Q : VK), Same G H → DPs K G xs ds → ∀ d, f ds = some d → (∀ G' H' v, Grow G H G' H' → DP K G' v d → Q v H') → r xs H Q
def ANR (K : PySem.W.Frag) (r : List V → Hp → VK → Prop) (f : List D → Option RV) : Prop :=
  ∀ G H xs ds (Q : VK), Same G H → DPs K G xs ds → ∀ d, f ds = some d → (∀ G' H' v, Grow G H G' H' → RVg K H G' H' v d → Q v H') → r xs H Q
def ofO {α : Type} : Option α → Res α
  | some a => .ok a
  | none => .no
theorem wp_bindO {α β : Type} {o : Option α} {f : α → Res β} {P : β → Prop} {E : Exn × Rho → Prop} (h : Wp ((ofO o).bind f) P E) : ∃ a, o = some a ∧ Wp (f a) P E := by
  cases o with
  | none => exact h.elim
  | some a => exact ⟨a, rfl, h⟩
/-- what a rule left, in the state's words -/
theorem RVg.at {K : PySem.W.Frag} {tcK : TabC K} {G G' : Hp} {as : Nat → Addr} {r : Rho} {σ : L2.St} {H H' : Hp} {v : V} {rv : RV} (R : Rel K G as r σ H) (h : RVg K H G' H' v rv) : RVat K as r H G' as r H' v rv := by
  cases rv with
  | val d => exact h
  | own o =>
    obtain ⟨p, e, h1, h2, h3⟩ := h
    refine ⟨p, e, h3, h2, fun z => ?_, .inl h1⟩
    obtain ⟨u, hu⟩ := R.owned_there z
    rw [h1] at hu; cases hu
def dOp (f : D → D → Option D) (ma mb : M D) : M D := fun r => (ma r).bind fun a => (mb a.2).bind fun b => (ofO (f a.1 b.1)).bind fun d => .ok (d, b.2)
def eOp (f : D → D → Option RV) (ma mb : M D) : M RV := fun r => (ma r).bind fun a => (mb a.2).bind fun b => (ofO (f a.1 b.1)).bind fun d => .ok (d, b.2)
def dUn (f : D → Option D) (ma : M D) : M D := fun r => (ma r).bind fun a => (ofO (f a.1)).bind fun d => .ok (d, a.2)
def dCB (f : List D → Option D) (ms : M (List D)) : M D := fun r => (ms r).bind fun a => (ofO (f a.1)).bind fun d => .ok (d, a.2)
def eCB (f : List D → Option RV) (ms : M (List D)) : M RV := fun r => (ms r).bind fun a => (ofO (f a.1)).bind fun d => .ok (d, a.2)
section
variable {K : PySem.W.Frag} {tcK : TabC K} {E : WX} {ta tb : TE} {ma mb : M D} {t : TA} {ms : M (List D)}
theorem absOp {r : R2} {f : D → D → Option D} (ha : AbsD K E ta ma) (hb : AbsD K E tb mb) (hr : A2 K r f) : AbsD K E (tOp r ta tb) (dOp f ma mb) := by
  intro G as r σ H Q R w
  refine ha G as r σ H _ R ((Wp.bind w).mono (fun a w1 => ?_) fun _ z => z)
  intro G1 H1 x S1 R1 dx
  refine hb G1 as a.2 σ H1 _ R1 ((Wp.bind w1).mono (fun b w2 => ?_) fun _ z => XPost.on R1 S1 z)
  intro G2 H2 y S2 R2 dy
  obtain ⟨d, e, w3⟩ := wp_bindO w2
  exact hr G2 H2 x y _ _ _ R2.le (dx.mono S2.g) dy d e fun G3 H3 v g dv => w3 G3 H3 v ((S1.trans R1 S2).trans R2 (g.stp R2)) (g.rel R2) dv
theorem absOpR {r : R2} {f : D → D → Option RV} (ha : AbsD K E ta ma) (hb : AbsD K E tb mb) (hr : A2R K r f) : AbsE K E (tOp r ta tb) (eOp f ma mb) := by
  intro G as r σ H Q R w
  refine ha G as r σ H _ R ((Wp.bind w).mono (fun a w1 => ?_) fun _ z => z)
  intro G1 H1 x S1 R1 dx
  refine hb G1 as a.2 σ H1 _ R1 ((Wp.bind w1).mono (fun b w2 => ?_) fun _ z => XPost.on R1 S1 z)
  intro G2 H2 y S2 R2 dy
  obtain ⟨d, e, w3⟩ := wp_bindO w2
  exact hr G2 H2 x y _ _ _ R2.le (dx.mono S2.g) dy d e fun G3 H3 v g dv => w3 G3 H3 v ((S1.trans R1 S2).trans R2 (g.stp R2)) (g.rel R2) (((RVg.at R2 dv).back R2 S2).back R1 S1)
theorem absUn {r : V → Hp → VK → Prop} {f : D → Option D} (ha : AbsD K E ta ma) (hr : A1 K r f) : AbsD K E (tUn r ta) (dUn f ma) := by
  intro G as r σ H Q R w
  refine ha G as r σ H _ R ((Wp.bind w).mono (fun a w1 => ?_) fun _ z => z)
  intro G1 H1 x S1 R1 dx
  obtain ⟨d, e, w3⟩ := wp_bindO w1
  exact hr G1 H1 x _ _ R1.le dx d e fun G3 H3 v g dv => w3 G3 H3 v (S1.trans R1 (g.stp R1)) (g.rel R1) dv
theorem absCB {r : List V → Hp → VK → Prop} {f : List D → Option D} (ha : AbsA K E t ms) (hr : AN K r f) : AbsD K E (tCB r t) (dCB f ms) := by
  intro G as r σ H Q R w
  refine ha G as r σ H _ R ((Wp.bind w).mono (fun a w1 => ?_) fun _ z => z)
  intro G1 H1 x S1 R1 dx
  obtain ⟨d, e, w3⟩ := wp_bindO w1
  exact hr G1 H1 x _ _ R1.le dx d e fun G3 H3 v g dv => w3 G3 H3 v (S1.trans R1 (g.stp R1)) (g.rel R1) dv
theorem absCBR {r : List V → Hp → VK → Prop} {f : List D → Option RV} (ha : AbsA K E t ms) (hr : ANR K r f) : AbsE K E (tCB r t) (eCB f ms) := by
  intro G as r σ H Q R w
  refine ha G as r σ H _ R ((Wp.bind w).mono (fun a w1 => ?_) fun _ z => z)
  intro G1 H1 x S1 R1 dx
  obtain ⟨d, e, w3⟩ := wp_bindO w1
  exact hr G1 H1 x _ _ R1.le dx d e fun G3 H3 v g dv => w3 G3 H3 v (S1.trans R1 (g.stp R1)) (g.rel R1) ((RVg.at R1 dv).back R1 S1)
/-! ### lists of arguments -/
def dNil : M (List D) := fun r => .ok ([], r)
def dCons (m : M D) (ms : M (List D)) : M (List D) := fun r => (m r).bind fun a => (ms a.2).bind fun b => .ok (a.1 :: b.1, b.2)
theorem absNil : AbsA K E tNil dNil := fun G as r σ H Q R w => w G H [] Stp.refl R .nil
theorem absCons (ha : AbsD K E ta ma) (hs : AbsA K E t ms) : AbsA K E (tCons ta t) (dCons ma ms) := by
  intro G as r σ H Q R w
  refine ha G as r σ H _ R ((Wp.bind w).mono (fun a w1 => ?_) fun _ z => z)
  intro G1 H1 x S1 R1 dx
  refine hs G1 as a.2 σ H1 _ R1 ((Wp.bind w1).mono (fun b w2 => ?_) fun _ z => XPost.on R1 S1 z)
  intro G2 H2 ys S2 R2 dy
  exact w2 G2 H2 (x :: ys) (S1.trans R1 S2) R2 (.cons (dx.mono S2.g) dy)
def eLst (ms : M (List D)) : M RV := fun r => (ms r).bind fun a => if a.1.length ≤ 16777216 then .ok (.own (.lst a.1), a.2) else .no
def dTup (ms : M (List D)) : M D := fun r => (ms r).bind fun a => if a.1.length ≤ 16777216 then .ok (.tuple a.1, a.2) else .no
theorem absLst (ha : AbsA K E t ms) : AbsE K E (tLst t) (eLst ms) := by
  intro G as r σ H Q R w
  refine ha G as r σ H _ R ((Wp.bind w).mono (fun a w1 => ?_) fun _ z => z)
  intro G1 H1 xs S1 R1 dx
  split at w1
  · rename_i hl
    refine ⟨by rw [sizeLine_eq, dx.length]; exact hl, fun p hp => ?_⟩
    have g := Grow.bare R1.le hp (.lst xs)
    exact w1 G1 _ _ (S1.trans R1 (g.stp R1)) (g.rel R1) ((RVg.at (rv := .own (.lst a.1)) (G' := G1) (H' := upd H1 p (.lst xs)) R1 ⟨p, rfl, hp, R1.le.free hp, ⟨xs, upd_same, dx⟩⟩).back R1 S1)
  · exact w1.elim
theorem absTup (ha : AbsA K E t ms) : AbsD K E (tTup t) (dTup ms) := by
  intro G as r σ H Q R w
  refine ha G as r σ H _ R ((Wp.bind w).mono (fun a w1 => ?_) fun _ z => z)
  intro G1 H1 xs S1 R1 dx
  split at w1
  · rename_i hl
    refine ⟨by rw [sizeLine_eq, dx.length]; exact hl, fun p hp => ?_⟩
    have g := Grow.new R1.le hp (.tup xs)
    exact w1 _ _ _ (S1.trans R1 (g.stp R1)) (g.rel R1) (.tup (.inl (.inl upd_same)) (dx.mono g.g))
  · exact w1.elim
end
/-! ### tests -/
section
variable {K : PySem.W.Frag} {tcK : TabC K} {E : WX} {ta tb : TE} {ma mb : M D} {t u : TT} {m m' : M Bool}
def tBl (m : M D) : M Bool := fun r => (m r).bind fun a => match a.1 with
  | .bool b => .ok (b, a.2)
  | _ => .no
theorem dp_bool {G : Hp} {v : V} {b : Bool} (h : DP K G v (.bool b)) : v = .bl b := by cases h; rfl
theorem absTest (ha : AbsD K E ta ma) : AbsT K E (tTest ta) (tBl ma) := by
  intro G as r σ H Q R w
  refine ha G as r σ H _ R ((Wp.bind w).mono (fun a w1 => ?_) fun _ z => z)
  obtain ⟨d, r'⟩ := a
  intro G1 H1 x S1 R1 dx
  cases d with
  | bool b =>
    obtain rfl := dp_bool dx
    exact ⟨b, rfl, w1 G1 H1 S1 R1⟩
  | none => exact w1.elim
  | int i => exact w1.elim
  | str x => exact w1.elim
  | list x => exact w1.elim
  | tuple x => exact w1.elim
  | dict x => exact w1.elim
def tAndM (m m' : M Bool) : M Bool := fun r => (m r).bind fun a => if a.1 = true then m' a.2 else .ok (false, a.2)
def tOrM (m m' : M Bool) : M Bool := fun r => (m r).bind fun a => if a.1 = true then .ok (true, a.2) else m' a.2
def tNotM (m : M Bool) : M Bool := fun r => (m r).bind fun a => .ok (!a.1, a.2)
theorem absOr (ha : AbsT K E t m) (hb : AbsT K E u m') : AbsT K E (tOr t u) (tOrM m m') := by
  intro G as r σ H Q R w
  refine ha G as r σ H _ R ((Wp.bind w).mono (fun a w1 => ?_) fun _ z => z)
  obtain ⟨b, r'⟩ := a
  intro G1 H1 S1 R1
  cases b with
  | true => exact w1 G1 H1 S1 R1
  | false => exact hb G1 as r' σ H1 Q R1 (Wp.mono w1 (fun a z => TPost.on R1 S1 z) fun _ z => XPost.on R1 S1 z)
theorem absNot (ha : AbsT K E t m) : AbsT K E (tNot t) (tNotM m) := by
  intro G as r σ H Q R w
  refine ha G as r σ H _ R ((Wp.bind w).mono (fun a w1 => ?_) fun _ z => z)
  intro G1 H1 S1 R1
  exact w1 G1 H1 S1 R1
/-- a if t else b -/
def eIf (c : M Bool) (m m' : M RV) : M RV := fun r => (c r).bind fun a => if a.1 = true then m a.2 else m' a.2
/-- a chain of two comparisons -/
def dChain (f g : D → D → Option D) (ma mb mc : M D) : M D := fun r => (ma r).bind fun a => (mb a.2).bind fun b => (ofO (f a.1 b.1)).bind fun d => match d with
  | .bool true => (mc b.2).bind fun c => (ofO (g b.1 c.1)).bind fun d => .ok (d, c.2)
  | .bool false => .ok (.bool false, b.2)
  | _ => .no
end
/-! ### statements -/
section
variable {K : PySem.W.Frag} {tcK : TabC K} {E : WX} {te : TE} {m : M RV} {md : M D} {t u : TS} {n n' : SM}
def sNext : SM := fun r => .ok (.nx, r)
def sSeq (n n' : SM) : SM := fun r => (n r).bind fun a => match a.1 with
  | .nx => n' a.2
  | .bk => .ok (.bk, a.2)
  | .ct => .ok (.ct, a.2)
  | .rt rv => .ok (.rt rv, a.2)
theorem absNext : AbsS K E tNext sNext := fun G as r σ H D R w => w G as σ H Stp.refl R
theorem absSeq (h1 : AbsS K E t n) (h2 : AbsS K E u n') : AbsS K E (tSeq t u) (sSeq n n') := by
  intro G as r σ H D R w
  refine h1 G as r σ H _ R ((Wp.bind w).mono (fun a w1 => ?_) fun _ z => z)
  obtain ⟨f, r'⟩ := a
  cases f with
  | nx =>
    intro G1 as1 σ1 H1 S1 R1
    exact h2 G1 as1 r' σ1 H1 D R1 (Wp.mono w1 (fun a z => SPost.on R1 S1 z) fun _ z => YPost.on R1 S1 z)
  | bk => exact w1
  | ct => exact w1
  | rt rv => exact w1
def sBk : SM := fun r => .ok (.bk, r)
def sCt : SM := fun r => .ok (.ct, r)
def sNever : SM := fun _ => .no
theorem absNever : AbsS K E tNever sNever := fun G as r σ H D R w => w.elim
def sRet (m : M RV) : SM := fun r => (m r).bind fun a => .ok (.rt a.1, a.2)
theorem absRet (h : AbsE K E te m) : AbsS K E (tRet te) (sRet m) := by
  intro G as r σ H D R w
  refine h G as r σ H _ R ((Wp.bind w).mono (fun a w1 => ?_) fun _ z => z.x)
  intro G1 H1 v S1 R1 h1
  exact w1 G1 as σ H1 v S1 R1 h1
def sRetN : SM := fun r => .ok (.rt (.val .none), r)
def sExpr (m : M RV) : SM := fun r => (m r).bind fun a => .ok (.nx, a.2)
theorem absExpr (h : AbsE K E te m) : AbsS K E (tDrop te) (sExpr m) := by
  intro G as r σ H D R w
  refine h G as r σ H _ R ((Wp.bind w).mono (fun a w1 => ?_) fun _ z => z.x)
  intro G1 H1 v S1 R1 h1
  exact w1 G1 as σ H1 S1 R1
def sIf (c : M Bool) (n n' : SM) : SM := fun r => (c r).bind fun a => if a.1 = true then n a.2 else n' a.2
theorem absIfS {tc : TT} {c : M Bool} (hc : AbsT K E tc c) (h1 : AbsS K E t n) (h2 : AbsS K E u n') : AbsS K E (tIfS tc t u) (sIf c n n') := by
  intro G as r σ H D R w
  refine hc G as r σ H _ R ((Wp.bind w).mono (fun a w1 => ?_) fun _ z => z.x)
  obtain ⟨b, r'⟩ := a
  intro G1 H1 S1 R1
  cases b with
  | true => exact h1 G1 as r' σ H1 D R1 (Wp.mono w1 (fun a z => SPost.on R1 S1 z) fun _ z => YPost.on R1 S1 z)
  | false => exact h2 G1 as r' σ H1 D R1 (Wp.mono w1 (fun a z => SPost.on R1 S1 z) fun _ z => YPost.on R1 S1 z)
/-- name = e -/
def sSet (i : Nat) (m : M RV) : SM := fun r => (m r).bind fun a => if free a.2 i = true then .ok (.nx, a.2.set i (toSl a.1)) else .no
theorem absSet {i : Nat} (h : AbsE K E te m) : AbsS K E (tAsg te (gName i)) (sSet i m) := by
  intro G as r σ H D R w
  refine h G as r σ H _ R ((Wp.bind w).mono (fun a w1 => ?_) fun _ z => z.x)
  intro G1 H1 v S1 R1 h1
  split at w1
  · rename_i hf
    obtain ⟨as', S2, R2⟩ := store S1 R1 hf h1
    exact w1 G1 as' _ H1 S2 R2
  · exact w1.elim
/-! ### targets that take data -/
abbrev BM := D → Rho → Option Rho
/-- only the slots ws have changed -/
def But (ws : List Nat) (σ σ' : L2.St) : Prop := σ'.length = σ.length ∧ ∀ i, i ∉ ws → σ'[i]? = σ[i]?
def AbsG (K : PySem.W.Frag) [TabC K] (ws : List Nat) (g : TG) (b : BM) : Prop := ∀ G as r σ H v d (Q : L2.St → Hp → Prop), Rel K G as r σ H → DP K G v d → ∀ r', b d r = some r' →
  (∀ σ', But ws σ σ' → Stp G as r H G as r' H → Rel K G as r' σ' H → Q σ' H) → g v σ H Q
def bName (i : Nat) : BM := fun d r => if free r i = true then some (r.set i (.val d)) else none
theorem absName (i : Nat) : AbsG K [i] (gName i) (bName i) := by
  intro G as r σ H v d Q R h r' e q
  unfold bName at e
  split at e
  · rename_i hf
    cases e
    exact q _ ⟨List.length_set, fun j hj => List.getElem?_set_ne (fun z => hj (by simp [z]))⟩ (Stp.setV R hf) (R.setV hf h)
  · cases e
abbrev BMs := List D → Rho → Option Rho
def AbsGs (K : PySem.W.Frag) [TabC K] (ws : List Nat) (g : TGs) (b : BMs) : Prop := ∀ G as r σ H vs ds (Q : L2.St → Hp → Prop), Rel K G as r σ H → DPs K G vs ds → ∀ r', b ds r = some r' →
  (∀ σ', But ws σ σ' → Stp G as r H G as r' H → Rel K G as r' σ' H → Q σ' H) → g vs σ H Q
def bNil : BMs := fun ds r => match ds with
  | [] => some r
  | _ => none
def bCons (b : BM) (bs : BMs) : BMs := fun ds r => match ds with
  | [] => none
  | d :: ds => (b d r).bind fun r' => bs ds r'
theorem absGNil : AbsGs K [] gNil bNil := by
  intro G as r σ H vs ds Q R h r' e q
  cases h with
  | nil => cases e; exact ⟨rfl, q σ ⟨rfl, fun _ _ => rfl⟩ Stp.refl R⟩
  | cons _ _ => cases e
theorem absGCons {ws us : List Nat} {g : TG} {gs : TGs} {b : BM} {bs : BMs} (h1 : AbsG K ws g b) (h2 : AbsGs K us gs bs) : AbsGs K (ws ++ us) (gCons g gs) (bCons b bs) := by
  intro G as r σ H vs ds Q R h r' e q
  cases h with
  | nil => cases e
  | @cons v vs d ds hv hvs =>
    have e : (b d r).bind (fun r' => bs ds r') = some r' := e
    cases eb : b d r with
    | none => rw [eb] at e; cases e
    | some r1 =>
      rw [eb] at e
      exact ⟨v, vs, rfl, h1 G as r σ H v d _ R hv r1 eb fun σ1 B1 S1 R1 => h2 G as r1 σ1 H vs ds _ R1 hvs r' e fun σ2 B2 S2 R2 =>
        q σ2 ⟨B2.1.trans B1.1, fun i hi => (B2.2 i fun z => hi (List.mem_append_right _ z)).trans (B1.2 i fun z => hi (List.mem_append_left _ z))⟩ (S1.trans R1 S2) R2⟩
def bTup (n : Nat) (bs : BMs) : BM := fun d r => match d with
  | .tuple ds => if ds.length = n then bs ds r else none
  | _ => none
theorem absGTup {ws : List Nat} {n : Nat} {gs : TGs} {bs : BMs} (h : AbsGs K ws gs bs) : AbsG K ws (gTup K n gs) (bTup n bs) := by
  intro G as r σ H v d Q R hd r' e q
  cases hd with
  | @tup a xs ds hs hx =>
    have e : (if ds.length = n then bs ds r else none) = some r' := e
    split at e
    · rename_i hn
      exact ⟨a, xs, rfl, SqT.same R.le hs, hx.length.trans hn, h G as r σ H xs ds Q R hx r' e q⟩
    · cases e
  | non => cases e
  | bl _ => cases e
  | int _ => cases e
  | str _ => cases e
  | lst _ _ => cases e
  | dic _ _ => cases e
/-- target = e, the target taking data -/
def sAsg (b : BM) (m : M D) : SM := fun r => (m r).bind fun a => (ofO (b a.1 a.2)).bind fun r' => .ok (.nx, r')
end
end DL
/-! # DL3: loops, comprehensions, calls, things of a slot's own that are changed -/
namespace DL
open PySem PySem.Spec PyProof.Rows L2
/-! ### a value is kept while the state goes on -/
theorem RVat.carry {K : PySem.W.Frag} {G1 G2 : Hp} {as0 as1 as2 : Nat → Addr} {r0 r1 r2 : Rho} {H0 H1 H2 : Hp} {v : V} {rv : RV} (S : Stp G1 as1 r1 H1 G2 as2 r2 H2) (h : RVat K as0 r0 H0 G1 as1 r1 H1 v rv) : RVat K as0 r0 H0 G2 as2 r2 H2 v rv := by
  cases rv with
  | val d => exact DP.mono S.g h
  | own o =>
    obtain ⟨p, e, h1, h2, h3, h4⟩ := h
    obtain ⟨u, hu, hn0⟩ := h1.thereN
    refine ⟨p, e, h1.step S.g (by rw [hu]; exact S.keep p u hu h3 hn0.1), ?_, fun z => ?_, h4⟩
    · cases q : G2 p with
      | none => rfl
      | some w =>
        rcases S.fr p (by rw [q]; exact fun z => nomatch z) with z | z | z
        · exact absurd h2 z
        · rw [hu] at z; cases z
        · exact absurd z.owned h3
    · rcases S.own p z with q | q
      · exact h3 q
      · rw [hu] at q; cases q
/-! ### two names at once -/
def sPar (i j : Nat) (m n : M RV) : SM := fun r => (m r).bind fun a => (n a.2).bind fun b => if free b.2 i = true then (if free (b.2.set i (toSl a.1)) j = true then .ok (.nx, (b.2.set i (toSl a.1)).set j (toSl b.1)) else .no) else .no
section
variable {K : PySem.W.Frag} {tcK : TabC K} {E : WX} {ta tb : TE} {m n : M RV}
theorem absPar {i j : Nat} (ha : AbsE K E ta m) (hb : AbsE K E tb n) : AbsS K E (tPar i j (tCons ta (tCons tb tNil))) (sPar i j m n) := by
  intro G as r σ H D R w
  refine ha G as r σ H _ R ((Wp.bind w).mono (fun a w1 => ?_) fun _ z => z.x)
  intro G1 H1 x S1 R1 hx
  refine hb G1 as a.2 σ H1 _ R1 ((Wp.bind w1).mono (fun b w2 => ?_) fun _ z => XPost.on R1 S1 z.x)
  intro G2 H2 y S2 R2 hy
  refine ⟨x, y, rfl, ?_⟩
  split at w2
  · rename_i hf
    split at w2
    · rename_i hf2
      have hx2 := hx.carry S2
      have S12 := S1.trans R1 S2
      obtain ⟨as', S3, R3⟩ := store (i := i) S12 R2 hf hx2
      -- y in the state behind the first store
      have hy0 := hy.back R1 S1
      have hy2 : RVat K as r H G2 as' (b.2.set i (toSl a.1)) H2 y b.1 := by
        cases eb : b.1 with
        | val d => rw [eb] at hy0; exact hy0
        | own o =>
          rw [eb] at hy0 hy
          obtain ⟨p, e, h1, h2, h3, h4⟩ := hy0
          obtain ⟨p', e', h1', h2', h3', h4'⟩ := hy
          rw [e] at e'; cases e'
          refine ⟨p, e, h1, h2, ?_, h4⟩
          rintro ⟨k, q, u, ek, ez⟩
          have hk : k = i ∨ k ≠ i := by by_cases z : k = i; exact .inl z; exact .inr z
          rcases hk with hk | hk
          · -- slot i: what x is
            rw [hk] at ek ez
            cases ea : a.1 with
            | val d =>
              rw [ea, List.getElem?_set_self (free_lt hf)] at ek; cases ek
            | own oa =>
              rw [ea] at hx hx2 ek
              obtain ⟨px, ex, g1, g2, g3, g4⟩ := hx
              -- as' i = px
              have hil : i < σ.length := by rw [← R2.len]; exact free_lt hf
              rw [ea] at R3
              obtain ⟨s1, _, _⟩ := R3.own i q u ek
              rw [List.getElem?_set_self hil] at s1
              have : x = .ref (as' i) := Option.some.inj (Option.some.inj s1)
              rw [ex, ez] at this
              cases this
              obtain ⟨u1, hu1⟩ := g1.there
              rcases h4' with z | z
              · rw [hu1] at z; cases z
              · exact g3 z.owned
          · rw [List.getElem?_set_ne (Ne.symm hk)] at ek
            have hs : (b.2.set i (toSl a.1))[k]? = some (.own q u) := by rw [List.getElem?_set_ne (Ne.symm hk)]; exact ek
            obtain ⟨s1, _, _⟩ := R3.own k q u hs
            obtain ⟨s2, _, _⟩ := R2.own k q u ek
            rw [List.getElem?_set_ne (Ne.symm hk), s2] at s1
            have : as k = as' k := by
              have z := Option.some.inj (Option.some.inj s1)
              injection z
            exact h3 ⟨k, q, u, ek, by rw [this]; exact ez⟩
      obtain ⟨as2, S4, R4⟩ := store (i := j) S3 R3 hf2 hy2
      exact w2 G2 as2 _ H2 S4 R4
    · exact w2.elim
  · exact w2.elim
end
/-! ### walks -/
/-- what J walks: the items' data -/
def Iterates (K : PySem.W.Frag) (G0 : Hp) (J : It) (items : List D) : Prop :=
  ∃ (Gp : Hp → Prop) (Y : Nat → Hp → V → Hp → Prop), Walk J items.length Gp Y ∧ (∀ H, Same G0 H → Gp H) ∧
    ∀ i H x H' G, Same G0 G → Same G H → i < items.length → Y i H x H' → ∃ G' d, items[i]? = some d ∧ Grow G H G' H' ∧ DP K G' x d
def IPost (K : PySem.W.Frag) [TabC K] (G : Hp) (as : Nat → Addr) (r : Rho) (σ : L2.St) (H : Hp) (Q : It → Hp → Prop) (a : List D × Rho) : Prop :=
  ∀ G' H' J, Stp G as r H G' as a.2 H' → Rel K G' as a.2 σ H' → Iterates K G' J a.1 → Q J H'
def AbsI (K : PySem.W.Frag) [TabC K] (E : WX) (t : TI) (m : M (List D)) : Prop :=
  ∀ G as r σ H Q, Rel K G as r σ H → Wp (m r) (IPost K G as r σ H Q) (XPost K G as r σ H E) → t σ H Q
def forD (b : BM) (body : SM) : List D → SM
  | [], r => .ok (.nx, r)
  | d :: ds, r => (ofO (b d r)).bind fun r1 => (body r1).bind fun a => match a.1 with
    | .nx => forD b body ds a.2
    | .ct => forD b body ds a.2
    | .bk => .ok (.nx, a.2)
    | .rt rv => .ok (.rt rv, a.2)
def sFor (mi : M (List D)) (b : BM) (body : SM) : SM := fun r => (mi r).bind fun a => forD b body a.1 a.2
section
variable {K : PySem.W.Frag} {tcK : TabC K} {E : WX} {ws : List Nat} {wi : TI} {mi : M (List D)} {g : TG} {b : BM} {tb : TS} {body : SM}
theorem drop_cons {α : Type} {l : List α} {i : Nat} {d : α} (h : l[i]? = some d) : l.drop i = d :: l.drop (i + 1) := by
  obtain ⟨hl, e⟩ := List.getElem?_eq_some_iff.mp h
  rw [List.drop_eq_getElem_cons hl, e]
theorem absFor (hi : AbsI K E wi mi) (hg : AbsG K ws g b) (hb : AbsS K E tb body) : AbsS K E (tFor wi g tb) (sFor mi b body) := by
  intro G as r σ H D R w
  refine hi G as r σ H _ R ((Wp.bind w).mono (fun a w1 => ?_) fun _ z => z.x)
  obtain ⟨items, r1⟩ := a
  intro G1 H1 J S1 R1 hJ
  obtain ⟨Gp, Y, wk, hgp, hy⟩ := hJ
  refine for_it wk (fun i σ' H' => ∃ G' as' r', Same G1 G' ∧ Stp G as r H G' as' r' H' ∧ Rel K G' as' r' σ' H' ∧ Wp (forD b body (items.drop i) r') (SPost K G' as' r' H' D) (YPost K G' as' r' H' E))
    ⟨G1, as, r1, Same.refl _, S1, R1, Wp.mono w1 (fun a z => SPost.on R1 S1 z) fun _ z => YPost.on R1 S1 z⟩ ?_ ?_ ?_
  · rintro i σ' H' _ ⟨G', as', r', sg, _, R', _⟩
    exact hgp H' (sg.trans R'.le)
  · rintro i x σ' H' H2 hlt ⟨G', as', r', sg, S', R', w'⟩ hyi
    obtain ⟨G2, d, ed, gr, dp⟩ := hy i H' x H2 G' sg R'.le hlt hyi
    rw [drop_cons ed] at w'
    have w' : Wp ((ofO (b d r')).bind fun r1 => (body r1).bind fun a => match a.1 with
      | .nx => forD b body (items.drop (i + 1)) a.2
      | .ct => forD b body (items.drop (i + 1)) a.2
      | .bk => .ok (.nx, a.2)
      | .rt rv => .ok (.rt rv, a.2)) (SPost K G' as' r' H' D) (YPost K G' as' r' H' E) := w'
    obtain ⟨r2, eb, w2⟩ := wp_bindO w'
    have R2 := gr.rel R'
    have Sg := gr.stp R'
    refine hg G2 as' r' σ' H2 x d _ R2 dp r2 eb fun σ2 _ S3 R3 => ?_
    have S23 := Sg.trans R2 S3
    refine hb G2 as' r2 σ2 H2 _ R3 ((Wp.bind w2).mono (fun c w3 => ?_) fun _ z => YPost.on R3 S23 z)
    obtain ⟨f, r3⟩ := c
    cases f with
    | nx =>
      intro G4 as4 σ4 H4 S4 R4
      exact ⟨G4, as4, r3, (sg.trans S23.g).trans S4.g, (S'.trans R' S23).trans R3 S4, R4, Wp.mono w3 (fun a z => SPost.on R4 (S23.trans R3 S4) z) fun _ z => YPost.on R4 (S23.trans R3 S4) z⟩
    | ct =>
      intro G4 as4 σ4 H4 S4 R4
      exact ⟨G4, as4, r3, (sg.trans S23.g).trans S4.g, (S'.trans R' S23).trans R3 S4, R4, Wp.mono w3 (fun a z => SPost.on R4 (S23.trans R3 S4) z) fun _ z => YPost.on R4 (S23.trans R3 S4) z⟩
    | bk =>
      intro G4 as4 σ4 H4 S4 R4
      exact w3 G4 as4 σ4 H4 (S23.trans R3 S4) R4
    | rt rv =>
      intro G4 as4 σ4 H4 v S4 R4 hv
      exact w3 G4 as4 σ4 H4 v (S23.trans R3 S4) R4 (hv.back R3 S23)
  · rintro σ' H' ⟨G', as', r', sg, S', R', w'⟩
    rw [List.drop_length] at w'
    exact w' G' as' σ' H' Stp.refl R'
end
/-! ### while -/
def whF (c : M Bool) (n : SM) : Nat → SM
  | 0, _ => .no
  | k + 1, r => (c r).bind fun a => if a.1 = true then ((n a.2).bind fun b => match b.1 with
      | .nx => whF c n k b.2
      | .ct => whF c n k b.2
      | .bk => .ok (.nx, b.2)
      | .rt rv => .ok (.rt rv, b.2)) else .ok (.nx, a.2)
theorem whF_mono (c : M Bool) (n : SM) : ∀ (k j : Nat) (r : Rho), k ≤ j → whF c n k r ≠ .no → whF c n j r = whF c n k r
  | 0, _, _, _, h => absurd rfl h
  | k + 1, 0, _, hj, _ => absurd hj (Nat.not_succ_le_zero _)
  | k + 1, j + 1, r, hj, h => by
    unfold whF at h ⊢
    cases ec : c r with
    | no => rfl
    | ex x => rfl
    | ok a =>
      rw [ec] at h
      simp only [Res.bind] at h ⊢
      by_cases ha : a.1 = true
      · simp only [if_pos ha] at h ⊢
        cases en : n a.2 with
        | no => rfl
        | ex x => rfl
        | ok b =>
          rw [en] at h
          obtain ⟨f, r'⟩ := b
          cases f with
          | nx => exact whF_mono c n k j r' (Nat.le_of_succ_le_succ hj) h
          | ct => exact whF_mono c n k j r' (Nat.le_of_succ_le_succ hj) h
          | bk => rfl
          | rt rv => rfl
      · simp only [if_neg ha]
open Classical in
noncomputable def sWhile (c : M Bool) (n : SM) : SM := fun r => if h : ∃ k, whF c n k r ≠ .no then whF c n (Classical.choose h) r else .no
theorem sWhile_of {c : M Bool} {n : SM} {k : Nat} {r : Rho} (h : whF c n k r ≠ .no) : sWhile c n r = whF c n k r := by
  have hx : ∃ k, whF c n k r ≠ .no := ⟨k, h⟩
  unfold sWhile
  rw [dif_pos hx]
  have h2 := Classical.choose_spec hx
  by_cases hk : k ≤ Classical.choose hx
  · exact whF_mono c n k _ r hk h
  · exact (whF_mono c n _ k r (Nat.le_of_lt (Nat.lt_of_not_le hk)) h2).symm
theorem sWhile_no {c : M Bool} {n : SM} {r : Rho} (h : ∀ k, whF c n k r = .no) : sWhile c n r = .no := by
  unfold sWhile
  rw [dif_neg]
  rintro ⟨k, hk⟩
  exact hk (h k)
/-- one turn -/
theorem sWhile_step (c : M Bool) (n : SM) (r : Rho) : sWhile c n r = (c r).bind fun a => if a.1 = true then ((n a.2).bind fun b => match b.1 with
      | .nx => sWhile c n b.2
      | .ct => sWhile c n b.2
      | .bk => .ok (.nx, b.2)
      | .rt rv => .ok (.rt rv, b.2)) else .ok (.nx, a.2) := by
  have key : ∀ k, whF c n (k + 1) r = (c r).bind fun a => if a.1 = true then ((n a.2).bind fun b => match b.1 with
      | .nx => whF c n k b.2
      | .ct => whF c n k b.2
      | .bk => .ok (.nx, b.2)
      | .rt rv => .ok (.rt rv, b.2)) else .ok (.nx, a.2) := fun k => rfl
  have go : ∀ r', (∀ k, whF c n (k + 1) r = whF c n k r') → sWhile c n r = sWhile c n r' := by
    intro r' h
    by_cases hx : ∃ k, whF c n k r' ≠ .no
    · obtain ⟨k, hk⟩ := hx
      rw [sWhile_of hk, sWhile_of (k := k + 1) (by rw [h k]; exact hk), h k]
    · have h0 : ∀ k, whF c n k r' = .no := fun k => by
        cases e : whF c n k r' with
        | no => rfl
        | ok a => exact absurd ⟨k, by rw [e]; exact fun z => nomatch z⟩ hx
        | ex a => exact absurd ⟨k, by rw [e]; exact fun z => nomatch z⟩ hx
      rw [sWhile_no h0]
      refine sWhile_no fun k => ?_
      cases k with
      | zero => rfl
      | succ k => rw [h k]; exact h0 k
  have fin : ∀ x, x ≠ .no → (∀ k, whF c n (k + 1) r = x) → sWhile c n r = x := fun x hx h => by
    rw [sWhile_of (k := 1) (by rw [h 0]; exact hx), h 0]
  have fin0 : (∀ k, whF c n (k + 1) r = .no) → sWhile c n r = .no := fun h => sWhile_no fun k => by
    cases k with
    | zero => rfl
    | succ k => exact h k
  cases ec : c r with
  | no => exact fin0 fun k => by rw [key, ec]; rfl
  | ex x => exact fin _ (fun z => nomatch z) fun k => by rw [key, ec]; rfl
  | ok a =>
    simp only [Res.bind]
    by_cases ha : a.1 = true
    · rw [if_pos ha]
      cases en : n a.2 with
      | no => exact fin0 fun k => by rw [key, ec]; simp only [Res.bind, if_pos ha, en]
      | ex x => exact fin _ (fun z => nomatch z) fun k => by rw [key, ec]; simp only [Res.bind, if_pos ha, en]
      | ok b =>
        obtain ⟨f, r'⟩ := b
        cases f with
        | nx => exact go r' fun k => by rw [key, ec]; simp only [Res.bind, if_pos ha, en]
        | ct => exact go r' fun k => by rw [key, ec]; simp only [Res.bind, if_pos ha, en]
        | bk => exact fin _ (fun z => nomatch z) fun k => by rw [key, ec]; simp only [Res.bind, if_pos ha, en]
        | rt rv => exact fin _ (fun z => nomatch z) fun k => by rw [key, ec]; simp only [Res.bind, if_pos ha, en]
    · rw [if_neg ha]
      exact fin _ (fun z => nomatch z) fun k => by rw [key, ec]; simp only [Res.bind, if_neg ha]
section
variable {K : PySem.W.Frag} {tcK : TabC K} {E : WX} {tc : TT} {c : M Bool} {tb : TS} {n : SM}
theorem absWhile (hc : AbsT K E tc c) (hb : AbsS K E tb n) : AbsS K E (tWhile tc tb) (sWhile c n) := by
  intro G as r σ H D R w
  obtain ⟨k, hk⟩ : ∃ k, sWhile c n r = whF c n k r := by
    by_cases hx : ∃ k, whF c n k r ≠ .no
    · obtain ⟨k, hk⟩ := hx
      exact ⟨k, sWhile_of hk⟩
    · refine ⟨0, sWhile_no fun k => ?_⟩
      cases e : whF c n k r with
      | no => rfl
      | ok a => exact absurd ⟨k, by rw [e]; exact fun z => nomatch z⟩ hx
      | ex a => exact absurd ⟨k, by rw [e]; exact fun z => nomatch z⟩ hx
  rw [hk] at w
  refine ⟨fun m σ' H' => ∃ G' as' r', Rel K G' as' r' σ' H' ∧ Wp (whF c n m r') (SPost K G' as' r' H' D) (YPost K G' as' r' H' E), ⟨k, G, as, r, R, w⟩, ?_⟩
  rintro m σ1 H1 ⟨G1, as1, r1, R1, w1⟩
  cases m with
  | zero => exact w1.elim
  | succ m =>
    have w1 : Wp ((c r1).bind fun a => if a.1 = true then ((n a.2).bind fun b => match b.1 with
      | .nx => whF c n m b.2
      | .ct => whF c n m b.2
      | .bk => .ok (.nx, b.2)
      | .rt rv => .ok (.rt rv, b.2)) else .ok (.nx, a.2)) (SPost K G1 as1 r1 H1 D) (YPost K G1 as1 r1 H1 E) := w1
    refine hc G1 as1 r1 σ1 H1 _ R1 ((Wp.bind w1).mono (fun a w2 => ?_) fun _ z => z.x)
    obtain ⟨bv, r2⟩ := a
    intro G2 H2 S2 R2
    cases bv with
    | false => exact w2 G2 as1 σ1 H2 S2 R2
    | true =>
      refine ⟨fun σ' H' => ∃ G' as' r', Rel K G' as' r' σ' H' ∧ Wp (whF c n m r') (SPost K G' as' r' H' D) (YPost K G' as' r' H' E), fun σ' H' h => ⟨m, Nat.lt_succ_self m, h⟩, ?_⟩
      have w2 : Wp ((n r2).bind fun b => match b.1 with
        | .nx => whF c n m b.2
        | .ct => whF c n m b.2
        | .bk => .ok (.nx, b.2)
        | .rt rv => .ok (.rt rv, b.2)) (SPost K G1 as1 r1 H1 D) (YPost K G1 as1 r1 H1 E) := w2
      refine hb G2 as1 r2 σ1 H2 _ R2 ((Wp.bind w2).mono (fun b w3 => ?_) fun _ z => YPost.on R2 S2 z)
      obtain ⟨f, r3⟩ := b
      cases f with
      | nx =>
        intro G3 as3 σ3 H3 S3 R3
        exact ⟨G3, as3, r3, R3, Wp.mono w3 (fun a z => SPost.on R3 (S2.trans R2 S3) z) fun _ z => YPost.on R3 (S2.trans R2 S3) z⟩
      | ct =>
        intro G3 as3 σ3 H3 S3 R3
        exact ⟨G3, as3, r3, R3, Wp.mono w3 (fun a z => SPost.on R3 (S2.trans R2 S3) z) fun _ z => YPost.on R3 (S2.trans R2 S3) z⟩
      | bk =>
        intro G3 as3 σ3 H3 S3 R3
        exact w3 G3 as3 σ3 H3 (S2.trans R2 S3) R3
      | rt rv =>
        intro G3 as3 σ3 H3 v S3 R3 hv
        exact w3 G3 as3 σ3 H3 v (S2.trans R2 S3) R3 (hv.back R2 S2)
end
/-! ### comprehensions -/
def wipeR (r : Rho) : List Nat → Option Rho
  | [] => some r
  | v :: vs => (wipeR r vs).bind fun r' => if free r' v = true then some (r'.set v .non) else none
theorem wipeR_rel {K : PySem.W.Frag} {tcK : TabC K} {G : Hp} {as : Nat → Addr} {σ : L2.St} {H : Hp} {r : Rho} (R : Rel K G as r σ H) : ∀ {vs : List Nat} {r' : Rho}, wipeR r vs = some r' → Rel K G as r' (wipe σ vs) H ∧ Stp G as r H G as r' H ∧ ∀ v ∈ vs, r'[v]? = some .non
  | [], r', e => by cases e; exact ⟨R, Stp.refl, fun _ h => nomatch h⟩
  | v :: vs, r', e => by
    unfold wipeR at e
    cases e1 : wipeR r vs with
    | none => rw [e1] at e; cases e
    | some r1 =>
      rw [e1] at e
      have e : (if free r1 v = true then some (r1.set v .non) else none) = some r' := e
      split at e
      · rename_i hf
        cases e
        obtain ⟨R1, S1, h1⟩ := wipeR_rel R e1
        have R2 := R1.setN (i := v)
        have S2 := Stp.setN R1 hf
        have hv : v < r1.length := free_lt hf
        refine ⟨?_, S1.trans R1 S2, fun u hu => ?_⟩
        · unfold wipe
          refine ⟨R2.le, by rw [List.length_set (as := wipe σ vs)]; exact R2.len, fun i d ei => ?_, fun i p o ei => ?_, R2.inj, R2.tabs, fun i x ei => (R2.exn i x ei).st (List.getElem?_set_ne (fun z => by subst z; rw [List.getElem?_set_self hv] at ei; cases ei))⟩
          · have hne : v ≠ i := fun z => by subst z; rw [List.getElem?_set_self hv] at ei; cases ei
            rw [List.getElem?_set_ne hne]; exact R2.val i d ei
          · have hne : v ≠ i := fun z => by subst z; rw [List.getElem?_set_self hv] at ei; cases ei
            rw [List.getElem?_set_ne hne]; exact R2.own i p o ei
        · by_cases hu2 : v = u
          · subst hu2; rw [List.getElem?_set_self hv]
          · rw [List.getElem?_set_ne hu2]
            rcases List.mem_cons.mp hu with z | z
            · exact absurd z.symm hu2
            · exact h1 u z
      · cases e
/-- the slots are what they were outside -/
theorem Rel.slots {K : PySem.W.Frag} {tcK : TabC K} {G : Hp} {as : Nat → Addr} {σ σ' : L2.St} {H : Hp} {r : Rho} (R : Rel K G as r σ H) (hl : σ'.length = σ.length) (h : ∀ (i : Nat) (s : Sl), r[i]? = some s → s ≠ .non → σ'[i]? = σ[i]?) : Rel K G as r σ' H :=
  ⟨R.le, by rw [hl]; exact R.len, fun i d e => by rw [h i _ e (fun z => nomatch z)]; exact R.val i d e, fun i p o e => by rw [h i _ e (fun z => nomatch z)]; exact R.own i p o e, R.inj, R.tabs, fun i x e => (R.exn i x e).st (h i _ e (fun z => nomatch z))⟩
theorem wipe_other {σ : L2.St} {i : Nat} : ∀ {vs : List Nat}, i ∉ vs → (wipe σ vs)[i]? = σ[i]?
  | [], _ => rfl
  | v :: vs, h => by
    unfold wipe
    rw [List.getElem?_set_ne (fun z => h (by rw [z]; exact List.mem_cons_self))]
    exact wipe_other fun z => h (List.mem_cons_of_mem _ z)
theorem wipe_in {σ : L2.St} {i : Nat} : ∀ {vs : List Nat}, i ∈ vs → (wipe σ vs)[i]? = if i < σ.length then some none else none
  | v :: vs, h => by
    unfold wipe
    by_cases e : v = i
    · subst e
      by_cases hl : v < σ.length
      · rw [if_pos hl, List.getElem?_set_self (by rw [wipe_length]; exact hl)]
      · rw [if_neg hl, List.getElem?_eq_none (by rw [List.length_set, wipe_length]; omega)]
    · rw [List.getElem?_set_ne e]
      rcases List.mem_cons.mp h with z | z
      · exact absurd z.symm e
      · exact wipe_in z
theorem wipe_but {σ σ' : L2.St} : ∀ {vs : List Nat}, But vs σ σ' → wipe σ' vs = wipe σ vs := by
  intro vs h
  apply List.ext_getElem?
  intro i
  by_cases hi : i ∈ vs
  · rw [wipe_in hi, wipe_in hi, h.1]
  · rw [wipe_other hi, wipe_other hi]
    exact h.2 i hi
def noEx {α : Type} : Res α → Res α
  | .ok a => .ok a
  | .ex _ => .no
  | .no => .no
theorem wp_noEx {α : Type} {m : Res α} {P : α → Prop} {E E' : Exn × Rho → Prop} (h : Wp (noEx m) P E) : Wp m P E' := by
  cases m with
  | ok a => exact h
  | ex x => exact h.elim
  | no => exact h
/-- the list of a comprehension, item by item -/
def lcD (vs : List Nat) (b : BM) (c : M Bool) (m : M D) : List D → List D → Rho → Res (List D × Rho)
  | [], acc, r => .ok (acc, r)
  | d :: ds, acc, r => (ofO (b d r)).bind fun r1 => (noEx (c r1)).bind fun t => if t.1 = true then
      ((noEx (m t.2)).bind fun x => if acc.length < 16777216 then (ofO (wipeR x.2 vs)).bind fun r2 => lcD vs b c m ds (acc ++ [x.1]) r2 else .no)
    else (ofO (wipeR t.2 vs)).bind fun r2 => lcD vs b c m ds acc r2
def eLc (mi : M (List D)) (vs : List Nat) (b : BM) (c : M Bool) (m : M D) : M RV := fun r => (mi r).bind fun a => (ofO (wipeR a.2 vs)).bind fun r1 => (lcD vs b c m a.1 [] r1).bind fun x => .ok (.own (.lst x.1), x.2)
def tYesM : M Bool := fun r => .ok (true, r)
theorem absYes {K : PySem.W.Frag} {tcK : TabC K} {E : WX} : AbsT K E tYes tYesM := fun G as r σ H Q R w => w G H Stp.refl R
section
variable {K : PySem.W.Frag} {tcK : TabC K} {E : WX} {wi : TI} {mi : M (List D)} {g : TG} {b : BM} {tt : TT} {c : M Bool} {te : TE} {m : M D} {vs ws : List Nat}
theorem absLc (hi : AbsI K E wi mi) (hg : AbsG K ws g b) (hw : ∀ i ∈ ws, i ∈ vs) (hc : AbsT K W0 tt c) (he : AbsD K W0 te m) : AbsE K E (tLc wi g tt te vs) (eLc mi vs b c m) := by
  intro G as r σ H Q R w
  refine hi G as r σ H _ R ((Wp.bind w).mono (fun a w1 => ?_) fun _ z => z)
  obtain ⟨items, r1⟩ := a
  intro G1 H1 J S1 R1 hJ D hD
  obtain ⟨Gp, Y, wk, hgp, hy⟩ := hJ
  obtain ⟨r2, ew, w2⟩ := wp_bindO w1
  obtain ⟨R2, S2, hvs⟩ := wipeR_rel R1 ew
  have S12 := S1.trans R1 S2
  have gr0 := Grow.bare R2.le hD (.lst [])
  have R3 := gr0.rel R2
  have S3 := gr0.stp R2
  have S13 := S12.trans R2 S3
  have w2 : Wp ((lcD vs b c m items [] r2).bind fun x => .ok (.own (.lst x.1), x.2)) (EPost K G as r σ H Q) (XPost K G as r σ H E) := w2
  have hDn : ¬ Owned as r2 D := fun z => by
    obtain ⟨u, hu⟩ := R2.owned_there z
    rw [hD] at hu; cases hu
  have hD0 : H D = none := by
    cases e : H D with
    | none => rfl
    | some o => exact absurd hD (S1.alive D (by rw [e]; exact fun z => nomatch z))
  refine lc_it wk (fun i H' => ∃ G' r' acc accV, Same G1 G' ∧ Stp G as r H G' as r' H' ∧ Rel K G' as r' (wipe σ vs) H' ∧ (∀ v ∈ vs, r'[v]? = some .non) ∧ H' D = some (.lst accV) ∧ DPs K G' accV acc ∧ G' D = none ∧ ¬ Owned as r' D ∧
      Wp ((lcD vs b c m (items.drop i) acc r').bind fun x => .ok (.own (.lst x.1), x.2)) (EPost K G as r σ H Q) (XPost K G as r σ H E))
    ⟨G1, r2, [], [], Same.refl _, S13, R3, hvs, upd_same, DPs.nil, R2.le.free hD, hDn, by rw [List.drop_zero]; exact w2⟩ ?_ ?_ ?_
  · rintro i H' _ ⟨G', r', acc, accV, sg, _, R', _⟩
    exact hgp H' (sg.trans R'.le)
  · rintro i x H' H2 hlt ⟨G', r', acc, accV, sg, S', R', hn', hDl, dps, hDg, hDo, w'⟩ hyi
    obtain ⟨G2, d, ed, gr, dp⟩ := hy i H' x H2 G' sg R'.le hlt hyi
    rw [drop_cons ed] at w'
    have w' : Wp (((ofO (b d r')).bind fun r1 => (noEx (c r1)).bind fun t => if t.1 = true then
      ((noEx (m t.2)).bind fun x => if acc.length < 16777216 then (ofO (wipeR x.2 vs)).bind fun r2 => lcD vs b c m (items.drop (i + 1)) (acc ++ [x.1]) r2 else .no)
      else (ofO (wipeR t.2 vs)).bind fun r2 => lcD vs b c m (items.drop (i + 1)) acc r2).bind fun x => .ok (.own (.lst x.1), x.2)) (EPost K G as r σ H Q) (XPost K G as r σ H E) := w'
    obtain ⟨rb, eb, w3⟩ := wp_bindO (Wp.bind w')
    have R2' := gr.rel R'
    have Sg := gr.stp R'
    -- the new list through a step
    have keepD : ∀ {Ga Gb : Hp} {ra rb' : Rho} {Ha Hb : Hp}, Stp Ga as ra Ha Gb as rb' Hb → Ha D = some (.lst accV) → Ga D = none → ¬ Owned as ra D → Hb D = some (.lst accV) ∧ Gb D = none ∧ ¬ Owned as rb' D := by
      intro Ga Gb ra rb' Ha Hb S h1 h2 h3
      refine ⟨S.keep D _ h1 h3 nt_lst.1, ?_, fun z => ?_⟩
      · cases q : Gb D with
        | none => rfl
        | some w =>
          rcases S.fr D (by rw [q]; exact fun z => nomatch z) with z | z | z
          · exact absurd h2 z
          · rw [h1] at z; cases z
          · exact absurd z.owned h3
      · rcases S.own D z with q | q
        · exact h3 q
        · rw [h1] at q; cases q
    obtain ⟨d1, d2, d3⟩ := keepD Sg hDl hDg hDo
    refine hg G2 as r' (wipe σ vs) H2 x d _ R2' dp rb eb fun σ2 Bb Sb Rb => ?_
    obtain ⟨b1, b2, b3⟩ := keepD Sb d1 d2 d3
    have Bv : But vs (wipe σ vs) σ2 := ⟨Bb.1, fun i hi => Bb.2 i fun z => hi (hw i z)⟩
    have ew2 : wipe σ2 vs = wipe σ vs := by
      rw [wipe_but Bv]
      apply List.ext_getElem?
      intro j
      by_cases hj : j ∈ vs
      · rw [wipe_in hj, wipe_in hj, wipe_length]
      · rw [wipe_other hj]
    refine ⟨ew2, ?_⟩
    have w4 := Wp.bind w3
    refine hc G2 as rb σ2 H2 _ Rb (wp_noEx (Wp.mono w4 (fun t w5 => ?_) fun _ z => z))
    obtain ⟨bv, rt⟩ := t
    intro G3 H3 S3 R3'
    obtain ⟨c1, c2, c3⟩ := keepD S3 b1 b2 b3
    have Sgb := Sg.trans R2' Sb
    have S03 := (S'.trans R' Sgb).trans Rb S3
    have sg3 : Same G1 G3 := (sg.trans Sgb.g).trans S3.g
    cases bv with
    | false =>
      have w5 : Wp ((ofO (wipeR rt vs)).bind fun r2 => lcD vs b c m (items.drop (i + 1)) acc r2) (fun a => Wp (.ok (.own (.lst a.1), a.2)) (EPost K G as r σ H Q) (XPost K G as r σ H E)) (XPost K G as r σ H E) := w5
      obtain ⟨r4, e4, w6⟩ := wp_bindO w5
      obtain ⟨R4, S4, hn4⟩ := wipeR_rel R3' e4
      rw [ew2] at R4
      obtain ⟨f1, f2, f3⟩ := keepD S4 c1 c2 c3
      refine ⟨G3, r4, acc, accV, sg3, S03.trans R3' S4, R4, hn4, f1, dps.mono (Sgb.g.trans S3.g), f2, f3, ?_⟩
      cases el : lcD vs b c m (items.drop (i + 1)) acc r4 with
      | no => rw [el] at w6; exact w6.elim
      | ex x => rw [el] at w6; exact w6
      | ok a => rw [el] at w6; exact w6
    | true =>
      have w5 : Wp ((noEx (m rt)).bind fun x => if acc.length < 16777216 then (ofO (wipeR x.2 vs)).bind fun r2 => lcD vs b c m (items.drop (i + 1)) (acc ++ [x.1]) r2 else .no) (fun a => Wp (.ok (.own (.lst a.1), a.2)) (EPost K G as r σ H Q) (XPost K G as r σ H E)) (XPost K G as r σ H E) := w5
      refine he G3 as rt σ2 H3 _ R3' (wp_noEx (Wp.mono (Wp.bind w5) (fun y w6 => ?_) fun _ z => z))
      obtain ⟨dy, ry⟩ := y
      intro G4 H4 v S4 R4 dv
      obtain ⟨f1, f2, f3⟩ := keepD S4 c1 c2 c3
      have w6 : Wp (if acc.length < 16777216 then (ofO (wipeR ry vs)).bind fun r2 => lcD vs b c m (items.drop (i + 1)) (acc ++ [dy]) r2 else .no) (fun a => Wp (.ok (.own (.lst a.1), a.2)) (EPost K G as r σ H Q) (XPost K G as r σ H E)) (XPost K G as r σ H E) := w6
      split at w6
      · rename_i hlen
        obtain ⟨r5, e5, w7⟩ := wp_bindO w6
        obtain ⟨R5, S5, hn5⟩ := wipeR_rel R4 e5
        rw [ew2] at R5
        obtain ⟨g1, g2, g3⟩ := keepD S5 f1 f2 f3
        have S05 := (S03.trans R3' S4).trans R4 S5
        have dps4 := dps.mono ((Sgb.g.trans S3.g).trans S4.g)
        have R6 : Rel K G4 as r5 (wipe σ vs) (upd H4 D (.lst (accV ++ [v]))) := by
          refine ⟨fun a o e => ?_, R5.len, R5.val, fun j p o e => ?_, R5.inj, ⟨tabs_upd R5.tabs.t g1 nt_lst, R5.tabs.g, R5.tabs.n⟩, R5.exn⟩
          · rw [upd_ne (fun z => by rw [z, f2] at e; cases e)]; exact R5.le a o e
          · obtain ⟨q1, q2, q3⟩ := R5.own j p o e
            exact ⟨q1, q2.step (Same.refl _) (upd_ne fun z => g3 ⟨j, p, o, e, z⟩), q3⟩
        refine ⟨accV, f1, by rw [sizeLine_eq, dps.length]; exact hlen, G4, r5, acc ++ [dy], accV ++ [v], sg3.trans S4.g, ⟨S05.g, S05.fr, fun a o ho hn nn => ?_, fun a ha => ?_, S05.own, S05.pin⟩, R6, hn5, upd_same, dps4.snoc dv, f2, g3, ?_⟩
        · rw [upd_ne (ne_of_none ho hD0)]; exact S05.keep a o ho hn nn
        · by_cases z : a = D
          · subst z; rw [upd_same]; exact fun z => nomatch z
          · rw [upd_ne z]; exact S05.alive a ha
        · cases el : lcD vs b c m (items.drop (i + 1)) (acc ++ [dy]) r5 with
          | no => rw [el] at w7; exact w7.elim
          | ex x => rw [el] at w7; exact w7
          | ok a => rw [el] at w7; exact w7
      · exact w6.elim
  · rintro H' ⟨G', r', acc, accV, sg, S', R', hn', hDl, dps, hDg, hDo, w'⟩
    rw [List.drop_length] at w'
    refine w' G' H' (.ref D) S' (R'.slots (by rw [wipe_length]) fun i s e hs => (wipe_other fun z => hs ?_).symm) ⟨D, rfl, ⟨accV, hDl, dps⟩, hDg, hDo, .inl hD0⟩
    have := hn' i z
    rw [e] at this
    exact Option.some.inj this
end
end DL
/-! # DL4: defs and their calls, things of a slot's own that are changed, borrowing -/
namespace DL
open PySem PySem.Spec PyProof.Rows L2
/-! ### an own thing changes -/
section
variable {K : PySem.W.Frag} {tcK : TabC K} {G : Hp} {as : Nat → Addr} {r : Rho} {σ : L2.St} {H : Hp}
theorem Rel.chg (R : Rel K G as r σ H) {i : Nat} {p : Bool} {o o' : Own} {ho : HO} (e : r[i]? = some (.own p o)) (h : OwnAt K G (upd H (as i) ho) (as i) o') :
    Rel K G as (r.set i (.own p o')) σ (upd H (as i) ho) := by
  obtain ⟨s1, s2, s3⟩ := R.own i p o e
  have hil : i < r.length := (List.getElem?_eq_some_iff.mp e).1
  refine ⟨fun a u q => ?_, by rw [List.length_set]; exact R.len, fun j d q => ?_, fun j q u z => ?_, fun j k q u q' u' e1 e2 e3 => ?_, ?_, exn_setN R fun _ z => nomatch z⟩
  · rw [upd_ne (fun z => by rw [z, s3] at q; cases q)]; exact R.le a u q
  · rcases set_get q with ⟨_, z⟩ | ⟨_, q⟩
    · cases z
    · exact R.val j d q
  · rcases set_get z with ⟨hij, z1⟩ | ⟨hne, z⟩
    · subst hij; cases z1; exact ⟨s1, h, s3⟩
    · obtain ⟨t1, t2, t3⟩ := R.own j q u z
      exact ⟨t1, t2.step (Same.refl _) (upd_ne fun y => hne (R.inj i j _ _ _ _ e z y.symm)), t3⟩
  · have f1 : ∃ u, r[j]? = some (.own q u) := by
      rcases set_get e1 with ⟨hij, z⟩ | ⟨_, z⟩
      · subst hij; cases z; exact ⟨o, e⟩
      · exact ⟨_, z⟩
    have f2 : ∃ u, r[k]? = some (.own q' u) := by
      rcases set_get e2 with ⟨hij, z⟩ | ⟨_, z⟩
      · subst hij; cases z; exact ⟨o, e⟩
      · exact ⟨_, z⟩
    obtain ⟨u1, f1⟩ := f1
    obtain ⟨u2, f2⟩ := f2
    exact R.inj j k _ _ _ _ f1 f2 e3
  · obtain ⟨u, hu, hn⟩ := s2.thereN
    exact ⟨tabs_upd R.tabs.t hu hn, R.tabs.g, R.tabs.n⟩
theorem Stp.chg (R : Rel K G as r σ H) {i : Nat} {p : Bool} {o o' : Own} {ho : HO} (e : r[i]? = some (.own p o)) : Stp G as r H G as (r.set i (.own p o')) (upd H (as i) ho) := by
  have hil : i < r.length := (List.getElem?_eq_some_iff.mp e).1
  refine ⟨Same.refl G, fun _ h => .inl h, fun a u h n _ => ?_, fun a h => ?_, fun a h => ?_, fun j u z => ⟨rfl, ?_⟩⟩
  · rw [upd_ne (fun z => n ⟨i, p, o, e, z.symm⟩)]; exact h
  · by_cases z : a = as i
    · subst z; rw [upd_same]; exact fun z => nomatch z
    · rw [upd_ne z]; exact h
  · obtain ⟨j, q, u, z, y⟩ := h
    rcases set_get z with ⟨hij, _⟩ | ⟨_, z⟩
    · subst hij; exact .inl ⟨i, p, o, e, y⟩
    · exact .inl ⟨j, q, u, z, y⟩
  · by_cases hj : i = j
    · subst hj
      rw [e] at z; cases z
      exact ⟨o', by rw [List.getElem?_set_self hil]⟩
    · exact ⟨u, by rw [List.getElem?_set_ne hj]; exact z⟩
end
/-- a list's method by values: contents and arguments to the answer and the contents -/
def AM (K : PySem.W.Frag) (r : V → List V → Hp → VK → Prop) (f : List D → List D → Option (D × List D)) : Prop :=
  ∀ G H p xs ds ys es (Q : VK), Same G H → H p = some (.lst xs) → G p = none → DPs K G xs ds → DPs K G ys es → ∀ d ds', f ds es = some (d, ds') →
    (∀ v xs', DP K G v d → DPs K G xs' ds' → Q v (upd H p (.lst xs'))) → r (.ref p) ys H Q
def eMut (i : Nat) (f : List D → List D → Option (D × List D)) (ms : M (List D)) : M RV := fun r => match r[i]? with
  | some (.own _ (.lst _)) => (ms r).bind fun a => match a.2[i]? with
    | some (.own p (.lst ds)) => (ofO (f ds a.1)).bind fun x => .ok (.val x.1, a.2.set i (.own p (.lst x.2)))
    | _ => .no
  | _ => .no
section
variable {K : PySem.W.Frag} {tcK : TabC K} {E : WX} {t : TA} {ms : M (List D)} {te ti : TE} {m mi : M D}
theorem absMut {i : Nat} {rr : V → List V → Hp → VK → Prop} {f : List D → List D → Option (D × List D)} (ha : AbsA K E t ms) (hr : AM K rr f) : AbsE K E (tBM K "list" rr (tVar i) t) (eMut i f ms) := by
  intro G as r σ H Q R w
  unfold eMut at w
  cases e : r[i]? with
  | none => rw [e] at w; exact w.elim
  | some s =>
    rw [e] at w
    cases s with
    | non => exact w.elim
    | val d => exact w.elim
    | exn x => exact w.elim
    | own p o =>
      cases o with
      | ins C fs => exact w.elim
      | dic es => exact w.elim
      | lst ds0 =>
        obtain ⟨s1, ⟨vs0, s2, _⟩, s3⟩ := R.own i p _ e
        refine ⟨_, s1, .inl ⟨rfl, vs0, SqL.of s2⟩, ?_⟩
        refine ha G as r σ H _ R ((Wp.bind w).mono (fun a w1 => ?_) fun _ z => z)
        intro G1 H1 ys S1 R1 dys
        cases e1 : a.2[i]? with
        | none => rw [e1] at w1; exact w1.elim
        | some s' =>
          rw [e1] at w1
          cases s' with
          | non => exact w1.elim
          | val d => exact w1.elim
          | exn x => exact w1.elim
          | own p' o' =>
            cases o' with
            | ins C fs => exact w1.elim
            | dic es => exact w1.elim
            | lst ds =>
              obtain ⟨t1, ⟨xs, t2, t4⟩, t3⟩ := R1.own i p' _ e1
              obtain ⟨⟨d, ds'⟩, ef, w2⟩ := wp_bindO w1
              refine hr G1 H1 (as i) xs ds ys a.1 _ R1.le t2 t3 t4 dys d ds' ef fun v xs' dv dx => ?_
              exact w2 G1 _ v (S1.trans R1 (Stp.chg R1 e1)) (R1.chg e1 ⟨xs', upd_same, dx⟩) dv
/-- x[i] = e, x a slot that owns a list -/
def ixD (n : Nat) (i : Int) : Option Nat := L2.ixN n i
def sPut (i : Nat) (mi m : M D) : SM := fun r => (m r).bind fun a => match a.2[i]? with
  | some (.own _ (.lst _)) => (mi a.2).bind fun b => match b.2[i]? with
    | some (.own p (.lst ds)) => (match b.1 with
      | .int k => (ofO (ixD ds.length k)).bind fun j => .ok (.nx, b.2.set i (.own p (.lst (ds.set j a.1))))
      | _ => .no)
    | _ => .no
  | _ => .no
theorem absPut {i : Nat} (he : AbsD K E te m) (hi : AbsD K E ti mi) : AbsS K E (tAsg te (gSub (tVar i) ti rSetL)) (sPut i mi m) := by
  intro G as r σ H D R w
  refine he G as r σ H _ R ((Wp.bind w).mono (fun a w1 => ?_) fun _ z => z.x)
  intro G1 H1 v S1 R1 dv
  cases e0 : a.2[i]? with
  | none => rw [e0] at w1; exact w1.elim
  | some s0 =>
    rw [e0] at w1
    cases s0 with
    | non => exact w1.elim
    | val d => exact w1.elim
    | exn x => exact w1.elim
    | own p0 o0 =>
      cases o0 with
      | ins C fs => exact w1.elim
      | dic es => exact w1.elim
      | lst ds0 =>
        obtain ⟨s1, _, _⟩ := R1.own i p0 _ e0
        refine ⟨_, s1, ?_⟩
        refine hi G1 as a.2 σ H1 _ R1 ((Wp.bind w1).mono (fun b w2 => ?_) fun _ z => XPost.on R1 S1 z.x)
        obtain ⟨dk, r2⟩ := b
        intro G2 H2 k S2 R2 dk'
        cases e1 : r2[i]? with
        | none => simp only [e1] at w2; exact w2.elim
        | some s' =>
          simp only [e1] at w2
          cases s' with
          | non => exact w2.elim
          | val d => exact w2.elim
          | exn x => exact w2.elim
          | own p' o' =>
            cases o' with
            | ins C fs => exact w2.elim
            | dic es => exact w2.elim
            | lst ds =>
              obtain ⟨t1, ⟨xs, t2, t4⟩, t3⟩ := R2.own i p' _ e1
              cases dk with
              | int kk =>
                obtain ⟨j, ej, w3⟩ := wp_bindO w2
                have ek : k = .int kk := by cases dk'; rfl
                refine ⟨as i, xs, kk, j, rfl, ek, t2, by rw [t4.length]; exact ej, ?_⟩
                have S12 := S1.trans R1 S2
                exact w3 G2 as σ _ (S12.trans R2 (Stp.chg R2 e1)) (R2.chg e1 ⟨_, upd_same, DPs.set (dv.mono S2.g) j t4⟩)
              | none => exact w2.elim
              | bool _ => exact w2.elim
              | str _ => exact w2.elim
              | list _ => exact w2.elim
              | tuple _ => exact w2.elim
              | dict _ => exact w2.elim
end
/-! ### a def: what it takes and what it leaves -/
/-- from the parameters' slots to the answer and the slots behind (those by reference) -/
abbrev Den := List Sl → Res (RV × List Sl)
def noFree (r : List Sl) : Prop := ∀ (i : Nat) (o : Own), r[i]? ≠ some (.own false o)
def spM (K : PySem.W.Frag) [TabC K] (n : Nat) (f : Den) : Sp := fun vs H Q E => vs.length = n ∧ ∃ G as r, Rel K G as r (vs.map some) H ∧ noFree r ∧ Wp (f r) (EPost K G as r (vs.map some) H Q) (XPost K G as r (vs.map some) H fun c d _ H' => E c d H')
/-- the slots by reference as they are behind, the others as they were -/
def out1 : Sl → Option Sl → Sl
  | .own true _, some s => s
  | r, _ => r
def outs : List Sl → List Sl → List Sl
  | [], _ => []
  | r :: rs, ss => out1 r ss.head? :: outs rs ss.tail
theorem outs_length : ∀ r s : List Sl, (outs r s).length = r.length
  | [], _ => rfl
  | _ :: rs, ss => congrArg (· + 1) (outs_length rs ss.tail)
theorem outs_at : ∀ (r s : List Sl) (i : Nat), (outs r s)[i]? = (r[i]?).map fun x => out1 x s[i]?
  | [], _, _ => by simp [outs]
  | r :: rs, ss, 0 => by simp [outs, List.head?_eq_getElem?]
  | r :: rs, ss, i + 1 => by
    simp only [outs, List.getElem?_cons_succ, outs_at rs ss.tail i, List.getElem?_tail]
theorem outs_get {r s : List Sl} {i : Nat} {x : Sl} (hs : ∀ (i : Nat) (o : Own), r[i]? = some (.own true o) → ∃ y, s[i]? = some y) (h : (outs r s)[i]? = some x) : (∃ o, r[i]? = some (.own true o) ∧ s[i]? = some x) ∨ (r[i]? = some x ∧ ∀ o, x ≠ .own true o) := by
  rw [outs_at] at h
  cases e : r[i]? with
  | none => rw [e] at h; cases h
  | some y =>
    rw [e] at h
    have h : out1 y s[i]? = x := Option.some.inj h
    cases y with
    | non => cases h; exact .inr ⟨rfl, fun o z => nomatch z⟩
    | val d => cases h; exact .inr ⟨rfl, fun o z => nomatch z⟩
    | exn x => cases h; exact .inr ⟨rfl, fun o z => nomatch z⟩
    | own p o =>
      cases p with
      | false => cases h; exact .inr ⟨rfl, fun o z => nomatch z⟩
      | true =>
        obtain ⟨y, hy⟩ := hs i o e
        rw [hy] at h
        cases h
        exact .inl ⟨o, rfl, hy⟩
/-- a def of n slots whose body is s -/
def outX {α : Type} (r : List Sl) : Res α → Res α
  | .ex x => .ex (x.1, outs r x.2)
  | .ok a => .ok a
  | .no => .no
theorem wp_outX {α : Type} {r : List Sl} {m : Res α} {P : α → Prop} {E : Exn × Rho → Prop} (h : Wp (outX r m) P E) : Wp m P (fun x => E (x.1, outs r x.2)) := by
  cases m with
  | ok a => exact h
  | ex x => exact h
  | no => exact h
def den (n : Nat) (s : SM) : Den := fun r => outX r ((s (r ++ List.replicate (n - r.length) .non)).bind fun a => match a.1 with
  | .rt rv => .ok (rv, outs r a.2)
  | .nx => .ok (.val .none, outs r a.2)
  | _ => .no)
section
variable {K : PySem.W.Frag} {tcK : TabC K} {E : XK}
theorem rep_get {α : Type} {n i : Nat} {a b : α} (h : (List.replicate n a)[i]? = some b) : b = a := by
  rw [List.getElem?_replicate] at h
  split at h
  · exact (Option.some.inj h).symm
  · cases h
theorem app_get {α : Type} {l l' : List α} {i : Nat} {x : α} (h : (l ++ l')[i]? = some x) : (i < l.length ∧ l[i]? = some x) ∨ (l.length ≤ i ∧ l'[i - l.length]? = some x) := by
  by_cases hi : i < l.length
  · rw [List.getElem?_append_left hi] at h; exact .inl ⟨hi, h⟩
  · rw [List.getElem?_append_right (by omega)] at h; exact .inr ⟨by omega, h⟩
/-- a def's body keeps the promise that its denotation makes -/
theorem body_ok {N : List Str} {t : TS} {s : SM} {k : Nat} (h : AbsS K (fun c d _ H => E c d H) t s) (hk : k ≤ N.length) {vs : List V} {H : Hp} {Q : VK} (hs : spM K k (den N.length s) vs H Q E) : t { nx := fun _ H' => Q .non H', rt := Q } (L2.start N vs) H := by
  obtain ⟨hvs, G, as, r, R, nf, w⟩ := hs
  have hl : r.length = vs.length := by rw [R.len, List.length_map]
  generalize hr0 : r ++ List.replicate (N.length - r.length) Sl.non = r0
  have g0 : ∀ (i : Nat) (x : Sl), r0[i]? = some x → x ≠ .non → i < r.length ∧ r[i]? = some x := by
    intro i x e hx
    rw [← hr0] at e
    rcases app_get e with z | ⟨_, z⟩
    · exact z
    · exact absurd (rep_get z) hx
  have g1 : ∀ (i : Nat) (x : Sl), r[i]? = some x → r0[i]? = some x := by
    intro i x e
    rw [← hr0, List.getElem?_append_left (List.getElem?_eq_some_iff.mp e).1]; exact e
  have gs : ∀ (i : Nat) (x : Option V), (vs.map some)[i]? = some x → (L2.start N vs)[i]? = some x := by
    intro i x e
    unfold L2.start
    rw [List.getElem?_append_left (List.getElem?_eq_some_iff.mp e).1]; exact e
  have R0 : Rel K G as r0 (L2.start N vs) H := by
    refine ⟨R.le, ?_, fun i d e => ?_, fun i p o e => ?_, fun i j p o q u e1 e2 e3 => ?_, R.tabs, fun i x e => by
      obtain ⟨hi, e⟩ := g0 i _ e (fun z => nomatch z)
      have q := R.exn i x e
      exact ⟨gs i _ q.at_, q.cls, q.fld⟩⟩
    · rw [← hr0]
      unfold L2.start
      simp only [List.length_append, List.length_replicate, List.length_map]
      omega
    · obtain ⟨hi, e⟩ := g0 i _ e (fun z => nomatch z)
      obtain ⟨v, h1, h2⟩ := R.val i d e
      exact ⟨v, gs i _ h1, h2⟩
    · obtain ⟨hi, e⟩ := g0 i _ e (fun z => nomatch z)
      obtain ⟨h1, h2, h3⟩ := R.own i p o e
      exact ⟨gs i _ h1, h2, h3⟩
    · exact R.inj i j p o q u (g0 i _ e1 (fun z => nomatch z)).2 (g0 j _ e2 (fun z => nomatch z)).2 e3
  have ow : ∀ a, Owned as r0 a → Owned as r a := fun a ⟨i, p, o, e, z⟩ => ⟨i, p, o, (g0 i _ e (fun z => nomatch z)).2, z⟩
  have ow' : ∀ a, Owned as r a → Owned as r0 a := fun a ⟨i, p, o, e, z⟩ => ⟨i, p, o, g1 i _ e, z⟩
  have ow0 : ∀ a, ¬ Owned0 as r0 a := fun a ⟨i, o, e, z⟩ => nf i o (g0 i _ e (fun z => nomatch z)).2
  have w : Wp ((s r0).bind fun a => match a.1 with
    | .rt rv => .ok (rv, outs r a.2)
    | .nx => .ok (.val .none, outs r a.2)
    | _ => .no) (EPost K G as r (vs.map some) H Q) (fun x => XPost K G as r (vs.map some) H (fun c d _ H' => E c d H') (x.1, outs r x.2)) := by
    unfold den at w
    rw [hr0] at w
    exact wp_outX w
  -- from the body's end to the caller's words
  have main : ∀ (r' : Rho) G' as' σ' H', Stp G as r0 H G' as' r' H' → Rel K G' as' r' σ' H' → Stp G as r H G' as (outs r r') H' ∧ Rel K G' as (outs r r') (vs.map some) H' ∧ ∀ a, Owned as (outs r r') a → Owned as' r' a := by
    intro r' G' as' σ' H' S' R'
    have hle : ∀ (i : Nat) (o : Own), r[i]? = some (.own true o) → ∃ y, r'[i]? = some y := fun i o e => by
      obtain ⟨_, o', z⟩ := S'.pin i o (g1 i _ e)
      exact ⟨_, z⟩
    have og : ∀ (i : Nat) (x : Sl), (outs r r')[i]? = some x → (∃ o, r[i]? = some (.own true o) ∧ r'[i]? = some x ∧ as' i = as i) ∨ (r[i]? = some x ∧ ∀ o, x ≠ .own true o) := by
      intro i x e
      rcases outs_get hle e with ⟨o, h1, h2⟩ | z
      · exact .inl ⟨o, h1, h2, (S'.pin i o (g1 i _ h1)).1⟩
      · exact .inr z
    have oo : ∀ (i : Nat) (p : Bool) (o : Own), (outs r r')[i]? = some (.own p o) → ∃ o0, r[i]? = some (.own true o0) ∧ r'[i]? = some (.own p o) ∧ as' i = as i := by
      intro i p o e
      rcases og i _ e with ⟨o0, h1, h2, h3⟩ | ⟨h1, h2⟩
      · exact ⟨o0, h1, h2, h3⟩
      · cases p with
        | true => exact absurd rfl (h2 o)
        | false => exact absurd h1 (nf i o)
    have Sr : Stp G as r H G' as (outs r r') H' := by
      refine ⟨S'.g, fun a ha => ?_, fun a o h1 h2 h3 => S'.keep a o h1 (fun z => h2 (ow a z)) h3, S'.alive, fun a ha => ?_, fun i o e => ⟨rfl, ?_⟩⟩
      · rcases S'.fr a ha with z | z | z
        · exact .inl z
        · exact .inr (.inl z)
        · exact absurd z (ow0 a)
      · obtain ⟨i, p, o, e, z⟩ := ha
        obtain ⟨o0, h1, _, _⟩ := oo i p o e
        exact .inl ⟨i, true, o0, h1, z⟩
      · obtain ⟨_, o', h1⟩ := S'.pin i o (g1 i _ e)
        refine ⟨o', ?_⟩
        have hi : i < (outs r r').length := by rw [outs_length]; exact (List.getElem?_eq_some_iff.mp e).1
        have e2 : (outs r r')[i]? = some ((outs r r')[i]) := by simp [hi]
        rcases og i _ e2 with ⟨o0, h2, h3, _⟩ | ⟨h2, h3⟩
        · rw [h1] at h3
          rw [e2, ← h3]
        · rw [e] at h2
          exact absurd (Option.some.inj h2).symm (h3 o)
    have Rr : Rel K G' as (outs r r') (vs.map some) H' := by
      refine ⟨R'.le, by rw [outs_length]; exact R.len, fun i d e => ?_, fun i p o e => ?_, fun i j p o q u e1 e2 e3 => ?_, R'.tabs, fun i x e => by
        rcases og i _ e with ⟨o0, h1, h2, _⟩ | ⟨h1, _⟩
        · obtain ⟨_, o', h3⟩ := S'.pin i o0 (g1 i _ h1)
          rw [h2] at h3; cases h3
        · exact (R.exn i x h1).mono S'.g⟩
      · rcases og i _ e with ⟨o0, h1, h2, _⟩ | ⟨h1, _⟩
        · obtain ⟨_, o', h3⟩ := S'.pin i o0 (g1 i _ h1)
          rw [h2] at h3; cases h3
        · obtain ⟨v, h2, h3⟩ := R.val i d h1
          exact ⟨v, h2, h3.mono S'.g⟩
      · obtain ⟨o0, h1, h2, h3⟩ := oo i p o e
        obtain ⟨q1, q2, q3⟩ := R'.own i p o h2
        rw [h3] at q2 q3
        exact ⟨(R.own i true o0 h1).1, q2, q3⟩
      · obtain ⟨o1, h1, _, _⟩ := oo i p o e1
        obtain ⟨o2, h2, _, _⟩ := oo j q u e2
        exact R.inj i j _ _ _ _ h1 h2 e3
    refine ⟨Sr, Rr, fun a z => ?_⟩
    obtain ⟨i, q, u, ei, ez⟩ := z
    obtain ⟨_, _, k1, k2⟩ := oo i q u ei
    exact ⟨i, q, u, k1, by rw [k2]; exact ez⟩
  have fin : ∀ (rv : RV) (r' : Rho) G' as' σ' H' v, EPost K G as r (vs.map some) H Q (rv, outs r r') → Stp G as r0 H G' as' r' H' → Rel K G' as' r' σ' H' → RVat K as r0 H G' as' r' H' v rv → Q v H' := by
    intro rv r' G' as' σ' H' v hq S' R' hv
    obtain ⟨Sr, Rr, oo⟩ := main r' G' as' σ' H' S' R'
    refine hq G' H' v Sr Rr ?_
    cases rv with
    | val d => exact hv
    | own o =>
      obtain ⟨p, e, h1, h2, h3, h4⟩ := hv
      refine ⟨p, e, h1, h2, fun z => h3 (oo p z), ?_⟩
      · rcases h4 with z | z
        · exact .inl z
        · exact absurd z (ow0 p)
  refine h G as r0 (L2.start N vs) H _ R0 ((Wp.bind w).mono (fun a w1 => ?_) fun x z => ?_)
  case refine_2 =>
    intro G' as' σ' H' xd S' R' e
    obtain ⟨Sr, Rr, oo⟩ := main x.2 G' as' σ' H' S' R'
    obtain ⟨v, e1, e2, e3, e4⟩ := e
    exact z G' H' xd Sr Rr ⟨v, e1, e2, fun y => e3 (oo xd y), e4⟩
  obtain ⟨f, r'⟩ := a
  cases f with
  | nx => exact fun G' as' σ' H' S' R' => fin (.val .none) r' G' as' σ' H' .non w1 S' R' .non
  | rt rv => exact fun G' as' σ' H' v S' R' hv => fin rv r' G' as' σ' H' v w1 S' R' hv
  | bk => exact w1.elim
  | ct => exact w1.elim
end
end DL
/-! # DL5: calls of defs; borrowing -/
namespace DL
open PySem PySem.Spec PyProof.Rows L2
inductive ASl where
  | val (d : D)
  | ref (i : Nat)
inductive ArgsAt (K : PySem.W.Frag) (G : Hp) (as : Nat → Addr) : List V → List ASl → Prop
  | nil : ArgsAt K G as [] []
  | val {v : V} {d : D} {vs : List V} {l : List ASl} : DP K G v d → ArgsAt K G as vs l → ArgsAt K G as (v :: vs) (.val d :: l)
  | ref {i : Nat} {vs : List V} {l : List ASl} : ArgsAt K G as vs l → ArgsAt K G as (.ref (as i) :: vs) (.ref i :: l)
section
variable {K : PySem.W.Frag} {tcK : TabC K} {G G' : Hp} {as : Nat → Addr}
theorem ArgsAt.mono (s : Same G G') : ∀ {vs : List V} {l : List ASl}, ArgsAt K G as vs l → ArgsAt K G' as vs l
  | _, _, .nil => .nil
  | _, _, .val h t => .val (h.mono s) (ArgsAt.mono s t)
  | _, _, .ref t => .ref (ArgsAt.mono s t)
theorem ArgsAt.length : ∀ {vs : List V} {l : List ASl}, ArgsAt K G as vs l → vs.length = l.length
  | _, _, .nil => rfl
  | _, _, .val _ t => congrArg (· + 1) (ArgsAt.length t)
  | _, _, .ref t => congrArg (· + 1) (ArgsAt.length t)
theorem ArgsAt.append : ∀ {vs ws : List V} {l l' : List ASl}, ArgsAt K G as vs l → ArgsAt K G as ws l' → ArgsAt K G as (vs ++ ws) (l ++ l')
  | _, _, _, _, .nil, h => h
  | _, _, _, _, .val h t, s => .val h (ArgsAt.append t s)
  | _, _, _, _, .ref t, s => .ref (ArgsAt.append t s)
theorem ArgsAt.get : ∀ {vs : List V} {l : List ASl} {i : Nat}, ArgsAt K G as vs l → (vs[i]? = none ∧ l[i]? = none) ∨ (∃ v d, vs[i]? = some v ∧ l[i]? = some (ASl.val d) ∧ DP K G v d) ∨ (∃ k, vs[i]? = some (V.ref (as k)) ∧ l[i]? = some (ASl.ref k))
  | _, _, _, .nil => .inl ⟨rfl, rfl⟩
  | _, _, 0, .val h _ => .inr (.inl ⟨_, _, rfl, rfl, h⟩)
  | _, _, 0, .ref _ => .inr (.inr ⟨_, rfl, rfl⟩)
  | _, _, i + 1, .val _ t => by simpa using ArgsAt.get (i := i) t
  | _, _, i + 1, .ref t => by simpa using ArgsAt.get (i := i) t
end
/-- the things at some places, in their order -/
def pick {α : Type} (ix : List Nat) (l : List α) : List α := ix.filterMap fun i => l[i]?
theorem ArgsAt.pick {K : PySem.W.Frag} {G : Hp} {as : Nat → Addr} {vs : List V} {l : List ASl} (h : ArgsAt K G as vs l) : ∀ ix : List Nat, ArgsAt K G as (pick ix vs) (pick ix l)
  | [] => .nil
  | i :: ix => by
    have ih := ArgsAt.pick h ix
    unfold DL.pick at ih ⊢
    rcases h.get (i := i) with ⟨e1, e2⟩ | ⟨v, d, e1, e2, e3⟩ | ⟨k, e1, e2⟩
    · rw [List.filterMap_cons_none e1, List.filterMap_cons_none e2]; exact ih
    · rw [List.filterMap_cons_some e1, List.filterMap_cons_some e2]; exact .val e3 ih
    · rw [List.filterMap_cons_some e1, List.filterMap_cons_some e2]; exact .ref ih
theorem vals_pick {vs : List V} {us : List Value} (h : Vals vs us) : ∀ ix : List Nat, Vals (pick ix vs) (pick ix us)
  | [] => .nil
  | i :: ix => by
    have ih := vals_pick h ix
    unfold DL.pick at ih ⊢
    cases e : vs[i]? with
    | none => rw [List.filterMap_cons_none e, List.filterMap_cons_none (h.none_of e)]; exact ih
    | some v =>
      obtain ⟨u, e2, r⟩ := h.get e
      rw [List.filterMap_cons_some e, List.filterMap_cons_some e2]; exact .cons r ih
def ArPost (K : PySem.W.Frag) [TabC K] (G : Hp) (as : Nat → Addr) (r : Rho) (σ : L2.St) (H : Hp) (Q : List V → Hp → Prop) (a : List ASl × Rho) : Prop :=
  ∀ G' H' vs, Stp G as r H G' as a.2 H' → Rel K G' as a.2 σ H' → ArgsAt K G' as vs a.1 → Q vs H'
def AbsAr (K : PySem.W.Frag) [TabC K] (E : WX) (t : TA) (m : M (List ASl)) : Prop :=
  ∀ G as r σ H Q, Rel K G as r σ H → Wp (m r) (ArPost K G as r σ H Q) (XPost K G as r σ H E) → t σ H Q
def arNil : M (List ASl) := fun r => .ok ([], r)
def arV (m : M D) (ms : M (List ASl)) : M (List ASl) := fun r => (m r).bind fun a => (ms a.2).bind fun b => .ok (.val a.1 :: b.1, b.2)
def arR (i : Nat) (ms : M (List ASl)) : M (List ASl) := fun r => match r[i]? with
  | some (.own _ _) => (ms r).bind fun b => .ok (.ref i :: b.1, b.2)
  | _ => .no
section
variable {K : PySem.W.Frag} {tcK : TabC K} {E : WX} {ta : TE} {ma : M D} {t tk : TA} {ms mk : M (List ASl)}
theorem absArNil : AbsAr K E tNil arNil := fun G as r σ H Q R w => w G H [] Stp.refl R .nil
theorem absArV (ha : AbsD K E ta ma) (hs : AbsAr K E t ms) : AbsAr K E (tCons ta t) (arV ma ms) := by
  intro G as r σ H Q R w
  refine ha G as r σ H _ R ((Wp.bind w).mono (fun a w1 => ?_) fun _ z => z)
  intro G1 H1 x S1 R1 dx
  refine hs G1 as a.2 σ H1 _ R1 ((Wp.bind w1).mono (fun b w2 => ?_) fun _ z => XPost.on R1 S1 z)
  intro G2 H2 ys S2 R2 dy
  exact w2 G2 H2 (x :: ys) (S1.trans R1 S2) R2 (.val (dx.mono S2.g) dy)
theorem absArR {i : Nat} (hs : AbsAr K E t ms) : AbsAr K E (tCons (tVar i) t) (arR i ms) := by
  intro G as r σ H Q R w
  unfold arR at w
  cases e : r[i]? with
  | none => rw [e] at w; exact w.elim
  | some s =>
    rw [e] at w
    cases s with
    | non => exact w.elim
    | val d => exact w.elim
    | exn x => exact w.elim
    | own p o =>
      refine ⟨_, (R.own i p o e).1, ?_⟩
      refine hs G as r σ H _ R ((Wp.bind w).mono (fun b w2 => ?_) fun _ z => z)
      intro G2 H2 ys S2 R2 dy
      exact w2 G2 H2 (_ :: ys) S2 R2 (.ref dy)
end
def isR (i : Nat) : ASl → Bool
  | .ref j => j == i
  | .val _ => false
/-- the callee's slots -/
def mkA : List ASl → Rho → Option (List Sl)
  | [], _ => some []
  | .val d :: l, r => (mkA l r).map (.val d :: ·)
  | .ref i :: l, r => match r[i]? with
    | some (.own _ o) => if l.any (isR i) = true then none else (mkA l r).map (.own true o :: ·)
    | _ => none
def setOwn (r : Rho) (i : Nat) (o : Own) : Rho := match r[i]? with
  | some (.own p _) => r.set i (.own p o)
  | _ => r
/-- what came of the own things -/
def wb : List ASl → List Sl → Rho → Rho
  | .ref i :: l, .own _ o :: s, r => wb l s (setOwn r i o)
  | _ :: l, _ :: s, r => wb l s r
  | _, _, r => r
def noRef (l : List ASl) (i : Nat) : Prop := ∀ (j : Nat), l[j]? ≠ some (ASl.ref i)
theorem noRef_of {l : List ASl} {i : Nat} (h : ¬ l.any (isR i) = true) : noRef l i := by
  intro j e
  apply h
  rw [List.any_eq_true]
  exact ⟨_, List.mem_of_getElem? e, by simp [isR]⟩
/-- each thing is handed in at one place only -/
def Once (l : List ASl) : Prop := ∀ (j k i : Nat), l[j]? = some (ASl.ref i) → l[k]? = some (ASl.ref i) → j = k
theorem mkA_get : ∀ {l : List ASl} {r : Rho} {sl : List Sl}, mkA l r = some sl → sl.length = l.length ∧ Once l ∧ (∀ (j : Nat) (x : Sl), sl[j]? = some x → (∃ d, l[j]? = some (ASl.val d) ∧ x = Sl.val d) ∨ (∃ (i : Nat) (p : Bool) (o : Own), l[j]? = some (ASl.ref i) ∧ r[i]? = some (Sl.own p o) ∧ x = Sl.own true o)) ∧
    (∀ (j i : Nat), l[j]? = some (ASl.ref i) → ∃ (p : Bool) (o : Own), r[i]? = some (Sl.own p o) ∧ sl[j]? = some (Sl.own true o))
  | [], r, sl, e => by
    cases e
    exact ⟨rfl, fun j k i h => by simp at h, fun j x h => by simp at h, fun j i h => by simp at h⟩
  | .val d :: l, r, sl, e => by
    unfold mkA at e
    cases e1 : mkA l r with
    | none => rw [e1] at e; cases e
    | some s =>
      rw [e1] at e
      cases e
      obtain ⟨h1, h2, h3, h4⟩ := mkA_get e1
      refine ⟨congrArg (· + 1) h1, fun j k i a b => ?_, fun j x h => ?_, fun j i h => ?_⟩
      · cases j with
        | zero => simp at a
        | succ j => cases k with
          | zero => simp at b
          | succ k => exact congrArg (· + 1) (h2 j k i (by simpa using a) (by simpa using b))
      · cases j with
        | zero => simp at h; exact .inl ⟨d, rfl, h.symm⟩
        | succ j => simpa using h3 j x (by simpa using h)
      · cases j with
        | zero => simp at h
        | succ j => simpa using h4 j i (by simpa using h)
  | .ref i0 :: l, r, sl, e => by
    unfold mkA at e
    cases e0 : r[i0]? with
    | none => rw [e0] at e; cases e
    | some s0 =>
      rw [e0] at e
      cases s0 with
      | non => cases e
      | val d => cases e
      | exn x => cases e
      | own p0 o0 =>
        have e : (if l.any (isR i0) = true then none else (mkA l r).map (Sl.own true o0 :: ·)) = some sl := e
        split at e
        · cases e
        · rename_i hn
          have hn := noRef_of hn
          cases e1 : mkA l r with
          | none => rw [e1] at e; cases e
          | some s =>
            rw [e1] at e
            cases e
            obtain ⟨h1, h2, h3, h4⟩ := mkA_get e1
            refine ⟨congrArg (· + 1) h1, fun j k i a b => ?_, fun j x h => ?_, fun j i h => ?_⟩
            · cases j with
              | zero =>
                simp at a; subst a
                cases k with
                | zero => rfl
                | succ k => exact absurd (by simpa using b) (hn k)
              | succ j => cases k with
                | zero => simp at b; subst b; exact absurd (by simpa using a) (hn j)
                | succ k => exact congrArg (· + 1) (h2 j k i (by simpa using a) (by simpa using b))
            · cases j with
              | zero => simp at h; exact .inr ⟨i0, p0, o0, rfl, e0, h.symm⟩
              | succ j => simpa using h3 j x (by simpa using h)
            · cases j with
              | zero => simp at h; subst h; exact ⟨p0, o0, e0, rfl⟩
              | succ j => simpa using h4 j i (by simpa using h)
theorem setOwn_get {r : Rho} {i0 : Nat} {o : Own} {p : Bool} {u : Own} (e : r[i0]? = some (.own p u)) (i : Nat) : (setOwn r i0 o)[i]? = if i0 = i then some (.own p o) else r[i]? := by
  have hl : i0 < r.length := (List.getElem?_eq_some_iff.mp e).1
  unfold setOwn
  rw [e]
  by_cases h : i0 = i
  · subst h; rw [if_pos rfl]; exact List.getElem?_set_self hl
  · rw [if_neg h]; exact List.getElem?_set_ne h
theorem wb_get : ∀ {l : List ASl} {s : List Sl} {r : Rho} {i : Nat}, Once l → (∀ (j i : Nat), l[j]? = some (ASl.ref i) → (∃ (p : Bool) (o : Own), r[i]? = some (Sl.own p o)) ∧ ∃ (q : Bool) (o : Own), s[j]? = some (Sl.own q o)) →
    (noRef l i ∧ (wb l s r)[i]? = r[i]?) ∨ ∃ (j : Nat) (p : Bool) (o : Own) (q : Bool) (o' : Own), l[j]? = some (ASl.ref i) ∧ r[i]? = some (Sl.own p o) ∧ s[j]? = some (Sl.own q o') ∧ (wb l s r)[i]? = some (Sl.own p o')
  | [], s, r, i, _, _ => .inl ⟨fun j h => by simp at h, by unfold wb; rfl⟩
  | .val d :: l, [], r, i, ho, hs => by
    refine .inl ⟨fun j h => ?_, by unfold wb; rfl⟩
    obtain ⟨_, q, o, e⟩ := hs j i h
    simp at e
  | .val d :: l, x :: s, r, i, ho, hs => by
    have ih := wb_get (l := l) (s := s) (r := r) (i := i) (fun j k i a b => Nat.succ.inj (ho (j + 1) (k + 1) i (by simpa using a) (by simpa using b))) fun j i h => by simpa using hs (j + 1) i (by simpa using h)
    have ew : wb (.val d :: l) (x :: s) r = wb l s r := by cases x <;> rfl
    rw [ew]
    rcases ih with ⟨h1, h2⟩ | ⟨j, p, o, q, o', h1, h2, h3, h4⟩
    · refine .inl ⟨fun j h => ?_, h2⟩
      cases j with
      | zero => simp at h
      | succ j => exact h1 j (by simpa using h)
    · exact .inr ⟨j + 1, p, o, q, o', by simpa using h1, h2, by simpa using h3, h4⟩
  | .ref i0 :: l, s, r, i, ho, hs => by
    obtain ⟨⟨p0, o0, e0⟩, q0, o1, e1⟩ := hs 0 i0 rfl
    cases s with
    | nil => simp at e1
    | cons x s =>
      simp at e1
      subst e1
      have ew : wb (.ref i0 :: l) (.own q0 o1 :: s) r = wb l s (setOwn r i0 o1) := rfl
      rw [ew]
      have nr : ∀ (j : Nat), l[j]? ≠ some (ASl.ref i0) := fun j h => by
        have := ho 0 (j + 1) i0 rfl (by simpa using h)
        cases this
      have ih := wb_get (l := l) (s := s) (r := setOwn r i0 o1) (i := i) (fun j k i a b => Nat.succ.inj (ho (j + 1) (k + 1) i (by simpa using a) (by simpa using b))) fun j i h => by
        obtain ⟨⟨p, o, h1⟩, h2⟩ := hs (j + 1) i (by simpa using h)
        refine ⟨⟨p, o, ?_⟩, by simpa using h2⟩
        rw [setOwn_get e0, if_neg (fun z => nr j (by rw [z]; exact h))]; exact h1
      rcases ih with ⟨h1, h2⟩ | ⟨j, p, o, q, o', h1, h2, h3, h4⟩
      · rw [setOwn_get e0] at h2
        by_cases hi : i0 = i
        · subst hi
          rw [if_pos rfl] at h2
          exact .inr ⟨0, p0, o0, q0, o1, rfl, e0, rfl, h2⟩
        · rw [if_neg hi] at h2
          refine .inl ⟨fun j h => ?_, h2⟩
          cases j with
          | zero => simp at h; exact hi h
          | succ j => exact h1 j (by simpa using h)
      · have hi : i0 ≠ i := fun z => nr j (by rw [z]; exact h1)
        rw [setOwn_get e0, if_neg hi] at h2
        exact .inr ⟨j + 1, p, o, q, o', by simpa using h1, h2, by simpa using h3, h4⟩
/-- the callee's end in the caller's slots -/
def backX {α : Type} (l : List ASl) (r : Rho) : Res (α × List Sl) → Res (α × Rho)
  | .ok c => .ok (c.1, wb l c.2 r)
  | .ex x => .ex (x.1, wb l x.2 r)
  | .no => .no
theorem wp_backX {α : Type} {l : List ASl} {r : Rho} {m : Res (α × List Sl)} {P : α × Rho → Prop} {E : Exn × Rho → Prop} (h : Wp (backX l r m) P E) : Wp m (fun c => P (c.1, wb l c.2 r)) (fun x => E (x.1, wb l x.2 r)) := by
  cases m with
  | ok a => exact h
  | ex x => exact h
  | no => exact h
def eCall (n : Nat) (f : Den) (ms : M (List ASl)) : M RV := fun r => (ms r).bind fun a => if a.1.length = n then ((ofO (mkA a.1 a.2)).bind fun sl => backX a.1 a.2 (f sl)) else .no
section
variable {K : PySem.W.Frag} {tcK : TabC K} {E : WX} {t tk : TA} {ms mk : M (List ASl)}
/-- the callee, from the caller's words -/
theorem call_core {n : Nat} {f : Den} {G0 G : Hp} {as : Nat → Addr} {r0 r : Rho} {σ : L2.St} {H0 H : Hp} {Q : VK} {l : List ASl} {vs : List V} (S : Stp G0 as r0 H0 G as r H) (R : Rel K G as r σ H) (ha : ArgsAt K G as vs l)
    (w : Wp (if l.length = n then ((ofO (mkA l r)).bind fun sl => backX l r (f sl)) else .no) (EPost K G0 as r0 σ H0 Q) (XPost K G0 as r0 σ H0 E)) : spM K n f vs H Q (WE E σ) := by
  split at w
  · rename_i hn
    refine ⟨ha.length.trans hn, ?_⟩
    obtain ⟨sl, em, w1⟩ := wp_bindO w
    obtain ⟨m1, m2, m3, m4⟩ := mkA_get em
    generalize hac : (fun j => match l[j]? with | some (.ref i) => as i | _ => 0 : Nat → Addr) = ac
    have ac_at : ∀ (j i : Nat), l[j]? = some (ASl.ref i) → ac j = as i := fun j i h => by rw [← hac]; simp only [h]
    have oc : ∀ (j : Nat) (p : Bool) (o : Own), sl[j]? = some (.own p o) → p = true ∧ ∃ (i : Nat) (q : Bool), l[j]? = some (ASl.ref i) ∧ r[i]? = some (Sl.own q o) := by
      intro j p o e
      rcases m3 j _ e with ⟨d, _, z⟩ | ⟨i, q, u, h1, h2, h3⟩
      · cases z
      · cases h3; exact ⟨rfl, i, q, h1, h2⟩
    have ow : ∀ a, Owned ac sl a → Owned as r a := by
      rintro a ⟨j, p, o, e, z⟩
      obtain ⟨_, i, q, h1, h2⟩ := oc j p o e
      exact ⟨i, q, o, h2, by rw [← ac_at j i h1]; exact z⟩
    have ow0 : ∀ a, ¬ Owned0 ac sl a := by
      rintro a ⟨j, o, e, z⟩
      have := (oc j false o e).1
      cases this
    have Rc : Rel K G ac sl (vs.map some) H := by
      refine ⟨R.le, by rw [List.length_map, m1]; exact ha.length.symm, fun j d e => ?_, fun j p o e => ?_, fun j k p o q u e1 e2 e3 => ?_, R.tabs, fun j x e => by
        rcases m3 j _ e with ⟨d', h1, z⟩ | ⟨i, q, u, h1, h2, z⟩ <;> cases z⟩
      · rcases m3 j _ e with ⟨d', h1, z⟩ | ⟨i, q, u, h1, h2, z⟩
        · cases z
          rcases ha.get (i := j) with ⟨_, z⟩ | ⟨v, d2, k1, k2, k3⟩ | ⟨k, _, z⟩
          · rw [h1] at z; cases z
          · rw [h1] at k2; cases k2
            exact ⟨v, by rw [List.getElem?_map, k1]; rfl, k3⟩
          · rw [h1] at z; cases z
        · cases z
      · obtain ⟨_, i, q, h1, h2⟩ := oc j p o e
        obtain ⟨g1, g2, g3⟩ := R.own i q o h2
        rw [ac_at j i h1]
        rcases ha.get (i := j) with ⟨_, z⟩ | ⟨v, d2, k1, k2, k3⟩ | ⟨k, k1, k2⟩
        · rw [h1] at z; cases z
        · rw [h1] at k2; cases k2
        · rw [h1] at k2; cases k2
          exact ⟨by rw [List.getElem?_map, k1]; rfl, g2, g3⟩
      · obtain ⟨_, i, q1, h1, h2⟩ := oc j p o e1
        obtain ⟨_, i', q2, h1', h2'⟩ := oc k q u e2
        rw [ac_at j i h1, ac_at k i' h1'] at e3
        have := R.inj i i' _ _ _ _ h2 h2' e3
        subst this
        exact m2 j k i h1 h1'
    have nfr : noFree sl := fun i o e => by
      have := (oc i false o e).1
      cases this
    have main : ∀ (s : List Sl) (G2 H2 : Hp), Stp G ac sl H G2 ac s H2 → Rel K G2 ac s (vs.map some) H2 → Stp G as r H G2 as (wb l s r) H2 ∧ Rel K G2 as (wb l s r) σ H2 ∧ ∀ a, Owned as (wb l s r) a → Owned as r a := by
      intro s G2 H2 Sc Rc2
      have hs : ∀ (j i : Nat), l[j]? = some (ASl.ref i) → (∃ (p : Bool) (o : Own), r[i]? = some (Sl.own p o)) ∧ ∃ (q : Bool) (o : Own), s[j]? = some (Sl.own q o) := by
        intro j i h
        obtain ⟨p, o, h1, h2⟩ := m4 j i h
        obtain ⟨_, o', h3⟩ := Sc.pin j o h2
        exact ⟨⟨p, o, h1⟩, true, o', h3⟩
      have key : ∀ i, (noRef l i ∧ (wb l s r)[i]? = r[i]?) ∨ ∃ (j : Nat) (p : Bool) (o : Own) (q : Bool) (o' : Own), l[j]? = some (ASl.ref i) ∧ r[i]? = some (Sl.own p o) ∧ s[j]? = some (Sl.own q o') ∧ (wb l s r)[i]? = some (Sl.own p o') := fun i => wb_get m2 hs
      -- slots of the state behind
      have back : ∀ (i : Nat) (p : Bool) (o : Own), (wb l s r)[i]? = some (.own p o) → ∃ o0, r[i]? = some (.own p o0) := by
        intro i p o e
        rcases key i with ⟨_, h⟩ | ⟨j, p', o', q, o2, h1, h2, h3, h4⟩
        · exact ⟨o, by rw [← h]; exact e⟩
        · rw [h4] at e; cases e; exact ⟨o', h2⟩
      have S2 : Stp G as r H G2 as (wb l s r) H2 := by
        refine ⟨Sc.g, fun a h => ?_, fun a o h1 h2 h3 => Sc.keep a o h1 (fun z => h2 (ow a z)) h3, Sc.alive, fun a h => ?_, fun i o e => ⟨rfl, ?_⟩⟩
        · rcases Sc.fr a h with z | z | z
          · exact .inl z
          · exact .inr (.inl z)
          · exact absurd z (ow0 a)
        · obtain ⟨i, p, o, e, z⟩ := h
          obtain ⟨o0, e0⟩ := back i p o e
          exact .inl ⟨i, p, o0, e0, z⟩
        · rcases key i with ⟨_, h⟩ | ⟨j, p', o', q, o2, h1, h2, h3, h4⟩
          · exact ⟨o, by rw [h]; exact e⟩
          · rw [e] at h2; cases h2; exact ⟨o2, h4⟩
      have Rw : Rel K G2 as (wb l s r) σ H2 := by
        refine ⟨Rc2.le, ?_, fun i d e => ?_, fun i p o e => ?_, fun i j p o q u e1 e2 e3 => ?_, Rc2.tabs, fun i x e => by
          rcases key i with ⟨_, h⟩ | ⟨j, p', o', q, o2, h1, h2, h3, h4⟩
          · rw [h] at e
            exact (R.exn i x e).mono Sc.g
          · rw [h4] at e; cases e⟩
        · have : ∀ (l : List ASl) (s : List Sl) (r : Rho), (wb l s r).length = r.length := by
            intro l
            induction l with
            | nil => intro s r; unfold wb; rfl
            | cons a l ih =>
              intro s r
              cases s with
              | nil => cases a <;> rfl
              | cons x s =>
                cases a with
                | val d =>
                  have : wb (.val d :: l) (x :: s) r = wb l s r := by cases x <;> rfl
                  rw [this]; exact ih s r
                | ref i =>
                  cases x with
                  | non => exact ih s r
                  | val d => exact ih s r
                  | exn x => exact ih s r
                  | own q o =>
                    show (wb l s (setOwn r i o)).length = r.length
                    rw [ih]
                    unfold setOwn
                    split
                    · rw [List.length_set]
                    · rfl
          rw [this]; exact R.len
        · rcases key i with ⟨_, h⟩ | ⟨j, p', o', q, o2, h1, h2, h3, h4⟩
          · rw [h] at e
            obtain ⟨v, h1, h2⟩ := R.val i d e
            exact ⟨v, h1, h2.mono Sc.g⟩
          · rw [h4] at e; cases e
        · rcases key i with ⟨hn, h⟩ | ⟨j, p', o', q, o2, h1, h2, h3, h4⟩
          · rw [h] at e
            obtain ⟨g1, g2, g3⟩ := R.own i p o e
            obtain ⟨u, hu, hnt⟩ := g2.thereN
            have nown : ¬ Owned ac sl (as i) := by
              rintro ⟨j, p2, o2, e2, z⟩
              obtain ⟨_, i2, q2, k1, k2⟩ := oc j p2 o2 e2
              rw [ac_at j i2 k1] at z
              have := R.inj i2 i _ _ _ _ k2 e z
              subst this
              exact hn j k1
            refine ⟨g1, g2.step Sc.g (by rw [hu]; exact Sc.keep _ _ hu nown hnt.1), ?_⟩
            cases q : G2 (as i) with
            | none => rfl
            | some y =>
              rcases Sc.fr (as i) (by rw [q]; exact fun z => nomatch z) with z | z | z
              · exact absurd g3 z
              · rw [hu] at z; cases z
              · exact absurd z (ow0 _)
          · rw [h4] at e; cases e
            obtain ⟨g1, _, _⟩ := R.own i p o' h2
            obtain ⟨_, k2, k3⟩ := Rc2.own j q _ h3
            rw [ac_at j i h1] at k2 k3
            exact ⟨g1, k2, k3⟩
        · obtain ⟨o1, f1⟩ := back i p o e1
          obtain ⟨o2, f2⟩ := back j q u e2
          exact R.inj i j _ _ _ _ f1 f2 e3
      refine ⟨S2, Rw, fun a z => ?_⟩
      obtain ⟨i, q, u, ei, ez⟩ := z
      obtain ⟨o0, e0⟩ := back i q u ei
      exact ⟨i, q, o0, e0, ez⟩
    refine ⟨G, ac, sl, Rc, nfr, Wp.mono (wp_backX w1) (fun c w2 => ?_) fun x z => ?_⟩
    · obtain ⟨rv, s⟩ := c
      intro G2 H2 v Sc Rc2 hv
      obtain ⟨S2, Rw, oo⟩ := main s G2 H2 Sc Rc2
      have hv2 : RVat K as r H G2 as (wb l s r) H2 v rv := by
        cases rv with
        | val d => exact hv
        | own o =>
          obtain ⟨p, e, h1, h2, h3, h4⟩ := hv
          rcases h4 with h4 | h4
          · refine ⟨p, e, h1, h2, fun z => ?_, .inl h4⟩
            obtain ⟨y, hy⟩ := R.owned_there (oo p z)
            rw [h4] at hy; cases hy
          · exact absurd h4 (ow0 p)
      exact w2 G2 H2 v (S.trans R S2) Rw (hv2.back R S)
    · intro G2 H2 xd Sc Rc2 e
      obtain ⟨S2, Rw, oo⟩ := main x.2 G2 H2 Sc Rc2
      obtain ⟨v, e1, e2, e3, e4⟩ := e
      refine z G2 H2 xd (S.trans R S2) Rw ⟨v, e1, ?_, fun y => ?_, e4⟩
      · cases e : H0 xd with
        | none => rfl
        | some o => exact absurd e2 (S.alive xd (by rw [e]; exact fun z => nomatch z))
      · obtain ⟨y, hy⟩ := R.owned_there (oo xd y)
        rw [e2] at hy; cases hy
  · exact w.elim
theorem absCall {n : Nat} {f : Den} (hs : AbsAr K E t ms) : AbsE K E (tCallS (spM K n f) (WE E) t) (eCall n f ms) := by
  intro G as r σ H Q R w
  refine hs G as r σ H _ R ((Wp.bind w).mono (fun a w1 => ?_) fun _ z => z)
  intro G1 H1 vs S1 R1 hv
  exact call_core S1 R1 hv w1
end
end DL
/-! # DL6: borrowing; operators and built-ins by data; what is walked -/
namespace DL
open PySem PySem.Spec PyProof.Rows L2
/-! ### borrowing: a list of a slot's own is read as data, and is the slot's own again -/
class PureM {α : Type} (m : M α) : Prop where
  pure : ∀ r a, m r = .ok a → a.2 = r
mutual
def listless : D → Bool
  | .none => true
  | .bool _ => true
  | .int _ => true
  | .str _ => true
  | .tuple ds => listlessA ds
  | .list _ => false
  | .dict _ => false
def listlessA : List D → Bool
  | [] => true
  | d :: ds => listless d && listlessA ds
end
def restr (G : Hp) (p : Addr) : Hp := fun a => if a = p then none else G a
mutual
theorem DP.restr {K : PySem.W.Frag} {G : Hp} {p : Addr} {xs0 : List V} (hp : G p = some (.lst xs0)) : ∀ {v : V} {d : D}, DP K G v d → listless d = true → DP K (restr G p) v d
  | _, _, .non, _ => .non
  | _, _, .bl b, _ => .bl b
  | _, _, .int i, _ => .int i
  | _, _, .str x, _ => .str x
  | _, _, .lst _ _, h => by simp [listless] at h
  | _, _, .dic _ _, h => by simp [listless] at h
  | _, _, .tup (a := a) h1 h2, h => by
    refine .tup ?_ (DPs.restr hp h2 (by simpa [listless] using h))
    rcases h1 with (h1 | ⟨o, h1⟩) | h1
    · have hne : a ≠ p := fun z => by rw [z, hp] at h1; cases h1
      exact .inl (.inl (by unfold DL.restr; rw [if_neg hne]; exact h1))
    · have hne : a ≠ p := fun z => by rw [z, hp] at h1; cases h1
      exact .inl (.inr ⟨o, by unfold DL.restr; rw [if_neg hne]; exact h1⟩)
    · exact .inr h1
theorem DPs.restr {K : PySem.W.Frag} {G : Hp} {p : Addr} {xs0 : List V} (hp : G p = some (.lst xs0)) : ∀ {vs : List V} {ds : List D}, DPs K G vs ds → listlessA ds = true → DPs K (restr G p) vs ds
  | _, _, .nil, _ => .nil
  | _, _, .cons h1 h2, h => by
    simp only [listlessA, Bool.and_eq_true] at h
    exact .cons (DP.restr hp h1 h.1) (DPs.restr hp h2 h.2)
end
def listlessF : List (Str × D) → Bool
  | [] => true
  | (_, d) :: fs => listless d && listlessF fs
def listlessK : List (D × D) → Bool
  | [] => true
  | (_, d) :: fs => listless d && listlessK fs
theorem Fld.restr {K : PySem.W.Frag} {G : Hp} {p : Addr} {xs0 : List V} (hp : G p = some (.lst xs0)) : ∀ {vs : List (Str × V)} {ds : List (Str × D)}, Fld K G vs ds → listlessF ds = true → Fld K (restr G p) vs ds
  | [], [], _, _ => trivial
  | (_, _) :: _, (_, _) :: _, ⟨h1, h2, h3⟩, e => by
    unfold listlessF at e
    rw [Bool.and_eq_true] at e
    exact ⟨h1, DP.restr hp h2 e.1, Fld.restr hp h3 e.2⟩
  | [], _ :: _, h, _ => h.elim
  | _ :: _, [], h, _ => h.elim
theorem DPk.restr {K : PySem.W.Frag} {G : Hp} {p : Addr} {xs0 : List V} (hp : G p = some (.lst xs0)) : ∀ {vs : List (Key × V)} {ds : List (D × D)}, DPk K G vs ds → listlessK ds = true → DPk K (restr G p) vs ds
  | _, _, .nil, _ => .nil
  | _, _, .cons h1 h2, e => by
    unfold listlessK at e
    rw [Bool.and_eq_true] at e
    exact .cons (DP.restr hp h1 e.1) (DPk.restr hp h2 e.2)
def bareSl : Sl → Bool
  | .own _ (.lst ds) => listlessA ds
  | .own _ (.ins _ fs) => listlessF fs
  | .own _ (.dic es) => listlessK es
  | _ => true
def othersBare : Rho → Nat → Bool
  | [], _ => true
  | _ :: r, 0 => r.all bareSl
  | s :: r, i + 1 => bareSl s && othersBare r i
theorem othersBare_get : ∀ {r : Rho} {i j : Nat} {s : Sl}, othersBare r i = true → r[j]? = some s → j ≠ i → bareSl s = true
  | [], _, _, _, _, e, _ => by simp at e
  | _ :: r, 0, 0, _, _, _, n => absurd rfl n
  | _ :: r, 0, j + 1, s, h, e, _ => List.all_eq_true.mp h s (List.mem_of_getElem? (by simpa using e))
  | x :: r, i + 1, 0, s, h, e, _ => by
    simp at e; subst e
    simp only [othersBare, Bool.and_eq_true] at h; exact h.1
  | x :: r, i + 1, j + 1, s, h, e, n => by
    simp only [othersBare, Bool.and_eq_true] at h
    exact othersBare_get h.2 (by simpa using e) fun z => n (by rw [z])
def dBorrow (i : Nat) (m : M D) : M D := fun r => match r[i]? with
  | some (.own p (.lst ds)) => if othersBare r i = true then ((m (r.set i (.val (.list ds)))).bind fun a => if listless a.1 = true then .ok (a.1, r) else .no) else .no
  | _ => .no
section
variable {K : PySem.W.Frag} {tcK : TabC K} {E : WX} {te : TE} {m : M D}
theorem absBorrow {i : Nat} (h : AbsD K W0 te m) (hp : PureM m) : AbsD K E te (dBorrow i fun r => noEx (m r)) := by
  intro G as r σ H Q R w
  unfold dBorrow at w
  cases e : r[i]? with
  | none => rw [e] at w; exact w.elim
  | some s =>
    rw [e] at w
    cases s with
    | non => exact w.elim
    | val d => exact w.elim
    | exn x => exact w.elim
    | own p o =>
      cases o with
      | ins C fs => exact w.elim
      | dic es => exact w.elim
      | lst ds =>
        have w : Wp (if othersBare r i = true then ((noEx (m (r.set i (.val (.list ds))))).bind fun a => if listless a.1 = true then .ok (a.1, r) else .no) else .no) (DPost K G as r σ H Q) (XPost K G as r σ H E) := w
        split at w
        · rename_i hob
          obtain ⟨s1, ⟨vs, s2, s4⟩, s3⟩ := R.own i p _ e
          have hil : i < r.length := (List.getElem?_eq_some_iff.mp e).1
          generalize hG : upd G (as i) (.lst vs) = G1
          have sg : Same G G1 := fun a o q => by rw [← hG, upd_ne (fun z => by rw [z, s3] at q; cases q)]; exact q
          have gp : G1 (as i) = some (.lst vs) := by rw [← hG]; exact upd_same
          have nown : ∀ (j : Nat) (q : Bool) (u : Own), (r.set i (.val (.list ds)))[j]? = some (.own q u) → j ≠ i ∧ r[j]? = some (.own q u) := by
            intro j q u z
            rcases set_get z with ⟨_, z⟩ | ⟨h1, z⟩
            · cases z
            · exact ⟨Ne.symm h1, z⟩
          have R1 : Rel K G1 as (r.set i (.val (.list ds))) σ H := by
            refine ⟨fun a o q => ?_, by rw [List.length_set]; exact R.len, fun j d z => ?_, fun j q u z => ?_, fun j k q u q' u' z1 z2 z3 => ?_, (R.tabs.to R.tabs.t (by rw [← hG]; exact no_tbl_upd fun ps z => nt_lst.1 ps z) fun a ha => by
              rw [← hG] at ha
              by_cases hap : a = as i
              · rw [hap]; exact .inr (nt_no s2 nt_lst)
              · rw [upd_ne hap] at ha; exact .inl ha), fun j x z => by
              rcases set_get z with ⟨_, z⟩ | ⟨_, z⟩
              · cases z
              · exact (R.exn j x z).mono sg⟩
            · rw [← hG] at q
              by_cases ha : a = as i
              · subst ha; rw [upd_same] at q; cases q; exact s2
              · rw [upd_ne ha] at q; exact R.le a o q
            · rcases set_get z with ⟨h1, z⟩ | ⟨_, z⟩
              · cases z
                rw [← h1]
                exact ⟨_, s1, .lst (.inl (.inl gp)) (s4.mono sg)⟩
              · obtain ⟨v, h1, h2⟩ := R.val j d z
                exact ⟨v, h1, h2.mono sg⟩
            · obtain ⟨hne, z⟩ := nown j q u z
              obtain ⟨g1, g2, g3⟩ := R.own j q u z
              refine ⟨g1, g2.step sg rfl, ?_⟩
              rw [← hG, upd_ne (fun y => hne (R.inj j i _ _ _ _ z e y))]; exact g3
            · exact R.inj j k _ _ _ _ (nown j q u z1).2 (nown k q' u' z2).2 z3
          refine h G1 as _ σ H _ R1 (wp_noEx (E := fun _ => False) ?_)
          have hm : ∀ a, noEx (m (r.set i (.val (.list ds)))) = .ok a → a.2 = r.set i (.val (.list ds)) := by
            intro a ha
            cases em : m (r.set i (.val (.list ds))) with
            | ok b => rw [em] at ha; cases ha; exact hp.pure _ _ em
            | ex x => rw [em] at ha; cases ha
            | no => rw [em] at ha; cases ha
          have hne : ∀ x, noEx (m (r.set i (.val (.list ds)))) ≠ .ex x := by
            intro x
            cases m (r.set i (.val (.list ds))) with
            | ok b => exact fun z => nomatch z
            | ex x => exact fun z => nomatch z
            | no => exact fun z => nomatch z
          generalize noEx (m (r.set i (.val (.list ds)))) = me at w hm hne
          cases me with
          | ex x => exact absurd rfl (hne x)
          | no => exact w.elim
          | ok a =>
            have ha := hm a rfl
            obtain ⟨d, r'⟩ := a
            have ha : r' = r.set i (.val (.list ds)) := ha
            subst ha
            have w : Wp (if listless d = true then .ok (d, r) else .no) (DPost K G as r σ H Q) (XPost K G as r σ H E) := w
            split at w
            · rename_i hll
              intro G2 H2 v S2 R2 dv
              have R2 : Rel K G2 as (r.set i (.val (.list ds))) σ H2 := R2
              have gp2 : G2 (as i) = some (.lst vs) := S2.g _ _ gp
              have hp2 : H2 (as i) = some (.lst vs) := R2.le _ _ gp2
              have sg2 : Same G (restr G2 (as i)) := fun a o q => by
                have hne : a ≠ as i := fun z => by rw [z, s3] at q; cases q
                unfold restr
                rw [if_neg hne]
                exact S2.g _ _ (sg _ _ q)
              have ow1 : ∀ a, Owned as (r.set i (.val (.list ds))) a → Owned as r a := fun a ⟨j, q, u, z, y⟩ => ⟨j, q, u, (nown j q u z).2, y⟩
              have R3 : Rel K (restr G2 (as i)) as r σ H2 := by
                refine ⟨fun a o q => ?_, R.len, fun j d' z => ?_, fun j q u z => ?_, R.inj, ⟨R2.tabs.t, fun p hp => by
                  have := R2.tabs.g p hp
                  unfold restr
                  split
                  · rfl
                  · exact this, fun a ps z => by
                  unfold restr at z
                  split at z
                  · cases z
                  · exact R2.tabs.n a ps z⟩, fun j x z => (R.exn j x z).mono sg2⟩
                · unfold restr at q
                  split at q
                  · cases q
                  · exact R2.le a o q
                · obtain ⟨v', h1, h2⟩ := R.val j d' z
                  exact ⟨v', h1, h2.mono sg2⟩
                · by_cases hj : j = i
                  · subst hj
                    rw [e] at z; cases z
                    exact ⟨s1, ⟨vs, hp2, s4.mono sg2⟩, by unfold restr; rw [if_pos rfl]⟩
                  · have z' : (r.set i (.val (.list ds)))[j]? = some (.own q u) := by rw [List.getElem?_set_ne (Ne.symm hj)]; exact z
                    obtain ⟨g1, g2, g3⟩ := R2.own j q u z'
                    have hb := othersBare_get hob z hj
                    refine ⟨g1, ?_, ?_⟩
                    · cases u with
                      | lst es =>
                        obtain ⟨ws, k1, k2⟩ := g2
                        exact ⟨ws, k1, DPs.restr gp2 k2 hb⟩
                      | ins C fs =>
                        obtain ⟨dx, ws, k1, k2⟩ := g2
                        exact ⟨dx, ws, k1, Fld.restr gp2 k2 hb⟩
                      | dic es =>
                        obtain ⟨ws, k1, k2⟩ := g2
                        exact ⟨ws, k1, DPk.restr gp2 k2 hb⟩
                    · unfold restr
                      split
                      · rfl
                      · exact g3
              refine w (restr G2 (as i)) H2 v ⟨sg2, fun a ha => ?_, fun a o h1 h2 h3 => S2.keep a o h1 (fun z => h2 (ow1 a z)) h3, S2.alive, fun a ha => .inl ha, fun j o z => ⟨rfl, o, z⟩⟩ R3 (DP.restr gp2 dv hll)
              have hne : a ≠ as i := fun z => by unfold restr at ha; rw [if_pos z] at ha; exact ha rfl
              unfold restr at ha
              rw [if_neg hne] at ha
              rcases S2.fr a ha with z | z | z
              · rw [← hG, upd_ne hne] at z; exact .inl z
              · exact .inr (.inl z)
              · obtain ⟨j, o, z1, z2⟩ := z
                exact .inr (.inr ⟨j, o, (nown j false o z1).2, z2⟩)
            · exact w.elim
        · exact w.elim
end
/-- a name that holds data -/
def dVal (i : Nat) : M D := fun r => match r[i]? with
  | some (.val d) => .ok (d, r)
  | _ => .no
theorem absVal {K : PySem.W.Frag} {tcK : TabC K} {E : WX} (i : Nat) : AbsD K E (tVar i) (dVal i) := by
  intro G as r σ H Q R w
  unfold dVal at w
  cases e : r[i]? with
  | none => rw [e] at w; exact w.elim
  | some s =>
    rw [e] at w
    cases s with
    | non => exact w.elim
    | exn x => exact w.elim
    | own p o => exact w.elim
    | val d =>
      obtain ⟨v, h1, h2⟩ := R.val i d e
      exact ⟨v, h1, w G H v Stp.refl R h2⟩
/-! ### a list of a slot's own: an item of it -/
/-- x[i] where x owns a list: the item is data -/
def dIxO (i : Nat) (mi : M D) : M D := fun r => match r[i]? with
  | some (.own _ (.lst _)) => (mi r).bind fun a => match a.2[i]?, a.1 with
    | some (.own _ (.lst ds)), .int k => (ofO (atI ds k)).bind fun d => .ok (d, a.2)
    | _, _ => .no
  | _ => .no
theorem atI_rel {K : PySem.W.Frag} {G : Hp} {vs : List V} {ds : List D} {k : Int} {d : D} (h : DPs K G vs ds) (e : atI ds k = some d) : ∃ v, atI vs k = some v ∧ DP K G v d := by
  unfold atI at e ⊢
  rw [h.length]
  cases q : ixN ds.length k with
  | none => rw [q] at e; cases e
  | some j =>
    rw [q] at e
    exact h.get e
theorem dp_int {K : PySem.W.Frag} {G : Hp} {v : V} {i : Int} (h : DP K G v (.int i)) : v = .int i := by cases h; rfl
theorem absIxO {K : PySem.W.Frag} {tcK : TabC K} {E : WX} {ti : TE} {mi : M D} {i : Nat} (h : AbsD K E ti mi) : AbsD K E (tOp (rIx K) (tVar i) ti) (dIxO i mi) := by
  intro G as r σ H Q R w
  unfold dIxO at w
  cases e : r[i]? with
  | none => rw [e] at w; exact w.elim
  | some s =>
    rw [e] at w
    cases s with
    | non => exact w.elim
    | val d => exact w.elim
    | exn x => exact w.elim
    | own p o =>
      cases o with
      | ins C fs => exact w.elim
      | dic es => exact w.elim
      | lst ds0 =>
        obtain ⟨s1, _, _⟩ := R.own i p _ e
        refine ⟨_, s1, ?_⟩
        refine h G as r σ H _ R ((Wp.bind w).mono (fun a w1 => ?_) fun _ z => z)
        obtain ⟨dk, r1⟩ := a
        intro G1 H1 k S1 R1 dk'
        cases e1 : r1[i]? with
        | none => simp only [e1] at w1; exact w1.elim
        | some s' =>
          simp only [e1] at w1
          cases s' with
          | non => exact w1.elim
          | val d => exact w1.elim
          | exn x => exact w1.elim
          | own p' o' =>
            cases o' with
            | ins C fs => exact w1.elim
            | dic es => exact w1.elim
            | lst ds =>
              obtain ⟨t1, ⟨xs, t2, t4⟩, t3⟩ := R1.own i p' _ e1
              cases dk with
              | int kk =>
                obtain ⟨d, ed, w2⟩ := wp_bindO w1
                obtain rfl := dp_int dk'
                obtain ⟨v, ev, dv⟩ := atI_rel t4 ed
                exact .inl ⟨as i, xs, kk, v, rfl, rfl, SqL.of t2, ev, w2 G1 H1 v S1 R1 dv⟩
              | none => exact w1.elim
              | bool _ => exact w1.elim
              | str _ => exact w1.elim
              | list _ => exact w1.elim
              | tuple _ => exact w1.elim
              | dict _ => exact w1.elim
/-! ### numbers -/
section
variable {K : PySem.W.Frag} {tcK : TabC K}
def pInt (g : Int → Int → D) : D → D → Option D
  | .int i, .int j => some (g i j)
  | _, _ => none
theorem dp_of_kD {G : Hp} (x : V) (d : D) (h : dCOk x d) : DP K G x d := by
  cases x <;> cases d <;> first | (cases h; constructor) | exact h.elim | constructor
theorem a2_I0 {g : Int → Int → V} {g' : Int → Int → D} (hg : ∀ i j, dCOk (g i j) (g' i j)) : A2 K (rI0 g) (pInt g') := by
  intro G H x y dx dy Q le hx hy d e q
  cases hx <;> cases hy <;> first
    | (cases e; exact ⟨_, _, rfl, rfl, q G H _ (Grow.refl le) (dp_of_kD _ _ (hg _ _))⟩)
    | cases e
def pIntC (C : Int → Int → Bool) (g : Int → Int → D) : D → D → Option D
  | .int i, .int j => if C i j = true then some (g i j) else none
  | _, _ => none
theorem a2_I {Cp : Int → Int → Prop} {C : Int → Int → Bool} {g : Int → Int → V} {g' : Int → Int → D} (hC : ∀ i j, C i j = true → Cp i j) (hg : ∀ i j, dCOk (g i j) (g' i j)) : A2 K (rI Cp g) (pIntC C g') := by
  intro G H x y dx dy Q le hx hy d e q
  have go : ∀ i j, (if C i j = true then some (g' i j) else none) = some d → x = .int i → y = .int j → rI Cp g x y H Q := by
    intro i j e1 e2 e3
    split at e1
    · rename_i hc
      cases e1
      exact ⟨i, j, e2, e3, hC i j hc, q G H _ (Grow.refl le) (dp_of_kD _ _ (hg _ _))⟩
    · cases e1
  cases hx <;> cases hy <;> first
    | exact go _ _ e rfl rfl
    | cases e
def pSub := pInt fun i j => .int (i - j)
def pLt := pInt fun i j => .bool (decide (i < j))
def pLe := pInt fun i j => .bool (decide (i ≤ j))
def pGt := pInt fun i j => .bool (decide (j < i))
def pGe := pInt fun i j => .bool (decide (j ≤ i))
/-- // by a positive number below 2 ^ 9000 -/
def pDiv := pIntC (fun _ j => decide (0 < j) && decide (j.natAbs.log2 < 9000)) fun i j => .int (i / j)
def pMod := pIntC (fun _ j => decide (0 < j)) fun i j => .int (i % j)
def pPow := pIntC (fun i j => decide (0 ≤ j) && decide (j ≤ 1000000) && decide (i.natAbs < 2 ^ 64)) fun i j => .int (i ^ j.toNat)
theorem a_sub : A2 K (rI0 fun i j => .int (i - j)) pSub := a2_I0 fun _ _ => rfl
theorem a_lt : A2 K (rI0 fun i j => .bl (decide (i < j))) pLt := a2_I0 fun _ _ => rfl
theorem a_le : A2 K (rI0 fun i j => .bl (decide (i ≤ j))) pLe := a2_I0 fun _ _ => rfl
theorem a_ge : A2 K (rI0 fun i j => .bl (decide (j ≤ i))) pGe := a2_I0 fun _ _ => rfl
theorem a_div : A2 K (rI CDivW fun i j => .int (i / j)) pDiv := a2_I (fun i j h => by simp only [Bool.and_eq_true, decide_eq_true_eq] at h; exact h) fun _ _ => rfl
theorem a_mod : A2 K (rI (fun _ j => 0 < j) fun i j => .int (i % j)) pMod := a2_I (fun i j h => by simpa using h) fun _ _ => rfl
theorem a_pow : A2 K (rI CPow fun i j => .int (i ^ j.toNat)) pPow := a2_I (fun i j h => by simp only [Bool.and_eq_true, decide_eq_true_eq] at h; exact ⟨h.1.1, h.1.2, h.2⟩) fun _ _ => rfl
def pNeg : D → Option D
  | .int i => some (.int (-i))
  | _ => none
theorem a_neg : A1 K (rU fun i => .int (-i)) pNeg := by
  intro G H x dx Q le hx d e q
  cases hx <;> first
    | (cases e; exact ⟨_, rfl, q G H _ (Grow.refl le) (.int _)⟩)
    | cases e
end
/-! ### + and * of anything -/
section
variable {X : Cx} {tcX : TabC X.K}
def rCatL (K : PySem.W.Frag) : R2 := fun x y H Q => ∃ l b xs zs, x = .ref l ∧ y = .ref b ∧ SqL K H l xs ∧ SqL K H b zs ∧ xs.length + zs.length ≤ sizeLine ∧ ∀ p, H p = none → Q (.ref p) (upd H p (.lst (xs ++ zs)))
theorem op_catL : OpR X (binaryOp .Add) (rCatL X.K) := by
  intro pins s σ H x y v u Q I rx ry h
  obtain ⟨l, b, xs, zs, rfl, rfl, hH, hB, hz, q⟩ := h
  cases rx
  cases ry
  obtain ⟨its, r, hl, _⟩ := I.list hH
  obtain ⟨its2, r2, hl2, _⟩ := I.list hB
  obtain ⟨⟨cls, dd, data, sl⟩, ho, hc, n, hd⟩ := id hl.isList
  obtain ⟨⟨cls2, dd2, data2, sl2⟩, ho2, hc2, n2, hd2⟩ := id hl2.isList
  simp only at hc hd hc2 hd2
  subst hc hd hc2 hd2
  have e : its.toArray ++ its2.toArray = (its ++ its2).toArray := by simp
  have hsz : its.toArray.size + its2.toArray.size ≤ sizeLine := by
    rw [List.size_toArray, List.size_toArray, ← r.length, ← r2.length]; exact hz
  refine concat_meets ⟨_, ho, rfl⟩ ⟨_, ho2, rfl⟩ noFill_list_add seq_list_add PySem.F.slot_list_add PySem.F.entry_list_add (PySem.F.args_list_add_2 _ _) (list_addW l b its.toArray its2.toArray n n2 dd dd2 sl sl2 hsz) ⟨ho, ho2, ?_⟩
  rw [e]
  exact ⟨.ref _, _, I.lnew (t' := s.toks) (r.append r2) (by rw [List.length_append]; exact hz), rfl, q _ I.fresh⟩
def rAdd3 (K : PySem.W.Frag) : R2 := fun x y H Q => rI0 (fun i j => .int (i + j)) x y H Q ∨ (rCatL K x y H Q ∨ rCatA K x y H Q)
theorem op_add3 : OpR X (binaryOp .Add) (rAdd3 X.K) := op_add.or (op_catL.or op_catA)
end
section
variable {K : PySem.W.Frag} {tcK : TabC K}
def pAdd : D → D → Option RV
  | .int i, .int j => some (.val (.int (i + j)))
  | .list a, .list b => if a.length + b.length ≤ 16777216 then some (.own (.lst (a ++ b))) else none
  | .tuple a, .tuple b => if a.length + b.length ≤ 16777216 then some (.val (.tuple (a ++ b))) else none
  | _, _ => none
theorem a_add : A2R K (rAdd3 K) pAdd := by
  intro G H x y dx dy Q le hx hy d e q
  cases hx <;> cases hy <;> first
    | (cases e; exact .inl ⟨_, _, rfl, rfl, q G H _ (Grow.refl le) (DP.int _)⟩)
    | (rename_i a xs ds h1 h2 b ys es h3 h4
       have e : (if ds.length + es.length ≤ 16777216 then some (RV.own (.lst (ds ++ es))) else none) = some d := e
       split at e
       · rename_i hl
         cases e
         refine .inr (.inl ⟨a, b, xs, ys, rfl, rfl, le.seq h1, le.seq h3, by rw [sizeLine_eq, h2.length, h4.length]; exact hl, fun p hp => ?_⟩)
         exact q G _ _ (Grow.bare le hp _) ⟨p, rfl, hp, le.free hp, _, upd_same, h2.append h4⟩
       · cases e)
    | (rename_i a xs ds h1 h2 b ys es h3 h4
       have e : (if ds.length + es.length ≤ 16777216 then some (RV.val (.tuple (ds ++ es))) else none) = some d := e
       split at e
       · rename_i hl
         cases e
         refine .inr (.inr ⟨a, b, xs, ys, rfl, rfl, SqT.same le h1, SqT.same le h3, by rw [sizeLine_eq, h2.length, h4.length]; exact hl, fun hx => ?_, fun hx hy => ?_, fun hx hy p hp => ?_⟩)
         · have z := h2.length
           rw [hx] at z
           have z : ds = [] := List.eq_nil_of_length_eq_zero z.symm
           subst z
           exact q G H _ (Grow.refl le) (DP.tup h3 h4)
         · have z := h4.length
           rw [hy] at z
           have z : es = [] := List.eq_nil_of_length_eq_zero z.symm
           subst z
           rw [List.append_nil] at q
           exact q G H _ (Grow.refl le) (DP.tup h1 h2)
         · have g := Grow.new le hp (.tup (xs ++ ys))
           exact q _ _ _ g (DP.tup (.inl (.inl upd_same)) ((h2.append h4).mono g.g))
       · cases e)
    | cases e
/-- the product of two numbers of together less than a million bits, one of them perhaps great -/
def mulOk (i j : Int) : Bool := decide (-(2 ^ 64) < i ∧ i < 2 ^ 64) || decide (-(2 ^ 64) < j ∧ j < 2 ^ 64) || decide (i.natAbs.log2 + j.natAbs.log2 < 1000000)
end
section
variable {X : Cx} {tcX : TabC X.K}
theorem op_mulA : OpR X (binaryOp .Mult) (rI (fun i j => mulOk i j = true) fun i j => .int (i * j)) := by
  intro pins s σ H x y v u Q I rx ry h
  obtain ⟨i, j, e1, e2, hc, q⟩ := h
  unfold mulOk at hc
  simp only [Bool.or_eq_true, decide_eq_true_eq] at hc
  rcases hc with hc | hc
  · exact op_mul pins s σ H x y v u Q I rx ry ⟨i, j, e1, e2, hc, q⟩
  · exact op_mulW pins s σ H x y v u Q I rx ry ⟨i, j, e1, e2, hc, q⟩
/-! a frozen list, so many times: a new list -/
theorem rmul_listS (a : Int) (t : Tok) (l : Addr) (items : Array Value) (n : Nat) (sl : Array (Option Value)) :
    Meets (Builtin.«int.__rmul__» ⟨[.int a t, .ref l], []⟩) (fun _ R s => s.heap.get? l = some { cls := .type "list", dict := none, data := .seq items n, slots := sl } ∧ R (.ok (.ret Value.notImplemented)) s) :=
  .of_wp fun prog w A R s h => by obtain ⟨hp, g, d, tk, os⟩ := s; obtain ⟨hl, h⟩ := h; wp_walk; exact ⟨_, rfl, h⟩
theorem mul_listS (l : Addr) (items : Array Value) (n : Nat) (sl : Array (Option Value)) (x : Int) (u : Tok) (hc0 : ¬(!Builtin.List.listFitsIndex x) = true) (hc1 : ¬items.size * x.toNat > (2 ^ 63 - 1) / 8) (hc2 : ¬Builtin.List.listTooLong (items.size * x.toNat) = true) :
    Meets (Builtin.«list.__mul__» ⟨[.ref l, .int x u], []⟩) (fun _ R s => s.heap.get? l = some { cls := .type "list", dict := none, data := .seq items n, slots := sl } ∧ R (.ok (.ret (Value.ref s.heap.objs.size))) { s with heap := s.heap.push { cls := Value.type "list", data := Data.seq (List.foldl (fun x1 x2 => x1 ++ x2) #[] (List.replicate (if items.isEmpty = true then 0 else x.toNat) items)) }, toks := s.toks }) :=
  .of_wp fun prog w A R s h => by
    obtain ⟨hp, g, d, tk, os⟩ := s; obtain ⟨hl, h⟩ := h
    have hsz := AutoListH.joined_fits hc2
    wp_walk; refine wpAny_ite_false (decide_eq_false (Nat.not_lt.mpr hsz)) ?_; wp_walk; exact ⟨_, rfl, h⟩
def rRepF (K : PySem.W.Frag) : R2 := fun x y H Q => ∃ l k xs, x = .ref l ∧ y = .int k ∧ SqL K H l xs ∧ -(2 ^ 63) ≤ k ∧ k < 2 ^ 63 ∧ xs.length * k.toNat ≤ sizeLine ∧
  ∀ p, H p = none → Q (.ref p) (upd H p (.lst (List.replicate k.toNat xs).flatten))
theorem op_repF : OpR X (binaryOp .Mult) (rRepF X.K) := by
  intro pins s σ H x y v u Q I rx ry h
  obtain ⟨l, k, xs, rfl, rfl, hH, h1, h2, hz, q⟩ := h
  cases rx
  obtain ⟨t, rfl⟩ := ry
  obtain ⟨its, r, ⟨o, n, e, oc, od, oq⟩, z⟩ := I.list hH
  obtain ⟨c0, d0, q0, sl⟩ := o
  cases oc
  cases od
  cases oq
  have hl := r.length
  have hlen : its.toArray.size * k.toNat ≤ sizeLine := by rw [List.size_toArray, ← hl]; exact hz
  have hcap : ¬ its.toArray.size * k.toNat > (2 ^ 63 - 1) / 8 := by
    have : (sizeLine : Nat) ≤ (2 ^ 63 - 1) / 8 := by decide
    omega
  have hfit : ¬ (!Builtin.List.listFitsIndex k) = true := by
    rw [fitsIndex_both h1 h2]
    exact Bool.false_ne_true
  have hlong : ¬ Builtin.List.listTooLong (its.toArray.size * k.toNat) = true := by
    rw [notLongL hlen]
    exact Bool.false_ne_true
  have hnew : List.foldl (fun x1 x2 => x1 ++ x2) #[] (List.replicate (if its.toArray.isEmpty = true then 0 else k.toNat) its.toArray) = (List.replicate k.toNat its).flatten.toArray := by
    have f0 : ∀ m : Nat, List.foldl (fun x1 x2 => x1 ++ x2) #[] (List.replicate m its.toArray) = (List.replicate m its).flatten.toArray := fun m => by
      have := foldl_rep its m []
      rw [List.nil_append] at this
      exact this
    rw [f0]
    cases its with
    | nil => simp
    | cons a r' => rw [if_neg (by simp)]
  refine wpAny_binaryOp_repeat_ref (T := "list") (U := "int") (by decide) ⟨_, e, rfl⟩ (fun s' => typeIs_int s' k t) noFill_list_mul F.fills_int_mul F.slot_int_rmul repeat_list F.slot_int_index.lookup
    (call_meets F.slot_int_rmul (typeIs_int s k t) F.entry_int_rmul (F.args_int_rmul_2 _ _) (rmul_listS k t l its.toArray n sl)
      ⟨e, rfl, ⟨_, e, rfl⟩, call_meets F.slot_list_mul ⟨_, e, rfl⟩ F.entry_list_mul (F.args_list_mul_2 _ _) (mul_listS l its.toArray n sl k t hfit hcap hlong) ⟨e, ?_⟩⟩)
  rw [hnew]
  exact ⟨.ref _, _, I.lnew (t' := s.toks) (r.rep k.toNat) (by rw [PyProof.Rows.lm_len_rep_flat, Nat.mul_comm]; exact hz), rfl, q _ I.fresh⟩
def rMul2 (K : PySem.W.Frag) : R2 := fun x y H Q => rI (fun i j => mulOk i j = true) (fun i j => .int (i * j)) x y H Q ∨ rRepF K x y H Q
theorem op_mul2 : OpR X (binaryOp .Mult) (rMul2 X.K) := op_mulA.or op_repF
end
def repL {α : Type} (k : Nat) (l : List α) : List α := (List.replicate k l).flatten
theorem DPs.rep {K : PySem.W.Frag} {G : Hp} {vs : List V} {ds : List D} (h : DPs K G vs ds) : ∀ k : Nat, DPs K G (List.replicate k vs).flatten (repL k ds)
  | 0 => .nil
  | k + 1 => by
    unfold repL
    rw [List.replicate_succ, List.replicate_succ, List.flatten_cons, List.flatten_cons]
    exact h.append (DPs.rep h k)
def pMul : RV → D → Option RV
  | .val (.int i), .int j => if mulOk i j = true then some (.val (.int (i * j))) else none
  | .own (.lst ds), .int k => if (-(2 ^ 63) ≤ k ∧ k < 2 ^ 63) ∧ ds.length * k.toNat ≤ 16777216 then some (.own (.lst (repL k.toNat ds))) else none
  | .val (.list ds), .int k => if (-(2 ^ 63) ≤ k ∧ k < 2 ^ 63) ∧ ds.length * k.toNat ≤ 16777216 then some (.own (.lst (repL k.toNat ds))) else none
  | _, _ => none
def eMul (m : M RV) (n : M D) : M RV := fun r => (m r).bind fun a => (n a.2).bind fun b => (ofO (pMul a.1 b.1)).bind fun d => .ok (d, b.2)
theorem absMul {K : PySem.W.Frag} {tcK : TabC K} {E : WX} {ta tb : TE} {m : M RV} {n : M D} (ha : AbsE K E ta m) (hb : AbsD K E tb n) : AbsE K E (tOp (rMul2 K) ta tb) (eMul m n) := by
  intro G as r σ H Q R w
  refine ha G as r σ H _ R ((Wp.bind w).mono (fun a w1 => ?_) fun _ z => z)
  obtain ⟨rv, r1⟩ := a
  intro G1 H1 x S1 R1 hx
  refine hb G1 as r1 σ H1 _ R1 ((Wp.bind w1).mono (fun b w2 => ?_) fun _ z => XPost.on R1 S1 z)
  obtain ⟨db, r2⟩ := b
  intro G2 H2 y S2 R2 dy
  obtain ⟨d, e, w3⟩ := wp_bindO w2
  have hx2 := hx.carry S2
  have S12 := S1.trans R1 S2
  cases rv with
  | val dx =>
    cases dx with
    | int i =>
      cases db with
      | int j =>
        obtain rfl : x = .int i := dp_int hx2
        obtain rfl : y = .int j := dp_int dy
        have e : (if mulOk i j = true then some (RV.val (.int (i * j))) else none) = some d := e
        split at e
        · rename_i hm
          cases e
          exact .inl ⟨i, j, rfl, rfl, hm, w3 G2 H2 _ S12 R2 (DP.int _)⟩
        · cases e
      | none => cases e
      | bool _ => cases e
      | str _ => cases e
      | list _ => cases e
      | tuple _ => cases e
      | dict _ => cases e
    | none => cases e
    | bool _ => cases e
    | str _ => cases e
    | list ds =>
      cases db with
      | int k =>
        obtain rfl : y = .int k := dp_int dy
        have hx3 : DP K G2 x (.list ds) := hx2
        cases hx3 with
        | @lst p vs _ h1 h2 =>
        have e : (if (-(2 ^ 63) ≤ k ∧ k < 2 ^ 63) ∧ ds.length * k.toNat ≤ 16777216 then some (RV.own (.lst (repL k.toNat ds))) else none) = some d := e
        split at e
        · rename_i hm
          cases e
          refine .inr ⟨p, k, vs, rfl, rfl, R2.le.seq h1, hm.1.1, hm.1.2, by rw [sizeLine_eq, h2.length]; exact hm.2, fun q hq => ?_⟩
          have g := Grow.bare R2.le hq (.lst (List.replicate k.toNat vs).flatten)
          have hv : RVg K H2 G2 (upd H2 q (.lst (List.replicate k.toNat vs).flatten)) (.ref q) (.own (.lst (repL k.toNat ds))) := ⟨q, rfl, hq, R2.le.free hq, _, upd_same, h2.rep _⟩
          exact w3 G2 _ _ (S12.trans R2 (g.stp R2)) (g.rel R2) ((hv.at R2).back R2 S12)
        · cases e
      | none => cases e
      | bool _ => cases e
      | str _ => cases e
      | list _ => cases e
      | tuple _ => cases e
      | dict _ => cases e
    | tuple _ => cases e
    | dict _ => cases e
  | own o =>
    cases o with
    | ins C fs => cases e
    | dic es => cases e
    | lst ds =>
      cases db with
      | int k =>
        obtain ⟨p, rfl, ⟨vs, h1, h2⟩, h3, h4, h5⟩ := hx2
        obtain rfl : y = .int k := dp_int dy
        have e : (if (-(2 ^ 63) ≤ k ∧ k < 2 ^ 63) ∧ ds.length * k.toNat ≤ 16777216 then some (RV.own (.lst (repL k.toNat ds))) else none) = some d := e
        split at e
        · rename_i hm
          cases e
          refine .inr ⟨p, k, vs, rfl, rfl, SqL.of h1, hm.1.1, hm.1.2, by rw [sizeLine_eq, h2.length]; exact hm.2, fun q hq => ?_⟩
          have g := Grow.bare R2.le hq (.lst (List.replicate k.toNat vs).flatten)
          have hv : RVg K H2 G2 (upd H2 q (.lst (List.replicate k.toNat vs).flatten)) (.ref q) (.own (.lst (repL k.toNat ds))) := ⟨q, rfl, hq, R2.le.free hq, _, upd_same, h2.rep _⟩
          exact w3 G2 _ _ (S12.trans R2 (g.stp R2)) (g.rel R2) ((hv.at R2).back R2 S12)
        · cases e
      | none => cases e
      | bool _ => cases e
      | str _ => cases e
      | list _ => cases e
      | tuple _ => cases e
      | dict _ => cases e
/-! ### equality of data -/
mutual
theorem DP.dp {K : PySem.W.Frag} {G H : Hp} (le : Same G H) : ∀ {v : V} {d : D}, DP K G v d → SeqAt.shaped d = true → Dp K H v d
  | _, _, .non, _ => .non
  | _, _, .bl b, _ => .bl b
  | _, _, .int i, _ => .int i
  | _, _, .str x, _ => .str x
  | _, _, .lst h1 h2, h => .lst (le.seq h1) (DPs.dp le h2 (by
      have := PySem.SeqAt.canLay_of_shaped h
      simpa [PyData.canLay0] using this))
  | _, _, .tup h1 h2, h => .tup (SqT.same le h1) (DPs.dp le h2 (by
      have := PySem.SeqAt.canLay_of_shaped h
      simpa [PyData.canLay0] using this))
  | _, _, .dic _ _, h => by
    have := PySem.SeqAt.canLay_of_shaped h
    simp [PyData.canLay0] at this
theorem DPs.dp {K : PySem.W.Frag} {G H : Hp} (le : Same G H) : ∀ {vs : List V} {ds : List D}, DPs K G vs ds → PyData.canLayAll0 ds = true → DpAll K H vs ds
  | _, _, .nil, _ => .nil
  | _, _, .cons h1 h2, h => by
    simp only [PyData.canLayAll0, Bool.and_eq_true] at h
    exact .cons (DP.dp0 le h1 h.1) (DPs.dp le h2 h.2)
theorem DP.dp0 {K : PySem.W.Frag} {G H : Hp} (le : Same G H) : ∀ {v : V} {d : D}, DP K G v d → PyData.canLay0 d = true → Dp K H v d
  | _, _, .non, _ => .non
  | _, _, .bl b, _ => .bl b
  | _, _, .int i, _ => .int i
  | _, _, .str x, _ => .str x
  | _, _, .lst h1 h2, h => .lst (le.seq h1) (DPs.dp le h2 (by simpa [PyData.canLay0] using h))
  | _, _, .tup h1 h2, h => .tup (SqT.same le h1) (DPs.dp le h2 (by simpa [PyData.canLay0] using h))
  | _, _, .dic _ _, h => by simp [PyData.canLay0] at h
end
def pEq : D → D → Option D := fun a b => if (SeqAt.shaped a && SeqAt.shaped b) = true then some (.bool (PyData.eqv a b)) else none
def pNe : D → D → Option D := fun a b => if (SeqAt.shaped a && SeqAt.shaped b) = true then some (.bool (!PyData.eqv a b)) else none
theorem a_eq {K : PySem.W.Frag} : A2 K (rEqD K) pEq := by
  intro G H x y dx dy Q le hx hy d e q
  unfold pEq at e
  split at e
  · rename_i hs
    rw [Bool.and_eq_true] at hs
    cases e
    exact ⟨dx, dy, hx.dp le hs.1, hy.dp le hs.2, hs.1, hs.2, q G H _ (Grow.refl le) (.bl _)⟩
  · cases e
theorem a_ne {K : PySem.W.Frag} : A2 K (rNeD K) pNe := by
  intro G H x y dx dy Q le hx hy d e q
  unfold pNe at e
  split at e
  · rename_i hs
    rw [Bool.and_eq_true] at hs
    cases e
    exact ⟨dx, dy, hx.dp le hs.1, hy.dp le hs.2, hs.1, hs.2, q G H _ (Grow.refl le) (.bl _)⟩
  · cases e
/-- is None, is not None -/
def pIsN : D → D → Option D := fun a b => match b with
  | .none => some (.bool (match a with | .none => true | _ => false))
  | _ => none
def pNotN : D → D → Option D := fun a b => match b with
  | .none => some (.bool (match a with | .none => false | _ => true))
  | _ => none
/-- in, not in a list or tuple of flat things -/
def flatD : D → Bool
  | .none => true
  | .bool _ => true
  | .int _ => true
  | .str _ => true
  | _ => false
def pIn (neg : Bool) : D → D → Option D := fun a b => match b with
  | .list ds => if (flatD a && ds.all flatD) = true then some (.bool (if neg then !(ds.any fun y => PyData.eqv y a) else ds.any fun y => PyData.eqv y a)) else none
  | .tuple ds => if (flatD a && ds.all flatD) = true then some (.bool (if neg then !(ds.any fun y => PyData.eqv y a) else ds.any fun y => PyData.eqv y a)) else none
  | _ => none
theorem flat_v {K : PySem.W.Frag} {G : Hp} {v : V} {d : D} (h : DP K G v d) (f : flatD d = true) : flatV v = true := by
  cases h <;> first | rfl | cases f
theorem flat_all {K : PySem.W.Frag} {G : Hp} : ∀ {vs : List V} {ds : List D}, DPs K G vs ds → ds.all flatD = true → vs.all flatV = true
  | _, _, .nil, _ => rfl
  | _, _, .cons h1 h2, f => by
    simp only [List.all_cons, Bool.and_eq_true] at f ⊢
    exact ⟨flat_v h1 f.1, flat_all h2 f.2⟩
theorem eqV_d {K : PySem.W.Frag} {G : Hp} {v u : V} {d e : D} (h : DP K G v d) (g : DP K G u e) (f : flatD d = true) (f' : flatD e = true) : eqV v u = PyData.eqv d e := by
  cases h <;> cases g <;> first
    | (exfalso; revert f; decide)
    | (exfalso; revert f'; decide)
    | (exfalso; revert f; simp [flatD]; done)
    | (exfalso; revert f'; simp [flatD]; done)
    | rfl
    | (simp [eqV, PyData.eqv]; done)
    | (unfold eqV PyData.eqv; rfl)
    | (simp [eqV, PyData.eqv, eq_comm]; done)
    | (rename_i b i; cases b <;> simp [eqV, PyData.eqv, eq_comm] <;> done)
    | (rename_i i b; cases b <;> simp [eqV, PyData.eqv, eq_comm] <;> done)
theorem inV_d {K : PySem.W.Frag} {G : Hp} {u : V} {e : D} (g : DP K G u e) (f' : flatD e = true) : ∀ {vs : List V} {ds : List D}, DPs K G vs ds → ds.all flatD = true → inV u vs = ds.any fun y => PyData.eqv y e
  | _, _, .nil, _ => rfl
  | _, _, .cons h1 h2, f => by
    simp only [List.all_cons, Bool.and_eq_true] at f
    have ih := inV_d g f' h2 f.2
    unfold inV at ih ⊢
    rw [List.any_cons, List.any_cons, ih, eqV_d h1 g f.1 f']
theorem a_in {K : PySem.W.Frag} (neg : Bool) : A2 K (rIn K neg) (pIn neg) := by
  intro G H x y dx dy Q le hx hy d e q
  cases hy with
  | @lst a xs ds h1 h2 =>
    have e : (if (flatD dx && ds.all flatD) = true then some (PyData.bool (if neg then !(ds.any fun y => PyData.eqv y dx) else ds.any fun y => PyData.eqv y dx)) else none) = some d := e
    split at e
    · rename_i hf
      rw [Bool.and_eq_true] at hf
      cases e
      refine ⟨a, xs, rfl, .inl (le.seq h1), flat_v hx hf.1, flat_all h2 hf.2, ?_⟩
      rw [inV_d hx hf.1 h2 hf.2]
      exact q G H _ (Grow.refl le) (.bl _)
    · cases e
  | @tup a xs ds h1 h2 =>
    have e : (if (flatD dx && ds.all flatD) = true then some (PyData.bool (if neg then !(ds.any fun y => PyData.eqv y dx) else ds.any fun y => PyData.eqv y dx)) else none) = some d := e
    split at e
    · rename_i hf
      rw [Bool.and_eq_true] at hf
      cases e
      refine ⟨a, xs, rfl, .inr (SqT.same le h1), flat_v hx hf.1, flat_all h2 hf.2, ?_⟩
      rw [inV_d hx hf.1 h2 hf.2]
      exact q G H _ (Grow.refl le) (.bl _)
    · cases e
  | non => cases e
  | bl _ => cases e
  | int _ => cases e
  | str _ => cases e
  | dic _ _ => cases e
/-! ### items and slices -/
def pIx : D → D → Option D
  | .list ds, .int k => atI ds k
  | .tuple ds, .int k => atI ds k
  | _, _ => none
theorem a_ix {K : PySem.W.Frag} : A2 K (rIx K) pIx := by
  intro G H x y dx dy Q le hx hy d e q
  cases hx with
  | @lst a xs ds h1 h2 =>
    cases hy <;> first
      | (rename_i k
         obtain ⟨v, ev, dv⟩ := atI_rel h2 (show atI ds k = some d from e)
         exact .inl ⟨a, xs, k, v, rfl, rfl, le.seq h1, ev, q G H v (Grow.refl le) dv⟩)
      | cases e
  | @tup a xs ds h1 h2 =>
    cases hy <;> first
      | (rename_i k
         obtain ⟨v, ev, dv⟩ := atI_rel h2 (show atI ds k = some d from e)
         exact .inr (.inl ⟨a, xs, k, v, rfl, rfl, SqT.same le h1, ev, q G H v (Grow.refl le) dv⟩))
      | cases e
  | non => cases e
  | bl _ => cases e
  | int _ => cases e
  | str _ => cases e
  | dic _ _ => cases e
def OPost (K : PySem.W.Frag) [TabC K] (G : Hp) (as : Nat → Addr) (r : Rho) (σ : L2.St) (H : Hp) (Q : Option Int → Hp → Prop) (a : Option Int × Rho) : Prop :=
  ∀ G' H', Stp G as r H G' as a.2 H' → Rel K G' as a.2 σ H' → Q a.1 H'
def AbsO (K : PySem.W.Frag) [TabC K] (E : WX) (t : TO) (m : M (Option Int)) : Prop :=
  ∀ G as r σ H Q, Rel K G as r σ H → Wp (m r) (OPost K G as r σ H Q) (XPost K G as r σ H E) → t σ H Q
def oNone : M (Option Int) := fun r => .ok (none, r)
def oSome (m : M D) : M (Option Int) := fun r => (m r).bind fun a => match a.1 with
  | .int i => .ok (some i, a.2)
  | _ => .no
def cutD {α : Type} (ds : List α) (lo hi : Option Int) : List α := (ds.drop (HT.sIx ds.length 0 lo)).take (HT.sIx ds.length ds.length hi - HT.sIx ds.length 0 lo)
def pCut : D → Option Int → Option Int → Option RV
  | .list ds, lo, hi => some (.own (.lst (cutD ds lo hi)))
  | .tuple ds, lo, hi => some (.val (.tuple (cutD ds lo hi)))
  | _, _, _ => none
def eCut (m : M D) (lo hi : M (Option Int)) : M RV := fun r => (m r).bind fun a => (lo a.2).bind fun b => (hi b.2).bind fun c => (ofO (pCut a.1 b.1 c.1)).bind fun d => .ok (d, c.2)
theorem DPs.cut {K : PySem.W.Frag} {G : Hp} {vs : List V} {ds : List D} (h : DPs K G vs ds) (lo hi : Option Int) : DPs K G (cutV vs lo hi) (cutD ds lo hi) := by
  unfold cutV cutD
  rw [h.length]
  exact (h.drop _).take _
section
variable {K : PySem.W.Frag} {tcK : TabC K} {E : WX} {te : TE} {m : M D} {tl th : TO} {lo hi : M (Option Int)}
theorem absONone : AbsO K E tNoPart oNone := fun G as r σ H Q R w => w G H Stp.refl R
theorem absOSome (h : AbsD K E te m) : AbsO K E (tPart te) (oSome m) := by
  intro G as r σ H Q R w
  refine h G as r σ H _ R ((Wp.bind w).mono (fun a w1 => ?_) fun _ z => z)
  obtain ⟨d, r'⟩ := a
  intro G1 H1 v S1 R1 dv
  cases d with
  | int i =>
    obtain rfl : v = .int i := dp_int dv
    exact ⟨i, rfl, w1 G1 H1 S1 R1⟩
  | none => exact w1.elim
  | bool _ => exact w1.elim
  | str _ => exact w1.elim
  | list _ => exact w1.elim
  | tuple _ => exact w1.elim
  | dict _ => exact w1.elim
def rSl2 (K : PySem.W.Frag) : V → Option Int → Option Int → Hp → VK → Prop := fun x lo hi H Q => rSlL K x lo hi H Q ∨ rSlA K x lo hi H Q
theorem absCut (h : AbsD K E te m) (hl : AbsO K E tl lo) (hh : AbsO K E th hi) : AbsE K E (tSl (rSl2 K) te tl th) (eCut m lo hi) := by
  intro G as r σ H Q R w
  refine h G as r σ H _ R ((Wp.bind w).mono (fun a w1 => ?_) fun _ z => z)
  obtain ⟨dx, r1⟩ := a
  intro G1 H1 x S1 R1 hx
  refine hl G1 as r1 σ H1 _ R1 ((Wp.bind w1).mono (fun b w2 => ?_) fun _ z => XPost.on R1 S1 z)
  intro G2 H2 S2 R2
  have S12 := S1.trans R1 S2
  refine hh G2 as b.2 σ H2 _ R2 ((Wp.bind w2).mono (fun c w3 => ?_) fun _ z => XPost.on R2 S12 z)
  intro G3 H3 S3 R3
  have S13 := S12.trans R2 S3
  obtain ⟨d, e, w4⟩ := wp_bindO w3
  have hx3 := (hx.mono S2.g).mono S3.g
  cases hx3 with
  | @lst a xs ds h1 h2 =>
    cases e
    refine .inl ⟨a, xs, rfl, R3.le.seq h1, fun p hp => ?_⟩
    have g := Grow.bare R3.le hp (.lst (cutV xs b.1 c.1))
    have hv : RVg K H3 G3 (upd H3 p (.lst (cutV xs b.1 c.1))) (.ref p) (.own (.lst (cutD ds b.1 c.1))) := ⟨p, rfl, hp, R3.le.free hp, _, upd_same, h2.cut _ _⟩
    exact w4 G3 _ _ (S13.trans R3 (g.stp R3)) (g.rel R3) ((hv.at R3).back R3 S13)
  | @tup a xs ds h1 h2 =>
    cases e
    refine .inr ⟨a, xs, rfl, SqT.same R3.le h1, fun hw => ?_, fun _ p hp => ?_⟩
    · have ec : cutD ds b.1 c.1 = ds := by
        unfold cutD
        rw [← h2.length, hw.1, hw.2]
        simp only [List.drop_zero, Nat.sub_zero]
        rw [List.take_of_length_le (by rw [h2.length]; exact Nat.le_refl _)]
      exact w4 G3 H3 _ S13 R3 (show DP K G3 (.ref a) (.tuple (cutD ds b.1 c.1)) by rw [ec]; exact .tup h1 h2)
    · have g := Grow.new R3.le hp (.tup (cutV xs b.1 c.1))
      exact w4 _ _ _ (S13.trans R3 (g.stp R3)) (g.rel R3) (show DP K _ (.ref p) (.tuple (cutD ds b.1 c.1)) from .tup (.inl (.inl upd_same)) ((h2.cut _ _).mono g.g))
  | non => cases e
  | bl _ => cases e
  | int _ => cases e
  | str _ => cases e
  | dic _ _ => cases e
/-- x[::-1] of a list -/
def eRev (m : M D) : M RV := fun r => (m r).bind fun a => match a.1 with
  | .list ds => .ok (.own (.lst ds.reverse), a.2)
  | _ => .no
end
end DL
/-! # DL7: built-ins by data; what is walked -/
namespace DL
open PySem PySem.Spec PyProof.Rows L2
/-! ### lists of numbers, of truths -/
def ints? : List D → Option (List Int)
  | [] => some []
  | .int i :: l => (ints? l).map (i :: ·)
  | _ :: _ => none
theorem ints?_of (ns : List Int) : ints? (ns.map .int) = some ns := by
  induction ns with
  | nil => rfl
  | cons n ns ih => simp [ints?, ih]
theorem ints?_eq : ∀ {ds : List D} {ns : List Int}, ints? ds = some ns → ds = ns.map .int
  | [], ns, e => by cases e; rfl
  | .int i :: l, ns, e => by
    unfold ints? at e
    cases e1 : ints? l with
    | none => rw [e1] at e; cases e
    | some ms => rw [e1] at e; cases e; rw [ints?_eq e1]; rfl
  | .none :: _, _, e => by cases e
  | .bool _ :: _, _, e => by cases e
  | .str _ :: _, _, e => by cases e
  | .list _ :: _, _, e => by cases e
  | .tuple _ :: _, _, e => by cases e
  | .dict _ :: _, _, e => by cases e
def bools? : List D → Option (List Bool)
  | [] => some []
  | .bool i :: l => (bools? l).map (i :: ·)
  | _ :: _ => none
theorem bools?_of (ns : List Bool) : bools? (ns.map .bool) = some ns := by
  induction ns with
  | nil => rfl
  | cons n ns ih => simp [bools?, ih]
theorem bools?_eq : ∀ {ds : List D} {ns : List Bool}, bools? ds = some ns → ds = ns.map .bool
  | [], ns, e => by cases e; rfl
  | .bool i :: l, ns, e => by
    unfold bools? at e
    cases e1 : bools? l with
    | none => rw [e1] at e; cases e
    | some ms => rw [e1] at e; cases e; rw [bools?_eq e1]; rfl
  | .none :: _, _, e => by cases e
  | .int _ :: _, _, e => by cases e
  | .str _ :: _, _, e => by cases e
  | .list _ :: _, _, e => by cases e
  | .tuple _ :: _, _, e => by cases e
  | .dict _ :: _, _, e => by cases e
/-- the greatest, the least of some numbers -/
def maxI : List Int → Int
  | [] => 0
  | [a] => a
  | a :: l => if a < maxI l then maxI l else a
theorem maxI_mem : ∀ {l : List Int}, l ≠ [] → maxI l ∈ l ∧ ∀ y ∈ l, y ≤ maxI l
  | [], h => absurd rfl h
  | [a], _ => ⟨by simp [maxI], fun y hy => by simp at hy; subst hy; exact Int.le_refl _⟩
  | a :: b :: l, _ => by
    obtain ⟨h1, h2⟩ := maxI_mem (l := b :: l) (by simp)
    unfold maxI
    split
    · rename_i hlt
      exact ⟨List.mem_cons_of_mem _ h1, fun y hy => by
        rcases List.mem_cons.mp hy with rfl | hy
        · omega
        · exact h2 y hy⟩
    · rename_i hlt
      exact ⟨List.mem_cons_self, fun y hy => by
        rcases List.mem_cons.mp hy with rfl | hy
        · exact Int.le_refl _
        · have := h2 y hy; omega⟩
/-- some numbers, rising; falling -/
def sortI (ns : List Int) : List Int := ns.mergeSort (fun a b => decide (a ≤ b))
def sortB (b : Bool) (ns : List Int) : List Int := if b then (sortI ns).reverse else sortI ns
theorem sortI_perm (ns : List Int) : (sortI ns).Perm ns := List.mergeSort_perm ns _
theorem sortI_sorted (ns : List Int) : (sortI ns).Pairwise (· ≤ ·) := by
  have h := List.pairwise_mergeSort (le := fun a b : Int => decide (a ≤ b)) (fun a b c h1 h2 => by simp at *; omega) (fun a b => by simp; omega) ns
  exact h.imp fun h => by simpa using h
theorem sort_same {a b : List Int} (hp : a.Perm b) (ha : a.Pairwise (· ≤ ·)) (hb : b.Pairwise (· ≤ ·)) : a = b := hp.eq_of_pairwise (fun _ _ _ _ h1 h2 => Int.le_antisymm h1 h2) ha hb
theorem sortI_is {ns' ns : List Int} (hp : ns'.Perm ns) (h : ns'.Pairwise (· ≤ ·)) : ns' = sortI ns := sort_same (hp.trans (sortI_perm ns).symm) h (sortI_sorted ns)
section
variable {K : PySem.W.Frag} {tcK : TabC K}
def pLen : List D → Option D
  | [.list ds] => some (.int ds.length)
  | [.tuple ds] => some (.int ds.length)
  | _ => none
def rLen (K : PySem.W.Frag) : List V → Hp → VK → Prop := fun xs H Q => ∃ p ys, xs = [.ref p] ∧ (SqL K H p ys ∨ SqT K H p ys) ∧ Q (.int ys.length) H
theorem a_len : AN K (rLen K) pLen := by
  intro G H xs ds Q le h d e q
  cases h with
  | nil => cases e
  | cons h1 h2 =>
    cases h2 with
    | cons _ _ => cases h1 <;> cases e
    | nil =>
      cases h1 with
      | @lst a ys es k1 k2 => cases e; exact ⟨a, ys, rfl, .inl (le.seq k1), by rw [k2.length]; exact q G H _ (Grow.refl le) (.int _)⟩
      | @tup a ys es k1 k2 => cases e; exact ⟨a, ys, rfl, .inr (SqT.same le k1), by rw [k2.length]; exact q G H _ (Grow.refl le) (.int _)⟩
      | non => cases e
      | bl _ => cases e
      | int _ => cases e
      | str _ => cases e
      | dic _ _ => cases e
def pTwo (g : Int → Int → D) : List D → Option D
  | [.int i, .int j] => some (g i j)
  | _ => none
theorem two_of {G : Hp} {g : Int → Int → D} {xs : List V} {ds : List D} {d : D} (h : DPs K G xs ds) (e : pTwo g ds = some d) : ∃ i j, xs = [.int i, .int j] ∧ d = g i j := by
  cases h with
  | nil => cases e
  | cons h1 h2 =>
    cases h2 with
    | nil => cases h1 <;> cases e
    | cons h2 h3 =>
      cases h3 with
      | cons _ _ => cases h1 <;> cases h2 <;> cases e
      | nil => cases h1 <;> first | (cases h2 <;> first | (cases e; exact ⟨_, _, rfl, rfl⟩) | cases e) | cases e
def pMax2 := pTwo fun i j => .int (if j > i then j else i)
def pMin2 := pTwo fun i j => .int (if j < i then j else i)
theorem a_max2 : AN K (fun xs H Q => ∃ i j, xs = [.int i, .int j] ∧ Q (.int (if j > i then j else i)) H) pMax2 := by
  intro G H xs ds Q le h d e q
  obtain ⟨i, j, e1, e2⟩ := two_of h e
  subst e2
  exact ⟨i, j, e1, q G H _ (Grow.refl le) (.int _)⟩
def pDivmod : List D → Option D := fun ds => match ds with
  | [.int i, .int j] => if 0 < j ∧ j < 1073741824 then some (.tuple [.int (i / j), .int (i % j)]) else none
  | _ => none
/-- one list of numbers -/
def pL1 (g : List Int → Option D) : List D → Option D
  | [.list ds] => (ints? ds).bind g
  | _ => none
def pSum := pL1 fun ns => some (.int ns.sum)
def pB1 (g : List Bool → D) : List D → Option D
  | [.list ds] => (bools? ds).map g
  | _ => none
theorem b1_of {G : Hp} {g : List Bool → D} {xs : List V} {ds : List D} {d : D} (h : DPs K G xs ds) (e : pB1 g ds = some d) : ∃ a ns, xs = [.ref a] ∧ SqL K G a (ns.map V.bl) ∧ d = g ns := by
  cases h with
  | nil => cases e
  | cons h1 h2 =>
    cases h2 with
    | cons _ _ => cases h1 <;> cases e
    | nil =>
      cases h1 with
      | @lst a ys es k1 k2 =>
        have e : (bools? es).map g = some d := e
        cases ei : bools? es with
        | none => rw [ei] at e; cases e
        | some ns =>
          rw [ei] at e
          cases e
          have := bools?_eq ei
          subst this
          have := k2.bools
          subst this
          exact ⟨a, ns, rfl, k1, rfl⟩
      | tup _ _ => cases e
      | non => cases e
      | bl _ => cases e
      | int _ => cases e
      | str _ => cases e
      | dic _ _ => cases e
def pAll := pB1 fun bs => .bool (bs.all id)
theorem a_all : AN K (rAll K) pAll := by
  intro G H xs ds Q le h d e q
  obtain ⟨a, ns, e1, e2, e3⟩ := b1_of h e
  subst e3
  exact ⟨a, ns, e1, le.seq e2, q G H _ (Grow.refl le) (.bl _)⟩
def pL1R (g : List Int → RV) : List D → Option RV
  | [.list ds] => (ints? ds).map g
  | _ => none
def pSorted := pL1R fun ns => .own (.lst ((sortI ns).map .int))
/-- list(x), tuple(x) of a list or tuple -/
def pListOf : List D → Option RV
  | [.list ds] => some (.own (.lst ds))
  | [.tuple ds] => some (.own (.lst ds))
  | _ => none
def pTupOf : List D → Option D
  | [.list ds] => some (.tuple ds)
  | [.tuple ds] => some (.tuple ds)
  | _ => none
theorem a_listOf : ANR K (fun xs H Q => ∃ p ys, xs = [.ref p] ∧ (SqL K H p ys ∨ SqT K H p ys) ∧ ∀ l, H l = none → Q (.ref l) (upd H l (.lst ys))) pListOf := by
  intro G H xs ds Q le h d e q
  cases h with
  | nil => cases e
  | cons h1 h2 =>
    cases h2 with
    | cons _ _ => cases h1 <;> cases e
    | nil =>
      cases h1 with
      | @lst a ys es k1 k2 => cases e; exact ⟨a, ys, rfl, .inl (le.seq k1), fun l hl => q G _ _ (Grow.bare le hl _) ⟨l, rfl, hl, le.free hl, _, upd_same, k2⟩⟩
      | @tup a ys es k1 k2 => cases e; exact ⟨a, ys, rfl, .inr (SqT.same le k1), fun l hl => q G _ _ (Grow.bare le hl _) ⟨l, rfl, hl, le.free hl, _, upd_same, k2⟩⟩
      | non => cases e
      | bl _ => cases e
      | int _ => cases e
      | str _ => cases e
      | dic _ _ => cases e
theorem a_tupOf : AN K (fun xs H Q => ∃ p ys, xs = [.ref p] ∧ ((SqL K H p ys ∧ ∀ l, H l = none → Q (.ref l) (upd H l (.tup ys))) ∨ (SqT K H p ys ∧ Q (.ref p) H))) pTupOf := by
  intro G H xs ds Q le h d e q
  cases h with
  | nil => cases e
  | cons h1 h2 =>
    cases h2 with
    | cons _ _ => cases h1 <;> cases e
    | nil =>
      cases h1 with
      | @lst a ys es k1 k2 =>
        cases e
        refine ⟨a, ys, rfl, .inl ⟨le.seq k1, fun l hl => ?_⟩⟩
        have g := Grow.new le hl (.tup ys)
        exact q _ _ _ g (.tup (.inl (.inl upd_same)) (k2.mono g.g))
      | @tup a ys es k1 k2 => cases e; exact ⟨a, ys, rfl, .inr ⟨SqT.same le k1, q G H _ (Grow.refl le) (.tup k1 k2)⟩⟩
      | non => cases e
      | bl _ => cases e
      | int _ => cases e
      | str _ => cases e
      | dic _ _ => cases e
/-- int(x) of a number or a truth -/
def pInt1 : List D → Option D
  | [.int i] => some (.int i)
  | [.bool b] => some (.int (if b then 1 else 0))
  | _ => none
theorem a_int1 : AN K (fun xs H Q => (∃ i, xs = [.int i] ∧ Q (.int i) H) ∨ ∃ k, xs = [.bl k] ∧ Q (.int (if k then 1 else 0)) H) pInt1 := by
  intro G H xs ds Q le h d e q
  cases h with
  | nil => cases e
  | cons h1 h2 =>
    cases h2 with
    | cons _ _ => cases h1 <;> cases e
    | nil =>
      cases h1 with
      | int i => cases e; exact .inl ⟨i, rfl, q G H _ (Grow.refl le) (.int _)⟩
      | bl b => cases e; exact .inr ⟨b, rfl, q G H _ (Grow.refl le) (.int _)⟩
      | lst _ _ => cases e
      | tup _ _ => cases e
      | non => cases e
      | str _ => cases e
      | dic _ _ => cases e
end
/-! ### isinstance with built-in classes -/
def tyD : D → String
  | .none => "NoneType"
  | .bool _ => "bool"
  | .int _ => "int"
  | .str _ => "str"
  | .list _ => "list"
  | .tuple _ => "tuple"
  | .dict _ => "dict"
theorem tyX_of {K : PySem.W.Frag} {G H : Hp} {x : V} {d : D} (le : Same G H) (h : DP K G x d) : TyX K H x (.type (tyD d)) := by
  cases h with
  | non => exact .base .non
  | bl b => exact .base (.bl b)
  | int i => exact .base (.int i)
  | str x => exact .base (.str x)
  | lst h1 h2 =>
    rcases h1 with (h1 | ⟨o, h1⟩) | ⟨o, its, n, k1, k2, _⟩
    · exact .base (.lst (le _ _ h1))
    · exact .base (.frz (le _ _ h1))
    · exact .kList k1 k2
  | tup h1 h2 =>
    rcases h1 with (h1 | ⟨o, h1⟩) | ⟨o, its, n, k1, k2, _⟩
    · exact .base (.tup (le _ _ h1))
    · exact .fTuple (le _ _ h1)
    · exact .kTuple k1 k2
  | dic h1 h2 =>
    rcases h1 with h1 | ⟨o, h1⟩
    · exact .base (.dK (le _ _ h1))
    · exact .fDict (le _ _ h1)
def kitAnyB (a : String) : List String → Option Bool
  | [] => some false
  | b :: bs => match kitB a b with
    | some true => some true
    | some false => kitAnyB a bs
    | none => none
theorem kitAnyB_ok {K : PySem.W.Frag} {a : String} : ∀ {bs : List String} {r : Bool}, kitAnyB a bs = some r → PySem.W.kitAny K (.type a) (bs.map .type) = some r
  | [], r, e => by cases e; exact kitAny_nil
  | b :: bs, r, e => by
    unfold kitAnyB at e
    cases eb : kitB a b with
    | none => rw [eb] at e; cases e
    | some v =>
      rw [eb] at e
      cases v with
      | true => cases e; exact kitAny_cons (kit_ty eb) (fun z => nomatch z) fun _ => rfl
      | false => exact kitAny_cons (kit_ty eb) (fun _ => kitAnyB_ok e) fun z => nomatch z
def dIsi (T : String) (m : M D) : M D := fun r => (m r).bind fun a => (ofO (kitB (tyD a.1) T)).bind fun b => .ok (.bool b, a.2)
def dIsiT (Ts : List String) (m : M D) : M D := fun r => (m r).bind fun a => (ofO (kitAnyB (tyD a.1) Ts)).bind fun b => .ok (.bool b, a.2)
section
variable {K : PySem.W.Frag} {tcK : TabC K} {E : WX} {ta : TE} {m : M D}
theorem absIsi {T : String} (h : AbsD K E ta m) : AbsD K E (tCB (rIsi K) (tCons ta (tCons (tC (.ty T)) tNil))) (dIsi T m) := by
  intro G as r σ H Q R w
  refine h G as r σ H _ R ((Wp.bind w).mono (fun a w1 => ?_) fun _ z => z)
  intro G1 H1 v S1 R1 dv
  obtain ⟨b, eb, w2⟩ := wp_bindO w1
  exact ⟨v, .ty T, _, _, b, rfl, .ty T, tyX_of R1.le dv, kit_ty eb, w2 G1 H1 _ S1 R1 (.bl _)⟩
theorem clsAll : ∀ Ts : List String, Paired ClsV (Ts.map V.ty) (Ts.map Value.type)
  | [] => .nil
  | T :: Ts => .cons (.ty T) (clsAll Ts)
theorem absIsi2 {T U : String} (h : AbsD K E ta m) : AbsD K E (tCB (rIsiT K) (tCons ta (tCons (tTup (tCons (tC (.ty T)) (tCons (tC (.ty U)) tNil))) tNil))) (dIsiT [T, U] m) := by
  intro G as r σ H Q R w
  refine h G as r σ H _ R ((Wp.bind w).mono (fun a w1 => ?_) fun _ z => z)
  intro G1 H1 v S1 R1 dv
  obtain ⟨b, eb, w2⟩ := wp_bindO w1
  refine ⟨by show 2 ≤ sizeLine; decide, fun p hp => ?_⟩
  have g := Grow.bare R1.le hp (.tup [.ty T, .ty U])
  exact ⟨v, p, [.ty T, .ty U], _, [T, U].map .type, b, rfl, upd_same, clsAll [T, U], tyX_of g.le dv, kitAnyB_ok eb, w2 G1 _ _ (S1.trans R1 (g.stp R1)) (g.rel R1) (.bl _)⟩
end
/-! ### chains -/
section
variable {K : PySem.W.Frag} {tcK : TabC K} {E : WX} {ta tb tc : TE} {ma mb mc : M D}
theorem absChain {r r' : R2} {f g : D → D → Option D} (ha : AbsD K E ta ma) (hb : AbsD K E tb mb) (hc : AbsD K E tc mc) (h1 : A2 K r f) (h2 : A2 K r' g) : AbsD K E (tChain r r' ta tb tc) (dChain f g ma mb mc) := by
  intro G as r0 σ H Q R w
  refine ha G as r0 σ H _ R ((Wp.bind w).mono (fun a w1 => ?_) fun _ z => z)
  intro G1 H1 x S1 R1 dx
  refine hb G1 as a.2 σ H1 _ R1 ((Wp.bind w1).mono (fun b w2 => ?_) fun _ z => XPost.on R1 S1 z)
  intro G2 H2 y S2 R2 dy
  have S12 := S1.trans R1 S2
  obtain ⟨d, e, w3⟩ := wp_bindO w2
  refine h1 G2 H2 x y _ _ _ R2.le (dx.mono S2.g) dy d e fun G3 H3 v gr dv => ?_
  have R3 := gr.rel R2
  have S3 := S12.trans R2 (gr.stp R2)
  cases d with
  | bool k =>
    obtain rfl := dp_bool dv
    refine ⟨k, rfl, ?_⟩
    cases k with
    | true =>
      rw [if_pos rfl]
      have w3 : Wp ((mc b.2).bind fun c => (ofO (g b.1 c.1)).bind fun d => .ok (d, c.2)) (DPost K G as r0 σ H Q) (XPost K G as r0 σ H E) := w3
      refine hc G3 as b.2 σ H3 _ R3 ((Wp.bind w3).mono (fun c w4 => ?_) fun _ z => XPost.on R3 S3 z)
      intro G4 H4 z S4 R4 dz
      obtain ⟨d', e', w5⟩ := wp_bindO w4
      exact h2 G4 H4 y z _ _ _ R4.le ((dy.mono gr.g).mono S4.g) dz d' e' fun G5 H5 v' g5 dv' => w5 G5 H5 v' ((S3.trans R3 S4).trans R4 (g5.stp R4)) (g5.rel R4) dv'
    | false =>
      rw [if_neg Bool.false_ne_true]
      exact w3 G3 H3 _ S3 R3 (.bl _)
  | none => exact w3.elim
  | int _ => exact w3.elim
  | str _ => exact w3.elim
  | list _ => exact w3.elim
  | tuple _ => exact w3.elim
  | dict _ => exact w3.elim
end
/-! ### what is walked -/
section
variable {K : PySem.W.Frag} {tcK : TabC K} {G0 : Hp}
theorem it_at {xs : List V} {ds : List D} {J : It} {Gp : Hp → Prop} (w : Walk J xs.length Gp (YAt xs)) (hg : ∀ H, Same G0 H → Gp H) (h : DPs K G0 xs ds) : Iterates K G0 J ds := by
  refine ⟨Gp, YAt xs, by rw [← h.length]; exact w, hg, fun i H x H' G s1 s2 hi hy => ?_⟩
  obtain ⟨e, hx⟩ := hy
  subst e
  obtain ⟨d, hd, hp⟩ := h.getV hx
  exact ⟨G, d, hd, Grow.refl s2, hp.mono s1⟩
theorem it_list {a : Addr} {xs : List V} {ds : List D} (h1 : SqL K G0 a xs) (h : DPs K G0 xs ds) : Iterates K G0 (Itl K a) ds := it_at walk_list (fun _ s => s.seq h1) h
theorem it_tup {a : Addr} {xs : List V} {ds : List D} (h1 : SqT K G0 a xs) (h : DPs K G0 xs ds) : Iterates K G0 (Itt K a) ds := it_at walk_tup (fun _ s => SqT.same s h1) h
def rangeD (lo : Int) (n : Nat) : List D := (List.range n).map fun i => .int (lo + (i : Nat))
theorem rangeD_length (lo : Int) (n : Nat) : (rangeD lo n).length = n := by simp [rangeD]
theorem rangeD_get {lo : Int} {n i : Nat} (h : i < n) : (rangeD lo n)[i]? = some (.int (lo + i)) := by simp [rangeD, h]
theorem it_range {lo : Int} {n : Nat} : Iterates K G0 (Itr lo n) (rangeD lo n) := by
  refine ⟨fun _ => True, YFn fun i => .int (lo + i), by rw [rangeD_length]; exact walk_range, fun _ _ => trivial, fun i H x H' G s1 s2 hi hy => ?_⟩
  obtain ⟨e, hx⟩ := hy
  subst e hx
  rw [rangeD_length] at hi
  exact ⟨G, _, rangeD_get hi, Grow.refl s2, .int _⟩
def enumD (k : Int) : List D → List D
  | [] => []
  | d :: ds => .tuple [.int k, d] :: enumD (k + 1) ds
theorem enumD_length : ∀ (k : Int) (ds : List D), (enumD k ds).length = ds.length
  | _, [] => rfl
  | k, _ :: ds => congrArg (· + 1) (enumD_length (k + 1) ds)
theorem enumD_get : ∀ {k : Int} {ds : List D} {i : Nat} {d : D}, ds[i]? = some d → (enumD k ds)[i]? = some (.tuple [.int (k + i), d])
  | _, [], _, _, h => by simp at h
  | k, x :: ds, 0, d, h => by simp at h; subst h; simp [enumD]
  | k, x :: ds, i + 1, d, h => by
    have := enumD_get (k := k + 1) (ds := ds) (i := i) (d := d) (by simpa using h)
    simp only [enumD, List.getElem?_cons_succ, this]
    congr 4
    omega
theorem it_enum {a : Addr} {xs : List V} {ds : List D} (h1 : SqL K G0 a xs) (h : DPs K G0 xs ds) : Iterates K G0 (Ite K a) (enumD 0 ds) := by
  refine ⟨_, _, by rw [enumD_length, ← h.length]; exact walk_enum, fun _ s => s.seq h1, fun i H x H' G s1 s2 hi hy => ?_⟩
  obtain ⟨T, u, y, e1, e2, e3, e4, e5⟩ := hy
  subst e1 e3
  cases e4
  obtain ⟨d, hd, hp⟩ := h.getV e5
  have g := Grow.new s2 e2 (.tup [.int (i : Nat), y])
  refine ⟨_, _, enumD_get hd, g, .tup (.inl (.inl upd_same)) (.cons ?_ (.cons ((hp.mono s1).mono g.g) .nil))⟩
  rw [Int.zero_add]
  exact .int _
def zipD : List D → List D → List D := List.zipWith fun a b => .tuple [a, b]
theorem zipD_get {ds es : List D} {i : Nat} {d e : D} (h : ds[i]? = some d) (h' : es[i]? = some e) : (zipD ds es)[i]? = some (.tuple [d, e]) := by
  unfold zipD
  rw [List.getElem?_zipWith, h, h']
end
def iSeq (K : PySem.W.Frag) (tl : TE) : TI := fun σ H R => tl σ H fun x H1 => (∃ a, x = .ref a ∧ (∃ xs, SqL K H1 a xs) ∧ R (Itl K a) H1) ∨ (∃ a, x = .ref a ∧ (∃ xs, SqT K H1 a xs) ∧ R (Itt K a) H1)
theorem pi_seq {X : Cx} {tg l : Expr} {tl : TE} (hl : PE X l tl) : PI X tg l (iSeq X.K tl) := by
  refine ⟨fun pins s σ H R I h => ?_⟩
  refine thn (hl.run pins s σ H _ I h) fun v s1 ⟨x, H1, I1, r1, q1⟩ => ?_
  rcases q1 with q1 | q1
  · obtain ⟨a, e, ⟨xs, hq⟩, q⟩ := q1
    subst e
    cases r1
    obtain ⟨its, rv, p, hz⟩ := I1.list hq
    refine wpAny_pyIter_list p.isList ?_
    refine ⟨s1.heap.objs.size, [s1.heap.objs.size], _, _, H1, rfl, I1.kept (t' := s1.toks) fun b o e => Heap.get?_push_of_some _ e, turn_list a _, ⟨_, Heap.get?_push_size _ rfl, rfl, rfl⟩, fun b hb => ?_, q⟩
    have e : b = s1.heap.objs.size := by simpa using hb
    subst e
    exact I1.fpOk (Nat.le_refl _) (I1.hok.fresh (Nat.le_refl _))
  · obtain ⟨a, e, ⟨xs, hq⟩, q⟩ := q1
    subst e
    cases r1
    obtain ⟨its, rv, p, hz⟩ := I1.tuple hq
    refine wpAny_pyIter_tuple (show s1.heap.IsTuple a its.toArray from p) ?_
    refine ⟨s1.heap.objs.size, [s1.heap.objs.size], _, _, H1, rfl, I1.kept (t' := s1.toks) fun b o e => Heap.get?_push_of_some _ e, turn_tuple a _, ⟨_, Heap.get?_push_size _ rfl, rfl, rfl⟩, fun b hb => ?_, q⟩
    have e : b = s1.heap.objs.size := by simpa using hb
    subst e
    exact I1.fpOk (Nat.le_refl _) (I1.hok.fresh (Nat.le_refl _))
def iSeqM (m : M D) : M (List D) := fun r => (m r).bind fun a => match a.1 with
  | .list ds => .ok (ds, a.2)
  | .tuple ds => .ok (ds, a.2)
  | _ => .no
noncomputable def iRng1M (m : M D) : M (List D) := fun r => (m r).bind fun a => match a.1 with
  | .int j => @ite _ (-(2 ^ 62) ≤ j ∧ j < 2 ^ 62) (Classical.propDecidable _) (.ok (rangeD 0 j.toNat, a.2)) .no
  | _ => .no
noncomputable def iRng2M (ms : M (List D)) : M (List D) := fun r => (ms r).bind fun a => match a.1 with
  | [.int i, .int j] => @ite _ (-(2 ^ 62) ≤ i ∧ i < 2 ^ 62 ∧ -(2 ^ 62) ≤ j ∧ j < 2 ^ 62) (Classical.propDecidable _) (.ok (rangeD i (j - i).toNat, a.2)) .no
  | _ => .no
def iEnumM (m : M D) : M (List D) := fun r => (m r).bind fun a => match a.1 with
  | .list ds => .ok (enumD 0 ds, a.2)
  | _ => .no
def iZipM (m n : M D) : M (List D) := fun r => (m r).bind fun a => (n a.2).bind fun b => match a.1, b.1 with
  | .list ds, .list es => .ok (zipD ds es, b.2)
  | _, _ => .no
section
variable {K : PySem.W.Frag} {tcK : TabC K} {E : WX} {te tf : TE} {m n : M D} {t : TA} {ms : M (List D)}
theorem absISeq (h : AbsD K E te m) : AbsI K E (iSeq K te) (iSeqM m) := by
  intro G as r σ H Q R w
  refine h G as r σ H _ R ((Wp.bind w).mono (fun a w1 => ?_) fun _ z => z)
  obtain ⟨d, r1⟩ := a
  intro G1 H1 v S1 R1 dv
  cases dv with
  | @lst a xs ds h1 h2 => exact .inl ⟨a, rfl, ⟨xs, R1.le.seq h1⟩, w1 G1 H1 _ S1 R1 (it_list h1 h2)⟩
  | @tup a xs ds h1 h2 => exact .inr ⟨a, rfl, ⟨xs, SqT.same R1.le h1⟩, w1 G1 H1 _ S1 R1 (it_tup h1 h2)⟩
  | non => exact w1.elim
  | bl _ => exact w1.elim
  | int _ => exact w1.elim
  | str _ => exact w1.elim
  | dic _ _ => exact w1.elim
theorem absIRng1 (h : AbsD K E te m) : AbsI K E (iRng1 (tCons te tNil)) (iRng1M m) := by
  intro G as r σ H Q R w
  refine h G as r σ H _ R (Wp.mono (Wp.bind w) (fun a w1 => ?_) fun _ z => z)
  obtain ⟨d, r1⟩ := a
  intro G1 H1 v S1 R1 dv
  cases d with
  | int j =>
    obtain rfl : v = .int j := dp_int dv
    have w1 : Wp (@ite _ (-(2 ^ 62) ≤ j ∧ j < 2 ^ 62) (Classical.propDecidable _) (Res.ok (rangeD 0 j.toNat, r1)) Res.no) (IPost K G as r σ H Q) (XPost K G as r σ H E) := w1
    split at w1
    · rename_i hj
      exact ⟨j, rfl, hj.1, hj.2, w1 G1 H1 _ S1 R1 it_range⟩
    · exact w1.elim
  | none => exact w1.elim
  | bool _ => exact w1.elim
  | str _ => exact w1.elim
  | list _ => exact w1.elim
  | tuple _ => exact w1.elim
  | dict _ => exact w1.elim
end
end DL
/-! # DL8: the rules as they are written of a text -/
namespace DL
open PySem PySem.Spec PyProof.Rows L2
/-- what a denotation asks, as a reading -/
def tE (K : PySem.W.Frag) [TabC K] (E : WX) (m : M RV) : TE := fun σ H Q => ∃ G as r, Rel K G as r σ H ∧ Wp (m r) (EPost K G as r σ H Q) (XPost K G as r σ H E)
def tD (K : PySem.W.Frag) [TabC K] (E : WX) (m : M D) : TE := fun σ H Q => ∃ G as r, Rel K G as r σ H ∧ Wp (m r) (DPost K G as r σ H Q) (XPost K G as r σ H E)
def tA (K : PySem.W.Frag) [TabC K] (E : WX) (m : M (List D)) : TA := fun σ H Q => ∃ G as r, Rel K G as r σ H ∧ Wp (m r) (APost K G as r σ H Q) (XPost K G as r σ H E)
def tAr (K : PySem.W.Frag) [TabC K] (E : WX) (m : M (List ASl)) : TA := fun σ H Q => ∃ G as r, Rel K G as r σ H ∧ Wp (m r) (ArPost K G as r σ H Q) (XPost K G as r σ H E)
def tT (K : PySem.W.Frag) [TabC K] (E : WX) (m : M Bool) : TT := fun σ H Q => ∃ G as r, Rel K G as r σ H ∧ Wp (m r) (TPost K G as r σ H Q) (XPost K G as r σ H E)
def tS (K : PySem.W.Frag) [TabC K] (E : WX) (m : SM) : TS := fun D σ H => ∃ G as r, Rel K G as r σ H ∧ Wp (m r) (SPost K G as r H D) (YPost K G as r H E)
def tI (K : PySem.W.Frag) [TabC K] (E : WX) (m : M (List D)) : TI := fun σ H Q => ∃ G as r, Rel K G as r σ H ∧ Wp (m r) (IPost K G as r σ H Q) (XPost K G as r σ H E)
def tO (K : PySem.W.Frag) [TabC K] (E : WX) (m : M (Option Int)) : TO := fun σ H Q => ∃ G as r, Rel K G as r σ H ∧ Wp (m r) (OPost K G as r σ H Q) (XPost K G as r σ H E)
def tG (K : PySem.W.Frag) [TabC K] (ws : List Nat) (b : BM) : TG := fun v σ H Q => ∃ G as r d, Rel K G as r σ H ∧ DP K G v d ∧ ∃ r', b d r = some r' ∧ ∀ σ', But ws σ σ' → Stp G as r H G as r' H → Rel K G as r' σ' H → Q σ' H
section
variable {K : PySem.W.Frag} {tcK : TabC K} {E : WX}
theorem sE (m : M RV) : AbsE K E (tE K E m) m := fun G as r σ H Q R w => ⟨G, as, r, R, w⟩
theorem sD (m : M D) : AbsD K E (tD K E m) m := fun G as r σ H Q R w => ⟨G, as, r, R, w⟩
theorem sA (m : M (List D)) : AbsA K E (tA K E m) m := fun G as r σ H Q R w => ⟨G, as, r, R, w⟩
theorem sAr (m : M (List ASl)) : AbsAr K E (tAr K E m) m := fun G as r σ H Q R w => ⟨G, as, r, R, w⟩
theorem sT (m : M Bool) : AbsT K E (tT K E m) m := fun G as r σ H Q R w => ⟨G, as, r, R, w⟩
theorem sS (m : SM) : AbsS K E (tS K E m) m := fun G as r σ H Q R w => ⟨G, as, r, R, w⟩
theorem sI (m : M (List D)) : AbsI K E (tI K E m) m := fun G as r σ H Q R w => ⟨G, as, r, R, w⟩
theorem sO (m : M (Option Int)) : AbsO K E (tO K E m) m := fun G as r σ H Q R w => ⟨G, as, r, R, w⟩
theorem sG (ws : List Nat) (b : BM) : AbsG K ws (tG K ws b) b := fun G as r σ H v d Q R h r' e q => ⟨G, as, r, d, R, h, r', e, q⟩
end
section
variable {X : Cx} {tcX : TabC X.K} {E : WX}
theorem wE {e : Expr} {t : TE} {m : M RV} (h : PE X e t) (a : AbsE X.K E t m) : PE X e (tE X.K E m) := ⟨fun pins s σ H Q I ⟨G, as, r, R, w⟩ => h.run pins s σ H Q I (a G as r σ H Q R w)⟩
theorem wD {e : Expr} {t : TE} {m : M D} (h : PE X e t) (a : AbsD X.K E t m) : PE X e (tD X.K E m) := ⟨fun pins s σ H Q I ⟨G, as, r, R, w⟩ => h.run pins s σ H Q I (a G as r σ H Q R w)⟩
theorem wT {e : Expr} {t : TT} {m : M Bool} (h : PT X e t) (a : AbsT X.K E t m) : PT X e (tT X.K E m) := ⟨fun pins s σ H Q I ⟨G, as, r, R, w⟩ => h.run pins s σ H Q I (a G as r σ H Q R w)⟩
theorem wW {e : Expr} {t : TT} {m : M Bool} (h : PW X e t) (a : AbsT X.K E t m) : PW X e (tT X.K E m) := ⟨fun wh pins s σ H Q I ⟨G, as, r, R, w⟩ => h.run wh pins s σ H Q I (a G as r σ H Q R w)⟩
theorem wA {es : List Expr} {t : TA} {m : M (List D)} (h : PA X es t) (a : AbsA X.K E t m) : PA X es (tA X.K E m) := ⟨fun pos pins s σ H Q I ⟨G, as, r, R, w⟩ => h.run pos pins s σ H Q I (a G as r σ H Q R w)⟩
theorem wAr {es : List Expr} {t : TA} {m : M (List ASl)} (h : PA X es t) (a : AbsAr X.K E t m) : PA X es (tAr X.K E m) := ⟨fun pos pins s σ H Q I ⟨G, as, r, R, w⟩ => h.run pos pins s σ H Q I (a G as r σ H Q R w)⟩
theorem wK {ks : List Keyword} {t : TA} {m : M (List ASl)} (h : PK X ks t) (a : AbsAr X.K E t m) : PK X ks (tAr X.K E m) := ⟨fun pos pins s σ H Q I ⟨G, as, r, R, w⟩ => h.run pos pins s σ H Q I (a G as r σ H Q R w)⟩
theorem wS {st : Stmt} {t : TS} {m : SM} (h : PS X st t) (a : AbsS X.K E t m) : PS X st (tS X.K E m) := ⟨fun pins s σ H Q I ⟨G, as, r, R, w⟩ => h.run pins s σ H Q I (a G as r σ H Q R w)⟩
theorem wSs {st : List Stmt} {t : TS} {m : SM} (h : PSs X st t) (a : AbsS X.K E t m) : PSs X st (tS X.K E m) := ⟨fun pins s σ H Q I ⟨G, as, r, R, w⟩ => h.run pins s σ H Q I (a G as r σ H Q R w)⟩
theorem wI {tg e : Expr} {t : TI} {m : M (List D)} (h : PI X tg e t) (a : AbsI X.K E t m) : PI X tg e (tI X.K E m) := ⟨fun pins s σ H Q I ⟨G, as, r, R, w⟩ => h.run pins s σ H Q I (a G as r σ H Q R w)⟩
theorem wO {e : Option Expr} {t : TO} {m : M (Option Int)} (h : PO X e t) (a : AbsO X.K E t m) : PO X e (tO X.K E m) := ⟨fun pins s σ H Q I ⟨G, as, r, R, w⟩ => h.run pins s σ H Q I (a G as r σ H Q R w)⟩
theorem wG {tg : Expr} {ws : List Nat} {t : TG} {b : BM} (h : PG X tg t) (a : AbsG X.K ws t b) : PG X tg (tG X.K ws b) :=
  ⟨fun pins s σ H v u Q I r ⟨G, as, ρ, d, R, hd, r', e, q⟩ => h.run pins s σ H v u Q I r (a G as ρ σ H v d Q R hd r' e q)⟩
/-! ### expressions -/
variable {a b c : Expr} {ma mb mc : M D} {m n : M RV} {pos p p2 apos cpos : Pos}
theorem d_int {i : Int} {j} : PE X (.Constant (.int i) j pos) (tD X.K E (dC (.int i))) := wD pe_int (absC fun _ => .int i)
theorem d_bl {i : Bool} {j} : PE X (.Constant (.bool i) j pos) (tD X.K E (dC (.bool i))) := wD pe_bl (absC fun _ => .bl i)
theorem d_var (i : Nat) {x : Str} (hN : X.N[i]? = some x := by rfl) (hv : Vis X.env.scope x := by first | exact Or.inl rfl | exact Or.inr (Or.inl rfl) | exact Or.inr (Or.inr rfl)) (hd : (x == ("__debug__" : Str)) = false := by decide)
    (hcd : (x == ("__classdict__" : Str)) = false := by decide) : PE X (.Name x pos) (tD X.K E (dVar i)) := wD (pe_var hN hv hd hcd) (absVar i)
theorem d_val (i : Nat) {x : Str} (hN : X.N[i]? = some x := by rfl) (hv : Vis X.env.scope x := by first | exact Or.inl rfl | exact Or.inr (Or.inl rfl) | exact Or.inr (Or.inr rfl)) (hd : (x == ("__debug__" : Str)) = false := by decide)
    (hcd : (x == ("__classdict__" : Str)) = false := by decide) : PE X (.Name x pos) (tD X.K E (dVal i)) := wD (pe_var hN hv hd hcd) (absVal i)
theorem e_mov (i : Nat) {x : Str} (hN : X.N[i]? = some x := by rfl) (hv : Vis X.env.scope x := by first | exact Or.inl rfl | exact Or.inr (Or.inl rfl) | exact Or.inr (Or.inr rfl)) (hd : (x == ("__debug__" : Str)) = false := by decide)
    (hcd : (x == ("__classdict__" : Str)) = false := by decide) : PE X (.Name x pos) (tE X.K E (eMove i)) := wE (pe_var hN hv hd hcd) (absMove i)
theorem d_fz (h : PE X a (tE X.K E m)) : PE X a (tD X.K E (fz m)) := wD h (sE m).fz
theorem e_rv (h : PE X a (tD X.K E ma)) : PE X a (tE X.K E (ofD ma)) := wE h (sD ma).rv
theorem d_glob {x : Str} {v : V} {u : Value} {d : D} (hm : X.mg x = some u) (hr : RelV v u) (hd : ∀ G, DP X.K G v d) (hg : Gl X x := by rfl) (hdb : (x == ("__debug__" : Str)) = false := by decide) : PE X (.Name x pos) (tD X.K E (dC d)) := wD (pe_glob hg hm hr hdb) (absC hd)
theorem d_op {op : Operator} {r : R2} {f : D → D → Option D} (ho : OpR X (binaryOp op) r) (hr : A2 X.K r f) (ha : PE X a (tD X.K E ma)) (hb : PE X b (tD X.K E mb)) : PE X (.BinOp a op b pos) (tD X.K E (dOp f ma mb)) := wD (pe_op ho ha hb) (absOp (sD _) (sD _) hr)
theorem e_add (ha : PE X a (tD X.K E ma)) (hb : PE X b (tD X.K E mb)) : PE X (.BinOp a .Add b pos) (tE X.K E (eOp pAdd ma mb)) := wE (pe_op op_add3 ha hb) (absOpR (sD _) (sD _) a_add)
theorem e_mul (ha : PE X a (tE X.K E m)) (hb : PE X b (tD X.K E mb)) : PE X (.BinOp a .Mult b pos) (tE X.K E (eMul m mb)) := wE (pe_op op_mul2 ha hb) (absMul (sE _) (sD _))
theorem d_sub (ha : PE X a (tD X.K E ma)) (hb : PE X b (tD X.K E mb)) : PE X (.BinOp a .Sub b pos) (tD X.K E (dOp pSub ma mb)) := d_op op_sub a_sub ha hb
theorem d_div (ha : PE X a (tD X.K E ma)) (hb : PE X b (tD X.K E mb)) : PE X (.BinOp a .FloorDiv b pos) (tD X.K E (dOp pDiv ma mb)) := d_op op_fdivW a_div ha hb
theorem d_mod (ha : PE X a (tD X.K E ma)) (hb : PE X b (tD X.K E mb)) : PE X (.BinOp a .Mod b pos) (tD X.K E (dOp pMod ma mb)) := d_op op_mod a_mod ha hb
theorem d_pow (ha : PE X a (tD X.K E ma)) (hb : PE X b (tD X.K E mb)) : PE X (.BinOp a .Pow b pos) (tD X.K E (dOp pPow ma mb)) := d_op op_pow a_pow ha hb
theorem d_neg (ha : PE X a (tD X.K E ma)) : PE X (.UnaryOp .USub a pos) (tD X.K E (dUn pNeg ma)) := wD (pe_un un_neg ha) (absUn (sD _) a_neg)
/-- a comparison as a value, as a test -/
theorem d_cmp {op : CmpOp} {r : R2} {f : D → D → Option D} (ho : OpR X (compareOp op) r) (hr : A2 X.K r f) (ha : PE X a (tD X.K E ma)) (hb : PE X b (tD X.K E mb)) (hm : behindInMarks op b = false := by first | exact nomark _ | rfl) : PE X (.Compare a [op] [b] pos) (tD X.K E (dOp f ma mb)) :=
  wD (pe_cmpR ho ha hb hm) (absOp (sD _) (sD _) hr)
theorem t_cmp {op : CmpOp} {r : R2} {f : D → D → Option D} (ho : OpR X (compareOp op) r) (hr : A2 X.K r f) (ha : PE X a (tD X.K E ma)) (hb : PE X b (tD X.K E mb)) (hm : behindInMarks op b = false := by first | exact nomark _ | rfl) : PT X (.Compare a [op] [b] pos) (tT X.K E (tBl (dOp f ma mb))) :=
  wT (pt_cmpR ho ha hb hm) (absTest (absOp (sD _) (sD _) hr))
/-- an expression of a truth as a test -/
theorem t_val (h : PE X a (tD X.K E ma)) (he : ∀ whole, isTrue a X.env whole = (do let v ← whole; standAt a.pos; holding [v] (truthy v)) := by intro _; rfl) : PT X a (tT X.K E (tBl ma)) := wT (pt_val h he) (absTest (sD _))
variable {ta tb : M Bool} {es rest : List Expr}
theorem w_or1 (ha : PT X a (tT X.K E ta)) : PW X (.BoolOp .Or [a] pos) (tT X.K E ta) := pw_or1 ha
theorem w_or (ha : PT X a (tT X.K E ta)) (hb : PW X (.BoolOp .Or (b :: rest) pos) (tT X.K E tb)) : PW X (.BoolOp .Or (a :: b :: rest) pos) (tT X.K E (tOrM ta tb)) := wW (pw_or ha hb) (absOr (sT _) (sT _))
theorem t_w (h : PW X a (tT X.K E ta)) : PT X a (tT X.K E ta) := h.pt
theorem t_not (h : PT X a (tT X.K E ta)) : PT X (.UnaryOp .Not a pos) (tT X.K E (tNotM ta)) := wT (pt_not h) (absNot (sT _))
/-- and, or, not of truths as values -/
def dAnd (m n : M D) : M D := fun r => (m r).bind fun a => match a.1 with
  | .bool true => n a.2
  | .bool false => .ok (.bool false, a.2)
  | _ => .no
def dOr (m n : M D) : M D := fun r => (m r).bind fun a => match a.1 with
  | .bool true => .ok (.bool true, a.2)
  | .bool false => n a.2
  | _ => .no
def dNot (m : M D) : M D := fun r => (m r).bind fun a => match a.1 with
  | .bool b => .ok (.bool (!b), a.2)
  | _ => .no
theorem absAndV {K : PySem.W.Frag} {tcK : TabC K} {E : WX} {ta tb : TE} {ma mb : M D} (ha : AbsD K E ta ma) (hb : AbsD K E tb mb) : AbsD K E (tAndV ta tb) (dAnd ma mb) := by
  intro G as r σ H Q R w
  refine ha G as r σ H _ R ((Wp.bind w).mono (fun a w1 => ?_) fun _ z => z)
  obtain ⟨d, r1⟩ := a
  intro G1 H1 v S1 R1 dv
  cases d with
  | bool b =>
    obtain rfl := dp_bool dv
    refine ⟨b, rfl, ?_⟩
    cases b with
    | true => rw [if_pos rfl]; exact hb G1 as r1 σ H1 Q R1 (Wp.mono w1 (fun a z => DPost.on R1 S1 z) fun _ z => XPost.on R1 S1 z)
    | false => rw [if_neg Bool.false_ne_true]; exact w1 G1 H1 _ S1 R1 (.bl _)
  | none => exact w1.elim
  | int _ => exact w1.elim
  | str _ => exact w1.elim
  | list _ => exact w1.elim
  | tuple _ => exact w1.elim
  | dict _ => exact w1.elim
theorem absNotV {K : PySem.W.Frag} {tcK : TabC K} {E : WX} {ta : TE} {ma : M D} (ha : AbsD K E ta ma) : AbsD K E (tNotV ta) (dNot ma) := by
  intro G as r σ H Q R w
  refine ha G as r σ H _ R ((Wp.bind w).mono (fun a w1 => ?_) fun _ z => z)
  obtain ⟨d, r1⟩ := a
  intro G1 H1 v S1 R1 dv
  cases d with
  | bool b =>
    obtain rfl := dp_bool dv
    exact ⟨b, rfl, w1 G1 H1 _ S1 R1 (.bl _)⟩
  | none => exact w1.elim
  | int _ => exact w1.elim
  | str _ => exact w1.elim
  | list _ => exact w1.elim
  | tuple _ => exact w1.elim
  | dict _ => exact w1.elim
theorem d_one {op} (h : PE X a (tD X.K E ma)) : PE X (.BoolOp op [a] pos) (tD X.K E ma) := pe_one h
theorem d_and (ha : PE X a (tD X.K E ma)) (hb : PE X (.BoolOp .And (b :: rest) pos) (tD X.K E mb)) : PE X (.BoolOp .And (a :: b :: rest) pos) (tD X.K E (dAnd ma mb)) := wD (pe_and ha hb) (absAndV (sD _) (sD _))
theorem d_not (ha : PE X a (tD X.K E ma)) : PE X (.UnaryOp .Not a pos) (tD X.K E (dNot ma)) := wD (pe_not ha) (absNotV (sD _))
/-! ### lists, tuples, items, slices -/
variable {ms mk : M (List D)} {mr mkr : M (List ASl)}
theorem a_nil : PA X [] (tA X.K E dNil) := wA pa_nil absNil
theorem a_cons (ha : PE X a (tD X.K E ma)) (hs : PA X es (tA X.K E ms)) (h : starEach (a :: es) X.env = (false, eval a X.env) :: starEach es X.env := by rfl) : PA X (a :: es) (tA X.K E (dCons ma ms)) := wA (pa_cons ha hs h) (absCons (sD _) (sA _))
theorem e_lst (h : PA X es (tA X.K E ms)) : PE X (.List es pos) (tE X.K E (eLst ms)) := wE (pe_lst h) (absLst (sA _))
theorem d_tup {x1} (h : PA X es (tA X.K E ms)) : PE X (.Tuple es x1 pos) (tD X.K E (dTup ms)) := wD (pe_tup h) (absTup (sA _))
theorem d_ix (ha : PE X a (tD X.K E ma)) (hb : PE X b (tD X.K E mb)) (hs : PlainIx b := by exact fun _ _ => rfl) : PE X (.Subscript a b pos) (tD X.K E (dOp pIx ma mb)) := wD (pe_ix ix_seq ha hb hs) (absOp (sD _) (sD _) a_ix)
theorem d_ixO (i : Nat) {x : Str} (hb : PE X b (tD X.K E mb)) (hs : PlainIx b := by exact fun _ _ => rfl) (hN : X.N[i]? = some x := by rfl) (hv : Vis X.env.scope x := by first | exact Or.inl rfl | exact Or.inr (Or.inl rfl) | exact Or.inr (Or.inr rfl)) (hd : (x == ("__debug__" : Str)) = false := by decide)
    (hcd : (x == ("__classdict__" : Str)) = false := by decide) : PE X (.Subscript (.Name x p) b pos) (tD X.K E (dIxO i mb)) := wD (pe_ix ix_seq (pe_var hN hv hd hcd) hb hs) (absIxO (sD _))
theorem o_none : PO X none (tO X.K E oNone) := wO po_none absONone
theorem o_some (h : PE X a (tD X.K E ma)) : PO X (some a) (tO X.K E (oSome ma)) := wO (po_some h) (absOSome (sD _))
theorem e_cut {lo hi : Option Expr} {l h : M (Option Int)} (ha : PE X a (tD X.K E ma)) (hl : PO X lo (tO X.K E l)) (hh : PO X hi (tO X.K E h)) : PE X (.Subscript a (.Slice lo hi none p2) pos) (tE X.K E (eCut ma l h)) :=
  wE (pe_slice (sl_list.or sl_tupA) ha hl hh) (absCut (sD _) (sO _) (sO _))
/-! ### defs called -/
/-- the promise of a def that lets no exception out -/
theorem ar_nil : PA X [] (tAr X.K E arNil) := wAr pa_nil absArNil
theorem ar_v (ha : PE X a (tD X.K E ma)) (hs : PA X es (tAr X.K E mr)) (h : starEach (a :: es) X.env = (false, eval a X.env) :: starEach es X.env := by rfl) : PA X (a :: es) (tAr X.K E (arV ma mr)) := wAr (pa_cons ha hs h) (absArV (sD _) (sAr _))
theorem ar_r (i : Nat) {x : Str} (hs : PA X es (tAr X.K E mr)) (h : starEach (.Name x p :: es) X.env = (false, eval (.Name x p) X.env) :: starEach es X.env := by rfl) (hN : X.N[i]? = some x := by rfl) (hv : Vis X.env.scope x := by first | exact Or.inl rfl | exact Or.inr (Or.inl rfl) | exact Or.inr (Or.inr rfl)) (hd : (x == ("__debug__" : Str)) = false := by decide)
    (hcd : (x == ("__classdict__" : Str)) = false := by decide) : PA X (.Name x p :: es) (tAr X.K E (arR i mr)) := wAr (pa_cons (pe_var hN hv hd hcd) hs h) (absArR (sAr _))
theorem k_nil : PK X [] (tAr X.K E arNil) := wK pk_nil absArNil
theorem k_v {nm : Option Str} {kpos : Pos} {kws : List Keyword} (ha : PE X a (tD X.K E ma)) (hs : PK X kws (tAr X.K E mr)) : PK X (⟨nm, a, kpos⟩ :: kws) (tAr X.K E (arV ma mr)) := wK (pk_cons ha hs) (absArV (sD _) (sAr _))
/-! ### statements -/
section
variable {K : PySem.W.Frag} {tcK : TabC K} {st : Stmt} {rest body : List Stmt} {s1 s2 : SM}
theorem b_nil : PSs X [] (tS X.K E sNext) := wSs pss_nil absNext
theorem b_cons (h1 : PS X st (tS X.K E s1)) (h2 : PSs X rest (tS X.K E s2)) : PSs X (st :: rest) (tS X.K E (sSeq s1 s2)) := wSs (pss_cons h1 h2) (absSeq (sS _) (sS _))
theorem b_one (h : PS X st (tS X.K E s1)) : PSs X [st] (tS X.K E s1) := pss_one h
theorem s_never : PS X st (tS X.K E sNever) := wS ps_never absNever
theorem s_ret (h : PE X a (tE X.K E m)) : PS X (.Return (some a) pos) (tS X.K E (sRet m)) := wS (ps_ret h) (absRet (sE _))
theorem s_if {bd be : List Stmt} (hc : PT X c (tT X.K E ta)) (h1 : PSs X bd (tS X.K E s1)) (h2 : PSs X be (tS X.K E s2)) : PS X (.If c bd be pos) (tS X.K E (sIf ta s1 s2)) := wS (ps_if hc h1 h2) (absIfS (sT _) (sS _) (sS _))
theorem s_while (hp : PassesOwn (model X.prog X.w) X.A X.env X.xe) (hc : PT X c (tT X.K E ta)) (h : PSs X body (tS X.K E s1)) : PS X (.While c body [] pos) (tS X.K E (sWhile ta s1)) := wS (ps_while hp hc h) (absWhile (sT _) (sS _))
/-! targets -/
variable {ws us : List Nat} {bm : BM} {bms : BMs} {tg : Expr} {tgs : List Expr}
def tGs (K : PySem.W.Frag) [TabC K] (ws : List Nat) (b : BMs) : TGs := fun vs σ H Q => ∃ G as r ds, Rel K G as r σ H ∧ DPs K G vs ds ∧ ∃ r', b ds r = some r' ∧ ∀ σ', But ws σ σ' → Stp G as r H G as r' H → Rel K G as r' σ' H → Q σ' H
theorem sGs (ws : List Nat) (b : BMs) : AbsGs K ws (tGs K ws b) b := fun G as r σ H v d Q R h r' e q => ⟨G, as, r, d, R, h, r', e, q⟩
theorem wGs {t : TGs} (h : PGs X tgs t) (a : AbsGs X.K ws t bms) : PGs X tgs (tGs X.K ws bms) :=
  ⟨fun pins s σ H v u Q I r ⟨G, as, ρ, d, R, hd, r', e, q⟩ => h.run pins s σ H v u Q I r (a G as ρ σ H v d Q R hd r' e q)⟩
theorem g_nil : PGs X [] (tGs X.K [] bNil) := wGs pgs_nil absGNil
theorem g_cons (h1 : PG X tg (tG X.K ws bm)) (h2 : PGs X tgs (tGs X.K us bms)) (hs : (assignEach (tg :: tgs) X.env).map (·.2) = assign tg X.env :: (assignEach tgs X.env).map (·.2) := by rfl) : PGs X (tg :: tgs) (tGs X.K (ws ++ us) (bCons bm bms)) :=
  wGs (pgs_cons h1 h2 hs) (absGCons (sG _ _) (sGs _ _))
end
end
end DL
/-! # DL9: calls with keywords, calls with a new thing, pure denotations, methods of lists -/
namespace DL
open PySem PySem.Spec PyProof.Rows L2
/-! ### keywords -/
/-- f(e, .., k = v, ..): what is raised is wished for at the slots as they are -/
def tCallNS (n m : Nat) (sp : Sp) (gV : List V → List V → List V) (E : L2.St → XK) (t tk : TA) : TE := fun σ H Q => t σ H fun vs H1 => tk σ H1 fun zs H2 => vs.length = n ∧ zs.length = m ∧ sp (gV vs zs) H2 Q (E σ)
section
variable {X : Cx} {k n : Nat} {f : Addr} {fd : FuncData} {ps ks : List Str} {sp : Sp} {E : L2.St → XK} {x : Str} {p pos : Pos} {e : Expr} {es : List Expr} {kws : List Keyword} {t tk : TA} {g : List Value → List Value → List Value} {gV : List V → List V → List V}
theorem run_kwS {pins : List (Addr × Obj)} {σ : L2.St} {H : Hp} {s : Shared} {Q : VK} {us ws : List Value} {vs zs : List V} (F : FnG X.prog X.w X.K X.mg X.base k f fd ps sp) (hr : RoomG k X.A) (hb : KBn X.K fd ps n ks g gV) (hx : PassesAt (L2.CX X.prog X.w) X σ (E σ))
    (I : Inv X pins σ H s) (r : Vals vs us) (rz : Vals zs ws) (l1 : vs.length = n) (l2 : zs.length = ks.length) (h : sp (gV vs zs) H Q (E σ)) : wpAny (model X.prog X.w) X.A (call (.ref f) us (ks.zip ws)) (EP X pins σ Q) X.xe s := by
  have rr := hb.rel r rz
  refine wpAny_call (codeAny_mono (F.run X.A X.stack s H ⟨us, ks.zip ws⟩ (g us ws) (gV vs zs) Q (E σ) hr I.env0 (hb.to s us ws I.kIn (r.length.symm.trans l1) (rz.length.symm.trans l2)) rr h) fun re s' hq => ?_)
  match re, hq with
  | .error er, hq => exact hx pins H s er s' I hq
  | .ok (.ret u), hq => exact I.after hq
  | .ok .next, hq => exact (show False from hq).elim
  | .ok .brk, hq => exact (show False from hq).elim
  | .ok .cont, hq => exact (show False from hq).elim
theorem pe_callN0 (F : FnG X.prog X.w X.K X.mg X.base k f fd ps sp) (hr : RoomG k X.A) (hg : Gl X x) (hm : X.mg x = some (.ref f)) (hk : PySem.W.keepIn X.K (.ref f) = true) (hb : KBn X.K fd ps 0 ks g gV) (hx : ∀ σ, PassesAt (L2.CX X.prog X.w) X σ (E σ))
    (hkw : PK X kws tk) (hall : (backToKw pos (keywordEach kws X.env)).all (·.1.isSome) = true := by rfl) (hks : (backToKw pos (keywordEach kws X.env)).filterMap (·.1) = ks := by rfl)
    (hdb : (x == ("__debug__" : Str)) = false := by decide)
    (hpl : ((backTo pos (starEach [] X.env)).any (·.1) || (backToKw pos (keywordEach kws X.env)).any (·.1.isNone)) = false := by rfl) :
    PE X (.Call (.Name x p) [] kws pos) (tCallNS 0 ks.length sp gV E tNil tk) := by
  refine ⟨fun pins s σ H Q I h => wpAny_Call_Name_kw (ld_glob I hg hm ?_ hdb)⟩
  refine PySem.W.callWith_KW0 (h₀ := X.base) I.ok.mod.kin hk hall ?_ hpl
  refine thn (hkw.run pos pins s σ H _ I h) fun ws s2 ⟨zs, H2, I2, rz, l1, l2, q2⟩ => ⟨I2.kIn, ?_⟩
  rw [hks]
  exact run_kwS (us := []) F hr hb (hx σ) I2 .nil rz l1 l2 q2
end
def eCallK (n a b : Nat) (ix : List Nat) (f : Den) (ms mk : M (List ASl)) : M RV := fun r => (ms r).bind fun u => (mk u.2).bind fun v => if u.1.length = a ∧ v.1.length = b ∧ (pick ix (u.1 ++ v.1)).length = n then ((ofO (mkA (pick ix (u.1 ++ v.1)) v.2)).bind fun sl => backX (pick ix (u.1 ++ v.1)) v.2 (f sl)) else .no
section
variable {K : PySem.W.Frag} {tcK : TabC K} {E : WX} {t tk : TA} {ms mk : M (List ASl)}
theorem absCallK {n a b : Nat} {ix : List Nat} {f : Den} (hs : AbsAr K E t ms) (hk : AbsAr K E tk mk) : AbsE K E (tCallNS a b (spM K n f) (fun vs zs => pick ix (vs ++ zs)) (WE E) t tk) (eCallK n a b ix f ms mk) := by
  intro G as r σ H Q R w
  refine hs G as r σ H _ R ((Wp.bind w).mono (fun u w1 => ?_) fun _ z => z)
  intro G1 H1 vs S1 R1 hv
  refine hk G1 as u.2 σ H1 _ R1 ((Wp.bind w1).mono (fun v w2 => ?_) fun _ z => XPost.on R1 S1 z)
  intro G2 H2 zs S2 R2 hz
  split at w2
  · rename_i hc
    refine ⟨hv.length.trans hc.1, hz.length.trans hc.2.1, ?_⟩
    exact call_core (S1.trans R1 S2) R2 (((hv.mono S2.g).append hz).pick ix) (by rw [if_pos hc.2.2]; exact w2)
  · exact w2.elim
end
/-- how keywords bind by places -/
theorem kbn_ix {K : PySem.W.Frag} {fd : FuncData} {ps ks : List Str} {n : Nat} {ix : List Nat} (h : ∀ us ws : List Value, us.length = n → ws.length = ks.length → bindArgs fd ⟨us, ks.zip ws⟩ = pure (ps.zip (pick ix (us ++ ws)))) :
    KBn K fd ps n ks (fun us ws => pick ix (us ++ ws)) (fun vs zs => pick ix (vs ++ zs)) :=
  ⟨fun s us ws _ l1 l2 => .of_eq (h us ws l1 l2), fun r1 r2 => vals_pick (r1.append r2) ix⟩
/-! ### f(e, ..), e a new thing that f changes -/
def valsOf : List ASl → Option (List Sl)
  | [] => some []
  | .val d :: l => (valsOf l).map (.val d :: ·)
  | .ref _ :: _ => none
def leaveX {α : Type} (r : Rho) : Res (α × List Sl) → Res (α × Rho)
  | .ok c => .ok (c.1, r)
  | .ex x => .ex (x.1, r)
  | .no => .no
def eCallT (n : Nat) (f : Den) (m : M RV) (ms : M (List ASl)) : M RV := fun r => (m r).bind fun a => match a.1 with
  | .own o => (ms a.2).bind fun b => if b.1.length + 1 = n then ((ofO (valsOf b.1)).bind fun sl => leaveX b.2 (f (.own true o :: sl))) else .no
  | .val _ => .no
section
variable {K : PySem.W.Frag} {tcK : TabC K} {E : WX} {te : TE} {t : TA} {m : M RV} {ms : M (List ASl)}
end
/-! ### pure denotations -/
theorem bind_ok {α β : Type} {m : Res α} {f : α → Res β} {b : β} (h : m.bind f = .ok b) : ∃ a, m = .ok a ∧ f a = .ok b := by
  cases m with
  | ok a => exact ⟨a, rfl, h⟩
  | ex x => cases h
  | no => cases h
instance pu_C (d : D) : PureM (dC d) := ⟨fun r a h => by cases h; rfl⟩
instance pu_Val (i : Nat) : PureM (dVal i) := ⟨fun r a h => by
  unfold dVal at h
  split at h
  · cases h; rfl
  · cases h⟩
instance pu_Op (f : D → D → Option D) (ma mb : M D) [ha : PureM ma] [hb : PureM mb] : PureM (dOp f ma mb) := ⟨fun r a h => by
  obtain ⟨u, h1, h2⟩ := bind_ok h
  obtain ⟨v, h3, h4⟩ := bind_ok h2
  obtain ⟨d, h5, h6⟩ := bind_ok h4
  cases h6
  show v.2 = r
  rw [hb.pure _ _ h3, ha.pure _ _ h1]⟩
instance pu_eOp (f : D → D → Option RV) (ma mb : M D) [ha : PureM ma] [hb : PureM mb] : PureM (eOp f ma mb) := ⟨fun r a h => by
  obtain ⟨u, h1, h2⟩ := bind_ok h
  obtain ⟨v, h3, h4⟩ := bind_ok h2
  obtain ⟨d, h5, h6⟩ := bind_ok h4
  cases h6
  show v.2 = r
  rw [hb.pure _ _ h3, ha.pure _ _ h1]⟩
instance pu_Un (f : D → Option D) (ma : M D) [ha : PureM ma] : PureM (dUn f ma) := ⟨fun r a h => by
  obtain ⟨u, h1, h2⟩ := bind_ok h
  obtain ⟨v, h3, h4⟩ := bind_ok h2
  cases h4
  show u.2 = r
  exact ha.pure _ _ h1⟩
instance pu_fz (m : M RV) [ha : PureM m] : PureM (fz m) := ⟨fun r a h => by
  obtain ⟨u, h1, h2⟩ := bind_ok h
  obtain ⟨v, h3, h4⟩ := bind_ok h2
  cases h4
  exact ha.pure _ _ h1⟩
instance pu_ofD (m : M D) [ha : PureM m] : PureM (ofD m) := ⟨fun r a h => by
  obtain ⟨u, h1, h2⟩ := bind_ok h
  cases h2
  exact ha.pure _ _ h1⟩
instance pu_Nil : PureM dNil := ⟨fun r a h => by cases h; rfl⟩
instance pu_Cons (ma : M D) (ms : M (List D)) [ha : PureM ma] [hb : PureM ms] : PureM (dCons ma ms) := ⟨fun r a h => by
  obtain ⟨u, h1, h2⟩ := bind_ok h
  obtain ⟨v, h3, h4⟩ := bind_ok h2
  cases h4
  show v.2 = r
  rw [hb.pure _ _ h3, ha.pure _ _ h1]⟩
instance pu_CB (f : List D → Option D) (ms : M (List D)) [ha : PureM ms] : PureM (dCB f ms) := ⟨fun r a h => by
  obtain ⟨u, h1, h2⟩ := bind_ok h
  obtain ⟨v, h3, h4⟩ := bind_ok h2
  cases h4
  exact ha.pure _ _ h1⟩
instance pu_eCB (f : List D → Option RV) (ms : M (List D)) [ha : PureM ms] : PureM (eCB f ms) := ⟨fun r a h => by
  obtain ⟨u, h1, h2⟩ := bind_ok h
  obtain ⟨v, h3, h4⟩ := bind_ok h2
  cases h4
  exact ha.pure _ _ h1⟩
instance pu_Tup (ms : M (List D)) [ha : PureM ms] : PureM (dTup ms) := ⟨fun r a h => by
  obtain ⟨u, h1, h2⟩ := bind_ok h
  split at h2
  · cases h2; exact ha.pure _ _ h1
  · cases h2⟩
instance pu_Lst (ms : M (List D)) [ha : PureM ms] : PureM (eLst ms) := ⟨fun r a h => by
  obtain ⟨u, h1, h2⟩ := bind_ok h
  split at h2
  · cases h2; exact ha.pure _ _ h1
  · cases h2⟩
instance pu_Not (m : M D) [ha : PureM m] : PureM (dNot m) := ⟨fun r a h => by
  obtain ⟨u, h1, h2⟩ := bind_ok h
  split at h2
  · cases h2
    show u.2 = r
    exact ha.pure _ _ h1
  · cases h2⟩
/-- arguments that are data alone -/
class PureAr (m : M (List ASl)) : Prop where
  pure : ∀ r a, m r = .ok a → a.2 = r ∧ ∀ (j i : Nat), a.1[j]? ≠ some (.ref i)
instance pr_Nil : PureAr arNil := ⟨fun r a h => by cases h; exact ⟨rfl, fun j i z => by simp at z⟩⟩
instance pr_V (m : M D) (ms : M (List ASl)) [ha : PureM m] [hb : PureAr ms] : PureAr (arV m ms) := ⟨fun r a h => by
  obtain ⟨u, h1, h2⟩ := bind_ok h
  obtain ⟨v, h3, h4⟩ := bind_ok h2
  cases h4
  obtain ⟨k1, k2⟩ := hb.pure _ _ h3
  refine ⟨?_, fun j i z => ?_⟩
  · show v.2 = r
    rw [k1, ha.pure _ _ h1]
  · cases j with
    | zero => simp at z
    | succ j => exact k2 j i (by simpa using z)⟩
theorem wb_pure : ∀ (l : List ASl) (s : List Sl) (r : Rho), (∀ (j i : Nat), l[j]? ≠ some (.ref i)) → wb l s r = r
  | [], s, r, _ => by unfold wb; rfl
  | .val d :: l, [], r, _ => rfl
  | .val d :: l, x :: s, r, h => by
    have : wb (.val d :: l) (x :: s) r = wb l s r := by cases x <;> rfl
    rw [this]
    exact wb_pure l s r fun j i => by simpa using h (j + 1) i
  | .ref i :: l, s, r, h => absurd rfl (h 0 i)
instance pu_Call (n : Nat) (f : Den) (ms : M (List ASl)) [hb : PureAr ms] : PureM (eCall n f ms) := ⟨fun r a h => by
  obtain ⟨u, h1, h2⟩ := bind_ok h
  obtain ⟨k1, k2⟩ := hb.pure _ _ h1
  split at h2
  · obtain ⟨sl, h3, h4⟩ := bind_ok h2
    unfold backX at h4
    split at h4
    · rename_i c _
      cases h4
      show wb u.1 c.2 u.2 = r
      rw [wb_pure _ _ _ k2, k1]
    · cases h4
    · cases h4
  · cases h2⟩
theorem d_bor {X : Cx} {tcX : TabC X.K} {E : WX} {a : Expr} {m : M D} (i : Nat) (h : PE X a (tD X.K W0 m)) [hp : PureM m] : PE X a (tD X.K E (dBorrow i fun r => noEx (m r))) := wD h (absBorrow (sD m) hp)
instance pu_Bor (i : Nat) (m : M D) : PureM (dBorrow i fun r => noEx (m r)) := ⟨fun r a h => by
  unfold dBorrow at h
  split at h
  · split at h
    · obtain ⟨u, h1, h2⟩ := bind_ok h
      split at h2
      · cases h2; rfl
      · cases h2
    · cases h
  · cases h⟩
/-! ### methods of lists -/
def mApp : List D → List D → Option (D × List D) := fun ds es => match es with
  | [d] => if ds.length < 16777216 then some (.none, ds ++ [d]) else none
  | _ => none
theorem am_app {K : PySem.W.Frag} : AM K rAppend mApp := by
  intro G H p xs ds ys es Q le hp hg hd he d ds' e q
  cases he with
  | nil => cases e
  | cons h1 h2 =>
    cases h2 with
    | cons _ _ => cases e
    | nil =>
      rename_i v d0
      have e : (if ds.length < 16777216 then some (PyData.none, ds ++ [d0]) else none) = some (d, ds') := e
      split at e
      · rename_i hl
        cases e
        exact ⟨p, xs, v, rfl, rfl, hp, by rw [sizeLine_eq, hd.length]; exact hl, q _ _ .non (hd.snoc h1)⟩
      · cases e
theorem DPs.erase {K : PySem.W.Frag} {G : Hp} : ∀ {vs : List V} {ds : List D} (n : Nat), DPs K G vs ds → DPs K G (vs.eraseIdx n) (ds.eraseIdx n)
  | _, _, _, .nil => .nil
  | _, _, 0, .cons _ h => h
  | _, _, n + 1, .cons h1 h => .cons h1 (DPs.erase n h)
def mPop : List D → List D → Option (D × List D) := fun ds es => match es with
  | [.int i] => if -(2 ^ 63) ≤ i ∧ i < 2 ^ 63 then ((seqIndex? i ds.length).bind fun k => (ds[k]?).map fun d => (d, ds.eraseIdx k)) else none
  | _ => none
theorem am_pop {K : PySem.W.Frag} : AM K rPopAt mPop := by
  intro G H p xs ds ys es Q le hp hg hd he d ds' e q
  unfold mPop at e
  split at e
  · rename_i i
    cases he with
    | cons h1 h2 =>
      cases h2
      obtain rfl := dp_int h1
      split at e
      · rename_i hi
        cases ek : seqIndex? i ds.length with
        | none => rw [ek] at e; cases e
        | some k =>
          rw [ek] at e
          have e : (ds[k]?).map (fun d => (d, ds.eraseIdx k)) = some (d, ds') := e
          cases ed : ds[k]? with
          | none => rw [ed] at e; cases e
          | some d1 =>
            rw [ed] at e
            cases e
            obtain ⟨v, hv, hdv⟩ := hd.get ed
            exact ⟨p, xs, i, k, v, rfl, rfl, hp, hi.1, hi.2, by rw [hd.length]; exact ek, hv, q _ _ hdv (hd.erase k)⟩
      · cases e
  · cases e
end DL
/-! # DLA: the end -/
namespace DL
open PySem PySem.Spec PyProof.Rows L2
theorem fun_kbn {K : PySem.W.Frag} {x qual : Str} {st : Stmt} {f : Addr} {fd : FuncData} {ps ks : List Str} {n : Nat} {ix : List Nat} (F : Fun K x qual st f fd)
    (h : ∀ (kV doc pm : Value) (an : Option Addr) (cdv ct : Value) (us ws : List Value), us.length = n → ws.length = ks.length → bindArgs (PySem.W.fnOf x qual (defArgs st) (defBody st) (defScope st) .none kV doc pm an cdv ct) ⟨us, ks.zip ws⟩ = pure (ps.zip (pick ix (us ++ ws)))) :
    KBn K fd ps n ks (fun us ws => pick ix (us ++ ws)) (fun vs zs => pick ix (vs ++ zs)) := by
  obtain ⟨oc, od, kV, doc, pm, an, cdv, ct, osl, rfl, lk, hcd⟩ := F.ex
  exact kbn_ix (h kV doc pm an cdv ct)
/-- the heap without its tables -/
def noTab (H : Hp) : Hp := fun a => match H a with
  | some (.tbl _) => none
  | o => o
theorem noTab_same (H : Hp) : Same (noTab H) H := fun a o e => by
  unfold noTab at e
  split at e
  · cases e
  · exact e
theorem noTab_of {H : Hp} {a : Addr} {o : HO} (h : H a = some o) (n : ∀ ps, o ≠ .tbl ps) : noTab H a = some o := by
  unfold noTab
  rw [h]
  cases o <;> first | rfl | exact absurd rfl (n _)
/-- the law's def, called with the script, gives True -/
theorem law_sp {K : PySem.W.Frag} {tcK : TabC K} {f : Den} {H : Hp} {a : Addr} {ns : List Int} (hT : LamX.Tabs (TabC.T K) H) (hS : SqL K H a (ns.map V.int)) (h : ∃ r', f [.val (.list (ns.map .int))] = .ok (.val (.bool true), r')) : spM K 1 f [.ref a] H (fun v _ => v = .bl true) fun _ _ _ => False := by
  obtain ⟨r', e⟩ := h
  have hS' : SqL K (noTab H) a (ns.map V.int) := by
    rcases hS with (q | ⟨o, q⟩) | q
    · exact .inl (.inl (noTab_of q fun _ z => nomatch z))
    · exact .inl (.inr ⟨o, noTab_of q fun _ z => nomatch z⟩)
    · exact .inr q
  refine ⟨rfl, noTab H, fun _ => 0, [.val (.list (ns.map .int))], ⟨noTab_same H, rfl, fun i d e => ?_, fun i p o e => ?_, fun i j p o q u e => ?_, ⟨hT, fun p hp => by
    obtain ⟨ps, h1, _⟩ := hT p hp
    unfold noTab
    simp [h1], fun a ps z => by
    unfold noTab at z
    split at z
    · cases z
    · rename_i hn
      exact hn ps z⟩, fun i x e => by cases i <;> simp at e⟩, fun i o e => ?_, ?_⟩
  · cases i with
    | zero => simp at e; subst e; exact ⟨_, rfl, .lst hS' (DPs.of_ints ns)⟩
    | succ i => simp at e
  · cases i <;> simp at e
  · cases i <;> simp at e
  · cases i <;> simp at e
  · rw [e]
    intro G' H' v S' R' hv
    exact dp_bool hv
/-- the tables of the code objects whose defs hold lambdas: cs, code object, table, the lambda's name -/
abbrev tabL (K : PySem.W.Frag) (cs : List (Addr × Addr × Str)) : TabC K := ⟨cs.map fun p => (p.2.1, p.2.2), errAt K, 0, 0, ""⟩
theorem law_walkG {f : Den} {k : Nat} {x : Str} {l : PySem.W.OpenLaw} {q : Program} {loose : List Str} {XP : (Str → Option Value) → Heap → Prop} {YP : World → Heap → Prop} {d : DefRec} {K : Params → PySem.W.Frag} (hf : ∀ ns : List Int, ns.length ≤ 63 → (∀ z ∈ ns, Builtin.Int.intBits z ≤ 1048576) → ∃ r', f [.val (.list (ns.map .int))] = .ok (.val (.bool true), r'))
    (hn : l.most = some 63) (hdf : d.params.defaults = []) (hr : RoomG k callerA)
    (hY : ∀ (w : World) (h : Heap), YP w h → (K w.params).In h)
    (F : ∀ (w : World) (mg : Str → Option Value) (fa : Addr) (h : Heap), YP w h → (K w.params).In h → h.Ns mainGlobals mg → mg d.name = some (.ref fa) →
      ∃ (fd : FuncData) (cs : List (Addr × Addr × Str)), (∀ p ∈ cs, h.get? p.2.1 = some { cls := .none, data := .fields #[] }) ∧ (∀ p ∈ cs, (K w.params).lookup p.2.1 = none) ∧ (∀ p ∈ cs, PySem.W.CodeHd h p.1 p.2.1) ∧ (∀ (s : Shared) (u : Value), BindsTo s fd ⟨[u], []⟩ [(x, u)]) ∧
        ∀ base : Heap, (K w.params).In base → base.Ns mainGlobals mg → (∀ p ∈ cs, LamX.TabB base mg p.1 p.2.1) → FnG l.prog w (K w.params) mg base k fa fd [x] (@spM (K w.params) (tabL (K w.params) cs) 1 f)) :
    PySem.W.WalkO q loose XP YP l.row.toRowW d [] (fun f vs => PySem.call f vs) := by
  refine walk_ofG (n := 63) (k := k) (x := x) hn (by decide) hdf hr hY fun w mg fa h Y KX N hmg => ?_
  obtain ⟨fd, cs, h1, h2, h3, h4, h5⟩ := F w mg fa h Y KX N hmg
  have up : ∀ {P : Addr × Addr → Prop}, (∀ p ∈ cs, P (p.1, p.2.1)) → ∀ p ∈ cs.map (fun p => (p.1, p.2.1)), P p := fun hp p hm => by
    obtain ⟨q, hq, rfl⟩ := List.mem_map.mp hm
    exact hp q hq
  have dn : ∀ {P : Addr × Addr → Prop}, (∀ p ∈ cs.map (fun p => (p.1, p.2.1)), P p) → ∀ p ∈ cs, P (p.1, p.2.1) := fun hp p hm => hp _ (List.mem_map.mpr ⟨p, hm, rfl⟩)
  refine ⟨fd, cs.map fun p => (p.1, p.2.1), @spM (K w.params) (tabL (K w.params) cs) 1 f, up (P := fun p => h.get? p.2 = some { cls := .none, data := .fields #[] }) h1, up (P := fun p => (K w.params).lookup p.2 = none) h2, up (P := fun p => PySem.W.CodeHd h p.1 p.2) h3, h4, fun H a ns hl hb hT hS => ?_, fun base X G T => h5 base X G (dn (P := fun p => LamX.TabB base mg p.1 p.2) T)⟩
  refine @law_sp _ (tabL (K w.params) cs) f _ a ns (fun p hp => ?_) hS (hf ns hl hb)
  obtain ⟨q, hq, rfl⟩ := List.mem_map.mp (show p ∈ cs.map (fun p => (p.2.1, p.2.2)) from hp)
  exact LamX.TabS.nil (dn (P := fun p => H p.2 = some (.tbl #[])) hT q hq)
end DL
/-! # DLB: more that leaves the slots as they are -/
namespace DL
open PySem PySem.Spec PyProof.Rows L2
instance pu_Isi (T : String) (m : M D) [ha : PureM m] : PureM (dIsi T m) := ⟨fun r a h => by
  obtain ⟨u, h1, h2⟩ := bind_ok h
  obtain ⟨v, h3, h4⟩ := bind_ok h2
  cases h4
  show u.2 = r
  exact ha.pure _ _ h1⟩
instance pu_IsiT (Ts : List String) (m : M D) [ha : PureM m] : PureM (dIsiT Ts m) := ⟨fun r a h => by
  obtain ⟨u, h1, h2⟩ := bind_ok h
  obtain ⟨v, h3, h4⟩ := bind_ok h2
  cases h4
  show u.2 = r
  exact ha.pure _ _ h1⟩
instance pu_Rev (m : M D) [ha : PureM m] : PureM (eRev m) := ⟨fun r a h => by
  obtain ⟨u, h1, h2⟩ := bind_ok h
  split at h2
  · cases h2; exact ha.pure _ _ h1
  · cases h2⟩
instance pu_oNone : PureM oNone := ⟨fun r a h => by cases h; rfl⟩
instance pu_oSome (m : M D) [ha : PureM m] : PureM (oSome m) := ⟨fun r a h => by
  obtain ⟨u, h1, h2⟩ := bind_ok h
  split at h2
  · cases h2; exact ha.pure _ _ h1
  · cases h2⟩
instance pu_Cut (m : M D) (lo hi : M (Option Int)) [ha : PureM m] [hb : PureM lo] [hc : PureM hi] : PureM (eCut m lo hi) := ⟨fun r a h => by
  obtain ⟨u, h1, h2⟩ := bind_ok h
  obtain ⟨v, h3, h4⟩ := bind_ok h2
  obtain ⟨w, h5, h6⟩ := bind_ok h4
  obtain ⟨x, h7, h8⟩ := bind_ok h6
  cases h8
  show w.2 = r
  rw [hc.pure _ _ h5, hb.pure _ _ h3, ha.pure _ _ h1]⟩
/-- list(x) of an own list: a copy of its own -/
def eCopy (i : Nat) : M RV := fun r => match r[i]? with | some (.own _ (.lst ds)) => .ok (.own (.lst ds), r) | _ => .no
end DL
/-! # DLC: built-ins over tuples as over lists -/
namespace DL
open PySem PySem.Spec PyProof.Rows L2
section
variable {X : Cx} {tcX : TabC X.K}
end
section
variable {K : PySem.W.Frag} {tcK : TabC K}
/-- one list or tuple of numbers -/
def pA1 (g : List Int → Option D) : List D → Option D
  | [.list ds] => (ints? ds).bind g
  | [.tuple ds] => (ints? ds).bind g
  | _ => none
theorem a1_of {G : Hp} {g : List Int → Option D} {xs : List V} {ds : List D} {d : D} (h : DPs K G xs ds) (e : pA1 g ds = some d) : ∃ a ns, xs = [.ref a] ∧ ((∀ H, Same G H → SqL K H a (ns.map V.int)) ∨ (∀ H, Same G H → SqT K H a (ns.map V.int))) ∧ g ns = some d := by
  cases h with
  | nil => cases e
  | cons h1 h2 =>
    cases h2 with
    | cons _ _ => cases h1 <;> cases e
    | nil =>
      cases h1 with
      | @lst a ys es k1 k2 =>
        have e : (ints? es).bind g = some d := e
        cases ei : ints? es with
        | none => rw [ei] at e; cases e
        | some ns =>
          rw [ei] at e
          have := ints?_eq ei
          subst this
          have := k2.ints
          subst this
          exact ⟨a, ns, rfl, .inl fun H le => le.seq k1, by have e2 : (ints? (ns.map .int)).bind g = some d := e; rw [ints?_of] at e2; exact e2⟩
      | @tup a ys es k1 k2 =>
        have e : (ints? es).bind g = some d := e
        cases ei : ints? es with
        | none => rw [ei] at e; cases e
        | some ns =>
          rw [ei] at e
          have := ints?_eq ei
          subst this
          have := k2.ints
          subst this
          exact ⟨a, ns, rfl, .inr fun H le => SqT.same le k1, by have e2 : (ints? (ns.map .int)).bind g = some d := e; rw [ints?_of] at e2; exact e2⟩
      | non => cases e
      | bl _ => cases e
      | int _ => cases e
      | str _ => cases e
      | dic _ _ => cases e
def pSumA := pA1 fun ns => some (.int ns.sum)
end
end DL
/-! # DLD: tuples gone through by sorted -/
namespace SrtR
open PySem PyProof.Rows Srt SrtO
section
variable {prog : Program} {w : World} {A : Around} {E : Value → Shared → Prop} {s : Shared}
end
end SrtR
namespace SrtR
open PySem PyProof.Rows Srt SrtO
end SrtR
namespace DL
open PySem PySem.Spec PyProof.Rows L2
section
variable {X : Cx} {tcX : TabC X.K}
end
end DL
/-! # DLE: sorted of lists and tuples of numbers, as denotations -/
namespace DL
open PySem PySem.Spec PyProof.Rows L2
section
variable {K : PySem.W.Frag} {tcK : TabC K}
def pSortA (b : Bool) : List D → Option RV
  | [.list ds] => (ints? ds).map fun ns => .own (.lst ((sortB b ns).map .int))
  | [.tuple ds] => (ints? ds).map fun ns => .own (.lst ((sortB b ns).map .int))
  | _ => none
end
theorem v_sumL (ns : List Int) : pSumA [.list (ns.map .int)] = some (.int ns.sum) := by
  show (ints? (ns.map .int)).bind _ = _
  rw [ints?_of]; rfl
theorem v_sumT (ns : List Int) : pSumA [.tuple (ns.map .int)] = some (.int ns.sum) := by
  show (ints? (ns.map .int)).bind _ = _
  rw [ints?_of]; rfl
theorem v_sortL (b : Bool) (ns : List Int) : pSortA b [.list (ns.map .int)] = some (.own (.lst ((sortB b ns).map .int))) := by
  show (ints? (ns.map .int)).map _ = _
  rw [ints?_of]; rfl
theorem v_sortT (b : Bool) (ns : List Int) : pSortA b [.tuple (ns.map .int)] = some (.own (.lst ((sortB b ns).map .int))) := by
  show (ints? (ns.map .int)).map _ = _
  rw [ints?_of]; rfl
end DL
/-! # DLF: more of what changes a list -/
namespace DL
open PySem PySem.Spec PyProof.Rows L2
/-! list(range(..)) -/
instance (a b : Int) : Decidable (RgOk a b) := by unfold RgOk; infer_instance
/-- (classical, so that the kernel never reckons at the far bounds) -/
noncomputable def pLR (a b : D) : Option RV := match a, b with
  | .int i, .int j => @ite _ (RgOk i j) (Classical.propDecidable _) (some (.own (.lst (rangeD i (j - i).toNat)))) none
  | _, _ => none
noncomputable def eLR1 (m : M D) : M RV := fun r => (m r).bind fun a => (ofO (pLR (.int 0) a.1)).bind fun d => .ok (d, a.2)
theorem rg_ints {K : PySem.W.Frag} {G : Hp} (a b : Int) : DPs K G (rgV a b) (rangeD a (b - a).toNat) := by
  have e1 : rgV a b = ((List.range (b - a).toNat).map fun i => a + ((i : Nat) : Int)).map V.int := by unfold rgV; rw [List.map_map]; rfl
  have e2 : rangeD a (b - a).toNat = ((List.range (b - a).toNat).map fun i => a + ((i : Nat) : Int)).map PyData.int := by unfold rangeD; rw [List.map_map]; rfl
  rw [e1, e2]
  exact DPs.of_ints _
theorem pLR_of {a b : D} {rv : RV} (e : pLR a b = some rv) : ∃ i j, a = .int i ∧ b = .int j ∧ RgOk i j ∧ rv = .own (.lst (rangeD i (j - i).toNat)) := by
  unfold pLR at e
  split at e
  · rename_i i j
    split at e
    · rename_i h
      cases e
      exact ⟨i, j, rfl, rfl, h, rfl⟩
    · cases e
  · cases e
theorem absLR1 {K : PySem.W.Frag} {tcK : TabC K} {E : WX} {te : TE} {m : M D} (h : AbsD K E te m) : AbsE K E (tLstRg (tRg1 te)) (eLR1 m) := by
  intro G as r σ H Q R w
  refine h G as r σ H _ R (Wp.mono (Wp.bind w) (fun a w1 => ?_) fun _ z => z)
  obtain ⟨d, r1⟩ := a
  intro G1 H1 v S1 R1 dv
  obtain ⟨rv, e, w3⟩ := wp_bindO w1
  obtain ⟨i, j, e1, e2, ok, rfl⟩ := pLR_of e
  cases e1
  have e2 : d = .int j := e2
  subst e2
  obtain rfl := dp_int dv
  refine ⟨j, rfl, ok, fun q hq => ?_⟩
  have g := Grow.bare R1.le hq (.lst (rgV 0 j))
  have z : RVg K H1 G1 (upd H1 q (.lst (rgV 0 j))) (.ref q) (.own (.lst (rangeD 0 (j - 0).toNat))) := ⟨q, rfl, hq, R1.le.free hq, _, upd_same, rg_ints 0 j⟩
  exact w3 _ _ _ (S1.trans R1 (g.stp R1)) (g.rel R1) ((RVg.at R1 z).back R1 S1)
noncomputable def eLR2 (m n : M D) : M RV := fun r => (m r).bind fun a => (n a.2).bind fun b => (ofO (pLR a.1 b.1)).bind fun d => .ok (d, b.2)
instance pu_CallK (n a b : Nat) (ix : List Nat) (f : Den) (ms mk : M (List ASl)) [ha : PureAr ms] [hb : PureAr mk] : PureM (eCallK n a b ix f ms mk) := ⟨fun r x h => by
  obtain ⟨u, h1, h2⟩ := bind_ok h
  obtain ⟨v, h3, h4⟩ := bind_ok h2
  obtain ⟨k1, k2⟩ := ha.pure _ _ h1
  obtain ⟨k3, k4⟩ := hb.pure _ _ h3
  have np : ∀ (j i : Nat), (pick ix (u.1 ++ v.1))[j]? ≠ some (.ref i) := fun j i z => by
    have hm := List.mem_of_getElem? z
    unfold pick at hm
    obtain ⟨k, _, hk⟩ := List.mem_filterMap.mp hm
    rw [List.getElem?_append] at hk
    split at hk
    · exact k2 _ _ hk
    · exact k4 _ _ hk
  split at h4
  · obtain ⟨sl, h5, h6⟩ := bind_ok h4
    unfold backX at h6
    split at h6
    · rename_i c _
      cases h6
      show wb (pick ix (u.1 ++ v.1)) c.2 v.2 = r
      rw [wb_pure _ _ _ np, k3, k1]
    · cases h6
    · cases h6
  · cases h4⟩
end DL
/-! # DLG: enumerate of a tuple -/
namespace L2
open PySem PySem.Spec PyProof.Rows
def IteT (K : PySem.W.Frag) (a : Addr) : It :=
  ⟨fun i H => ∃ (xs : List V) (x : V), SqT K H a xs ∧ xs[i]? = some x, fun i H v H' => ∃ T x, v = .ref T ∧ H T = none ∧ H' = upd H T (.tup [.int (i : Nat), x]) ∧ ∀ xs, SqT K H a xs → xs[i]? = some x, fun i H => ∃ xs : List V, SqT K H a xs ∧ xs.length = i⟩
theorem turn_enumT {P : Program} {w : World} {K : PySem.W.Frag} {elts : List Expr} {kk : Nat} {tpos : Pos} (a e it : Addr) :
    Turn P w K (.Tuple elts kk tpos) (IteT K a) [e, it] e (fun i h => (∃ old, IsEnum h e it ((i : Nat) : Int) old) ∧ h.IsTupleIter it a i ∧ e ≠ it ∧ a ≠ it ∧ e ≠ a) where
  mem := by simp
  obj := fun i h st b hb => by
    obtain ⟨⟨old, he⟩, ⟨o, ho, hc, hd⟩, _⟩ := st
    rcases (show b = e ∨ b = it by simpa using hb) with z | z
    · rw [z]; exact ⟨_, he, fun v q => nomatch q⟩
    · rw [z]; exact ⟨o, ho, fun v q => by rw [hd] at q; cases q⟩
  keep := fun i h h' st k => let ⟨⟨old, he⟩, hi, hne⟩ := st; ⟨⟨old, k e (by simp) _ he⟩, hi.at fun o q => k it (by simp) o q, hne⟩
  item := by
    intro X hP hw hK hc i pins s σ H E I hf st hg
    subst hP hw hK; obtain ⟨⟨old, he⟩, hit, hne, hai, hea⟩ := st
    obtain ⟨xs, x, hq, hx⟩ := hg; obtain ⟨its, rv, p, hz⟩ := I.tuple hq; obtain ⟨u, hu, ru⟩ := rv.get hx
    have hel : e < s.heap.objs.size := Heap.lt_size he
    have hil : it < s.heap.objs.size := by obtain ⟨_, q, _⟩ := hit; exact Heap.lt_size q
    have pt : s.heap.IsTuple a its.toArray := p
    have hlt : i < its.toArray.size := by have := (List.getElem?_eq_some_iff.mp hu).1; simpa using this
    have D := Draws.tuple (prog := X.prog) (w := X.w) (A := X.A.in1) (I.ok.hd hc) it a hai its.toArray
    refine wpAny_pyNext_enum_itemD D he ⟨hit, pt⟩ hlt hne (by simp [hne, hea]) fun y h' tk hy ho hst' hT hsz hk => ?_
    have hyu : y = u := by have hy' : its[i]? = some y := by simpa using hy
                           rw [hu] at hy'; exact (Option.some.inj hy').symm
    subst hyu
    refine ⟨_, rfl, wpAny_letOwnedTupleGo_enum (s := { s with heap := h', toks := tk + 1 }) ho fun h'' he' sb => ?_⟩
    have hT2 : h''.get? s.heap.objs.size = some { cls := .type "tuple", data := .seq #[.int i tk, y] } := (sb.2 _ (Nat.ne_of_gt hel)).trans hT
    have new : ObjOk X.prog X.w (upd H s.heap.objs.size (.tup [.int (i : Nat), x])) h'' s.heap.objs.size (.tup [.int (i : Nat), x]) := ⟨by show 2 ≤ sizeLine; decide, [.int i tk, y], .cons ⟨_, rfl⟩ (.cons ru .nil), ⟨_, hT2, rfl, _, rfl⟩⟩
    have I1 : Inv X pins σ (upd H s.heap.objs.size (.tup [.int (i : Nat), x])) { s with heap := h'', toks := tk + 1 } :=
      I.turnedNew (ch := [e, it]) (fun b ob hb q => (sb.2 b (fun z => hb (by simp [z]))).trans (hk b ob (fun z => hb (by simp [z])) (fun z => hb (by simp [z])) q)) hf (Nat.le_refl _) new
    refine ⟨.ref s.heap.objs.size, _, I1, rfl, ⟨_, x, rfl, I.hok.fresh (Nat.le_refl _), rfl, fun ys hy => by rw [I.tuple_inj hy hq]; exact hx⟩, ⟨⟨y, ?_⟩, hst'.1.at fun o q => (sb.2 it (Ne.symm hne)).trans q, hne, hai, hea⟩, fun b hb => ?_⟩
    · rw [show ((i + 1 : Nat) : Int) = (i : Int) + 1 by omega]; exact he'
    · have hb' : b < s.heap.objs.size := by
        rcases (show b = e ∨ b = it by simpa using hb) with z | z
        · rw [z]; exact hel
        · rw [z]; exact hil
      rw [upd_ne (Nat.ne_of_lt hb')]; exact (hf b hb).1
  done := by
    intro X hP hw hK hc i pins s σ H E I hf st hg
    subst hP hw hK; obtain ⟨⟨old, he⟩, hit, hne, hai, hea⟩ := st
    obtain ⟨xs, hq, hx⟩ := hg; obtain ⟨its, rv, p, hz⟩ := I.tuple hq; obtain ⟨f0, f1, f2, f3, f4, f5⟩ := hf it (by simp)
    have hl := rv.length
    have e0 : i = its.toArray.size := by simp; omega
    have D := Draws.tuple (prog := X.prog) (w := X.w) (A := X.A.in1) (I.ok.hd hc) it a hai its.toArray
    have st0 : s.heap.IsTupleIter it a its.toArray.size ∧ s.heap.IsTuple a its.toArray := ⟨by rw [← e0]; exact hit, p⟩
    exact wpAny_pyNext_enum_endD D he st0 fun h' eb => ⟨rfl, I.turned (t' := s.toks) (fun b o hb q => eb b o hb q) f0 f1 f3 f4 f5⟩
  self := fun A i s Q E st h => let ⟨⟨_, he⟩, _⟩ := st; wpAny_pyIter_enum he h
end L2
namespace PySem
open Sem (wp)
theorem meets_enum_one {v : Value} {o : Obj} {H : Heap → Prop} (B : Begins v o H) :
    Meets (Builtin.«enumerate.__new__» ⟨[.type "enumerate", v], []⟩) (fun _ R s => H s.heap ∧ R (.ok (.ret (.ref (s.heap.push o).objs.size))) { s with heap := (s.heap.push o).push { cls := .type "enumerate", data := .fields #[.none, .bool false, .ref s.heap.objs.size, rawInt 0, .none, .none] } }) :=
  .of_wp fun prog w A R s h => by
    obtain ⟨hp, g, d, tk, os⟩ := s; obtain ⟨h1, h⟩ := h; have hsub := sub_enumerate
    have q1 : ∀ {A' : Around} {E : Value → Shared → Prop} {Q : Value → Shared → Prop}, Q (.ref hp.objs.size) ⟨hp.push o, g, d, tk, os⟩ → wpAny (model prog w) A' (pyIter v) Q E ⟨hp, g, d, tk, os⟩ := fun q => B.iter prog w _ _ ⟨hp, g, d, tk, os⟩ _ h1 q
    wp_walk using q1
    refine wpAny_stack_any fun st => wpAny_pure ?_; split
    · rename_i c _ _ _ _ _
      cases (c == Value.type "enumerate") <;> (wp_walk using q1; exact ⟨_, rfl, h⟩)
    · wp_walk using q1; exact ⟨_, rfl, h⟩
end PySem
namespace L2
open PySem PySem.Spec PyProof.Rows
section
variable {prog : Program} {w : World} {A : Around} {E : Value → Shared → Prop} {s : Shared}
theorem call_enum_tup {l : Addr} {items : Array Value} {Q : Value → Shared → Prop} (tl : s.heap.IsTuple l items)
    (done : ∀ h', IsEnum h' (s.heap.objs.size + 1) s.heap.objs.size 0 .none → h'.IsTupleIter s.heap.objs.size l 0 → h'.objs.size = s.heap.objs.size + 2 → (∀ b o, s.heap.get? b = some o → h'.get? b = some o) → Q (.ref (s.heap.objs.size + 1)) { s with heap := h' }) :
    wpAny (model prog w) A (call (.type "enumerate") [.ref l]) Q E s := by
  refine callType_new F.called_enumerate (by decide) (F.typeCall_enumerate_1 _) (F.newCall_enumerate_1 _) (fun obj => F.args_object_init_2 obj _) F.entry_enumerate_new (meets_enum_one (begins_tuple l items)) ⟨tl, ?_⟩
  have hz : (s.heap.push { cls := .type "tuple_iterator", data := .fields #[.ref l, .int 0 0] }).objs.size = s.heap.objs.size + 1 := Heap.size_push ..
  show _ ∧ _
  rw [hz]
  have he : IsEnum ((s.heap.push { cls := .type "tuple_iterator", data := .fields #[.ref l, .int 0 0] }).push { cls := .type "enumerate", data := .fields #[.none, .bool false, .ref s.heap.objs.size, rawInt 0, .none, .none] }) (s.heap.objs.size + 1) s.heap.objs.size 0 .none := by
    have z := Heap.get?_push_size (s.heap.push { cls := .type "tuple_iterator", data := .fields #[.ref l, .int 0 0] }) (o := { cls := .type "enumerate", data := .fields #[.none, .bool false, .ref s.heap.objs.size, rawInt 0, .none, .none] }) rfl
    rw [hz] at z; exact z
  refine ⟨⟨_, he, rfl⟩, done _ he ⟨_, Heap.get?_push_of_some _ (Heap.get?_push_size _ rfl), rfl, rfl⟩ (by rw [Heap.size_push, hz]) fun b o x => Heap.get?_push_of_some _ (Heap.get?_push_of_some _ x)⟩
end
def iEnumT (K : PySem.W.Frag) (ta : TA) : TI := fun σ H R => ta σ H fun vs H1 => ∃ a xs, vs = [.ref a] ∧ ((SqL K H1 a xs ∧ R (Ite K a) H1) ∨ (SqT K H1 a xs ∧ R (IteT K a) H1))
theorem pi_enumT {X : Cx} {e : Expr} {ta : TA} {p pos tpos : Pos} {elts : List Expr} {kk : Nat} (hg : Gl X "enumerate") (hm : X.mg "enumerate" = none) (ha : PA X [e] ta) (hs : starEach [e] X.env = [(false, eval e X.env)] := by rfl) :
    PI X (.Tuple elts kk tpos) (.Call (.Name "enumerate" p) [e] [] pos) (iEnumT X.K ta) := by
  refine ⟨fun pins s σ H R I h => ?_⟩
  refine Call_ (ld_blt I hg hm boot_enumerate (PyProof.Rows.callWith_type1 (thn (ha.run pos pins s σ H _ I h) fun us s1 ⟨vs, H1, I1, r1, q1⟩ => ?_) hs rfl))
  obtain ⟨a, xs, ex, hq⟩ := q1
  subst ex; cases r1 with
  | cons r rr =>
    cases rr; cases r
    rcases hq with ⟨hq, q⟩ | ⟨hq, q⟩
    · obtain ⟨its, rv, p', hz⟩ := I1.list hq
      refine call_enumerate_list p'.isList fun h' he hit hsz hk => wpAny_pyIter_enum he ?_
      have I2 : Inv X pins σ H1 { s1 with heap := h' } := I1.kept (t' := s1.toks) hk
      refine ⟨s1.heap.objs.size + 1, [s1.heap.objs.size + 1, s1.heap.objs.size], _, _, H1, rfl, I2, turn_enum a (s1.heap.objs.size + 1) s1.heap.objs.size, ⟨⟨.none, he⟩, hit, Nat.succ_ne_self _⟩, fun b hb => ?_, q⟩
      have hle : s1.heap.objs.size ≤ b := by
        rcases (show b = s1.heap.objs.size + 1 ∨ b = s1.heap.objs.size by simpa using hb) with z | z
        · rw [z]; exact Nat.le_add_right _ _
        · rw [z]; exact Nat.le_refl _
      exact I1.fpOk hle (I1.hok.fresh hle)
    · obtain ⟨its, rv, p', hz⟩ := I1.tuple hq
      have pt : s1.heap.IsTuple a its.toArray := p'
      have hlt : a < s1.heap.objs.size := by obtain ⟨_, z, _⟩ := pt; exact Heap.lt_size z
      refine call_enum_tup pt fun h' he hit hsz hk => wpAny_pyIter_enum he ?_
      have I2 : Inv X pins σ H1 { s1 with heap := h' } := I1.kept (t' := s1.toks) hk
      refine ⟨s1.heap.objs.size + 1, [s1.heap.objs.size + 1, s1.heap.objs.size], _, _, H1, rfl, I2, turn_enumT a (s1.heap.objs.size + 1) s1.heap.objs.size, ⟨⟨.none, he⟩, hit, Nat.succ_ne_self _, Nat.ne_of_lt hlt, Nat.ne_of_gt (Nat.lt_succ_of_lt hlt)⟩, fun b hb => ?_, q⟩
      have hle : s1.heap.objs.size ≤ b := by
        rcases (show b = s1.heap.objs.size + 1 ∨ b = s1.heap.objs.size by simpa using hb) with z | z
        · rw [z]; exact Nat.le_add_right _ _
        · rw [z]; exact Nat.le_refl _
      exact I1.fpOk hle (I1.hok.fresh hle)
end L2
/-! # DLH: enumerate of lists and tuples, as denotations -/
namespace DL
open PySem PySem.Spec PyProof.Rows L2
section
variable {K : PySem.W.Frag} {tcK : TabC K} {G0 : Hp} {E : WX} {te : TE} {m : M D}
theorem walk_enumT {a : Addr} {xs : List V} : Walk (IteT K a) xs.length (fun H => SqT K H a xs) (YPair (fun i => some (.int (i : Nat))) (fun i => xs[i]?)) := by
  refine ⟨fun i _ hi q => ⟨xs, xs[i], q, by simp [hi]⟩, fun _ q => ⟨xs, q, rfl⟩, fun i H v H' _ q ⟨T, x, y1, y2, y3, y4⟩ => ⟨T, .int (i : Nat), x, y1, y2, y3, rfl, y4 xs q⟩⟩
theorem it_enumT {a : Addr} {xs : List V} {ds : List D} (h1 : SqT K G0 a xs) (h : DPs K G0 xs ds) : Iterates K G0 (IteT K a) (enumD 0 ds) := by
  refine ⟨_, _, by rw [enumD_length, ← h.length]; exact walk_enumT, fun _ s => SqT.same s h1, fun i H x H' G s1 s2 hi hy => ?_⟩
  obtain ⟨T, u, y, e1, e2, e3, e4, e5⟩ := hy
  subst e1 e3
  cases e4
  obtain ⟨d, hd, hp⟩ := h.getV e5
  have g := Grow.new s2 e2 (.tup [.int (i : Nat), y])
  refine ⟨_, _, enumD_get hd, g, .tup (.inl (.inl upd_same)) (.cons ?_ (.cons ((hp.mono s1).mono g.g) .nil))⟩
  rw [Int.zero_add]
  exact .int _
def iEnumA (m : M D) : M (List D) := fun r => (m r).bind fun a => match a.1 with
  | .list ds => .ok (enumD 0 ds, a.2)
  | .tuple ds => .ok (enumD 0 ds, a.2)
  | _ => .no
theorem absIEnumA (h : AbsD K E te m) : AbsI K E (iEnumT K (tCons te tNil)) (iEnumA m) := by
  intro G as r σ H Q R w
  refine h G as r σ H _ R ((Wp.bind w).mono (fun a w1 => ?_) fun _ z => z)
  obtain ⟨d, r1⟩ := a
  intro G1 H1 v S1 R1 dv
  cases dv with
  | @lst a xs ds h1 h2 => exact ⟨a, xs, rfl, .inl ⟨R1.le.seq h1, w1 G1 H1 _ S1 R1 (it_enum h1 h2)⟩⟩
  | @tup a xs ds h1 h2 => exact ⟨a, xs, rfl, .inr ⟨SqT.same R1.le h1, w1 G1 H1 _ S1 R1 (it_enumT h1 h2)⟩⟩
  | non => exact w1.elim
  | bl _ => exact w1.elim
  | int _ => exact w1.elim
  | str _ => exact w1.elim
  | dic _ _ => exact w1.elim
end
end DL
/-! # DLI: zip of lists and tuples in any mixture, strict or not -/
namespace PySem
open Sem (wp)
/-- a zip's record, b: strict -/
abbrev ZipB (b : Bool) (h : Heap) (z TI TO : Addr) (f0 : Value) : Prop :=
  h.get? z = some { cls := .type "zip", dict := none, data := .fields #[f0, .bool false, .bool b, .ref TI, .ref TO], slots := #[] }
section
variable {prog : Program} {w : World} {A : Around} {E : Value → Shared → Prop} {s : Shared}
theorem orEnd_item {it : Addr} {fp : List Addr} {n : Nat} {P : Nat → Value → Prop} {St : Nat → Heap → Prop} {i : Nat} {Q : Option Value → Shared → Prop} (D : Draws prog w A it fp n P St) (hi : i < n) (st : St i s.heap)
    (h : ∀ x h' tk, P i x → St (i + 1) h' → Heap.SameBut it s.heap h' → Q (some x) { s with heap := h', toks := tk }) : wpAny (model prog w) A (Builtin.SmallTypes.nextOrEnd (.ref it)) Q E s := by
  unfold Builtin.SmallTypes.nextOrEnd
  exact wpAny_bind (wpAny_attempt (D.item i s _ _ hi st fun x h' tk p st' sb => wpAny_pure (h x h' tk p st' sb)))
theorem orEnd_done {it : Addr} {fp : List Addr} {n : Nat} {P : Nat → Value → Prop} {St : Nat → Heap → Prop} {Q : Option Value → Shared → Prop} (D : Draws prog w A it fp n P St) (st : St n s.heap)
    (h : ∀ h', Heap.ExtBut it s.heap h' → Q none { s with heap := h' }) : wpAny (model prog w) A (Builtin.SmallTypes.nextOrEnd (.ref it)) Q E s := by
  unfold Builtin.SmallTypes.nextOrEnd
  refine wpAny_bind (wpAny_attempt (D.done s _ _ st fun h' e hx he => ?_))
  obtain ⟨o, ho, hc⟩ := he
  refine wpAny_bind (wpAny_isInstance (T := "StopIteration") (b := true) ⟨o, ho, hc⟩ isSubtype_stop ?_)
  rw [if_pos rfl]
  exact wpAny_pure (h h' hx)
/-- a new StopIteration is raised -/
theorem stop_new {α : Type} {Q : α → Shared → Prop} (hh : A.handled = none) (hE : ∀ h' e, (∀ b o, s.heap.get? b = some o → h'.get? b = some o) → (∃ o, h'.get? e = some o ∧ o.cls = .type "StopIteration") → E (.ref e) { s with heap := h' }) :
    wpAny (model prog w) A (Builtin.SmallTypes.stopIteration : Sem α) Q E s := by
  show wpAny _ _ (newExc (.type "StopIteration") [] >>= _) _ _ _
  refine wpAny_bind ?_
  simp only [newExc, newTuple]
  refine wpAny_bind (wpAny_newObj_type ?_ (by size_fits))
  refine wpAny_bind (m := firstArgMember _ _) (wpAny_of_eq (a := Value.none) (by first | rfl | (simp only [firstArgMember]; rfl)) ?_)
  refine wpAny_newObj_type ?_ (by size_fits)
  simp only [raiseNew]
  refine wpAny_bind (wpAny_handled ?_)
  rw [hh]
  refine wpAny_bind (wpAny_pure (wpAny_throw ?_))
  exact hE _ _ (fun b o e => Heap.get?_push_of_some _ (Heap.get?_push_of_some _ e)) ⟨_, Heap.get?_push_size _ rfl, rfl⟩
variable {z TI TO i1 i2 : Addr} {fp1 fp2 : List Addr} {n1 n2 i : Nat} {P1 P2 : Nat → Value → Prop} {St1 St2 : Nat → Heap → Prop} {a1 a2 : Value}
theorem zipS_item {Q : Value → Shared → Prop} (S : ZipSep2 z TI TO i1 i2 fp1 fp2) (D1 : Draws prog w A i1 fp1 n1 P1 St1) (D2 : Draws prog w A i2 fp2 n2 P2 St2)
    (hz : ZipB true s.heap z TI TO .none) (hTI : IsTupOf2 s.heap TI (.ref i1) (.ref i2)) (hTO : IsTupOf2 s.heap TO a1 a2) (st1 : St1 i s.heap) (st2 : St2 i s.heap) (hlt1 : i < n1) (hlt2 : i < n2)
    (hQ : ∀ x1 x2 h' tk, P1 i x1 → P2 i x2 → ZipB true h' z TI TO (rawInt s.heap.objs.size) → IsTupOf2 h' TO x1 x2 → St1 (i + 1) h' → St2 (i + 1) h' → IsTupOf2 h' s.heap.objs.size x1 x2 → h'.objs.size = s.heap.objs.size + 1 →
      (∀ c o, c ≠ z → c ≠ TO → c ≠ i1 → c ≠ i2 → s.heap.get? c = some o → h'.get? c = some o) → Q (.ref s.heap.objs.size) { s with heap := h', toks := tk }) :
    wpAny (model prog w) A (Builtin.«zip.__next__» ⟨[.ref z], []⟩) (fun fin s' => ∃ v, fin = .done (.ret v) ∧ Q v s') E s := by
  obtain ⟨hp, g, d, tk0, os⟩ := s
  show wpAny _ _ (field (.ref z) 2 >>= _) _ _ _
  refine wpAny_bind (wpAny_field hz rfl (x := .bool true) rfl ?_)
  show wpAny _ _ (field (.ref z) 3 >>= _) _ _ _
  refine wpAny_bind (wpAny_field hz rfl (x := .ref TI) rfl (wpAny_bind (wpAny_seqItems hTI rfl ?_)))
  show wpAny _ _ (Builtin.SmallTypes.ownedTupleIsFree (.ref z) >>= _) _ _ _
  refine wpAny_bind ?_
  unfold Builtin.SmallTypes.ownedTupleIsFree
  refine wpAny_bind (wpAny_field hz rfl (x := .none) rfl (wpAny_pure ?_))
  simp only [if_true]
  refine wpAny_bind (wpAny_rule (wpAny_bind (wpAny_field hz rfl (x := .ref TO) rfl (wpAny_bind (wpAny_setField_rec hz (by simp) fun h0 z0 b0 => ?_)))))
  have z0' : ZipB true h0 z TI TO .ellipsis := z0
  have b0' : Heap.SameBut z hp h0 := b0
  refine wpAny_bind ?_
  simp only [List.zipIdx_cons, List.zipIdx_nil, List.forIn_cons, List.forIn_nil]
  refine wpAny_bind (wpAny_bind (wpAny_onRaise ?_))
  show wpAny _ _ (Builtin.SmallTypes.nextOrEnd (.ref i1)) _ _ ⟨h0, g, d, tk0, os⟩
  refine orEnd_item D1 hlt1 (D1.over st1 b0' S.zf1) fun x1 h1 t1 q1 u1 c1 => ?_
  have c1' : Heap.SameBut i1 h0 h1 := c1
  have o1 : IsTupOf2 h1 TO a1 a2 := c1'.extBut _ _ S.Ti1 (b0'.extBut _ _ S.TOz hTO)
  refine wpAny_bind (wpAny_seqItems (s := ⟨h1, g, d, t1, os⟩) o1 rfl (wpAny_bind (updateSeq_IsTupOf2 (s := ⟨h1, g, d, t1, os⟩) o1 fun h2 o2 c2 => ?_)))
  have o2' : IsTupOf2 h2 TO x1 a2 := o2
  have c2' : Heap.SameBut TO h1 h2 := c2
  refine wpAny_bind (wpAny_letGo (wpAny_pure (wpAny_bind (wpAny_bind (wpAny_onRaise ?_)))))
  show wpAny _ _ (Builtin.SmallTypes.nextOrEnd (.ref i2)) _ _ ⟨h2, g, d, t1, os⟩
  refine orEnd_item D2 hlt2 (D2.over (D2.over (D2.over st2 b0' S.zf2) c1' S.sep1_2) c2' S.Tf2) fun x2 h3 t3 q3 u3 c3 => ?_
  have c3' : Heap.SameBut i2 h2 h3 := c3
  have o3 : IsTupOf2 h3 TO x1 a2 := c3'.extBut _ _ S.Ti2 o2'
  refine wpAny_bind (wpAny_seqItems (s := ⟨h3, g, d, t3, os⟩) o3 rfl (wpAny_bind (updateSeq_IsTupOf2 (s := ⟨h3, g, d, t3, os⟩) o3 fun h4 o4 c4 => ?_)))
  have o4' : IsTupOf2 h4 TO x1 x2 := o4
  have c4' : Heap.SameBut TO h3 h4 := c4
  refine wpAny_bind (wpAny_letGo (wpAny_pure (wpAny_pure (wpAny_bind (wpAny_seqItems (s := ⟨h4, g, d, t3, os⟩) o4' rfl (wpAny_bind (wpAny_newTuple ?_)))))))
  have sz : h4.objs.size = hp.objs.size := by rw [c4'.1, c3'.1, c2'.1, c1'.1, b0'.1]
  have z4 : ZipB true h4 z TI TO .ellipsis := c4'.extBut _ _ S.TOz.symm (c3'.extBut _ _ S.zi2 (c2'.extBut _ _ S.TOz.symm (c1'.extBut _ _ S.zi1 z0')))
  have kk : ∀ c o, c ≠ z → c ≠ TO → c ≠ i1 → c ≠ i2 → hp.get? c = some o → h4.get? c = some o := fun c o k1 k2 k3 k4 e =>
    c4'.extBut _ _ k2 (c3'.extBut _ _ k4 (c2'.extBut _ _ k2 (c1'.extBut _ _ k3 (b0'.extBut _ _ k1 e))))
  have v1 : St1 (i + 1) h4 := D1.over (D1.over (D1.over u1 c2' S.Tf1) c3' S.sep2_1) c4' S.Tf1
  have v2 : St2 (i + 1) h4 := D2.over u3 c4' S.Tf2
  have zlt : z < h4.objs.size := Heap.lt_size z4
  show wpAny _ _ (Builtin.SmallTypes.ownedTupleHandOut (.ref z) (.ref h4.objs.size) >>= _) _ _ ⟨h4.push { cls := .type "tuple", data := .seq #[x1, x2] }, g, d, t3, os⟩
  refine wpAny_bind ?_
  unfold Builtin.SmallTypes.ownedTupleHandOut
  have z5 : ZipB true (h4.push { cls := .type "tuple", data := .seq #[x1, x2] }) z TI TO .ellipsis := Heap.get?_push_of_some _ z4
  refine wpAny_bind (wpAny_setField_rec z5 (by simp) fun h6 z6 c6 => ?_)
  have z6' : ZipB true h6 z TI TO (rawInt h4.objs.size) := z6
  refine wpAny_setField_rec z6' (by simp) fun h7 z7 c7 => ?_
  have z7' : ZipB true h7 z TI TO (rawInt h4.objs.size) := z7
  have c6' : Heap.SameBut z (h4.push { cls := .type "tuple", data := .seq #[x1, x2] }) h6 := c6
  have c7' : Heap.SameBut z h6 h7 := c7
  have up : ∀ c o, c ≠ z → h4.get? c = some o → h7.get? c = some o := fun c o k e => c7'.extBut _ _ k (c6'.extBut _ _ k (Heap.get?_push_of_some _ e))
  have tN : IsTupOf2 h7 h4.objs.size x1 x2 := c7'.extBut _ _ (Nat.ne_of_gt zlt) (c6'.extBut _ _ (Nat.ne_of_gt zlt) (Heap.get?_push_size _ rfl))
  have s7 : h7.objs.size = h4.objs.size + 1 := by rw [c7'.1, c6'.1, Heap.size_push]
  rw [sz] at z7' tN s7
  refine wpAny_pure ⟨_, rfl, ?_⟩
  show Q (.ref h4.objs.size) ⟨h7, g, d, t3, os⟩
  rw [sz]
  exact hQ x1 x2 h7 t3 q1 q3 z7' (up _ _ S.TOz o4') (D1.frame _ _ _ v1 fun b hb o e => up b o (fun q => S.zf1 (q ▸ hb)) e) (D2.frame _ _ _ v2 fun b hb o e => up b o (fun q => S.zf2 (q ▸ hb)) e) tN s7
    fun c o k1 k2 k3 k4 e => up c o k1 (kk c o k1 k2 k3 k4 e)
theorem zipS_end {n : Nat} {Q : Fin → Shared → Prop} (hh : A.handled = none) (S : ZipSep2 z TI TO i1 i2 fp1 fp2) (D1 : Draws prog w A i1 fp1 n P1 St1) (D2 : Draws prog w A i2 fp2 n P2 St2)
    (hz : ZipB true s.heap z TI TO .none) (hTI : IsTupOf2 s.heap TI (.ref i1) (.ref i2)) (hTO : IsTupOf2 s.heap TO a1 a2) (st1 : St1 n s.heap) (st2 : St2 n s.heap)
    (hE : ∀ h' e, (∀ c o, c ≠ z → c ≠ TO → c ≠ i1 → c ≠ i2 → s.heap.get? c = some o → h'.get? c = some o) → (∃ o, h'.get? e = some o ∧ o.cls = .type "StopIteration") → E (.ref e) { s with heap := h' }) :
    wpAny (model prog w) A (Builtin.«zip.__next__» ⟨[.ref z], []⟩) Q E s := by
  obtain ⟨hp, g, d, tk0, os⟩ := s
  show wpAny _ _ (field (.ref z) 2 >>= _) _ _ _
  refine wpAny_bind (wpAny_field hz rfl (x := .bool true) rfl ?_)
  show wpAny _ _ (field (.ref z) 3 >>= _) _ _ _
  refine wpAny_bind (wpAny_field hz rfl (x := .ref TI) rfl (wpAny_bind (wpAny_seqItems hTI rfl ?_)))
  show wpAny _ _ (Builtin.SmallTypes.ownedTupleIsFree (.ref z) >>= _) _ _ _
  refine wpAny_bind ?_
  unfold Builtin.SmallTypes.ownedTupleIsFree
  refine wpAny_bind (wpAny_field hz rfl (x := .none) rfl (wpAny_pure ?_))
  simp only [if_true]
  refine wpAny_bind (wpAny_rule (wpAny_bind (wpAny_field hz rfl (x := .ref TO) rfl (wpAny_bind (wpAny_setField_rec hz (by simp) fun h0 z0 b0 => ?_)))))
  have z0' : ZipB true h0 z TI TO .ellipsis := z0
  have b0' : Heap.SameBut z hp h0 := b0
  refine wpAny_bind ?_
  simp only [List.zipIdx_cons, List.zipIdx_nil, List.forIn_cons, List.forIn_nil]
  refine wpAny_bind (wpAny_bind (wpAny_onRaise ?_))
  show wpAny _ _ (Builtin.SmallTypes.nextOrEnd (.ref i1)) _ _ ⟨h0, g, d, tk0, os⟩
  refine orEnd_done D1 (D1.over st1 b0' S.zf1) fun h1 c1 => ?_
  have c1' : Heap.ExtBut i1 h0 h1 := c1
  have z1 : ZipB true h1 z TI TO .ellipsis := c1' _ _ S.zi1 z0'
  refine wpAny_bind (wpAny_setField_rec (s := ⟨h1, g, d, tk0, os⟩) z1 (by simp) fun h2 _ c2 => ?_)
  have c2' : Heap.SameBut z h1 h2 := c2
  refine wpAny_bind (wpAny_bind ?_)
  simp only [List.drop_succ_cons, List.drop_zero, List.zipIdx_cons, List.zipIdx_nil, List.forIn_cons, List.forIn_nil]
  have st2' : St2 n h2 := D2.over (D2.frame _ _ _ (D2.over st2 b0' S.zf2) fun b hb o e => c1' b o (fun q => S.sep1_2 (q ▸ hb)) e) c2' S.zf2
  refine wpAny_bind (wpAny_bind (orEnd_done (s := ⟨h2, g, d, tk0, os⟩) D2 st2' fun h3 c3 => ?_))
  have c3' : Heap.ExtBut i2 h2 h3 := c3
  simp only [Option.isSome_none, Bool.false_eq_true, if_false]
  refine wpAny_pure (wpAny_pure (wpAny_bind (wpAny_rule ?_)))
  refine stop_new hh fun h4 e k4 he => hE h4 e (fun c o k1 k2 k3 k5 eo => k4 _ _ (c3' _ _ k5 (c2'.extBut _ _ k1 (c1' _ _ k3 (b0'.extBut _ _ k1 eo))))) he
theorem nextS_item {Q : Option Value → Shared → Prop} (S : ZipSep2 z TI TO i1 i2 fp1 fp2) (D1 : Draws prog w A.in1 i1 fp1 n1 P1 St1) (D2 : Draws prog w A.in1 i2 fp2 n2 P2 St2)
    (hz : ZipB true s.heap z TI TO .none) (hTI : IsTupOf2 s.heap TI (.ref i1) (.ref i2)) (hTO : IsTupOf2 s.heap TO a1 a2) (st1 : St1 i s.heap) (st2 : St2 i s.heap) (hlt1 : i < n1) (hlt2 : i < n2)
    (hQ : ∀ x1 x2 h' tk, P1 i x1 → P2 i x2 → ZipB true h' z TI TO (rawInt s.heap.objs.size) → IsTupOf2 h' TO x1 x2 → St1 (i + 1) h' → St2 (i + 1) h' → IsTupOf2 h' s.heap.objs.size x1 x2 → h'.objs.size = s.heap.objs.size + 1 →
      (∀ c o, c ≠ z → c ≠ TO → c ≠ i1 → c ≠ i2 → s.heap.get? c = some o → h'.get? c = some o) → Q (some (.ref s.heap.objs.size)) { s with heap := h', toks := tk }) :
    wpAny (model prog w) A (pyNext (.ref z)) Q E s := by
  have hT : s.TypeIs (.ref z) "zip" := ⟨_, hz, rfl⟩
  unfold pyNext
  exact wpAny_bind (wpAny_attempt (wpAny_callSpecial?_slot (name := Str.ofString "__next__") hT F.slot_zip_next
    (wpAny_call_entry F.slot_zip_next hT F.entry_zip_next (zipS_item S D1 D2 hz hTI hTO st1 st2 hlt1 hlt2 fun x1 x2 h' tk y1 y2 b1 b2 d1 d2 b5 b6 b7 => wpAny_pure (hQ x1 x2 h' tk y1 y2 b1 b2 d1 d2 b5 b6 b7)) (F.args_zip_next_1 _))))
theorem nextS_end {n : Nat} {Q : Option Value → Shared → Prop} (hh : A.in1.handled = none) (S : ZipSep2 z TI TO i1 i2 fp1 fp2) (D1 : Draws prog w A.in1 i1 fp1 n P1 St1) (D2 : Draws prog w A.in1 i2 fp2 n P2 St2)
    (hz : ZipB true s.heap z TI TO .none) (hTI : IsTupOf2 s.heap TI (.ref i1) (.ref i2)) (hTO : IsTupOf2 s.heap TO a1 a2) (st1 : St1 n s.heap) (st2 : St2 n s.heap)
    (hQ : ∀ h', (∀ c o, c ≠ z → c ≠ TO → c ≠ i1 → c ≠ i2 → s.heap.get? c = some o → h'.get? c = some o) → Q none { s with heap := h' }) : wpAny (model prog w) A (pyNext (.ref z)) Q E s := by
  have hT : s.TypeIs (.ref z) "zip" := ⟨_, hz, rfl⟩
  unfold pyNext
  refine wpAny_bind (wpAny_attempt (wpAny_callSpecial?_slot (name := Str.ofString "__next__") hT F.slot_zip_next
    (wpAny_call_entry F.slot_zip_next hT F.entry_zip_next (zipS_end hh S D1 D2 hz hTI hTO st1 st2 fun h' e hk he => ?_) (F.args_zip_next_1 _))))
  obtain ⟨o, ho, hc⟩ := he
  exact wpAny_bind (wpAny_isInstance (T := "StopIteration") (b := true) ⟨o, ho, hc⟩ isSubtype_stop (wpAny_pure (hQ _ hk)))
/-- the step ahead of the store of the pair, b: strict -/
theorem letGo_zipB {b : Bool} {T : Addr} {x y : Expr} {elts : List Expr} {kk : Nat} {tpos : Pos} {Q : Unit → Shared → Prop} (hz : ZipB b s.heap z TI TO (rawInt T)) (hQ : ∀ h', ZipB b h' z TI TO .none → Heap.SameBut z s.heap h' → Q () { s with heap := h' }) :
    wpAny (model prog w) A (letOwnedTupleGo (.Tuple elts kk tpos) (.ref z) (.ref T)) Q E s := by
  unfold letOwnedTupleGo
  refine wpAny_bind (wpAny_load hz ?_)
  show wpAny _ _ (if (["enumerate", "zip", "dict_itemiterator", "dict_reverseitemiterator", "odict_iterator", "itertools.zip_longest", "itertools.pairwise"].contains "zip" &&
      (#[rawInt T, .bool false, .bool b, .ref TI, .ref TO] : Array Value)[0]? == some (rawInt T)) = true then _ else _) Q E s
  rw [if_pos (by simp)]
  exact wpAny_bind (wpAny_rule (wpAny_setField_rec hz (by simp) fun h' hz' hs' => hQ h' hz' hs'))
theorem iter_zipB {b : Bool} {f0 : Value} {Q : Value → Shared → Prop} (hz : ZipB b s.heap z TI TO f0) (h : Q (.ref z) s) : wpAny (model prog w) A (pyIter (.ref z)) Q E s := by
  have hT : s.TypeIs (.ref z) "zip" := ⟨_, hz, rfl⟩
  refine wpAny_pyIter_slot hT F.slot_zip_iter (wpAny_call_entry F.slot_zip_iter hT F.entry_zip_iter ?_ (F.args_zip_iter_1 _))
  show wpAny _ _ (ret (.ref z)) _ _ s
  exact wpAny_pure ⟨_, rfl, "zip", _, hT, F.slot_zip_next.lookup, h⟩
end
namespace F
end F
/-- the heap behind zip(a, b), from the iterators' records -/
def zipped (b : Bool) (o1 o2 : Obj) (h : Heap) : Heap :=
  ((((h.push o1).push o2).push { cls := .type "tuple", data := .seq #[.ref h.objs.size, .ref (h.objs.size + 1)] }).push { cls := .type "tuple", data := .seq #[.none, .none] }).push { cls := .type "zip", data := .fields #[.none, .bool false, .bool b, .ref (h.objs.size + 2), .ref (h.objs.size + 3)] }
theorem meets_zip0 {v1 v2 : Value} {o1 o2 : Obj} {H1 H2 : Heap → Prop} (B1 : Begins v1 o1 H1) (B2 : Begins v2 o2 H2) :
    Meets (Builtin.«zip.__new__» ⟨[.type "zip", v1, v2], []⟩) (fun _ R s => H1 s.heap ∧ H2 (s.heap.push o1) ∧ R (.ok (.ret (.ref (s.heap.objs.size + 4)))) { s with heap := zipped false o1 o2 s.heap }) :=
  .of_wp fun prog w A R s h => by
    obtain ⟨hp, g, d, tk, os⟩ := s; obtain ⟨h1, h2, h⟩ := h
    have hsub := sub_zip
    have q1 : ∀ {A' : Around} {E : Value → Shared → Prop} {Q : Value → Shared → Prop}, Q (.ref hp.objs.size) ⟨hp.push o1, g, d, tk, os⟩ → wpAny (model prog w) A' (pyIter v1) Q E ⟨hp, g, d, tk, os⟩ := fun q => B1.iter prog w _ _ ⟨hp, g, d, tk, os⟩ _ h1 q
    have q2 : ∀ {A' : Around} {E : Value → Shared → Prop} {Q : Value → Shared → Prop}, Q (.ref (hp.push o1).objs.size) ⟨(hp.push o1).push o2, g, d, tk, os⟩ → wpAny (model prog w) A' (pyIter v2) Q E ⟨hp.push o1, g, d, tk, os⟩ := fun q => B2.iter prog w _ _ ⟨hp.push o1, g, d, tk, os⟩ _ h2 q
    wp_walk using q1, q2
    refine ⟨_, rfl, ?_⟩
    unfold zipped at h
    simp only [Heap.size_push] at h ⊢
    exact h
end PySem
/-! # DLJ: walks over zip -/
namespace L2
open PySem PySem.Spec PyProof.Rows
/-- a list or a tuple -/
inductive SK where
  | L | T
def Sq (k : SK) (K : PySem.W.Frag) (H : Hp) (a : Addr) (xs : List V) : Prop := match k with
  | .L => SqL K H a xs
  | .T => SqT K H a xs
def SqO (k : SK) (h : Heap) (a : Addr) (its : Array Value) : Prop := match k with
  | .L => h.IsList a its
  | .T => h.IsTuple a its
def SqI (k : SK) (h : Heap) (it a : Addr) (i : Nat) : Prop := match k with
  | .L => h.IsListIter it a i
  | .T => h.IsTupleIter it a i
def itO (k : SK) (a : Addr) : Obj := match k with
  | .L => { cls := .type "list_iterator", data := .fields #[.ref a, .int 0 0] }
  | .T => { cls := .type "tuple_iterator", data := .fields #[.ref a, .int 0 0] }
theorem itO_free {k : SK} {a : Addr} : (itO k a).isFreed = false := by cases k <;> rfl
section
variable {X : Cx} {pins : List (Addr × Obj)} {σ : L2.St} {H : Hp} {s : Shared} {k : SK} {a it : Addr} {xs ys : List V}
theorem Inv.sq (I : Inv X pins σ H s) (h : Sq k X.K H a xs) : ∃ its : List Value, Vals xs its ∧ SqO k s.heap a its.toArray := by
  cases k with
  | L => obtain ⟨its, r, p, _⟩ := I.list h; exact ⟨its, r, p.isList⟩
  | T => obtain ⟨its, r, p, _⟩ := I.tuple h; exact ⟨its, r, p⟩
theorem Inv.sq_inj (I : Inv X pins σ H s) (h : Sq k X.K H a xs) (h' : Sq k X.K H a ys) : xs = ys := by
  cases k with
  | L => exact I.list_inj h h'
  | T => exact I.tuple_inj h h'
theorem SqO.lt {h : Heap} {its : Array Value} (q : SqO k h a its) : a < h.objs.size := by
  cases k with
  | L => obtain ⟨_, z, _⟩ := q; exact Heap.lt_size z
  | T => obtain ⟨_, z, _⟩ := q; exact Heap.lt_size z
theorem SqO.keep {h h' : Heap} {its : Array Value} (q : SqO k h a its) (e : ∀ o, h.get? a = some o → h'.get? a = some o) : SqO k h' a its := by
  cases k with
  | L => exact Heap.IsList.at q e
  | T => exact Heap.IsTuple.at q e
theorem SqI.keep {h h' : Heap} {i : Nat} (q : SqI k h it a i) (e : ∀ o, h.get? it = some o → h'.get? it = some o) : SqI k h' it a i := by
  cases k with
  | L => exact Heap.IsListIter.at q e
  | T => exact Heap.IsTupleIter.at q e
theorem SqI.obj {h : Heap} {i : Nat} (q : SqI k h it a i) : ∃ o, h.get? it = some o ∧ ∀ v, o.data ≠ .cell v := by
  cases k with
  | L => obtain ⟨o, e, _, d⟩ := q; exact ⟨o, e, fun v z => by rw [d] at z; cases z⟩
  | T => obtain ⟨o, e, _, d⟩ := q; exact ⟨o, e, fun v z => by rw [d] at z; cases z⟩
theorem SqI.new {h : Heap} (e : h.get? it = some (itO k a)) : SqI k h it a 0 := by
  cases k with
  | L => exact ⟨_, e, rfl, rfl⟩
  | T => exact ⟨_, e, rfl, rfl⟩
end
theorem draws_sq {prog : Program} {w : World} {A : Around} (hh : A.handled = none) (k : SK) (it a : Addr) (hne : a ≠ it) (items : Array Value) :
    Draws prog w A it [it, a] items.size (fun i v => items[i]? = some v) (fun i h => SqI k h it a i ∧ SqO k h a items) := by
  cases k with
  | L => exact Draws.list hh it a hne items
  | T => exact Draws.tuple hh it a hne items
theorem begins_sq (k : SK) (a : Addr) (items : Array Value) : Begins (.ref a) (itO k a) (fun h => SqO k h a items) := by
  cases k with
  | L => exact begins_list a items
  | T => exact begins_tuple a items
/-- pairs of what stands at a and at b, b: strict -/
def ItzB (K : PySem.W.Frag) (st : Bool) (k1 k2 : SK) (a b : Addr) : It :=
  ⟨fun i H => ∃ (xs ys : List V) (x y : V), Sq k1 K H a xs ∧ Sq k2 K H b ys ∧ xs[i]? = some x ∧ ys[i]? = some y,
    fun i H v H' => ∃ T x y, v = .ref T ∧ H T = none ∧ H' = upd H T (.tup [x, y]) ∧ (∀ xs, Sq k1 K H a xs → xs[i]? = some x) ∧ ∀ ys, Sq k2 K H b ys → ys[i]? = some y,
    fun i H => ∃ xs ys : List V, Sq k1 K H a xs ∧ Sq k2 K H b ys ∧ i ≤ xs.length ∧ i ≤ ys.length ∧ (i = xs.length ∨ i = ys.length) ∧ (st = true → i = xs.length ∧ i = ys.length)⟩
theorem turn_zipB {P : Program} {w : World} {K : PySem.W.Frag} {elts : List Expr} {kk : Nat} {tpos : Pos} {st : Bool} {k1 k2 : SK} {a b z TI TO i1 i2 : Addr} (S : ZipSep2 z TI TO i1 i2 [i1, a] [i2, b]) (h1 : a ≠ i1) (h2 : b ≠ i2) :
    Turn P w K (.Tuple elts kk tpos) (ItzB K st k1 k2 a b) [z, TI, TO, i1, i2] z (fun i h => ZipB st h z TI TO .none ∧ IsTupOf2 h TI (.ref i1) (.ref i2) ∧ (∃ x y, IsTupOf2 h TO x y) ∧ SqI k1 h i1 a i ∧ SqI k2 h i2 b i) where
  mem := by simp
  obj := fun i h q c hc => by
    obtain ⟨hz, hTI, ⟨x, y, hTO⟩, q1, q2⟩ := q
    have e' : c = z ∨ c = TI ∨ c = TO ∨ c = i1 ∨ c = i2 := by simpa using hc
    rcases e' with rfl | rfl | rfl | rfl | rfl
    · exact ⟨_, hz, fun v q => nomatch q⟩
    · exact ⟨_, hTI, fun v q => nomatch q⟩
    · exact ⟨_, hTO, fun v q => nomatch q⟩
    · exact q1.obj
    · exact q2.obj
  keep := fun i h h' q kp => by
    obtain ⟨hz, hTI, ⟨x, y, hTO⟩, q1, q2⟩ := q
    exact ⟨kp z (by simp) _ hz, kp TI (by simp) _ hTI, ⟨x, y, kp TO (by simp) _ hTO⟩, q1.keep fun o e => kp i1 (by simp) o e, q2.keep fun o e => kp i2 (by simp) o e⟩
  item := by
    intro X hP hw hK hc i pins s σ H E I hf q hg
    subst hP hw hK
    obtain ⟨hz, hTI, ⟨x0, y0, hTO⟩, q1, q2⟩ := q
    obtain ⟨xs, ys, x, y, hqx, hqy, hx, hy⟩ := hg
    obtain ⟨its, rv, p⟩ := I.sq hqx
    obtain ⟨its2, rv2, p2⟩ := I.sq hqy
    obtain ⟨u, hu, ru⟩ := rv.get hx
    obtain ⟨u2, hu2, ru2⟩ := rv2.get hy
    have hzl : z < s.heap.objs.size := Heap.lt_size hz
    have D1 := draws_sq (prog := X.prog) (w := X.w) (A := X.A.in1) (I.ok.hd hc) k1 i1 a h1 its.toArray
    have D2 := draws_sq (prog := X.prog) (w := X.w) (A := X.A.in1) (I.ok.hd hc) k2 i2 b h2 its2.toArray
    have l1 : i < its.toArray.size := by have := (List.getElem?_eq_some_iff.mp hu).1; simpa using this
    have l2 : i < its2.toArray.size := by have := (List.getElem?_eq_some_iff.mp hu2).1; simpa using this
    have key : ∀ (x1 x2 : Value) (h' : Heap) (tk : Nat), its.toArray[i]? = some x1 → its2.toArray[i]? = some x2 → ZipB st h' z TI TO (rawInt s.heap.objs.size) → IsTupOf2 h' TO x1 x2 → (SqI k1 h' i1 a (i + 1) ∧ SqO k1 h' a its.toArray) → (SqI k2 h' i2 b (i + 1) ∧ SqO k2 h' b its2.toArray) → IsTupOf2 h' s.heap.objs.size x1 x2 → h'.objs.size = s.heap.objs.size + 1 →
        (∀ c o, c ≠ z → c ≠ TO → c ≠ i1 → c ≠ i2 → s.heap.get? c = some o → h'.get? c = some o) →
        ∃ u, (some (Value.ref s.heap.objs.size)) = some u ∧ wpAny (model X.prog X.w) X.A (letOwnedTupleGo (.Tuple elts kk tpos) (.ref z) u) (fun _ s2 => ∃ x H', Inv X pins σ H' s2 ∧ RelV x u ∧ (ItzB X.K st k1 k2 a b).yld i H x H' ∧ (ZipB st s2.heap z TI TO .none ∧ IsTupOf2 s2.heap TI (.ref i1) (.ref i2) ∧ (∃ x y, IsTupOf2 s2.heap TO x y) ∧ SqI k1 s2.heap i1 a (i + 1) ∧ SqI k2 s2.heap i2 b (i + 1)) ∧ ∀ b ∈ [z, TI, TO, i1, i2], H' b = none) E { s with heap := h', toks := tk } := by
      intro x1 x2 h' tk e1 e2 z' TO' v1 v2 hT hsz hk
      have e1' : x1 = u := by have q : its[i]? = some x1 := by simpa using e1
                              rw [hu] at q; exact (Option.some.inj q).symm
      have e2' : x2 = u2 := by have q : its2[i]? = some x2 := by simpa using e2
                               rw [hu2] at q; exact (Option.some.inj q).symm
      subst e1' e2'
      refine ⟨_, rfl, letGo_zipB (s := { s with heap := h', toks := tk }) (x := .Constant .none 0 tpos) (y := .Constant .none 0 tpos) z' fun h'' z'' sb => ?_⟩
      have hT2 : h''.get? s.heap.objs.size = some { cls := .type "tuple", data := .seq #[x1, x2] } := (sb.2 _ (Nat.ne_of_gt hzl)).trans hT
      have new : ObjOk X.prog X.w (upd H s.heap.objs.size (.tup [x, y])) h'' s.heap.objs.size (.tup [x, y]) := ⟨by show 2 ≤ sizeLine; decide, [x1, x2], .cons ru (.cons ru2 .nil), ⟨_, hT2, rfl, _, rfl⟩⟩
      have I1 : Inv X pins σ (upd H s.heap.objs.size (.tup [x, y])) { s with heap := h'', toks := tk } :=
        I.turnedNew (t' := tk) (ch := [z, TI, TO, i1, i2]) (fun c o hb q => (sb.2 c (fun q' => hb (by simp [q']))).trans (hk c o (fun q' => hb (by simp [q'])) (fun q' => hb (by simp [q'])) (fun q' => hb (by simp [q'])) (fun q' => hb (by simp [q'])) q)) hf (Nat.le_refl _) new
      have nz1 : i1 ≠ z := S.zi1.symm
      have nz2 : i2 ≠ z := S.zi2.symm
      refine ⟨.ref s.heap.objs.size, _, I1, rfl, ⟨_, x, y, rfl, I.hok.fresh (Nat.le_refl _), rfl, fun l hl => by rw [I.sq_inj hl hqx]; exact hx, fun l hl => by rw [I.sq_inj hl hqy]; exact hy⟩, ⟨z'', (sb.2 _ S.TIz).trans (hk _ _ S.TIz S.TITO S.TIi1 S.TIi2 hTI), ⟨x1, x2, (sb.2 _ S.TOz).trans TO'⟩, v1.1.keep fun o q => (sb.2 _ nz1).trans q, v2.1.keep fun o q => (sb.2 _ nz2).trans q⟩, fun c hcm => ?_⟩
      have hlt : c < s.heap.objs.size := by
        have e' : c = z ∨ c = TI ∨ c = TO ∨ c = i1 ∨ c = i2 := by simpa using hcm
        rcases e' with rfl | rfl | rfl | rfl | rfl
        · exact hzl
        · exact Heap.lt_size hTI
        · exact Heap.lt_size hTO
        · obtain ⟨_, e1, _⟩ := q1.obj; exact Heap.lt_size e1
        · obtain ⟨_, e1, _⟩ := q2.obj; exact Heap.lt_size e1
      rw [upd_ne (Nat.ne_of_lt hlt)]
      exact (hf c hcm).1
    cases st with
    | false => exact wpAny_pyNext_zipD2_item S D1 D2 hz hTI hTO ⟨q1, p⟩ ⟨q2, p2⟩ l1 l2 key
    | true => exact nextS_item S D1 D2 hz hTI hTO ⟨q1, p⟩ ⟨q2, p2⟩ l1 l2 key
  done := by
    intro X hP hw hK hc i pins s σ H E I hf q hg
    subst hP hw hK
    obtain ⟨hz, hTI, ⟨x0, y0, hTO⟩, q1, q2⟩ := q
    obtain ⟨xs, ys, hqx, hqy, le1, le2, hend, hst⟩ := hg
    obtain ⟨its, rv, p⟩ := I.sq hqx
    obtain ⟨its2, rv2, p2⟩ := I.sq hqy
    have l1 := rv.length
    have l2 := rv2.length
    have D1 := draws_sq (prog := X.prog) (w := X.w) (A := X.A.in1) (I.ok.hd hc) k1 i1 a h1 its.toArray
    have D2 := draws_sq (prog := X.prog) (w := X.w) (A := X.A.in1) (I.ok.hd hc) k2 i2 b h2 its2.toArray
    have fin : ∀ (h' : Heap) (tk : Nat), (∀ c o, c ≠ z → c ≠ TO → c ≠ i1 → c ≠ i2 → s.heap.get? c = some o → h'.get? c = some o) → (none : Option Value) = none ∧ Inv X pins σ H { s with heap := h', toks := tk } := fun h' tk hk =>
      ⟨rfl, I.turnedL (t' := tk) (ch := [z, TI, TO, i1, i2]) (fun c o hb q => hk c o (fun q' => hb (by simp [q'])) (fun q' => hb (by simp [q'])) (fun q' => hb (by simp [q'])) (fun q' => hb (by simp [q'])) q) hf⟩
    cases st with
    | false => exact wpAny_pyNext_zipD2_end S D1 D2 hz hTI hTO ⟨q1, p⟩ ⟨q2, p2⟩ (by simp; omega) (by simp; omega) (by simp; omega) fun h' tk hk => fin h' tk hk
    | true =>
      obtain ⟨e1, e2⟩ := hst rfl
      have n1 : its.toArray.size = i := by simp; omega
      have n2 : its2.toArray.size = i := by simp; omega
      rw [n1] at D1
      rw [n2] at D2
      exact nextS_end (I.ok.hd hc) S D1 D2 hz hTI hTO ⟨q1, p⟩ ⟨q2, p2⟩ fun h' hk => fin h' s.toks hk
  self := fun A i s Q E q h => iter_zipB q.1 h
theorem walk_zipB {K : PySem.W.Frag} {st : Bool} {k1 k2 : SK} {a b : Addr} {xs ys : List V} {n : Nat} (hn : n = min xs.length ys.length) (hl : st = true → xs.length = ys.length) :
    Walk (ItzB K st k1 k2 a b) n (fun H => Sq k1 K H a xs ∧ Sq k2 K H b ys) (YPair (fun i => xs[i]?) (fun i => ys[i]?)) := by
  subst hn
  refine ⟨fun i _ hi q => ⟨xs, ys, xs[i]'(by omega), ys[i]'(by omega), q.1, q.2, List.getElem?_eq_getElem (by omega), List.getElem?_eq_getElem (by omega)⟩, fun _ q => ⟨xs, ys, q.1, q.2, by omega, by omega, by omega, fun h => by have := hl h; omega⟩, fun i H v H' _ q y => ?_⟩
  obtain ⟨T, x, z, h1, h2, h3, h4, h5⟩ := y
  exact ⟨T, x, z, h1, h2, h3, h4 xs q.1, h5 ys q.2⟩
theorem apart5 (n a b : Nat) (la : a < n) (lb : b < n) : n + 2 ≠ n + 4 ∧ n + 3 ≠ n + 4 ∧ n + 2 ≠ n + 3 ∧ n + 2 ≠ n ∧ n + 2 ≠ n + 1 ∧ ¬ (n + 4 = n ∨ n + 4 = a) ∧ ¬ (n + 3 = n ∨ n + 3 = a) ∧ ¬ (n + 4 = n + 1 ∨ n + 4 = b) ∧ ¬ (n + 3 = n + 1 ∨ n + 3 = b) ∧ ¬ (n = n + 1 ∨ n = b) ∧ ¬ (n + 1 = n ∨ n + 1 = a) := by omega
theorem le5 (n c : Nat) (h : c = n + 4 ∨ c = n + 2 ∨ c = n + 3 ∨ c = n ∨ c = n + 1) : n ≤ c := by omega
/-- zip(a, b) | zip(a, b, strict=True) -/
def iZipR (K : PySem.W.Frag) (st : Bool) (ta : TA) : TI := fun σ H R => ta σ H fun vs H1 => ∃ (a b : Addr) (k1 k2 : SK) (xs ys : List V), vs = [.ref a, .ref b] ∧ Sq k1 K H1 a xs ∧ Sq k2 K H1 b ys ∧ R (ItzB K st k1 k2 a b) H1
section
variable {X : Cx} {e e2 : Expr} {ta : TA} {p pos tpos : Pos} {elts : List Expr} {kk : Nat}
theorem zip_core {pins : List (Addr × Obj)} {σ : L2.St} {H : Hp} {s : Shared} {R : It → Hp → Prop} {st : Bool} {a b : Addr} {k1 k2 : SK} {xs ys : List V} (I : Inv X pins σ H s) (hqx : Sq k1 X.K H a xs) (hqy : Sq k2 X.K H b ys) (q : R (ItzB X.K st k1 k2 a b) H) (vs : List Value) (kw : List (Str × Value))
    (hc : ∀ (its its2 : Array Value) (Q : Value → Shared → Prop), SqO k1 s.heap a its → SqO k2 (s.heap.push (itO k1 a)) b its2 → (((zipped st (itO k1 a) (itO k2 b) s.heap).get? (s.heap.objs.size + 4) = some { cls := .type "zip", data := .fields #[.none, .bool false, .bool st, .ref (s.heap.objs.size + 2), .ref (s.heap.objs.size + 3)] }) → Q (.ref (s.heap.objs.size + 4)) { s with heap := zipped st (itO k1 a) (itO k2 b) s.heap }) → wpAny (model X.prog X.w) X.A (call (.type "zip") vs kw) Q X.xe s) :
    wpAny (model X.prog X.w) X.A (call (.type "zip") vs kw) (fun v s1 => wpAny (model X.prog X.w) X.A (pyIter v) (PIE X pins σ (.Tuple elts kk tpos) R) X.xe s1) X.xe s := by
  obtain ⟨its, rv, p1⟩ := I.sq hqx
  obtain ⟨its2, rv2, p2⟩ := I.sq hqy
  have la := p1.lt
  have lb := p2.lt
  have z1 : (s.heap.push (itO k1 a)).objs.size = s.heap.objs.size + 1 := Heap.size_push ..
  have z2 : ((s.heap.push (itO k1 a)).push (itO k2 b)).objs.size = s.heap.objs.size + 2 := by rw [Heap.size_push, z1]
  refine hc _ _ _ p1 (p2.keep fun o e => Heap.get?_push_of_some _ e) fun hz => ?_
  generalize hn : s.heap.objs.size = n at *
  have g3 : (zipped st (itO k1 a) (itO k2 b) s.heap).get? (n + 2) = some { cls := .type "tuple", data := .seq #[.ref n, .ref (n + 1)] } := by
    unfold zipped
    have q := Heap.get?_push_size ((s.heap.push (itO k1 a)).push (itO k2 b)) (o := { cls := .type "tuple", data := .seq #[.ref s.heap.objs.size, .ref (s.heap.objs.size + 1)] }) rfl
    rw [z2, hn] at q
    rw [hn]
    exact Heap.get?_push_of_some _ (Heap.get?_push_of_some _ q)
  have g4 : (zipped st (itO k1 a) (itO k2 b) s.heap).get? (n + 3) = some { cls := .type "tuple", data := .seq #[.none, .none] } := by
    unfold zipped
    have q := Heap.get?_push_size (((s.heap.push (itO k1 a)).push (itO k2 b)).push { cls := .type "tuple", data := .seq #[.ref s.heap.objs.size, .ref (s.heap.objs.size + 1)] }) (o := { cls := .type "tuple", data := .seq #[.none, .none] }) rfl
    rw [Heap.size_push, z2] at q
    exact Heap.get?_push_of_some _ q
  have g1 : (zipped st (itO k1 a) (itO k2 b) s.heap).get? n = some (itO k1 a) := by
    unfold zipped
    have q := Heap.get?_push_size s.heap (o := itO k1 a) itO_free
    rw [hn] at q
    exact Heap.get?_push_of_some _ (Heap.get?_push_of_some _ (Heap.get?_push_of_some _ (Heap.get?_push_of_some _ q)))
  have g2 : (zipped st (itO k1 a) (itO k2 b) s.heap).get? (n + 1) = some (itO k2 b) := by
    unfold zipped
    have q := Heap.get?_push_size (s.heap.push (itO k1 a)) (o := itO k2 b) itO_free
    rw [z1] at q
    exact Heap.get?_push_of_some _ (Heap.get?_push_of_some _ (Heap.get?_push_of_some _ q))
  have kp : ∀ c o, s.heap.get? c = some o → (zipped st (itO k1 a) (itO k2 b) s.heap).get? c = some o := fun c o e => by
    unfold zipped
    exact Heap.get?_push_of_some _ (Heap.get?_push_of_some _ (Heap.get?_push_of_some _ (Heap.get?_push_of_some _ (Heap.get?_push_of_some _ e))))
  refine iter_zipB (b := st) (TI := n + 2) (TO := n + 3) (f0 := .none) hz ?_
  have I2 : Inv X pins σ H { s with heap := zipped st (itO k1 a) (itO k2 b) s.heap } := I.kept (t' := s.toks) kp
  have S : ZipSep2 (n + 4) (n + 2) (n + 3) n (n + 1) [n, a] [n + 1, b] := by
    have o := apart5 n a b la lb
    refine ⟨o.1, o.2.1, o.2.2.1, o.2.2.2.1, by simp, ?_, ?_, o.2.2.2.2.1, by simp, ?_, ?_, ?_, ?_⟩ <;> (simp only [List.mem_cons, List.not_mem_nil, or_false]; first | exact o.2.2.2.2.2.1 | exact o.2.2.2.2.2.2.1 | exact o.2.2.2.2.2.2.2.1 | exact o.2.2.2.2.2.2.2.2.1 | exact o.2.2.2.2.2.2.2.2.2.1 | exact o.2.2.2.2.2.2.2.2.2.2)
  refine ⟨n + 4, [n + 4, n + 2, n + 3, n, n + 1], _, _, H, rfl, I2, turn_zipB S (Nat.ne_of_lt la) (Nat.ne_of_lt (Nat.lt_succ_of_lt lb)), ⟨hz, g3, ⟨_, _, g4⟩, SqI.new g1, SqI.new g2⟩, fun c hcm => ?_, q⟩
  have hle : s.heap.objs.size ≤ c := by
    have e' : c = n + 4 ∨ c = n + 2 ∨ c = n + 3 ∨ c = n ∨ c = n + 1 := by simpa using hcm
    rw [hn]
    exact le5 n c e'
  exact I.fpOk hle (I.hok.fresh hle)
theorem pi_zipB (hg : Gl X "zip") (hm : X.mg "zip" = none) (ha : PA X [e, e2] ta)
    (hs : starEach [e, e2] X.env = (false, eval e X.env) :: starEach [e2] X.env := by rfl) (hpl : (backTo pos (starEach [e2] X.env)).any (·.1) = false := by rfl) :
    PI X (.Tuple elts kk tpos) (.Call (.Name "zip" p) [e, e2] [] pos) (iZipR X.K false ta) := by
  refine ⟨fun pins s σ H R I h => Call_ (ld_blt I hg hm PyProof.Rows.boot_zip (PyProof.Rows.callWith_type1 (thn (ha.run pos pins s σ H _ I h) fun us s1 ⟨vs, H1, I1, r1, q1⟩ => ?_) hs hpl))⟩
  obtain ⟨a, b, k1, k2, xs, ys, ex, hqx, hqy, q⟩ := q1
  subst ex
  cases r1 with
  | cons r rr =>
    cases rr with
    | cons r' rr =>
      cases rr
      cases r
      cases r'
      refine zip_core I1 hqx hqy q _ _ fun its its2 Q o1 o2 hQ => callType_new F.called_zip (by decide) (F.typeCall_zip_2 _ _) (F.newCall_zip_2 _ _) (fun obj => F.args_object_init_3 obj _ _) F.entry_zip_new (meets_zip0 (begins_sq k1 a its) (begins_sq k2 b its2)) ⟨o1, o2, ?_⟩
      have hz : (zipped false (itO k1 a) (itO k2 b) s1.heap).get? (s1.heap.objs.size + 4) = some { cls := .type "zip", data := .fields #[.none, .bool false, .bool false, .ref (s1.heap.objs.size + 2), .ref (s1.heap.objs.size + 3)] } := by
        unfold zipped
        rw [← show ((((s1.heap.push (itO k1 a)).push (itO k2 b)).push { cls := .type "tuple", data := .seq #[.ref s1.heap.objs.size, .ref (s1.heap.objs.size + 1)] }).push { cls := .type "tuple", data := .seq #[.none, .none] }).objs.size = s1.heap.objs.size + 4 by simp only [Heap.size_push]]
        exact Heap.get?_push_size _ rfl
      exact ⟨⟨_, hz, rfl⟩, hQ hz⟩
end
end L2
namespace DL
open PySem PySem.Spec PyProof.Rows L2
/-- a list's or a tuple's items -/
def seqD : D → Option (List D)
  | .list ds => some ds
  | .tuple ds => some ds
  | _ => none
theorem seqD_sq {K : PySem.W.Frag} {G H : Hp} {v : V} {d : D} {ds : List D} (le : Same G H) (h : DP K G v d) (e : seqD d = some ds) : ∃ a k xs, v = .ref a ∧ Sq k K G a xs ∧ Sq k K H a xs ∧ DPs K G xs ds := by
  cases h with
  | @lst a xs ds' h1 h2 => cases e; exact ⟨a, .L, xs, rfl, h1, le.seq h1, h2⟩
  | @tup a xs ds' h1 h2 => cases e; exact ⟨a, .T, xs, rfl, h1, SqT.same le h1, h2⟩
  | non => cases e
  | bl _ => cases e
  | int _ => cases e
  | str _ => cases e
  | dic _ _ => cases e
theorem Sq.same {k : SK} {K : PySem.W.Frag} {G G' : Hp} {a : Addr} {xs : List V} (s : Same G G') (h : Sq k K G a xs) : Sq k K G' a xs := by
  cases k with
  | L => exact s.seq h
  | T => exact SqT.same s h
theorem it_zipB {K : PySem.W.Frag} {G0 : Hp} {st : Bool} {k1 k2 : SK} {a b : Addr} {xs ys : List V} {ds es : List D} (h1 : Sq k1 K G0 a xs) (h2 : Sq k2 K G0 b ys) (h : DPs K G0 xs ds) (h' : DPs K G0 ys es) (hl : st = true → ds.length = es.length) : Iterates K G0 (ItzB K st k1 k2 a b) (zipD ds es) := by
  refine ⟨_, _, walk_zipB (xs := xs) (ys := ys) (by unfold zipD; rw [List.length_zipWith, h.length, h'.length]) (fun e => by rw [h.length, h'.length]; exact hl e), fun _ s => ⟨Sq.same s h1, Sq.same s h2⟩, fun i H x H' G s1 s2 hi hy => ?_⟩
  obtain ⟨T, u, y, e1, e2, e3, e4, e5⟩ := hy
  subst e1 e3
  obtain ⟨d, hd, hp⟩ := h.getV e4
  obtain ⟨d', hd', hp'⟩ := h'.getV e5
  have g := Grow.new s2 e2 (.tup [u, y])
  exact ⟨_, _, zipD_get hd hd', g, .tup (.inl (.inl upd_same)) (.cons ((hp.mono s1).mono g.g) (.cons ((hp'.mono s1).mono g.g) .nil))⟩
def pZip (st : Bool) (a b : D) : Option (List D) := (seqD a).bind fun ds => (seqD b).bind fun es => if st && (ds.length != es.length) then none else some (zipD ds es)
def iZipB (st : Bool) (m n : M D) : M (List D) := fun r => (m r).bind fun a => (n a.2).bind fun b => (ofO (pZip st a.1 b.1)).bind fun d => .ok (d, b.2)
theorem absZipB {K : PySem.W.Frag} {tcK : TabC K} {E : WX} {ta tb : TE} {m n : M D} {st : Bool} (ha : AbsD K E ta m) (hb : AbsD K E tb n) : AbsI K E (iZipR K st (tCons ta (tCons tb tNil))) (iZipB st m n) := by
  intro G as r σ H Q R w
  refine ha G as r σ H _ R ((Wp.bind w).mono (fun a w1 => ?_) fun _ z => z)
  intro G1 H1 x S1 R1 dx
  refine hb G1 as a.2 σ H1 _ R1 ((Wp.bind w1).mono (fun b w2 => ?_) fun _ z => XPost.on R1 S1 z)
  intro G2 H2 y S2 R2 dy
  obtain ⟨ds, e, w3⟩ := wp_bindO w2
  unfold pZip at e
  cases e1 : seqD a.1 with
  | none => rw [e1] at e; cases e
  | some xs =>
    rw [e1] at e
    cases e2 : seqD b.1 with
    | none => rw [e2] at e; cases e
    | some ys =>
      rw [e2] at e
      have e : (if st && (xs.length != ys.length) then none else some (zipD xs ys)) = some ds := e
      split at e
      · cases e
      · rename_i hne
        cases e
        obtain ⟨p, k1, us, rfl, q1, q1', d1⟩ := seqD_sq R2.le (dx.mono S2.g) e1
        obtain ⟨q, k2, vs, rfl, q2, q2', d2⟩ := seqD_sq R2.le dy e2
        refine ⟨p, q, k1, k2, us, vs, rfl, q1', q2', w3 G2 H2 _ (S1.trans R1 S2) R2 (it_zipB q1 q2 d1 d2 fun hs => ?_)⟩
        rw [hs] at hne
        simpa using hne
end DL
/-! # DLK: sorted of any data that are alike -/
namespace DL
open PySem PySem.Spec PySem.W PyProof.Rows L2
section
variable {X : Cx} {pins : List (Addr × Obj)} {σ : L2.St} {H G : Hp} {s : Shared}
mutual
/-- data without dicts, as the library reads them -/
theorem DP.reads (I : Inv X pins σ H s) (le : Same G H) : ∀ {v : V} {d : D} {u : Value}, DP X.K G v d → alike d d = true → RelV v u → ∃ as, Reads s.heap u d as
  | _, _, u, .non, _, r => by obtain rfl : u = Value.none := r; exact ⟨_, .none⟩
  | _, _, u, .bl b, _, r => by obtain rfl : u = Value.bool b := r; exact ⟨_, .bool b⟩
  | _, _, u, .int i, _, r => by obtain ⟨t, rfl⟩ := r; exact ⟨_, .int i t⟩
  | _, _, u, .str x, _, r => by obtain ⟨t, rfl⟩ := r; exact ⟨_, .str x t⟩
  | _, _, u, .lst (a := a) h1 h2, e, r => by
    obtain rfl : u = Value.ref a := r
    obtain ⟨its, rv, ⟨o, n, ho, hc, _, hd⟩, _⟩ := I.list (le.seq h1)
    obtain ⟨as, q⟩ := DPs.reads I le h2 (by simpa [alike] using e) rv
    exact ⟨_, .list ho hc hd q⟩
  | _, _, u, .tup (a := a) h1 h2, e, r => by
    obtain rfl : u = Value.ref a := r
    obtain ⟨its, rv, ⟨o, ho, hc, n, hd⟩, _⟩ := I.tuple (SqT.same le h1)
    obtain ⟨as, q⟩ := DPs.reads I le h2 (by simpa [alike] using e) rv
    exact ⟨_, .tuple ho hc hd q⟩
  | _, _, _, .dic _ _, e, _ => by simp [alike] at e
theorem DPs.reads (I : Inv X pins σ H s) (le : Same G H) : ∀ {vs : List V} {ds : List D} {us : List Value}, DPs X.K G vs ds → alikeAll ds ds = true → Vals vs us → ∃ as, ReadsAll s.heap us ds as
  | _, _, _, .nil, _, .nil => ⟨_, .nil⟩
  | _, _, _, .cons h1 h2, e, .cons r1 r2 => by
    simp only [alikeAll, Bool.and_eq_true] at e
    obtain ⟨as, q1⟩ := DP.reads I le h1 e.1 r1
    obtain ⟨bs, q2⟩ := DPs.reads I le h2 e.2 r2
    exact ⟨_, .cons q1 q2⟩
end
end
def isTup1 : D → Bool
  | .tuple (_ :: _) => true
  | _ => false
def notTN : D → Bool
  | .tuple _ => false
  | .none => false
  | _ => true
/-- what sorted takes -/
def okSort (ds : List D) : Bool := ds.all (fun d => ds.all fun e => alike d e) && (ds.all isTup1 || ds.all notTN) && ds.all fun d => decide (d.depth ≤ 40)
/-- in order, like ones as they were -/
def sortD (b : Bool) (ds : List D) : List D := ds.mergeSort (dataLe b id)
section
variable {prog : Program} {w : World} {A : Around} {E : Value → Shared → Prop} {s : Shared}
end
section
variable {X : Cx}
end
section
variable {K : PySem.W.Frag}
def pSortD (b : Bool) : List D → Option RV
  | [d] => (seqD d).bind fun ds => if okSort ds = true then some (.own (.lst (sortD b ds))) else none
  | _ => none
end
end DL
/-! # DLL: how many unlike numbers; extend; sorted numbers and pairs -/
namespace DL
open PySem PySem.Spec PySem.W PyProof.Rows L2
/-- each number once -/
def nubI : List Int → List Int
  | [] => []
  | x :: xs => if x ∈ xs then nubI xs else x :: nubI xs
theorem nubI_mem {y : Int} : ∀ {l : List Int}, y ∈ nubI l ↔ y ∈ l
  | [] => Iff.rfl
  | x :: xs => by
    unfold nubI
    split
    · rename_i h
      rw [nubI_mem, List.mem_cons]
      exact ⟨.inr, fun z => z.elim (fun z => z ▸ h) id⟩
    · rw [List.mem_cons, List.mem_cons, nubI_mem]
theorem nubI_nodup : ∀ {l : List Int}, (nubI l).Nodup
  | [] => List.nodup_nil
  | x :: xs => by
    unfold nubI
    split
    · exact nubI_nodup
    · rename_i h
      exact List.nodup_cons.mpr ⟨fun z => h (nubI_mem.mp z), nubI_nodup⟩
theorem nubI_len {l m : List Int} (hn : m.Nodup) (h : ∀ y, y ∈ m ↔ y ∈ l) : m.length = (nubI l).length :=
  ((List.perm_ext_iff_of_nodup hn nubI_nodup).mpr fun y => (h y).trans nubI_mem.symm).length_eq
theorem nubI_le : ∀ l : List Int, (nubI l).length ≤ l.length
  | [] => Nat.le_refl _
  | x :: xs => by
    unfold nubI
    have := nubI_le xs
    split <;> simp only [List.length_cons] <;> omega
theorem firstMet_mem (ns : List Int) : ∀ i ≤ ns.length, (∀ y, y ∈ firstMet (fun i => ns.getD i 0) i ↔ y ∈ ns.take i) ∧ (firstMet (fun i => ns.getD i 0) i).Nodup
  | 0, _ => ⟨fun y => by rw [firstMet_zero]; simp, by rw [firstMet_zero]; exact List.nodup_nil⟩
  | i + 1, h => by
    obtain ⟨h1, h2⟩ := firstMet_mem ns i (by omega)
    have hg : ns[i]? = some (ns.getD i 0) := by rw [List.getD_eq_getElem?_getD, List.getElem?_eq_getElem (by omega)]; rfl
    have ht : ns.take (i + 1) = ns.take i ++ [ns.getD i 0] := by rw [List.take_add_one, hg]; rfl
    rw [firstMet_succ, ht]
    unfold step_dedup
    split
    · rename_i hany
      have hm : ns.getD i 0 ∈ ns.take i := by
        rw [List.any_eq_true] at hany
        obtain ⟨z, hz, e⟩ := hany
        have := beq_iff_eq.mp e
        exact (h1 _).mp (this ▸ hz)
      refine ⟨fun y => ?_, h2⟩
      rw [h1, List.mem_append, List.mem_singleton]
      exact ⟨.inl, fun z => z.elim id fun z => z ▸ hm⟩
    · rename_i hany
      have hm : ns.getD i 0 ∉ firstMet (fun i => ns.getD i 0) i := fun z => hany (List.any_eq_true.mpr ⟨_, z, beq_iff_eq.mpr rfl⟩)
      refine ⟨fun y => by rw [List.mem_append, List.mem_append, h1], ?_⟩
      rw [List.nodup_append]
      exact ⟨h2, by simp, fun a ha b hb e => by rw [List.mem_singleton] at hb; subst hb; subst e; exact hm ha⟩
/-- len(set(x)) -/
def tLenSet (K : PySem.W.Frag) (ta : TE) : TE := fun σ H Q => ta σ H fun x H1 => ∃ (l : Addr) (k : SK) (ns : List Int), x = V.ref l ∧ Sq k K H1 l (ns.map V.int) ∧ ns.length < 4000 ∧ Q (.int (nubI ns).length) H1
theorem pe_lenSet {X : Cx} {a : Expr} {ta : TE} {p p2 q pos : Pos} (hg : Gl X "len") (hm : X.mg "len" = none) (hg2 : Gl X "set") (hm2 : X.mg "set" = none) (ha : PE X a ta) (hc : X.calm = true := by rfl)
    (na : starEach [a] X.env = (false, eval a X.env) :: starEach [] X.env := by rfl) : PE X (.Call (.Name "len" p) [.Call (.Name "set" p2) [a] [] q] [] pos) (tLenSet X.K ta) := by
  refine ⟨fun pins s σ H Q I h => Call_ (ld_blt I hg hm PySem.boot_len (PyProof.Rows.callWith_builtin1 (PyProof.Rows.args_cons (Call_ (ld_blt I hg2 hm2 PyProof.Rows.boot_set ?_)) rfl) rfl rfl))⟩
  refine PyProof.Rows.callWith_type1 (PyProof.Rows.args_cons (thn (ha.run pins s σ H _ I h) fun v s1 ⟨x, H1, I1, r1, q1⟩ => PyProof.Rows.args_nil ?_) na) na rfl
  obtain ⟨l, k, ns, rfl, hq, h1, q1⟩ := q1
  obtain rfl : v = Value.ref l := r1
  have fin : ∀ (h' : Heap) (tk : Nat) (o : Obj) (es : Array (Int × Value)) (ep : Nat) (t : SetTable), h'.get? s1.heap.objs.size = some o → o.ExactSet → o.data = .set es ep t → t.fits es.size = true → es.size = (nubI ns).length → (∀ b o, s1.heap.get? b = some o → h'.get? b = some o) →
      wpAny (model X.prog X.w) X.A (spliced (backTo pos (starEach [] X.env))) (fun vs s₁ => wpAny (model X.prog X.w) X.A (call (.builtin "len") (Value.ref s1.heap.objs.size :: vs)) (EP X pins σ Q) X.xe s₁) X.xe { s1 with heap := h', toks := tk } := by
    intro h' tk o es ep t ho hex hd hf hn hk
    refine PyProof.Rows.args_nil ?_
    have I2 : Inv X pins σ H1 { s1 with heap := h', toks := tk } := I1.kept hk
    have := nubI_le ns
    exact call_len_set ho hex hd hf (by rw [hn]; show _ < _; omega) ⟨.int (nubI ns).length, H1, I2.tok _, ⟨_, by rw [hn]⟩, q1⟩
  cases k with
  | L =>
    obtain ⟨its, r, pl, hz⟩ := I1.list hq
    have hl : its.toArray.size = ns.length := by rw [List.size_toArray, ← r.length, List.length_map]
    refine call_set_list (I1.ok.hd hc) pl.isList (ns := ns) (by simpa using r.ints) (by unfold scanBound; omega) fun h' tk hS hk => ?_
    obtain ⟨o, es, ep, t, ho, hex, hd, _, _, _, hf, hn⟩ := hS
    obtain ⟨m1, m2⟩ := firstMet_mem ns ns.length (Nat.le_refl _)
    rw [List.take_length] at m1
    exact fin h' tk o es ep t ho hex hd hf (by rw [hn, hl]; exact nubI_len m2 m1) fun b o e => hk b o (Heap.lt_size e) e
  | T =>
    obtain ⟨its, r, pl, hz⟩ := I1.tuple hq
    refine call_set_tupI ns (I1.ok.hd hc) pl (by simpa using r.ints) (by unfold scanBound; omega) fun h' tk c hS hcl hk => ?_
    obtain ⟨o, es, ep, t, ho, hex, hd, _, hnd, hmem, _, hf, hn, _⟩ := hS
    refine fin h' tk o es ep t ho hex hd hf ?_ hk
    have e1 : es.size = (es.toList.map keyOf).length := by rw [List.length_map, Array.length_toList]
    rw [e1]
    refine nubI_len hnd fun y => ?_
    rw [← hmem y]
    exact decide_eq_true_iff
def pLenSet : D → Option D := fun d => (seqD d).bind fun ds => (ints? ds).bind fun ns => if ns.length < 4000 then some (.int (nubI ns).length) else none
def dLenSet (m : M D) : M D := dUn pLenSet m
theorem absLenSet {K : PySem.W.Frag} {tcK : TabC K} {E : WX} {ta : TE} {m : M D} (ha : AbsD K E ta m) : AbsD K E (tLenSet K ta) (dLenSet m) := by
  intro G as r σ H Q R w
  refine ha G as r σ H _ R ((Wp.bind w).mono (fun a w1 => ?_) fun _ z => z)
  intro G1 H1 x S1 R1 dx
  obtain ⟨d, e, w3⟩ := wp_bindO w1
  unfold pLenSet at e
  cases e1 : seqD a.1 with
  | none => rw [e1] at e; cases e
  | some ds =>
    rw [e1] at e
    cases e2 : ints? ds with
    | none => simp only [Option.bind, e2] at e; cases e
    | some ns =>
      simp only [Option.bind, e2] at e
      split at e
      · rename_i hl
        cases e
        obtain ⟨l, k, xs, rfl, _, q1, d1⟩ := seqD_sq R1.le dx e1
        have := ints?_eq e2
        subst this
        have hx := d1.ints
        subst hx
        exact ⟨l, k, ns, rfl, q1, hl, w3 G1 H1 _ S1 R1 (.int _)⟩
      · cases e
instance pu_LenSet (m : M D) [ha : PureM m] : PureM (dLenSet m) := inferInstanceAs (PureM (dUn pLenSet m))
/-! ### sorted numbers, sorted pairs -/
theorem okSort_ints (ns : List Int) : okSort (ns.map .int) = true := by
  unfold okSort
  simp only [Bool.and_eq_true, Bool.or_eq_true, List.all_eq_true, decide_eq_true_eq, List.mem_map]
  refine ⟨⟨?_, .inr ?_⟩, ?_⟩
  · rintro d ⟨a, _, rfl⟩ e ⟨b, _, rfl⟩; rfl
  · rintro d ⟨a, _, rfl⟩; rfl
  · rintro d ⟨a, _, rfl⟩; exact Nat.zero_le _
theorem sort_down (ns : List Int) : ns.mergeSort (fun a b => decide (b ≤ a)) = (sortI ns).reverse := by
  have h1 : (ns.mergeSort (fun a b : Int => decide (b ≤ a))).Pairwise (fun a b => b ≤ a) :=
    (List.pairwise_mergeSort (le := fun a b : Int => decide (b ≤ a)) (fun a b c h1 h2 => by simp at *; omega) (fun a b => by simp; omega) ns).imp fun h => by simpa using h
  have h2 : ((sortI ns).reverse).Pairwise (fun a b => b ≤ a) := List.pairwise_reverse.mpr (sortI_sorted ns)
  have hp : (ns.mergeSort (fun a b : Int => decide (b ≤ a))).Perm (sortI ns).reverse := (List.mergeSort_perm ns _).trans ((sortI_perm ns).symm.trans (List.reverse_perm _).symm)
  exact hp.eq_of_pairwise (fun a b _ _ h h' => Int.le_antisymm h' h) h1 h2
theorem sortD_ints (b : Bool) (ns : List Int) : sortD b (ns.map .int) = (sortB b ns).map .int := by
  unfold sortD sortB
  cases b with
  | false =>
    rw [if_neg Bool.false_ne_true]
    unfold sortI
    rw [List.map_mergeSort]
    intro a _ b _
    exact (congrFun (congrFun (dataLe_int (β := Int) fun p => p) a) b).symm
  | true =>
    rw [if_pos rfl, ← sort_down, List.map_mergeSort]
    intro a _ b _
    exact (congrFun (congrFun (dataGe_int (β := Int) fun p => p) a) b).symm
theorem v_sortDL (b : Bool) (ns : List Int) : pSortD b [.list (ns.map .int)] = some (.own (.lst ((sortB b ns).map .int))) := by
  show (if okSort (ns.map .int) = true then some (RV.own (.lst (sortD b (ns.map .int)))) else none) = _
  rw [if_pos (okSort_ints ns), sortD_ints]
theorem v_sortDT (b : Bool) (ns : List Int) : pSortD b [.tuple (ns.map .int)] = some (.own (.lst ((sortB b ns).map .int))) := by
  show (if okSort (ns.map .int) = true then some (RV.own (.lst (sortD b (ns.map .int)))) else none) = _
  rw [if_pos (okSort_ints ns), sortD_ints]
def pairD (p : Int × Int) : D := .tuple [.int p.1, .int p.2]
/-- pairs in order -/
def leP (p q : Int × Int) : Bool := decide (p.1 < q.1 ∨ (p.1 = q.1 ∧ p.2 ≤ q.2))
def sortP (ps : List (Int × Int)) : List (Int × Int) := ps.mergeSort leP
theorem okSort_pairs (ps : List (Int × Int)) : okSort (ps.map pairD) = true := by
  unfold okSort
  simp only [Bool.and_eq_true, Bool.or_eq_true, List.all_eq_true, decide_eq_true_eq, List.mem_map]
  refine ⟨⟨?_, .inl ?_⟩, ?_⟩
  · rintro d ⟨a, _, rfl⟩ e ⟨b, _, rfl⟩; rfl
  · rintro d ⟨a, _, rfl⟩; rfl
  · rintro d ⟨a, _, rfl⟩; show PyData.depth (.tuple [.int a.1, .int a.2]) ≤ 40; simp [PyData.depth, PyData.depthAll]
theorem sortD_pairs (ps : List (Int × Int)) : sortD false (ps.map pairD) = (sortP ps).map pairD := by
  unfold sortD sortP
  rw [List.map_mergeSort]
  intro a _ b _
  have := congrFun (congrFun (dataLe_ii (β := Int × Int) (fun p => p.1) (fun p => p.2)) a) b
  exact this.symm
theorem v_sortDP (ps : List (Int × Int)) : pSortD false [.list (ps.map pairD)] = some (.own (.lst ((sortP ps).map pairD))) := by
  show (if okSort (ps.map pairD) = true then some (RV.own (.lst (sortD false (ps.map pairD)))) else none) = _
  rw [if_pos (okSort_pairs ps), sortD_pairs]
end DL
/-! # DLM: a tuple so many times -/
namespace L2
open PySem PySem.Spec PyProof.Rows
end L2
namespace DL
open PySem PySem.Spec PyProof.Rows L2
end DL
/-! # DLN: a list or a tuple turned round by a slice -/
namespace HT
open PySem PySem.Spec PyProof.Rows
section
variable {prog : Program} {w : World} {A : Around} {E : Value → Shared → Prop} {s : Shared}
end
end HT
namespace L2
open PySem PySem.Spec PyProof.Rows HT
section
variable {X : Cx}
end
end L2
namespace DL
open PySem PySem.Spec PyProof.Rows L2
section
variable {K : PySem.W.Frag} {tcK : TabC K} {E : WX} {te : TE} {m : M D}
/-- x[::-1] of a list or a tuple -/
def eRevA (m : M D) : M RV := fun r => (m r).bind fun a => match a.1 with
  | .list ds => .ok (.own (.lst ds.reverse), a.2)
  | .tuple ds => .ok (.val (.tuple ds.reverse), a.2)
  | _ => .no
end
instance pu_RevA (m : M D) [ha : PureM m] : PureM (eRevA m) := ⟨fun r a h => by
  obtain ⟨u, h1, h2⟩ := bind_ok h
  split at h2
  · cases h2; exact ha.pure _ _ h1
  · cases h2; exact ha.pure _ _ h1
  · cases h2⟩
section
variable {X : Cx} {tcX : TabC X.K} {E : WX} {a : Expr} {ma : M D} {pos p2 : Pos}
end
/-- the rest of a reading that must leave the slots as they were -/
noncomputable def keepK (r : Rho) (a : D × Rho) : Res (D × Rho) := @ite _ (a.2 = r) (Classical.propDecidable _) (.ok a) .no
noncomputable def keepM (m : M D) : M D := fun r => (m r).bind (keepK r)
instance pu_keep (m : M D) : PureM (keepM m) := ⟨fun r a h => by
  obtain ⟨u, h1, h2⟩ := bind_ok h
  unfold keepK at h2
  split at h2
  · cases h2; assumption
  · cases h2⟩
theorem v_keep (r : Rho) (d : D) : keepK r (d, r) = .ok (d, r) := by
  unfold keepK
  rw [if_pos rfl]
end DL
/-! # DLO: own errors that keep one thing: made and raised -/
namespace DL
open PySem PySem.Spec PyProof.Rows L2
section
variable {P : Program} {w : World} {K : PySem.W.Frag} {mg : Str → Option Value} {base : Heap}
end
/-- raise C(e) -/
def sRaise (x f : Str) (ms : M (List D)) : SM := fun r => (ms r).bind fun a => match a.1 with
  | [d] => .ex (⟨x, f, d⟩, a.2)
  | _ => .no
section
variable {K : PySem.W.Frag} {tcK : TabC K} {E : WX}
end
section
variable {X : Cx} {tcX : TabC X.K} {E : WX} {p pos : Pos} {a : Expr} {ms : M (List D)}
end
end DL
/-! # DLU: try .. except C as e, the error's field read in the suite -/
namespace DL
open PySem PySem.Spec PyProof.Rows L2
def noExn (r : Rho) : Bool := r.all fun s => match s with
  | .exn _ => false
  | _ => true
/-- the end of an except suite: its name goes -/
def endX (i : Nat) (m : Res (Fl × Rho)) : Res (Fl × Rho) := (noEx m).bind fun a => if noExn (a.2.set i .non) = true ∧ free a.2 i = true then .ok (a.1, a.2.set i .non) else .no
/-- try: mb except .. as e (slot i): msu; cat: what the clause catches -/
def sTry (i : Nat) (cat : Str → Option Bool) (mb msu : SM) : SM := fun r => match mb r with
  | .ok a => .ok a
  | .no => .no
  | .ex x => match cat x.1.C with
    | some true => if noExn x.2 = true ∧ free x.2 i = true then endX i (msu (x.2.set i (.exn x.1))) else .no
    | some false => .ex x
    | none => .no
section
variable {K : PySem.W.Frag} {tcK : TabC K}
end
/-- e.f, e the error at hand -/
def dExn (i : Nat) (f : Str) : M D := fun r => match r[i]? with
  | some (.exn x) => if x.fld = f then .ok (x.d, r) else .no
  | _ => .no
section
variable {X : Cx} {tcX : TabC X.K} {E : WX}
end
end DL
/-! # DLV: instances of own classes: fields, methods, making -/
namespace DL
open PySem PySem.Spec PyProof.Rows L2
/-! ### fields -/
def putD (f : Str) (v : D) : List (Str × D) → List (Str × D)
  | [] => [(f, v)]
  | (g, x) :: r => if g = f then (g, v) :: r else (g, x) :: putD f v r
section
variable {K : PySem.W.Frag} {G : Hp} {f : Str}
theorem Fld.lookup : ∀ {vs : List (Str × V)} {fs : List (Str × D)} {d : D}, Fld K G vs fs → fs.lookup f = some d → ∃ v, vs.lookup f = some v ∧ DP K G v d
  | [], [], _, _, e => by cases e
  | (x, v) :: vs, (y, d) :: ds, d0, ⟨h1, h2, h3⟩, e => by
    subst h1
    rw [List.lookup_cons] at e ⊢
    cases q : f == x with
    | true => rw [q] at e; cases e; exact ⟨v, rfl, h2⟩
    | false => rw [q] at e; exact Fld.lookup h3 e
  | [], _ :: _, _, h, _ => h.elim
  | _ :: _, [], _, h, _ => h.elim
theorem Fld.length : ∀ {vs : List (Str × V)} {fs : List (Str × D)}, Fld K G vs fs → vs.length = fs.length
  | [], [], _ => rfl
  | (_, _) :: _, (_, _) :: _, ⟨_, _, h⟩ => congrArg (· + 1) (Fld.length h)
  | [], _ :: _, h => h.elim
  | _ :: _, [], h => h.elim
theorem Fld.put {v : V} {d : D} (hd : DP K G v d) : ∀ {vs : List (Str × V)} {fs : List (Str × D)}, Fld K G vs fs → Fld K G (putF f v vs) (putD f d fs)
  | [], [], _ => ⟨rfl, hd, trivial⟩
  | (x, u) :: vs, (y, e) :: ds, ⟨h1, h2, h3⟩ => by
    subst h1
    unfold putF putD
    split
    · exact ⟨rfl, hd, h3⟩
    · exact ⟨rfl, h2, Fld.put hd h3⟩
  | [], _ :: _, h => h.elim
  | _ :: _, [], h => h.elim
end
/-- x.f, x a slot that owns an instance of C -/
def dFld (i : Nat) (C f : Str) : M D := fun r => match r[i]? with
  | some (.own _ (.ins C' fs)) => if C' = C then ((ofO (fs.lookup f)).bind fun d => .ok (d, r)) else .no
  | _ => .no
/-- x.f = e -/
def sFldM (i : Nat) (C f : Str) (m : M D) : SM := fun r => (m r).bind fun a => match a.2[i]? with
  | some (.own p (.ins C' fs)) => if C' = C ∧ fs.length < 1000 then .ok (.nx, a.2.set i (.own p (.ins C' (putD f a.1 fs)))) else .no
  | _ => .no
/-- x.f += e, whole numbers -/
def sFldAdd (i : Nat) (C f : Str) (m : M D) : SM := fun r => match r[i]? with
  | some (.own _ (.ins C' fs)) => if C' = C then (match fs.lookup f with
    | some (.int j) => (m r).bind fun a => match a.2[i]?, a.1 with
      | some (.own p (.ins C2 fs2)), .int k => if C2 = C ∧ fs2.length < 1000 then .ok (.nx, a.2.set i (.own p (.ins C2 (putD f (.int (j + k)) fs2)))) else .no
      | _, _ => .no
    | _ => .no) else .no
  | _ => .no
section
variable {K : PySem.W.Frag} {tcK : TabC K} {E : WX} {te : TE} {m : M D} {i : Nat} {C f : Str}
/-! ### x.f, y.g = .. -/
def bFld (i : Nat) (C f : Str) : BM := fun d r => match r[i]? with
  | some (.own p (.ins C' fs)) => if C' = C ∧ fs.length < 1000 then some (r.set i (.own p (.ins C' (putD f d fs)))) else none
  | _ => none
end
section
variable {X : Cx}
end
/-! ### methods -/
/-- x.m(..), x a slot that owns an instance of C -/
def eMeth (i : Nat) (C mn : Str) (n : Nat) (f : Den) (ms : M (List ASl)) : M RV := fun r => match r[i]? with
  | some (.own _ (.ins C' fs)) => if C' = C ∧ fs.lookup mn = none then eCall n f (arR i ms) r else .no
  | _ => .no
/-- (a new instance of C).m(..) -/
def eMethT (C mn : Str) (n : Nat) (f : Den) (m : M RV) (ms : M (List ASl)) : M RV := fun r => (m r).bind fun a => match a.1 with
  | .own (.ins C' fs) => if C' = C ∧ fs.lookup mn = none then eCallT n f (fun r => .ok (.own (.ins C' fs), r)) ms a.2 else .no
  | _ => .no
/-- C(..): a new instance, then __init__ -/
def eMake (C : Str) (n : Nat) (f : Den) (ms : M (List ASl)) : M RV := fun r => (ms r).bind fun b => if b.1.length + 1 = n then ((ofO (valsOf b.1)).bind fun sl => leaveX b.2 (match f (.own true (.ins C []) :: sl) with
  | .ok (.val .none, .own _ (.ins C' fs) :: _) => if C' = C then .ok (.own (.ins C' fs), []) else .no
  | .ok _ => .no
  | .ex x => .ex x
  | .no => .no)) else .no
section
variable {X : Cx} {k : Nat} {f C : Addr} {fd : FuncData} {ps : List Str} {sp : Sp} {E : L2.St → XK} {x m : Str} {p pos apos : Pos} {e o : Expr} {es : List Expr} {ta : TE} {t : TA}
end
section
variable {K : PySem.W.Frag} {tcK : TabC K} {E : WX} {te : TE} {t : TA} {ms : M (List ASl)} {i n : Nat} {C mn : Str} {f : Den}
end
end DL
/-! # DLW: methods' texts, tuples of texts, three names at once, ranges downwards, x += e, x[i] += e -/
namespace DL
open PySem PySem.Spec PyProof.Rows L2
/-! ### three names at once -/
def sPar3 (i j l : Nat) (a b c : M D) : SM := fun r => (a r).bind fun x => (b x.2).bind fun y => (c y.2).bind fun z =>
  if free z.2 i = true ∧ free z.2 j = true ∧ free z.2 l = true ∧ i ≠ j ∧ i ≠ l ∧ j ≠ l then .ok (.nx, ((z.2.set i (.val x.1)).set j (.val y.1)).set l (.val z.1)) else .no
section
variable {K : PySem.W.Frag} {tcK : TabC K} {E : WX} {ta tb tc : TE} {a b c : M D}
end
/-! ### ranges downwards -/
section
variable {K : PySem.W.Frag} {tcK : TabC K} {E : WX} {t : TA} {ms : M (List D)}
end
/-! ### x[i] += e -/
section
variable {X : Cx}
end
/-- x[i] += e, whole numbers in a list of the slot's own -/
def sAugPut (i : Nat) (mi m : M D) : SM := fun r => match r[i]? with
  | some (.own _ (.lst _)) => (mi r).bind fun b => match b.2[i]?, b.1 with
    | some (.own _ (.lst ds)), .int k => (ofO (atI ds k)).bind fun old => (m b.2).bind fun a => match a.2[i]?, old, a.1 with
      | some (.own p (.lst es)), .int u, .int v => (ofO (ixD es.length k)).bind fun j => .ok (.nx, a.2.set i (.own p (.lst (es.set j (.int (u + v))))))
      | _, _, _ => .no
    | _, _ => .no
  | _ => .no
section
variable {K : PySem.W.Frag} {tcK : TabC K} {E : WX} {te ti : TE} {m mi : M D}
/-- x += e, whole numbers -/
def sAugN (i : Nat) (m : M D) : SM := fun r => match r[i]? with
  | some (.val (.int u)) => (m r).bind fun a => match a.1 with
    | .int v => if free a.2 i = true then .ok (.nx, a.2.set i (.val (.int (u + v)))) else .no
    | _ => .no
  | _ => .no
end
end DL
/-! # DLX: in, not in of any data without dicts -/
namespace DL
open PySem PySem.Spec PyProof.Rows L2
section
variable {X : Cx}
end
end DL
/-! # DLZ: enumerate(x, start=1) of lists and tuples -/
namespace L2
open PySem PySem.Spec PyProof.Rows
end L2
namespace DL
open PySem PySem.Spec PyProof.Rows L2
section
variable {K : PySem.W.Frag} {tcK : TabC K} {G0 : Hp} {E : WX} {te : TE} {m : M D}
def iEnumB (m : M D) : M (List D) := fun r => (m r).bind fun a => (ofO (seqD a.1)).bind fun ds => .ok (enumD 1 ds, a.2)
end
/-! tuple(range(n)) -/
noncomputable def pTR (d : D) : Option D := match d with
  | .int j => @ite _ (RgOk 0 j) (Classical.propDecidable _) (some (.tuple (rangeD 0 (j - 0).toNat))) none
  | _ => none
noncomputable def dTR1 (m : M D) : M D := fun r => (m r).bind fun a => (ofO (pTR a.1)).bind fun d => .ok (d, a.2)
/-! a name's own list, asked how long it is and whether it is another, where it stands -/
def dLenO (i : Nat) : M D := fun r => match r[i]? with | some (.own _ (.lst ds)) => .ok (.int ds.length, r) | _ => .no
def dNeO (i : Nat) (m : M D) : M D := fun r => match r[i]? with
  | some (.own _ (.lst _)) => (m r).bind fun b => (match b.2[i]? with
    | some (.own _ (.lst ds)) => (ofO (pNe (.list ds) b.1)).bind fun d => .ok (d, b.2)
    | _ => .no)
  | _ => .no
end DL
/-! # DLl: a lambda without parameters handed to a def that calls it in a try -/
namespace DL
open PySem PySem.Spec PyProof.Rows L2
/-! ### a state in which nothing is one's own -/
def hideS : Sl → Sl
  | .val d => .val d
  | _ => .non
def hideR (r : Rho) : Rho := r.map hideS
/-- nothing of one's own -/
def bareR (r : Rho) : Prop := ∀ (i : Nat), (∀ p o, r[i]? ≠ some (Sl.own p o)) ∧ ∀ x, r[i]? ≠ some (Sl.exn x)
theorem bareR.owned {r : Rho} (h : bareR r) {as : Nat → Addr} {a : Addr} : ¬ Owned as r a := fun ⟨i, p, o, e, _⟩ => (h i).1 p o e
/-- the heap has gone on, and nothing that stood is changed -/
structure Grw (T : List (Addr × Str)) (G H G' H' : Hp) : Prop where
  g : Same G G'
  fr : ∀ a, G' a ≠ none → G a ≠ none ∨ H a = none
  keep : ∀ a o, H a = some o → nT o → H' a = some o
  alive : ∀ a, H a ≠ none → H' a ≠ none
  le : Same G' H'
  tabs : TabR T G' H'
section
variable {K : PySem.W.Frag} {tcK : TabC K} {G G' G1 : Hp} {as as' as1 : Nat → Addr} {r r' r1 : Rho} {σ σ' : L2.St} {H H' H1 : Hp}
theorem Grw.stp (g : Grw (TabC.T K) G H G' H') : Stp G as r H G' as r H' :=
  ⟨g.g, fun a h => (g.fr a h).elim .inl fun z => .inr (.inl z), fun a o h _ n => g.keep a o h n, g.alive, fun a h => .inl h, fun i o h => ⟨rfl, o, h⟩⟩
theorem Grw.trans {T : List (Addr × Str)} {G2 H2 : Hp} (a : Grw T G H G1 H1) (b : Grw T G1 H1 G2 H2) : Grw T G H G2 H2 :=
  ⟨a.g.trans b.g, fun x h => by
    rcases b.fr x h with z | z
    · exact a.fr x z
    · refine .inr ?_
      cases e : H x with
      | none => rfl
      | some o => exact absurd z (a.alive x (by rw [e]; exact fun z => nomatch z)), fun x o h n => b.keep x o (a.keep x o h n) n, fun x h => b.alive x (a.alive x h), b.le, b.tabs⟩
/-- a state of data alone, in a later heap -/
theorem Rel.later {G0 : Hp} (hv : ∀ (i : Nat) (d : D), r[i]? = some (Sl.val d) → ∃ v, σ[i]? = some (some v) ∧ DP K G0 v d) (hl : r.length = σ.length) (hb : bareR r) (s : Same G0 G) (le : Same G H) (t : TabR (TabC.T K) G H) : Rel K G as r σ H :=
  ⟨le, hl, fun i d e => let ⟨v, h1, h2⟩ := hv i d e; ⟨v, h1, h2.mono s⟩, fun i p o e => absurd e ((hb i).1 p o), fun i j p o q u e => absurd e ((hb i).1 p o), t, fun i x e => absurd e ((hb i).2 x)⟩
end
/-! ### what is asked -/
/-- the call of what was handed in -/
def sAsk (o : Option Exn) : SM := fun r => match o with
  | none => .ok (.nx, r)
  | some x => .ex (x, r)
/-- how a lambda's reading ends: told, or by an error -/
def outO {α : Type} : Res α → Option (Option Exn)
  | .ok _ => some none
  | .ex x => some (some x.1)
  | .no => none
section
variable {K : PySem.W.Frag} {tcK : TabC K} {E : WX} {c : Value} {i : Nat} {cat : Str → Option Bool} {msu : SM}
end
/-- f(lambda: ..): mb, the lambda's reading -/
def eSaid (sd : Option Exn → Res D) (mb : M RV) : M D := fun r => (ofO (outO (mb (hideR r)))).bind fun o => (noEx (sd o)).bind fun d => .ok (d, r)
section
variable {X : Cx} {pins : List (Addr × Obj)} {σ : L2.St} {H : Hp} {s : Shared}
open LamX in
end
section
variable {X : Cx} {tcX : TabC X.K} {pins : List (Addr × Obj)} {σ : L2.St} {H : Hp} {s : Shared}
open LamX in
end
end DL
/-! # DLk: a sort's keys, called one by one, over a def's state -/
namespace L2
open PySem PySem.Spec PySem.Calls PyProof.Rows PySem.W
section
variable {X : Cx} {pins : List (Addr × Obj)} {σ : List (Option V)} {H : Hp} {s : Shared} {a : Addr} {o : HO}
end
section
variable {X : Cx} {A : Around} {E : Value → Shared → Prop} {pins : List (Addr × Obj)} {σ : List (Option V)} {H : Hp} {s : Shared} {a kS : Addr} {e1 : Nat} {b : Bool} {vs : List Value} {kz : List PyData} {f : Value} {J : List V → Hp → Prop} {P : PySem.Fin → Shared → Prop}
theorem FpOk.of {H' : Hp} {c : Addr} (h : FpOk X pins H c) (n : H' c = none) : FpOk X pins H' c := ⟨n, h.2⟩
end
/-! ### a lambda of one name, entered -/
/-- one parameter, else captured names and globals -/
structure Lam1 (sc scope : Scope) (pn : Str) : Prop where
  kind : scope.kind = .function
  co : scope.isCoroutine = false
  gen : scope.isGenerator = false
  par : scope.names.lookup pn = some .local
  own : ∀ y ∈ scope.names, y.2 = .local → y.1 = pn
  ncell : ∀ y ∈ scope.names, y.2 ≠ .cell
  free : ∀ y ∈ scope.names, y.2 = .free → sc.names.lookup y.1 = some .cell ∨ sc.names.lookup y.1 = some .free
theorem Lam1.has {X : Cx} {scope : Scope} {pn : Str} (L : Lam1 X.env.scope scope pn) (ok : X.Ok) : ∀ y ∈ scope.names, y.2 = .free → ∃ c, X.env.cells.lookup y.1 = some c := fun y hy e => by
  rcases L.free y hy e with k | k
  · exact ok.has _ (.inl k)
  · exact ok.has _ (.inr k)
section
variable {X : Cx} {pins : List (Addr × Obj)} {σ : L2.St} {H HZ : Hp} {s s1 : Shared}
open LamX in
end
section
variable {X : Cx} {pins : List (Addr × Obj)} {σ : L2.St} {H : Hp} {s : Shared}
open LamX in
end
end L2
namespace DL
open PySem PySem.Spec PySem.W PyProof.Rows L2
/-! ### the items of what is sorted -/
section
variable {X : Cx} {pins : List (Addr × Obj)} {σ : L2.St} {H G : Hp} {s : Shared}
end
theorem DPk.keys {K : PySem.W.Frag} {G : Hp} : ∀ {kvs : List (Key × V)} {es : List (D × D)}, DPk K G kvs es → DPs K G (kvs.map fun kv => kV kv.1) (es.map (·.1))
  | _, _, .nil => .nil
  | _, _, .cons (k := k) h1 h2 => .cons (by cases k <;> constructor) (DPk.keys h2)
/-! ### keys -/
/-- no own thing in the slot -/
def noOwnAt (r : Rho) (j : Nat) : Bool := match r[j]? with
  | some .non => true
  | some (.val _) => true
  | _ => false
theorem noOwnAt.free {r : Rho} {j : Nat} (h : noOwnAt r j = true) : free r j = true := by
  unfold noOwnAt at h
  unfold DL.free
  cases e : r[j]? with
  | none => rw [e] at h; cases h
  | some u =>
    rw [e] at h
    cases u with
    | own p o => cases h
    | exn x => cases h
    | non => rfl
    | val d => rfl
theorem noOwnAt.no {r : Rho} {j : Nat} (h : noOwnAt r j = true) : ∀ p o, r[j]? ≠ some (.own p o) := fun p o e => by
  unfold noOwnAt at h
  rw [e] at h
  cases h
section
variable {X : Cx} {tcX : TabC X.K} {pins : List (Addr × Obj)} {σ : L2.St} {H H1 H2 G G1 : Hp} {as : Nat → Addr} {r r1 : Rho} {s s2 : Shared} {mb : M D} {j k : Nat} {pn : Str} {params : Arguments} {body : Expr} {scope : Scope} {E : WX} {Q : VK}
open LamX in
open LamX in
open LamX in
end
end DL
/-! # DLr: a keyword-only parameter that is None where it is not told -/
namespace DL
open PySem PySem.Spec PyProof.Rows L2
/-- f(e, .., k = v, ..), the one name left out being None -/
def eCallKD (n a b : Nat) (ix : List Nat) (f : Den) (ms mk : M (List ASl)) : M RV := fun r => (ms r).bind fun u => (mk u.2).bind fun v => if u.1.length = a ∧ v.1.length = b ∧ (pick ix (u.1 ++ v.1 ++ [.val .none])).length = n then ((ofO (mkA (pick ix (u.1 ++ v.1 ++ [.val .none])) v.2)).bind fun sl => backX (pick ix (u.1 ++ v.1 ++ [.val .none])) v.2 (f sl)) else .no
section
variable {K : PySem.W.Frag} {tcK : TabC K} {E : WX} {t tk : TA} {ms mk : M (List ASl)}
end
end DL
/-! # DLt: a list's items into several names; a loop over a display that holds a list of one's own -/
namespace DL
open PySem PySem.Spec PyProof.Rows L2
/-! ### (a, b) = a list -/
def bTupL (n : Nat) (bs : BMs) : BM := fun d r => match d with
  | .list ds => if ds.length = n then bs ds r else none
  | _ => none
/-! ### a list of one's own read for a while -/
section
variable {K : PySem.W.Frag} {tcK : TabC K} {G G1 G2 : Hp} {as : Nat → Addr} {r : Rho} {σ σ2 : L2.St} {H H2 : Hp} {i : Nat} {p : Bool} {ds : List D} {vs : List V}
end
section
variable {K : PySem.W.Frag} {tcK : TabC K} {E : WX} {mi : M (List D)} {c : M Bool} {i v : Nat}
end
end DL
/-! # DLq: a list of one's own read by a call that may change other things, and may tell a list -/
namespace DL
open PySem PySem.Spec PyProof.Rows L2
def bareO : Own → Bool
  | .lst ds => listlessA ds
  | .ins _ fs => listlessF fs
  | .dic es => listlessK es
theorem OwnAt.restr {K : PySem.W.Frag} {G H : Hp} {p q : Addr} {xs0 : List V} (hp : G p = some (.lst xs0)) : ∀ {o : Own}, OwnAt K G H q o → bareO o = true → OwnAt K (DL.restr G p) H q o
  | .lst _, ⟨vs, h1, h2⟩, e => ⟨vs, h1, DPs.restr hp h2 e⟩
  | .ins _ _, ⟨dx, vs, h1, h2⟩, e => ⟨dx, vs, h1, Fld.restr hp h2 e⟩
  | .dic _, ⟨vs, h1, h2⟩, e => ⟨vs, h1, DPk.restr hp h2 e⟩
/-- a slot behind, beside what it was -/
def okB (s : Option Sl) : Sl → Prop
  | .non => True
  | .val d => s = some (.val d) ∨ listless d = true
  | .own _ o => bareO o = true
  | .exn x => s = some (.exn x)
def okBs : Rho → Rho → Prop
  | _, [] => True
  | r, t :: r2 => okB r.head? t ∧ okBs r.tail r2
def bareRV : RV → Bool
  | .val d => listless d
  | .own o => bareO o
noncomputable def eBorrow (i : Nat) (m : M RV) : M RV := fun r => match r[i]? with
  | some (.own p (.lst ds)) => if othersBare r i = true then ((m (r.set i (.val (.list ds)))).bind fun a => @ite _ (a.2[i]? = some (.val (.list ds)) ∧ okBs (r.set i .non) (a.2.set i .non) ∧ bareRV a.1 = true) (Classical.propDecidable _) (.ok (a.1, a.2.set i (.own p (.lst ds)))) .no) else .no
  | _ => .no
section
variable {K : PySem.W.Frag} {tcK : TabC K} {E : WX} {te : TE} {m : M RV}
end
/-! reckoning -/
theorem r_BorE {i : Nat} {m : M RV} {r : Rho} : eBorrow i m r = (match r[i]? with
  | some (.own p (.lst ds)) => if othersBare r i = true then ((m (r.set i (.val (.list ds)))).bind fun a => @ite _ (a.2[i]? = some (.val (.list ds)) ∧ okBs (r.set i .non) (a.2.set i .non) ∧ bareRV a.1 = true) (Classical.propDecidable _) (.ok (a.1, a.2.set i (.own p (.lst ds)))) .no) else .no
  | _ => .no) := rfl
theorem bo_rvV (d : D) : bareRV (.val d) = listless d := rfl
theorem bo_rvL (ds : List D) : bareRV (.own (.lst ds)) = listlessA ds := rfl
theorem bo_nil (r : Rho) : okBs r [] = True := rfl
theorem bo_cons (s t : Sl) (r r2 : Rho) : okBs (s :: r) (t :: r2) = (okB (some s) t ∧ okBs r r2) := rfl
theorem bo_non (s : Option Sl) : okB s .non = True := rfl
theorem bo_valS (d : D) : okB (some (.val d)) (.val d) = True := eq_true (.inl rfl)
theorem bo_own (s : Option Sl) (p : Bool) (ds : List D) : okB s (.own p (.lst ds)) = (listlessA ds = true) := rfl
end DL
/-! # DLu: the greatest and the least of a list or a tuple -/
namespace DL
open PySem PySem.Spec PyProof.Rows L2
section
variable {prog : Program} {w : World} {A : Around} {E : Value → Shared → Prop} {s : Shared} {its : List Value} {ns : List Int} {l : Addr}
theorem max_rawT {Q : Value → Shared → Prop} (hh : A.handled = none) (hl : s.heap.IsTuple l its.toArray) (hi : IntsAre its ns) (hne : 0 < ns.length)
    (h : ∀ h' tk M t', (∀ b o, s.heap.get? b = some o → h'.get? b = some o) → M ∈ ns → (∀ a, a ∈ ns → a ≤ M) → Q (.int M t') { s with heap := h', toks := tk }) : wpAny (model prog w) A (call (.builtin "max") [.ref l]) Q E s := by
  obtain ⟨xs, e⟩ := hi.allInts.items
  have hn : numsOf (intItems xs).toList = ns := by rw [← e]; exact hi.numsOf
  rw [nums_intItems] at hn
  subst hn
  rw [e] at hl
  have hsz : 0 < xs.size := by simpa using hne
  obtain ⟨o, ho, hc, n, hd⟩ := id hl
  have hx : l ≠ s.heap.objs.size := Nat.ne_of_lt (Heap.lt_size ho)
  refine call_max_walk (wpAny_pyIter_tuple hl ?_)
  refine ⟨s.heap.objs.size, _, _, _, _, _, _, rfl, Walks.tuple (A := A.in1) hh s.heap.objs.size l hx (intItems xs), ⟨⟨_, Heap.get?_push_size _ rfl, rfl, rfl⟩, hl.at fun o e => Heap.get?_push_of_some _ e⟩, fun b hb => ?_, by simpa [intItems] using hsz, CmpOf.ints_gt (numAt xs) (fun _ _ => intItems_at), fun v h' tk hP hk => ?_⟩
  · rcases List.mem_cons.mp hb with rfl | hb
    · exact Heap.lt_size (Heap.get?_push_size _ rfl)
    · obtain rfl := List.mem_singleton.mp hb
      exact Heap.lt_size (Heap.get?_push_of_some _ ho)
  · have hP' : (intItems xs)[argBest (fun i j => decide (numAt xs i > numAt xs j)) (xs.size - 1)]? = some v := by simpa [intItems] using hP
    obtain ⟨t, rfl⟩ := intItems_at hP'
    obtain ⟨h1, h2⟩ := argBest_gt (numAt xs) (xs.size - 1)
    refine h h' tk _ t (fun b o e => hk b o (fun hb => absurd (Heap.lt_size e) ((List.mem_singleton.mp hb) ▸ Nat.lt_irrefl _)) (Heap.get?_push_of_some _ e)) ?_ fun a ha => ?_
    · rw [numAt_eq]; exact PySem.getD_mem (by rw [List.length_map, Array.length_toList]; omega)
    · obtain ⟨j, hj, rfl⟩ := mem_getD ha
      rw [List.length_map, Array.length_toList] at hj
      rw [← numAt_eq]; exact h2 j (by omega)
end
section
variable {X : Cx}
def rMaxA (K : PySem.W.Frag) : List V → Hp → VK → Prop := fun vs H Q => ∃ (a : Addr) (ns : List Int), vs = [V.ref a] ∧ (SqL K H a (ns.map V.int) ∨ SqT K H a (ns.map V.int)) ∧ 0 < ns.length ∧ ∀ m, m ∈ ns → (∀ y, y ∈ ns → y ≤ m) → Q (.int m) H
theorem cr_maxA (hc : X.calm = true) : CallR X (.builtin "max") (rMaxA X.K) := by
  intro pins s σ H vs us Q I r h
  obtain ⟨a, ns, rfl, hs | hs, hne, q⟩ := h
  · exact cr_max hc pins s σ H _ us Q I r ⟨a, ns, rfl, hs, hne, q⟩
  · obtain ⟨its, rv, ht, _⟩ := I.tuple hs
    rw [Vals.ref1 r]
    exact max_rawT (I.ok.hd hc) ht rv.ints hne fun h' tk m t' hk h1 h2 => ⟨.int _, H, I.kept hk, ⟨_, rfl⟩, q m h1 h2⟩
end
section
variable {K : PySem.W.Frag}
def pMaxA := pA1 fun ns => if 0 < ns.length then some (.int (maxI ns)) else none
theorem a_maxA : AN K (rMaxA K) pMaxA := by
  intro G H xs ds Q le h d e q
  obtain ⟨a, ns, e1, e2, e3⟩ := a1_of h e
  split at e3
  · rename_i hl
    cases e3
    refine ⟨a, ns, e1, e2.imp (fun z => z H le) (fun z => z H le), hl, fun m hm hle => ?_⟩
    have hne : ns ≠ [] := fun z => by rw [z] at hl; exact absurd hl (Nat.lt_irrefl _)
    obtain ⟨k1, k2⟩ := maxI_mem hne
    have : m = maxI ns := Int.le_antisymm (k2 m hm) (hle _ k1)
    subst this
    exact q G H _ (Grow.refl le) (.int _)
  · cases e3
end
theorem v_maxAL (ns : List Int) (h : 0 < ns.length) : pMaxA [.list (ns.map .int)] = some (.int (maxI ns)) := by
  show (ints? (ns.map .int)).bind _ = _
  rw [ints?_of]
  exact if_pos h
theorem v_maxAT (ns : List Int) (h : 0 < ns.length) : pMaxA [.tuple (ns.map .int)] = some (.int (maxI ns)) := by
  show (ints? (ns.map .int)).bind _ = _
  rw [ints?_of]
  exact if_pos h
section
variable {prog : Program} {w : World} {A : Around} {E : Value → Shared → Prop} {s : Shared} {its : List Value} {ns : List Int} {l : Addr}
end
section
variable {X : Cx}
end
section
variable {K : PySem.W.Frag}
end
end DL
/-! # DLg: three names set at once, to lists of their own -/
namespace DL
open PySem PySem.Spec PyProof.Rows L2
section
variable {K : PySem.W.Frag} {tcK : TabC K}
def sPar3E (i j l : Nat) (a b c : M RV) : SM := fun r => (a r).bind fun x => (b x.2).bind fun y => (c y.2).bind fun z =>
  if free z.2 i = true then (if free (z.2.set i (toSl x.1)) j = true then (if free ((z.2.set i (toSl x.1)).set j (toSl y.1)) l = true then .ok (.nx, ((z.2.set i (toSl x.1)).set j (toSl y.1)).set l (toSl z.1)) else .no) else .no) else .no
variable {E : WX} {ta tb tc : TE} {a b c : M RV}
theorem r_Par3E (i j l : Nat) (x y z : M RV) (r : Rho) : sPar3E i j l x y z r = (x r).bind fun a => (y a.2).bind fun b => (z b.2).bind fun c =>
  if free c.2 i = true then (if free (c.2.set i (toSl a.1)) j = true then (if free ((c.2.set i (toSl a.1)).set j (toSl b.1)) l = true then .ok (.nx, ((c.2.set i (toSl a.1)).set j (toSl b.1)).set l (toSl c.1)) else .no) else .no) else .no := rfl
end
end DL
/-! # DLm: the text of a thing; empty dicts; the class of the error at hand -/
namespace DL
open PySem PySem.Spec PyProof.Rows L2
/-! ### data read off the heap, dicts and all -/
theorem keys_read {P : Program} {w : World} {h : Heap} {es : List DictEntry} {kvs : List (Key × Value)} (p : PySem.Pairs (mixKind P w) es kvs) : ReadsAll h (es.map (·.key)) (kvs.map fun kv => kD kv.1) [] := by
  induction p with
  | nil => exact .nil
  | @cons e kv es kvs h1 h2 _ ih =>
    have h1 : keyIs kv.1 e.key = true := h1
    rcases keyIs_shape h1 with ⟨i, t, e1, e2⟩ | ⟨x, t, e1, e2⟩
    · rw [List.map_cons, List.map_cons, e1, e2]
      exact ReadsAll.cons (as := []) (.int i t) ih
    · rw [List.map_cons, List.map_cons, e1, e2]
      exact ReadsAll.cons (as := []) (.str x t) ih
theorem vals_read {P : Program} {w : World} {es : List DictEntry} {kvs : List (Key × Value)} (p : PySem.Pairs (mixKind P w) es kvs) : es.map (·.val) = kvs.map (·.2) := by
  induction p with
  | nil => rfl
  | cons _ h2 _ ih => rw [List.map_cons, List.map_cons, ih, h2]
section
variable {X : Cx} {pins : List (Addr × Obj)} {σ : L2.St} {G H : Hp} {s : Shared}
mutual
theorem DP.readsD (I : Inv X pins σ H s) (le : Same G H) : ∀ {v : V} {d : D} {u : Value}, DP X.K G v d → RelV v u → ∃ as, Reads s.heap u d as
  | _, _, _, .non, r => by cases r; exact ⟨_, .none⟩
  | _, _, _, .bl b, r => by cases r; exact ⟨_, .bool b⟩
  | _, _, _, .int i, r => by obtain ⟨t, rfl⟩ := r; exact ⟨_, .int i t⟩
  | _, _, _, .str x, r => by obtain ⟨t, rfl⟩ := r; exact ⟨_, .str x t⟩
  | _, _, _, .lst hs ha, r => by
    cases r
    obtain ⟨its, rv, ⟨o, n, ho, hc, _, hd⟩, _⟩ := I.list (le.seq hs)
    obtain ⟨as, hr⟩ := DPs.readsD I le ha rv
    exact ⟨_, .list ho hc hd (by simpa using hr)⟩
  | _, _, _, .tup hs ha, r => by
    cases r
    obtain ⟨its, rv, ⟨o, ho, hc, n, hd⟩, _⟩ := I.tuple (SqT.same le hs)
    obtain ⟨as, hr⟩ := DPs.readsD I le ha rv
    exact ⟨_, .tuple ho hc hd (by simpa using hr)⟩
  | _, _, _, .dic hs ha, r => by
    cases r
    obtain ⟨_, hne, vs, kv, o, es, ep, ho, hx, hd, hk, hp, _⟩ := dk_rd I.hok (Rd.same le hs)
    obtain ⟨as, hr⟩ := DPk.readsD I le ha kv
    have e1 := keys_read (h := s.heap) hp
    rw [hr.2] at e1
    exact ⟨_, .dict ho hx.1 hd e1 (by rw [vals_read hp]; exact hr.1)⟩
theorem DPs.readsD (I : Inv X pins σ H s) (le : Same G H) : ∀ {vs : List V} {ds : List D} {us : List Value}, DPs X.K G vs ds → Vals vs us → ∃ as, ReadsAll s.heap us ds as
  | _, _, _, .nil, r => by cases r; exact ⟨_, .nil⟩
  | _, _, _, .cons h1 h2, r => by
    cases r with
    | cons r1 r2 =>
      obtain ⟨as, q1⟩ := DP.readsD I le h1 r1
      obtain ⟨bs, q2⟩ := DPs.readsD I le h2 r2
      exact ⟨_, .cons q1 q2⟩
theorem DPk.readsD (I : Inv X pins σ H s) (le : Same G H) : ∀ {kvs : List (Key × V)} {es : List (D × D)} {ws : List (Key × Value)}, DPk X.K G kvs es → KV kvs ws → ∃ as, ReadsAll s.heap (ws.map (·.2)) (es.map (·.2)) as ∧ (ws.map fun kv => kD kv.1) = es.map (·.1)
  | _, _, _, .nil, r => by cases r; exact ⟨_, .nil, rfl⟩
  | _, _, _, .cons h1 h2, r => by
    cases r with
    | cons r1 r2 =>
      obtain ⟨as, q1⟩ := DP.readsD I le h1 r1.2
      obtain ⟨bs, q2, q3⟩ := DPk.readsD I le h2 r2
      exact ⟨_, .cons q1 q2, by rw [List.map_cons, List.map_cons, q3, ← r1.1]⟩
end
/-! the texts, thing by thing -/
abbrev TextAt (X : Cx) (h : Heap) (u : Value) (d : D) : Prop := ∃ bs, ReadAtMost h d.depth bs ∧ ReprK X.prog X.w bs h d.depth u d.shown
abbrev TextsAt (X : Cx) (h : Heap) (us : List Value) (ds : List D) : Prop := ∃ bs, ReadAtMost h (PyData.depthAll ds) bs ∧ ReprAllK X.prog X.w bs h (PyData.depthAll ds) us (PyData.shownAll ds)
theorem keys_text {h : Heap} : ∀ {us : List Value} {ks : List Key}, ReadsAll h us (ks.map kD) [] → PyData.showableAll (ks.map kD) = true → (∀ t ∈ PyData.shownAll (ks.map kD), t.length ≤ sizeLine) → TextsAt X h us (ks.map kD) := fun {us ks} r hs hz =>
  ReprAllK.of_readsAll r hs (fun z => by
    have : ∀ ks : List Key, PyData.hasDictAll (ks.map kD) = false := fun ks => by
      induction ks with
      | nil => rfl
      | cons k ks ih => cases k <;> simp [PyData.hasDictAll, PyData.hasDict, kD, ih]
    rw [this] at z
    cases z) hz
mutual
theorem DP.text (I : Inv X pins σ H s) (le : Same G H) : ∀ {v : V} {d : D} {u : Value}, DP X.K G v d → RelV v u → d.showable = true → d.shown.length ≤ sizeLine → TextAt X s.heap u d
  | _, _, _, .non, r, hs, hz => by cases r; exact ReprK.of_reads .none hs (fun z => by cases z) hz
  | _, _, _, .bl b, r, hs, hz => by cases r; exact ReprK.of_reads (.bool b) hs (fun z => by cases z) hz
  | _, _, _, .int i, r, hs, hz => by obtain ⟨t, rfl⟩ := r; exact ReprK.of_reads (.int i t) hs (fun z => by cases z) hz
  | _, _, _, .str x, r, hs, hz => by obtain ⟨t, rfl⟩ := r; exact ReprK.of_reads (.str x t) hs (fun z => by cases z) hz
  | _, _, _, .lst hs ha, r, sh, hz => by
    obtain ⟨as0, r0⟩ := DP.readsD I le (.lst hs ha) r
    cases r
    obtain ⟨its, rv, ⟨o, n, ho, hc, _, hd⟩, _⟩ := I.list (le.seq hs)
    have hz' := hz
    simp only [PyData.shown] at hz'
    obtain ⟨bs, hb, hk⟩ := DPs.text I le ha rv (by simpa [PyData.showable] using sh) (fun t ht => Nat.le_trans (listText_mem_le ht) hz')
    have hna := not_mem_of_deeper r0 (by simp only [PyData.depth]; omega) hb
    refine ⟨_, ReadAtMost.cons r0 (by simp only [PyData.depth]; omega) hb, ?_⟩
    simp only [PyData.depth, PyData.shown]
    cases its with
    | nil =>
      cases rv
      cases ha
      simp only [PyData.shownAll, listText_nil]
      exact ReprK.listEmpty ho hc hd
    | cons x l => exact ReprK.list ho hc hd hna (by simpa using hk.length_eq) (fun i y e => hk.item i y (by simpa using e))
  | _, _, _, .tup hs ha, r, sh, hz => by
    obtain ⟨as0, r0⟩ := DP.readsD I le (.tup hs ha) r
    cases r
    obtain ⟨its, rv, ⟨o, ho, hc, n, hd⟩, _⟩ := I.tuple (SqT.same le hs)
    have hz' := hz
    simp only [PyData.shown] at hz'
    obtain ⟨bs, hb, hk⟩ := DPs.text I le ha rv (by simpa [PyData.showable] using sh) (fun t ht => Nat.le_trans (tupleText_mem_le ht) hz')
    have hna := not_mem_of_deeper r0 (by simp only [PyData.depth]; omega) hb
    refine ⟨_, ReadAtMost.cons r0 (by simp only [PyData.depth]; omega) hb, ?_⟩
    simp only [PyData.depth, PyData.shown]
    exact ReprK.tuple ho hc hd hna (by simpa using hk)
  | _, _, _, .dic hs ha, r, sh, hz => by
    obtain ⟨as0, r0⟩ := DP.readsD I le (.dic hs ha) r
    cases r
    obtain ⟨_, hne, vs, kv, o, es, ep, ho, hx, hd, hk, hp, _⟩ := dk_rd I.hok (Rd.same le hs)
    obtain ⟨_, _, q3⟩ := DPk.readsD I le ha kv
    have hz' := hz
    simp only [PyData.shown] at hz'
    obtain ⟨h1, h2⟩ := PyData.showableKv_split _ (show PyData.showableKv _ = true by simpa [PyData.showable] using sh)
    have e1 := keys_read (h := s.heap) hp
    have e1 : ReadsAll s.heap (es.toList.map (·.key)) ((vs.map fun kv => kv.1).map kD) [] := by rw [List.map_map]; exact e1
    have q3' := q3
    rw [show (vs.map fun kv => kD kv.1) = (vs.map fun kv => kv.1).map kD from by rw [List.map_map]; rfl] at q3'
    obtain ⟨b1, hb1, k1⟩ := keys_text (X := X) e1 (by rw [q3']; exact h1) (fun t ht => by
      rw [q3'] at ht
      obtain ⟨p, hp, hl⟩ := PyData.shownKv_key_le _ t ht
      exact Nat.le_trans hl (Nat.le_trans (dictText_mem_le hp) hz'))
    rw [q3'] at hb1 k1
    obtain ⟨b2, hb2, k2⟩ := DPk.text I le ha kv h2 (fun t ht => by
      obtain ⟨p, hp, hl⟩ := PyData.shownKv_val_le _ t ht
      exact Nat.le_trans hl (Nat.le_trans (dictText_mem_le hp) hz'))
    rw [← vals_read hp] at k2
    have hb := (hb1.mono (PyData.depthAll_keys_le _)).append (hb2.mono (PyData.depthAll_vals_le _))
    have hna := not_mem_of_deeper r0 (by simp only [PyData.depth]; omega) hb
    refine ⟨_, ReadAtMost.cons r0 (by simp only [PyData.depth]; omega) hb, ?_⟩
    simp only [PyData.depth, PyData.shown, PyData.shownKv_eq]
    exact ReprK.dict ho hx.1 hd hne hna (ReprEntriesK.of_two es.toList _ _ (k1.more_le (fun b hb => List.mem_append_left _ hb) (PyData.depthAll_keys_le _)) (k2.more_le (fun b hb => List.mem_append_right _ hb) (PyData.depthAll_vals_le _)))
theorem DPs.text (I : Inv X pins σ H s) (le : Same G H) : ∀ {vs : List V} {ds : List D} {us : List Value}, DPs X.K G vs ds → Vals vs us → PyData.showableAll ds = true → (∀ t ∈ PyData.shownAll ds, t.length ≤ sizeLine) → TextsAt X s.heap us ds
  | _, _, _, .nil, r, _, _ => by cases r; exact ⟨[], (fun _ h => nomatch h), .nil⟩
  | _, _, _, .cons h1 h2, r, hs, hz => by
    cases r with
    | cons r1 r2 =>
      simp only [PyData.showableAll, Bool.and_eq_true] at hs
      obtain ⟨b1, hb1, k1⟩ := DP.text I le h1 r1 hs.1 (hz _ (by simp only [PyData.shownAll]; exact List.mem_cons_self))
      obtain ⟨b2, hb2, k2⟩ := DPs.text I le h2 r2 hs.2 (fun t ht => hz t (by simp only [PyData.shownAll]; exact List.mem_cons_of_mem _ ht))
      refine ⟨b1 ++ b2, ?_, ?_⟩
      · simp only [PyData.depthAll]
        exact (hb1.mono (Nat.le_max_left _ _)).append (hb2.mono (Nat.le_max_right _ _))
      · simp only [PyData.depthAll, PyData.shownAll]
        exact .cons ((k1.more fun b hb => List.mem_append_left _ hb).level_le (Nat.le_max_left _ _)) (k2.more_le (fun b hb => List.mem_append_right _ hb) (Nat.le_max_right _ _))
theorem DPk.text (I : Inv X pins σ H s) (le : Same G H) : ∀ {kvs : List (Key × V)} {es : List (D × D)} {ws : List (Key × Value)}, DPk X.K G kvs es → KV kvs ws → PyData.showableAll (es.map (·.2)) = true → (∀ t ∈ PyData.shownAll (es.map (·.2)), t.length ≤ sizeLine) → TextsAt X s.heap (ws.map (·.2)) (es.map (·.2))
  | _, _, _, .nil, r, _, _ => by cases r; exact ⟨[], (fun _ h => nomatch h), .nil⟩
  | _, _, _, .cons h1 h2, r, hs, hz => by
    cases r with
    | cons r1 r2 =>
      simp only [List.map_cons, PyData.showableAll, Bool.and_eq_true] at hs
      obtain ⟨b1, hb1, k1⟩ := DP.text I le h1 r1.2 hs.1 (hz _ (by simp only [List.map_cons, PyData.shownAll]; exact List.mem_cons_self))
      obtain ⟨b2, hb2, k2⟩ := DPk.text I le h2 r2 hs.2 (fun t ht => hz t (by simp only [List.map_cons, PyData.shownAll]; exact List.mem_cons_of_mem _ ht))
      refine ⟨b1 ++ b2, ?_, ?_⟩
      · simp only [List.map_cons, PyData.depthAll]
        exact (hb1.mono (Nat.le_max_left _ _)).append (hb2.mono (Nat.le_max_right _ _))
      · simp only [List.map_cons, PyData.depthAll, PyData.shownAll]
        exact .cons ((k1.more fun b hb => List.mem_append_left _ hb).level_le (Nat.le_max_left _ _)) (k2.more_le (fun b hb => List.mem_append_right _ hb) (Nat.le_max_right _ _))
end
end
/-! ### repr -/
mutual
def txtOk : D → Bool
  | .str x => PyData.strOk x
  | .list ds => txtOkA ds
  | .tuple ds => txtOkA ds
  | .dict es => txtOkK es
  | _ => true
def txtOkA : List D → Bool
  | [] => true
  | d :: ds => txtOk d && txtOkA ds
def txtOkK : List (D × D) → Bool
  | [] => true
  | (k, d) :: es => txtOk k && txtOk d && txtOkK es
end
/-- data whose text can be told -/
def okR (d : D) : Bool := PyData.showable d && ((PyData.leavesShort 1000 d && decide (d.weight ≤ 15000)) || (PyData.leavesShort 100 d && decide (d.weight ≤ 150000))) && decide (d.depth ≤ 40) && txtOk d
theorem okR_of {d : D} (h : okR d = true) : PyData.showable d = true ∧ d.shown.length ≤ 16777216 ∧ d.depth ≤ 40 ∧ txtOk d = true := by
  unfold okR at h
  simp only [Bool.and_eq_true, Bool.or_eq_true, decide_eq_true_eq] at h
  obtain ⟨⟨⟨h1, h2⟩, h4⟩, h6⟩ := h
  refine ⟨h1, ?_, h4, h6⟩
  rcases h2 with ⟨h2, h3⟩ | ⟨h2, h3⟩
  · have hl := PyData.shown_le 1000 (by decide) d h2
    have hw : (1000 + 2) * d.weight ≤ 1002 * 15000 := Nat.mul_le_mul (by decide) h3
    omega
  · have hl := PyData.shown_le 100 (by decide) d h2
    have hw : (100 + 2) * d.weight ≤ 102 * 150000 := Nat.mul_le_mul (by decide) h3
    omega
/-! the text is one that may be laid -/
def lowS (x : Str) : Prop := ∀ c ∈ x.cps.toList, c < 0x110000
theorem low_of {x : Str} (h : PyData.strOk x = true) : lowS x := fun c hc => by
  unfold PyData.strOk at h
  rw [Array.all_eq_true_iff_forall_mem] at h
  simpa using h c (by simpa using hc)
theorem of_low {x : Str} (h : lowS x) : PyData.strOk x = true := by
  unfold PyData.strOk
  rw [Array.all_eq_true_iff_forall_mem]
  exact fun c hc => by simpa using h c (by simpa using hc)
theorem low_app {x y : Str} (hx : lowS x) (hy : lowS y) : lowS (x ++ y) := fun c hc => (mem_cps_append.mp hc).elim (hx c) (hy c)
theorem low_join {sep : Str} (hs : lowS sep) {ts : List Str} (h : ∀ t ∈ ts, lowS t) : lowS (Str.join sep ts) := fun c hc => by
  rcases (mem_join sep c ts).mp hc with ⟨t, ht, hm⟩ | ⟨_, hm⟩
  · exact h t ht c hm
  · exact hs c hm
theorem low_ofString {s : String} (h : ∀ ch ∈ s.toList, ch.toNat < 0x110000) : lowS (Str.ofString s) := fun c hc => by
  rw [signs_ofString] at hc
  obtain ⟨ch, h1, rfl⟩ := List.mem_map.mp hc
  exact h ch h1
theorem low_int (i : Int) : lowS (Str.ofString (toString i)) := low_ofString fun ch hc => by
  rcases int_sign i ch hc with h | h
  · have := digit_range h
    omega
  · subst h
    decide
theorem hex_low (c w : Nat) : ∀ x ∈ List.replicate w 48 ++ (Nat.toDigits 16 c).map Char.toNat, x < 0x110000 := fun x hx => by
  rcases List.mem_append.mp hx with h | h
  · rw [(List.mem_replicate.mp h).2]; decide
  · obtain ⟨ch, _, rfl⟩ := List.mem_map.mp h
    have := ch.valid
    have e : ch.val.toNat = ch.toNat := rfl
    rcases this with q | q
    · have : ch.toNat < 0xd800 := q
      omega
    · exact q.2
theorem reprChar_low {q c : Nat} (hq : q < 0x110000) (hc : c < 0x110000) : ∀ x ∈ Builtin.Str.reprChar q c, x < 0x110000 := fun x hx => by
  unfold Builtin.Str.reprChar at hx
  have hh := hex_low c
  dsimp only at hx
  repeat' split at hx
  all_goals first
    | (simp only [List.mem_cons, List.not_mem_nil, or_false] at hx; omega)
    | (rcases List.mem_append.mp hx with h | h
       · simp only [List.mem_cons, List.not_mem_nil, or_false] at h; omega
       · exact hh _ x h)
theorem low_repr {x : Str} (h : lowS x) : lowS (reprText x) := fun c hc => by
  have hq : reprQuote x < 0x110000 := by
    unfold reprQuote
    split <;> decide
  unfold reprText at hc
  have fold : ∀ (l : List Nat) (acc : Array Nat), (∀ c ∈ l, c < 0x110000) → (∀ c ∈ acc.toList, c < 0x110000) → ∀ c ∈ (l.foldl (fun out c => out ++ (Builtin.Str.reprChar (reprQuote x) c).toArray) acc).toList, c < 0x110000 := by
    intro l
    induction l with
    | nil => exact fun acc _ h2 => h2
    | cons a l ih =>
      intro acc h1 h2
      refine ih _ (fun c hc => h1 c (List.mem_cons_of_mem _ hc)) fun c hc => ?_
      rw [Array.toList_append] at hc
      rcases List.mem_append.mp hc with q | q
      · exact h2 c q
      · exact reprChar_low hq (h1 a List.mem_cons_self) c (by simpa using q)
  rw [Array.toList_push, List.mem_append] at hc
  rcases hc with q | q
  · rw [← Array.foldl_toList] at q
    exact fold x.cps.toList _ h (fun c hc => by simp at hc; omega) c q
  · simp at q
    omega
mutual
theorem shown_low : ∀ d : D, txtOk d = true → lowS d.shown
  | .none, _ => by
    simp only [PyData.shown]
    exact low_of (by decide +kernel)
  | .bool b, _ => by
    simp only [PyData.shown]
    cases b <;> exact low_of (by decide +kernel)
  | .int i, _ => by
    simp only [PyData.shown]
    exact low_int i
  | .str x, h => by
    simp only [PyData.shown]
    exact low_repr (low_of (by simpa [txtOk] using h))
  | .list ds, h => by
    simp only [PyData.shown, listText_eq_join]
    exact low_app (low_app (low_of (by decide +kernel)) (low_join (low_of (by decide +kernel)) (shown_lowA ds (by simpa [txtOk] using h)))) (low_of (by decide +kernel))
  | .tuple ds, h => by
    simp only [PyData.shown, tupleText]
    refine low_app (low_app (low_of (by decide +kernel)) (low_join (low_of (by decide +kernel)) (shown_lowA ds (by simpa [txtOk] using h)))) ?_
    split <;> exact low_of (by decide +kernel)
  | .dict es, h => by
    simp only [PyData.shown, dictText]
    exact low_app (low_app (low_of (by decide +kernel)) (low_join (low_of (by decide +kernel)) (shown_lowK es (by simpa [txtOk] using h)))) (low_of (by decide +kernel))
theorem shown_lowA : ∀ ds : List D, txtOkA ds = true → ∀ t ∈ PyData.shownAll ds, lowS t
  | [], _ => fun t ht => by simp [PyData.shownAll] at ht
  | d :: ds, h => fun t ht => by
    simp only [txtOkA, Bool.and_eq_true] at h
    simp only [PyData.shownAll, List.mem_cons] at ht
    rcases ht with rfl | ht
    · exact shown_low d h.1
    · exact shown_lowA ds h.2 t ht
theorem shown_lowK : ∀ es : List (D × D), txtOkK es = true → ∀ t ∈ PyData.shownKv es, lowS t
  | [], _ => fun t ht => by simp [PyData.shownKv] at ht
  | (k, d) :: es, h => fun t ht => by
    simp only [txtOkK, Bool.and_eq_true] at h
    simp only [PyData.shownKv, List.mem_cons] at ht
    rcases ht with rfl | ht
    · exact low_app (low_app (shown_low k h.1.1) (low_of (by decide +kernel))) (shown_low d h.1.2)
    · exact shown_lowK es h.2 t ht
end
theorem shown_ok {d : D} (h : okR d = true) : PyData.strOk d.shown = true := of_low (shown_low d (okR_of h).2.2.2)
/-- repr(x) -/
noncomputable def pRepr : List D → Option D := fun ds => match ds with
  | [d] => @ite _ (okR d = true) (Classical.propDecidable _) (some (.str d.shown)) none
  | _ => none
def rRepr (K : PySem.W.Frag) : List V → Hp → VK → Prop := fun xs H Q => ∃ v d G, xs = [v] ∧ Same G H ∧ DP K G v d ∧ okR d = true ∧ Q (.str d.shown) H
theorem cr_repr {X : Cx} (hg : X.A.guards = some []) (hu : X.A.units + 64 < cLine) : CallR X (.builtin "repr") (rRepr X.K) := by
  intro pins s σ H xs us Q I r h
  obtain ⟨v, d, G, rfl, le, hd, ok, q⟩ := h
  obtain ⟨o1, o2, o3, _⟩ := okR_of ok
  obtain ⟨u, rfl, ru⟩ : ∃ u, us = [u] ∧ RelV v u := by
    cases r with
    | cons r1 r2 => cases r2; exact ⟨_, rfl, r1⟩
  have fin : ∀ {h' : Heap} {tk : Nat} {t : Tok}, (∀ b o, s.heap.get? b = some o → h'.get? b = some o) → EP X pins σ Q (.str d.shown t) { s with heap := h', toks := tk } := fun {h' tk t} k => ⟨.str d.shown, H, I.kept k, ⟨_, rfl⟩, q⟩
  have oz : d.shown.length ≤ sizeLine := by rw [sizeLine_eq]; exact o2
  cases hd with
  | non => cases ru; exact PySem.P.repr_of_none (by simpa [PyData.shown] using fin (fun _ _ e => e))
  | bl b => cases ru; exact PySem.P.repr_of_bool (by simpa [PyData.shown] using fin (fun _ _ e => e))
  | int i => obtain ⟨t, rfl⟩ := ru; exact PySem.P.repr_of_int (by simpa [PyData.showable] using o1) (by simpa [PyData.shown] using fin (fun _ _ e => e))
  | str x => obtain ⟨t, rfl⟩ := ru; exact PySem.P.repr_of_str (by simpa [PyData.shown] using fin (fun _ _ e => e)) (by rw [sizeLine_eq]; simpa [PyData.shown] using o2)
  | lst hs ha =>
    obtain ⟨as0, r0⟩ := DP.readsD I le (.lst hs ha) ru
    cases ru
    obtain ⟨its, rv, ⟨o, n, ho, hc, _, hdd⟩, _⟩ := I.list (le.seq hs)
    have oz' := oz
    simp only [PyData.shown] at oz' fin
    simp only [PyData.depth] at o3
    obtain ⟨bs, hb, hk⟩ := DPs.text I le ha rv (by simpa [PyData.showable] using o1) (fun t ht => Nat.le_trans (listText_mem_le ht) oz')
    have hna := not_mem_of_deeper r0 (by simp only [PyData.depth]; omega) hb
    refine call_repr_slot (by omega) (show s.TypeIs (.ref _) "list" from ⟨o, ho, hc⟩) PySem.F.slot_list_repr.toG ?_
    cases its with
    | nil =>
      cases rv
      cases ha
      simp only [PyData.shownAll, listText_nil] at fin
      exact call_list_repr_empty ⟨o, ho, hc⟩ ho hdd ⟨_, _, rfl, fin fun _ _ e => e⟩
    | cons x l => exact call_list_reprK ho hc hdd hna (by simpa using hk.length_eq) (fun i y e => hk.item i y (by simpa using e)) hg (fun b _ => Clear.nil b) (by show X.A.units + 1 + _ < cLine; omega) (fun _ _ e => e) (fun h' u tk k => ⟨_, _, rfl, fin k⟩) oz'
  | tup hs ha =>
    obtain ⟨as0, r0⟩ := DP.readsD I le (.tup hs ha) ru
    cases ru
    obtain ⟨its, rv, ⟨o, ho, hc, n, hdd⟩, _⟩ := I.tuple (SqT.same le hs)
    have oz' := oz
    simp only [PyData.shown] at oz' fin
    simp only [PyData.depth] at o3
    obtain ⟨bs, hb, hk⟩ := DPs.text I le ha rv (by simpa [PyData.showable] using o1) (fun t ht => Nat.le_trans (tupleText_mem_le ht) oz')
    have hna := not_mem_of_deeper r0 (by simp only [PyData.depth]; omega) hb
    refine call_repr_slot (by omega) (show s.TypeIs (.ref _) "tuple" from ⟨o, ho, hc⟩) PySem.F.slot_tuple_repr ?_
    exact call_tuple_reprK ho hc hdd hna (by simpa using hk) hg (fun b _ => Clear.nil b) (by show X.A.units + 1 + _ < cLine; omega) (fun _ _ e => e) (fun h' u tk k => ⟨_, _, rfl, fin k⟩) oz'
  | @dic a kvs es hs ha =>
    obtain ⟨as0, r0⟩ := DP.readsD I le (.dic hs ha) ru
    cases ru
    obtain ⟨_, hne, vs, kv, o, es0, ep, ho, hx, hd, hk, hp, _⟩ := dk_rd I.hok (Rd.same le hs)
    obtain ⟨_, _, q3⟩ := DPk.readsD I le ha kv
    have hz' := oz
    simp only [PyData.shown] at hz'
    obtain ⟨h1, h2⟩ := PyData.showableKv_split _ (show PyData.showableKv _ = true by simpa [PyData.showable] using o1)
    have e1 := keys_read (h := s.heap) hp
    have e1 : ReadsAll s.heap (es0.toList.map (·.key)) ((vs.map fun kv => kv.1).map kD) [] := by rw [List.map_map]; exact e1
    have q3' := q3
    rw [show (vs.map fun kv => kD kv.1) = (vs.map fun kv => kv.1).map kD from by rw [List.map_map]; rfl] at q3'
    obtain ⟨b1, hb1, k1⟩ := keys_text (X := X) e1 (by rw [q3']; exact h1) (fun t ht => by
      rw [q3'] at ht
      obtain ⟨p, hp, hl⟩ := PyData.shownKv_key_le _ t ht
      exact Nat.le_trans hl (Nat.le_trans (dictText_mem_le hp) hz'))
    rw [q3'] at hb1 k1
    obtain ⟨b2, hb2, k2⟩ := DPk.text I le ha kv h2 (fun t ht => by
      obtain ⟨p, hp, hl⟩ := PyData.shownKv_val_le _ t ht
      exact Nat.le_trans hl (Nat.le_trans (dictText_mem_le hp) hz'))
    rw [← vals_read hp] at k2
    have hb := (hb1.mono (PyData.depthAll_keys_le _)).append (hb2.mono (PyData.depthAll_vals_le _))
    have hna := not_mem_of_deeper r0 (by simp only [PyData.depth]; omega) hb
    simp only [PyData.shown, PyData.shownKv_eq] at oz fin
    simp only [PyData.depth] at o3
    exact call_repr_slot (by omega) (show s.TypeIs (.ref _) "dict" from ⟨_, ho, hx.1⟩) PySem.F.slot_dict_repr (call_dict_reprK ho hx.1 hd hne hna (ReprEntriesK.of_two es0.toList _ _ (k1.more_le (fun b hb => List.mem_append_left _ hb) (PyData.depthAll_keys_le _)) (k2.more_le (fun b hb => List.mem_append_right _ hb) (PyData.depthAll_vals_le _))) hg (fun b _ => Clear.nil b) (by show X.A.units + 1 + _ < cLine; omega) (fun _ _ e => e) (fun h' u tk k => ⟨_, _, rfl, fin k⟩) oz)
theorem a_repr {K : PySem.W.Frag} : AN K (rRepr K) pRepr := by
  intro G H xs ds Q le hx d e q
  cases hx with
  | nil => cases e
  | cons h1 h2 =>
    cases h2 with
    | cons _ _ => cases e
    | nil =>
      rename_i v d0
      have e : @ite _ (okR d0 = true) (Classical.propDecidable _) (some (PyData.str d0.shown)) none = some d := e
      split at e
      · rename_i ok
        cases e
        exact ⟨v, d0, G, rfl, le, h1, ok, q G H _ (Grow.refl le) (.str _)⟩
      · cases e
/-! ### {} -/
/-- {k: v}, both written -/
def kOf : D → Option Key
  | .int i => some (.inl i)
  | .str x => some (.inr x)
  | _ => none
/-! ### the class of the error at hand -/
/-- isinstance(e, D): isx tells it by the class's name -/
def dIsE (i : Nat) (isx : Str → Option Bool) : M D := fun r => match r[i]? with
  | some (.exn x) => (ofO (isx x.C)).bind fun b => .ok (.bool b, r)
  | _ => .no
/-! ### two lists of which one is longer: no look at what they hold -/
def rNeE (K : PySem.W.Frag) : R2 := fun x y H Q => rNeD K x y H Q ∨ ∃ a b xs ys, x = .ref a ∧ y = .ref b ∧ SqL K H a xs ∧ SqL K H b ys ∧ (xs.length != ys.length) = true ∧ Q (.bl true) H
theorem lens_E {X : Cx} {pins : List (Addr × Obj)} {σ : L2.St} {H : Hp} {s : Shared} (I : L2.Inv X pins σ H s) {a b : Addr} {xs ys : List V} (ha : SqL X.K H a xs) (hb : SqL X.K H b ys) (hn : (xs.length != ys.length) = true) :
    ∃ va vb, s.heap.IsList a va ∧ s.heap.IsList b vb ∧ (va.size != vb.size) = true ∧ a ≠ b := by
  obtain ⟨va, rva, ⟨o1, n1, ho1, hc1, _, hd1⟩, _⟩ := I.list ha
  obtain ⟨vb, rvb, ⟨o2, n2, ho2, hc2, _, hd2⟩, _⟩ := I.list hb
  have la := rva.length
  have lb := rvb.length
  refine ⟨va.toArray, vb.toArray, ⟨_, ho1, hc1, _, hd1⟩, ⟨_, ho2, hc2, _, hd2⟩, ?_, ?_⟩
  · simp only [List.size_toArray]
    rw [← la, ← lb]; exact hn
  · rintro rfl
    rw [ho1] at ho2
    cases ho2
    rw [hd1] at hd2
    injection hd2 with q
    have : va = vb := by simpa using q
    subst this
    rw [la, lb] at hn
    simp at hn
theorem op_neE {X : Cx} (hu : X.A.units + 64 < cLine) : OpR X (compareOp .NotEq) (rNeE X.K) := by
  intro pins s σ H x y v u Q I rx ry h
  rcases h with h | ⟨a, b, xs, ys, rfl, rfl, ha, hb, hn, q⟩
  · exact op_neD hu _ _ _ _ _ _ _ _ _ I rx ry h
  · cases rx
    cases ry
    obtain ⟨va, vb, h1, h2, h3, _⟩ := lens_E I ha hb hn
    exact SeqAt.RcNeAt.lists_lengths h1 h2 h3 (by omega) _ _ _ _ ⟨.bl _, H, I, rfl, q⟩
def lensD : D → D → Bool
  | .list ds, .list es => ds.length != es.length
  | _, _ => false
def pEqE : D → D → Option D := fun a b => if lensD a b = true then some (.bool false) else pEq a b
def pNeE : D → D → Option D := fun a b => if lensD a b = true then some (.bool true) else pNe a b
theorem lens_dp {K : PySem.W.Frag} {G H : Hp} (le : Same G H) {x y : V} {dx dy : D} (hx : DP K G x dx) (hy : DP K G y dy) (hl : lensD dx dy = true) : ∃ a b xs ys, x = .ref a ∧ y = .ref b ∧ SqL K H a xs ∧ SqL K H b ys ∧ (xs.length != ys.length) = true := by
  cases hx with
  | lst h1 k1 =>
    cases hy with
    | lst h2 k2 => exact ⟨_, _, _, _, rfl, rfl, le.seq h1, le.seq h2, by rw [k1.length, k2.length]; exact hl⟩
    | non => cases hl
    | bl _ => cases hl
    | int _ => cases hl
    | str _ => cases hl
    | tup _ _ => cases hl
    | dic _ _ => cases hl
  | non => cases hl
  | bl _ => cases hl
  | int _ => cases hl
  | str _ => cases hl
  | tup _ _ => cases hl
  | dic _ _ => cases hl
theorem a_neE {K : PySem.W.Frag} : A2 K (rNeE K) pNeE := by
  intro G H x y dx dy Q le hx hy d e q
  unfold pNeE at e
  split at e
  · rename_i hl
    cases e
    obtain ⟨a, b, xs, ys, e1, e2, h1, h2, h3⟩ := lens_dp le hx hy hl
    exact .inr ⟨a, b, xs, ys, e1, e2, h1, h2, h3, q G H _ (Grow.refl le) (.bl _)⟩
  · exact .inl (a_ne _ _ _ _ _ _ _ le hx hy _ e q)
theorem v_eqE0 (ds : List D) : pEqE (.list ds) (.list []) = some (.bool ds.isEmpty) := by
  cases ds with
  | nil => rfl
  | cons d ds => rfl
theorem v_neE0 (ds : List D) : pNeE (.list ds) (.list []) = some (.bool (!ds.isEmpty)) := by
  cases ds with
  | nil => rfl
  | cons d ds => rfl
end DL
/-! # DLn: methods of lists that are asked for a number -/
namespace DL
open PySem PySem.Spec PyProof.Rows L2
def dMt (f : List D → List D → Option D) (mx : M D) (ms : M (List D)) : M D := fun r => (mx r).bind fun a => match a.1 with
  | .list ds => (ms a.2).bind fun b => (ofO (f ds b.1)).bind fun d => .ok (d, b.2)
  | _ => .no
end DL
/-! # DLp: zip of three; unlike kinds told apart; what an error is none of -/
namespace PySem.SeqAt
open AutoSeq1 (wpAny_loadPart')
open MeetsSeq MeetsSeq2 MeetsSeq3 SeqRoads2
end PySem.SeqAt
namespace L2
open PySem PySem.Spec PyProof.Rows
end L2
namespace DL
open PySem PySem.Spec PyProof.Rows L2
/-- triples of data -/
def zipD3 : List D → List D → List D → List D
  | a :: as, b :: bs, c :: cs => .tuple [a, b, c] :: zipD3 as bs cs
  | _, _, _ => []
def pZip3 (a b c : D) : Option (List D) := (seqD a).bind fun ds => (seqD b).bind fun es => (seqD c).map fun fs => zipD3 ds es fs
def iZip3 (m n k : M D) : M (List D) := fun r => (m r).bind fun a => (n a.2).bind fun b => (k b.2).bind fun c => (ofO (pZip3 a.1 b.1 c.1)).bind fun d => .ok (d, c.2)
/-! ### a dict is no number -/
/-! ### isinstance(e, (c, c')) in a suite -/
def dIsE2 (i : Nat) (isx isy : Str → Option Bool) : M D := fun r => match r[i]? with
  | some (.exn x) => (ofO ((isx x.C).bind fun a => (isy x.C).map fun b => a || b)).bind fun b => .ok (.bool b, r)
  | _ => .no
theorem r_IsE2 (i : Nat) (isx isy : Str → Option Bool) (r : Rho) : dIsE2 i isx isy r = match r[i]? with
  | some (.exn x) => (ofO ((isx x.C).bind fun a => (isy x.C).map fun b => a || b)).bind fun b => .ok (.bool b, r)
  | _ => .no := rfl
theorem r_iZip3 (m n k : M D) (r : Rho) : iZip3 m n k r = (m r).bind fun a => (n a.2).bind fun b => (k b.2).bind fun c => (ofO (pZip3 a.1 b.1 c.1)).bind fun d => .ok (d, c.2) := rfl
theorem r_Mt (f : List D → List D → Option D) (mx : M D) (ms : M (List D)) (r : Rho) : dMt f mx ms r = (mx r).bind fun a => match a.1 with
  | .list ds => (ms a.2).bind fun b => (ofO (f ds b.1)).bind fun d => .ok (d, b.2)
  | _ => .no := rfl
/-! ### a name whose list is changed no more, laid fast ahead of a look -/
def dPre (i : Nat) (m : M D) : M D := fun r => (dVar i r).bind fun a => m a.2
theorem r_Pre (i : Nat) (m : M D) (r : Rho) : dPre i m r = (dVar i r).bind fun a => m a.2 := rfl
/-! ### a cut of a list that is still changed -/
def eCutO (i : Nat) (lo hi : M (Option Int)) : M RV := fun r => match r[i]? with
  | some (.own _ (.lst _)) => (lo r).bind fun b => (hi b.2).bind fun c => (match c.2[i]? with
    | some (.own _ (.lst ds)) => .ok (.own (.lst (cutD ds b.1 c.1)), c.2)
    | _ => .no)
  | _ => .no
theorem r_CutO (i : Nat) (lo hi : M (Option Int)) (r : Rho) : eCutO i lo hi r = match r[i]? with
  | some (.own _ (.lst _)) => (lo r).bind fun b => (hi b.2).bind fun c => (match c.2[i]? with
    | some (.own _ (.lst ds)) => .ok (.own (.lst (cutD ds b.1 c.1)), c.2)
    | _ => .no)
  | _ => .no := rfl
/-! ### a text times a number -/
end DL
/-! # DLd: dicts whose keys are numbers or texts -/
namespace L2
open PySem PySem.Spec PyProof.Rows
section
variable {J : It} {n : Nat} {G : Hp → Prop} {Y : Nat → Hp → V → Hp → Prop}
end
end L2
namespace DL
open PySem PySem.Spec PyProof.Rows L2
theorem RoomG.u1 {k : Nat} {A : Around} (h : RoomG k A) : A.units + 1 < cLine := by have := h.units; omega
/-! ### pairs as a table -/
def isK (k : Key) (e : D × D) : Bool := decide (kOf e.1 = some k)
def valE (es : List (D × D)) (k : Key) : Option D := (es.find? (isK k)).map (·.2)
def putE (es : List (D × D)) (k : Key) (d : D) : List (D × D) := if es.any (isK k) = true then es.map (fun e => if isK k e = true then (e.1, d) else e) else es ++ [(kD k, d)]
theorem kOf_kD (k : Key) : kOf (kD k) = some k := by cases k <;> rfl
theorem isK_kD (k j : Key) (d : D) : isK k (kD j, d) = decide (j = k) := by
  unfold isK
  rw [kOf_kD]
  by_cases h : j = k
  · rw [h]; simp
  · simp [h]
section
variable {K : PySem.W.Frag} {G : Hp}
theorem DPk.anyK (k : Key) : ∀ {kvs : List (Key × V)} {es : List (D × D)}, DPk K G kvs es → (kvs.any fun kv => decide (kv.1 = k)) = es.any (isK k)
  | _, _, .nil => rfl
  | _, _, .cons h1 h2 => by rw [List.any_cons, List.any_cons, isK_kD, DPk.anyK k h2]
theorem DPk.repl (k : Key) {v : V} {d : D} (hv : DP K G v d) : ∀ {kvs : List (Key × V)} {es : List (D × D)}, DPk K G kvs es → DPk K G (kvs.map fun kv => if kv.1 = k then (kv.1, v) else kv) (es.map fun e => if isK k e = true then (e.1, d) else e)
  | _, _, .nil => .nil
  | _, _, .cons (k := j) h1 h2 => by
    rw [List.map_cons, List.map_cons, isK_kD]
    by_cases h : j = k
    · rw [if_pos h, if_pos (decide_eq_true h)]
      exact .cons hv (DPk.repl k hv h2)
    · rw [if_neg h, if_neg (by simpa using h)]
      exact .cons h1 (DPk.repl k hv h2)
theorem DPk.snoc (k : Key) {v : V} {d : D} (hv : DP K G v d) : ∀ {kvs : List (Key × V)} {es : List (D × D)}, DPk K G kvs es → DPk K G (kvs ++ [(k, v)]) (es ++ [(kD k, d)])
  | _, _, .nil => .cons hv .nil
  | _, _, .cons h1 h2 => .cons h1 (DPk.snoc k hv h2)
theorem DPk.put (k : Key) {v : V} {d : D} (hv : DP K G v d) {kvs : List (Key × V)} {es : List (D × D)} (h : DPk K G kvs es) : DPk K G (putK kvs k v) (putE es k d) := by
  unfold putK putE
  rw [DPk.anyK k h]
  split
  · exact DPk.repl k hv h
  · exact DPk.snoc k hv h
theorem DPk.len : ∀ {kvs : List (Key × V)} {es : List (D × D)}, DPk K G kvs es → kvs.length = es.length
  | _, _, .nil => rfl
  | _, _, .cons _ h2 => congrArg (· + 1) (DPk.len h2)
theorem DPk.val (k : Key) : ∀ {kvs : List (Key × V)} {es : List (D × D)}, DPk K G kvs es → (valV kvs k = none ∧ valE es k = none) ∨ ∃ v d, valV kvs k = some v ∧ valE es k = some d ∧ DP K G v d
  | _, _, .nil => .inl ⟨rfl, rfl⟩
  | _, _, .cons (k := j) (v := v) (d := d) (vs := vs) (ds := ds) h1 h2 => by
    by_cases h : j = k
    · refine .inr ⟨v, d, valV_pos h, ?_, h1⟩
      unfold valE
      rw [List.find?_cons, isK_kD, decide_eq_true h]
      rfl
    · have e : valE ((kD j, d) :: ds) k = valE ds k := by
        unfold valE
        rw [List.find?_cons, isK_kD, decide_eq_false h]
      rw [e, valV_neg (p := (j, v)) h]
      exact DPk.val k h2
theorem DP.key {v : V} {d : D} {k : Key} (h : DP K G v d) (e : kOf d = some k) : v = kV k := by
  cases h with
  | int i => cases e; rfl
  | str x => cases e; rfl
  | non => cases e
  | bl b => cases e
  | lst _ _ => cases e
  | tup _ _ => cases e
  | dic _ _ => cases e
end
/-! ### a dict comprehension -/
def dcD (vs : List Nat) (b : BM) (c : M Bool) (mk m : M D) : List D → List (D × D) → Rho → Res (List (D × D) × Rho)
  | [], acc, r => .ok (acc, r)
  | d :: ds, acc, r => (ofO (b d r)).bind fun r1 => (noEx (c r1)).bind fun t => if t.1 = true then
      ((noEx (mk t.2)).bind fun y => (noEx (m y.2)).bind fun x => (ofO (kOf y.1)).bind fun k => if acc.length < 16777216 then (ofO (wipeR x.2 vs)).bind fun r2 => dcD vs b c mk m ds (putE acc k x.1) r2 else .no)
    else (ofO (wipeR t.2 vs)).bind fun r2 => dcD vs b c mk m ds acc r2
def eDc (mi : M (List D)) (vs : List Nat) (b : BM) (c : M Bool) (mk m : M D) : M RV := fun r => (mi r).bind fun a => (ofO (wipeR a.2 vs)).bind fun r1 => (dcD vs b c mk m a.1 [] r1).bind fun x => .ok (.own (.dic x.1), x.2)
section
variable {K : PySem.W.Frag} {tcK : TabC K} {E : WX} {wi : TI} {mi : M (List D)} {g : TG} {b : BM} {tt : TT} {c : M Bool} {tk te : TE} {mk m : M D} {vs ws : List Nat}
/-! ### a new empty dict -/
def eDic0 : M RV := fun r => .ok (.own (.dic []), r)
/-! ### d.get(k, x), d[k], k in d -/
variable {td ty tx : TE} {md mx : M D}
def dGet2 (md mk mx : M D) : M D := fun r => (md r).bind fun a => match a.1 with
  | .dict es => (mk a.2).bind fun b => (ofO (kOf b.1)).bind fun k => (mx b.2).bind fun c => .ok ((valE es k).getD c.1, c.2)
  | _ => .no
def dIxK (md mk : M D) : M D := fun r => (md r).bind fun a => match a.1 with
  | .dict es => (mk a.2).bind fun b => (ofO (kOf b.1)).bind fun k => (ofO (valE es k)).bind fun d => .ok (d, b.2)
  | _ => .no
/-- x[k] of a dict that is still changed -/
def dIxKO (i : Nat) (mk : M D) : M D := fun r => match r[i]? with
  | some (.own _ (.dic _)) => (mk r).bind fun b => match b.2[i]? with
    | some (.own _ (.dic es)) => (ofO (kOf b.1)).bind fun k => (ofO (valE es k)).bind fun d => .ok (d, b.2)
    | _ => .no
  | _ => .no
/-- x[k] = e, x a slot that owns a dict -/
def sPutK (i : Nat) (mk m : M D) : SM := fun r => (m r).bind fun a => match a.2[i]? with
  | some (.own _ (.dic _)) => (mk a.2).bind fun b => match b.2[i]? with
    | some (.own p (.dic es)) => (ofO (kOf b.1)).bind fun k => if es.length < 16777216 then .ok (.nx, b.2.set i (.own p (.dic (putE es k a.1)))) else .no
    | _ => .no
  | _ => .no
end
/-! ### d == {} -/
end DL
/-! # DLf: try with several clauses, each with its name; the unnamed ones behind them are never reached -/
namespace L2
open PySem PySem.Spec PyProof.Rows
abbrev ClT := Value × Nat × (Addr → Value → Option Addr → TS)
section
variable {X : Cx} {body : List Stmt} {h₀ : ExceptHandler} {hds : List ExceptHandler} {l : List ClT} {pos : Pos} {tb : WX → TS}
end
end L2
namespace DL
open PySem PySem.Spec PyProof.Rows L2
abbrev CatM := (Str → Option Bool) × SM
/-- the named clauses, one after the other -/
def suitesX (i : Nat) (x : Exn × Rho) : List CatM → Res (Fl × Rho)
  | [] => .no
  | (cat, msu) :: l => match cat x.1.C with
    | some true => if noExn x.2 = true ∧ free x.2 i = true then endX i (msu (x.2.set i (.exn x.1))) else .no
    | some false => suitesX i x l
    | none => .no
/-- try: mb except .. as e (slot i): the suites; none of them: no promise -/
def sTryM (i : Nat) (cs : List CatM) (mb : SM) : SM := fun r => match mb r with
  | .ok a => .ok a
  | .no => .no
  | .ex x => suitesX i x cs
section
variable {K : PySem.W.Frag} {tcK : TabC K}
end
section
variable {X : Cx} {tcX : TabC X.K} {E : WX}
end
end DL
/-! # DLi: zip whose pair is handed on: enumerate(zip(a, b)) -/
namespace PySem
open Sem (wp)
/-- a zip's record, b: strict -/
abbrev ZipG (b : Bool) (f0 : Value) (f1 : Bool) (h : Heap) (z TI TO : Addr) : Prop :=
  h.get? z = some { cls := .type "zip", dict := none, data := .fields #[f0, .bool f1, .bool b, .ref TI, .ref TO], slots := #[] }
/-- a zip whose pair may still be out -/
def ZOk (b : Bool) (h : Heap) (z TI TO : Addr) : Prop := ∃ f0 f1, ZipG b f0 f1 h z TI TO ∧ (f0 = .none ∨ ∃ T : Nat, f0 = rawInt T)
section
variable {prog : Program} {w : World} {A : Around} {E : Value → Shared → Prop} {s : Shared} {z TI TO i1 i2 : Addr} {fp1 fp2 : List Addr} {n1 n2 i : Nat} {P1 P2 : Nat → Value → Prop} {St1 St2 : Nat → Heap → Prop}
theorem ZOk.keep {b : Bool} {h h' : Heap} (q : ZOk b h z TI TO) (e : ∀ o, h.get? z = some o → h'.get? z = some o) : ZOk b h' z TI TO := by
  obtain ⟨f0, f1, a, c⟩ := q
  exact ⟨f0, f1, e _ a, c⟩
theorem alive_any {a : Addr} {Q : Option Obj → Shared → Prop} (h : Q (s.heap.get? a) s) : wpAny (model prog w) A (loadIfAlive a) Q E s := fun _ _ _ => h
theorem isFree_zip {b f1 : Bool} {f0 : Value} {Q : Bool → Shared → Prop} (hz : ZipG b f0 f1 s.heap z TI TO) (h0 : f0 = .none ∨ ∃ T : Nat, f0 = rawInt T) (hf : Q true s)
    (hh : ∀ h', ZOk b h' z TI TO → Heap.SameBut z s.heap h' → Q false { s with heap := h' }) : wpAny (model prog w) A (Builtin.SmallTypes.ownedTupleIsFree (.ref z)) Q E s := by
  unfold Builtin.SmallTypes.ownedTupleIsFree
  rcases h0 with rfl | ⟨T, rfl⟩
  · exact wpAny_bind (wpAny_field hz rfl (x := .none) rfl (wpAny_pure hf))
  · refine wpAny_bind (wpAny_field hz rfl (x := rawInt T) rfl ?_)
    show wpAny _ _ (loadIfAlive ((T : Int).toNat) >>= _) _ _ _
    rw [Int.toNat_natCast]
    refine wpAny_bind (alive_any ?_)
    cases s.heap.get? T with
    | none =>
      simp only [Option.isNone_none, if_true]
      exact wpAny_pure hf
    | some oT =>
      simp only [Option.isNone_some, Bool.false_eq_true, if_false]
      refine wpAny_bind (wpAny_field hz rfl (x := .bool f1) rfl ?_)
      cases f1 with
      | true =>
        rw [if_neg (show ¬ ((Value.bool true != Value.bool true) = true) from Bool.false_ne_true)]
        exact wpAny_pure (hh s.heap ⟨_, _, hz, .inr ⟨T, rfl⟩⟩ (Heap.SameBut.refl _ _))
      | false =>
        rw [if_pos (show (Value.bool false != Value.bool true) = true from rfl)]
        exact wpAny_bind (wpAny_setField_rec hz (by simp) fun h₁ hz₁ hs₁ => wpAny_pure (hh h₁ ⟨_, _, hz₁, .inr ⟨T, rfl⟩⟩ hs₁))
theorem zipG_item {Q : Value → Shared → Prop} (S : ZipSep2 z TI TO i1 i2 fp1 fp2) (D1 : Draws prog w A i1 fp1 n1 P1 St1) (D2 : Draws prog w A i2 fp2 n2 P2 St2)
    (zo : ZOk false s.heap z TI TO) (hTI : IsTupOf2 s.heap TI (.ref i1) (.ref i2)) (hT0 : ∃ a1 a2, IsTupOf2 s.heap TO a1 a2) (st1 : St1 i s.heap) (st2 : St2 i s.heap) (hlt1 : i < n1) (hlt2 : i < n2)
    (hQ : ∀ x1 x2 h' tk, P1 i x1 → P2 i x2 → ZOk false h' z TI TO → (∃ a b, IsTupOf2 h' TO a b) → St1 (i + 1) h' → St2 (i + 1) h' → IsTupOf2 h' s.heap.objs.size x1 x2 → h'.objs.size = s.heap.objs.size + 1 →
      (∀ c o, c ≠ z → c ≠ TO → c ≠ i1 → c ≠ i2 → s.heap.get? c = some o → h'.get? c = some o) → Q (.ref s.heap.objs.size) { s with heap := h', toks := tk }) :
    wpAny (model prog w) A (Builtin.«zip.__next__» ⟨[.ref z], []⟩) (fun fin s' => ∃ v, fin = .done (.ret v) ∧ Q v s') E s := by
  obtain ⟨hp, g, d, tk0, os⟩ := s
  obtain ⟨f0, f1, hz, hf0⟩ := zo
  obtain ⟨a1, a2, hTO⟩ := hT0
  show wpAny _ _ (field (.ref z) 2 >>= _) _ _ _
  refine wpAny_bind (wpAny_field hz rfl (x := .bool false) rfl ?_)
  show wpAny _ _ (field (.ref z) 3 >>= _) _ _ _
  refine wpAny_bind (wpAny_field hz rfl (x := .ref TI) rfl (wpAny_bind (wpAny_seqItems hTI rfl ?_)))
  show wpAny _ _ (Builtin.SmallTypes.ownedTupleIsFree (.ref z) >>= _) _ _ _
  refine wpAny_bind (isFree_zip hz hf0 ?_ fun h0 zo0 b0 => ?_)
  · simp only [if_true]
    refine wpAny_bind (wpAny_rule (wpAny_bind (wpAny_field hz rfl (x := .ref TO) rfl (wpAny_bind (wpAny_setField_rec hz (by simp) fun h0 z0 b0 => ?_)))))
    have z0' : ZipG false .ellipsis f1 h0 z TI TO := z0
    have b0' : Heap.SameBut z hp h0 := b0
    refine wpAny_bind ?_
    simp only [List.zipIdx_cons, List.zipIdx_nil, List.forIn_cons, List.forIn_nil]
    refine wpAny_bind (wpAny_bind (wpAny_onRaise ?_))
    show wpAny _ _ (Builtin.SmallTypes.nextOf (.ref i1) >>= _) _ _ ⟨h0, g, d, tk0, os⟩
    refine wpAny_bind (D1.item i _ _ _ hlt1 (D1.over st1 b0' S.zf1) fun x1 h1 t1 q1 u1 c1 => wpAny_pure ?_)
    have c1' : Heap.SameBut i1 h0 h1 := c1
    have o1 : IsTupOf2 h1 TO a1 a2 := c1'.extBut _ _ S.Ti1 (b0'.extBut _ _ S.TOz hTO)
    refine wpAny_bind (wpAny_seqItems (s := ⟨h1, g, d, t1, os⟩) o1 rfl (wpAny_bind (updateSeq_IsTupOf2 (s := ⟨h1, g, d, t1, os⟩) o1 fun h2 o2 c2 => ?_)))
    have o2' : IsTupOf2 h2 TO x1 a2 := o2
    have c2' : Heap.SameBut TO h1 h2 := c2
    refine wpAny_bind (wpAny_letGo (wpAny_pure (wpAny_bind (wpAny_bind (wpAny_onRaise ?_)))))
    show wpAny _ _ (Builtin.SmallTypes.nextOf (.ref i2) >>= _) _ _ ⟨h2, g, d, t1, os⟩
    refine wpAny_bind (D2.item i _ _ _ hlt2 (D2.over (D2.over (D2.over st2 b0' S.zf2) c1' S.sep1_2) c2' S.Tf2) fun x2 h3 t3 q3 u3 c3 => wpAny_pure ?_)
    have c3' : Heap.SameBut i2 h2 h3 := c3
    have o3 : IsTupOf2 h3 TO x1 a2 := c3'.extBut _ _ S.Ti2 o2'
    refine wpAny_bind (wpAny_seqItems (s := ⟨h3, g, d, t3, os⟩) o3 rfl (wpAny_bind (updateSeq_IsTupOf2 (s := ⟨h3, g, d, t3, os⟩) o3 fun h4 o4 c4 => ?_)))
    have o4' : IsTupOf2 h4 TO x1 x2 := o4
    have c4' : Heap.SameBut TO h3 h4 := c4
    refine wpAny_bind (wpAny_letGo (wpAny_pure (wpAny_pure (wpAny_bind (wpAny_seqItems (s := ⟨h4, g, d, t3, os⟩) o4' rfl (wpAny_bind (wpAny_newTuple ?_)))))))
    have sz : h4.objs.size = hp.objs.size := by rw [c4'.1, c3'.1, c2'.1, c1'.1, b0'.1]
    have z4 : ZipG false .ellipsis f1 h4 z TI TO := c4'.extBut _ _ S.TOz.symm (c3'.extBut _ _ S.zi2 (c2'.extBut _ _ S.TOz.symm (c1'.extBut _ _ S.zi1 z0')))
    have kk : ∀ c o, c ≠ z → c ≠ TO → c ≠ i1 → c ≠ i2 → hp.get? c = some o → h4.get? c = some o := fun c o k1 k2 k3 k4 e =>
      c4'.extBut _ _ k2 (c3'.extBut _ _ k4 (c2'.extBut _ _ k2 (c1'.extBut _ _ k3 (b0'.extBut _ _ k1 e))))
    have v1 : St1 (i + 1) h4 := D1.over (D1.over (D1.over u1 c2' S.Tf1) c3' S.sep2_1) c4' S.Tf1
    have v2 : St2 (i + 1) h4 := D2.over u3 c4' S.Tf2
    have zlt : z < h4.objs.size := Heap.lt_size z4
    show wpAny _ _ (Builtin.SmallTypes.ownedTupleHandOut (.ref z) (.ref h4.objs.size) >>= _) _ _ ⟨h4.push { cls := .type "tuple", data := .seq #[x1, x2] }, g, d, t3, os⟩
    refine wpAny_bind ?_
    unfold Builtin.SmallTypes.ownedTupleHandOut
    have z5 : ZipG false .ellipsis f1 (h4.push { cls := .type "tuple", data := .seq #[x1, x2] }) z TI TO := Heap.get?_push_of_some _ z4
    refine wpAny_bind (wpAny_setField_rec z5 (by simp) fun h6 z6 c6 => ?_)
    have z6' : ZipG false (rawInt h4.objs.size) f1 h6 z TI TO := z6
    refine wpAny_setField_rec z6' (by simp) fun h7 z7 c7 => ?_
    have z7' : ZipG false (rawInt h4.objs.size) false h7 z TI TO := z7
    have c6' : Heap.SameBut z (h4.push { cls := .type "tuple", data := .seq #[x1, x2] }) h6 := c6
    have c7' : Heap.SameBut z h6 h7 := c7
    have up : ∀ c o, c ≠ z → h4.get? c = some o → h7.get? c = some o := fun c o k e => c7'.extBut _ _ k (c6'.extBut _ _ k (Heap.get?_push_of_some _ e))
    have tN : IsTupOf2 h7 h4.objs.size x1 x2 := c7'.extBut _ _ (Nat.ne_of_gt zlt) (c6'.extBut _ _ (Nat.ne_of_gt zlt) (Heap.get?_push_size _ rfl))
    have s7 : h7.objs.size = h4.objs.size + 1 := by rw [c7'.1, c6'.1, Heap.size_push]
    rw [sz] at z7' tN s7
    refine wpAny_pure ⟨_, rfl, ?_⟩
    show Q (.ref h4.objs.size) ⟨h7, g, d, t3, os⟩
    rw [sz]
    exact hQ x1 x2 h7 t3 q1 q3 ⟨_, _, z7', .inr ⟨_, rfl⟩⟩ ⟨_, _, up _ _ S.TOz o4'⟩ (D1.frame _ _ _ v1 fun b hb o e => up b o (fun q => S.zf1 (q ▸ hb)) e) (D2.frame _ _ _ v2 fun b hb o e => up b o (fun q => S.zf2 (q ▸ hb)) e) tN s7
      fun c o k1 k2 k3 k4 e => up c o k1 (kk c o k1 k2 k3 k4 e)
  · have b0' : Heap.SameBut z hp h0 := b0
    simp only [Bool.false_eq_true, if_false]
    refine wpAny_bind ?_
    rw [← Array.forIn_toList]
    simp only [List.forIn_cons, List.forIn_nil]
    refine wpAny_bind (wpAny_bind (wpAny_holding ?_))
    show wpAny _ _ (Builtin.SmallTypes.nextOf (.ref i1) >>= _) _ _ ⟨h0, g, d, tk0, os⟩
    refine wpAny_bind (D1.item i _ _ _ hlt1 (D1.over st1 b0' S.zf1) fun x1 h1 t1 q1 u1 c1 => wpAny_pure ?_)
    have c1' : Heap.SameBut i1 h0 h1 := c1
    refine wpAny_pure ?_
    refine wpAny_bind (wpAny_bind (wpAny_holding ?_))
    show wpAny _ _ (Builtin.SmallTypes.nextOf (.ref i2) >>= _) _ _ ⟨h1, g, d, t1, os⟩
    refine wpAny_bind (D2.item i _ _ _ hlt2 (D2.over (D2.over st2 b0' S.zf2) c1' S.sep1_2) fun x2 h3 t3 q3 u3 c3 => wpAny_pure ?_)
    have c3' : Heap.SameBut i2 h1 h3 := c3
    refine wpAny_pure (wpAny_pure ?_)
    show wpAny _ _ (newTuple [x1, x2] >>= _) _ _ ⟨h3, g, d, t3, os⟩
    refine wpAny_bind (wpAny_newTuple ?_)
    have sz : h3.objs.size = hp.objs.size := by rw [c3'.1, c1'.1, b0'.1]
    have z3 : ZOk false h3 z TI TO := (zo0.keep fun o e => c1'.extBut _ _ S.zi1 e).keep fun o e => c3'.extBut _ _ S.zi2 e
    have kk : ∀ c o, c ≠ z → c ≠ TO → c ≠ i1 → c ≠ i2 → hp.get? c = some o → h3.get? c = some o := fun c o k1 k2 k3 k4 e => c3'.extBut _ _ k4 (c1'.extBut _ _ k3 (b0'.extBut _ _ k1 e))
    have v1 : St1 (i + 1) h3 := D1.over u1 c3' S.sep2_1
    have tO : IsTupOf2 h3 TO a1 a2 := c3'.extBut _ _ S.Ti2 (c1'.extBut _ _ S.Ti1 (b0'.extBut _ _ S.TOz hTO))
    have up : ∀ c o, h3.get? c = some o → (h3.push { cls := .type "tuple", data := .seq #[x1, x2] }).get? c = some o := fun c o e => Heap.get?_push_of_some _ e
    have tN : IsTupOf2 (h3.push { cls := .type "tuple", data := .seq #[x1, x2] }) h3.objs.size x1 x2 := Heap.get?_push_size _ rfl
    have s7 : (h3.push { cls := .type "tuple", data := .seq #[x1, x2] }).objs.size = h3.objs.size + 1 := Heap.size_push ..
    refine wpAny_pure ⟨_, rfl, ?_⟩
    show Q (.ref h3.objs.size) ⟨_, g, d, t3, os⟩
    rw [sz] at tN s7 ⊢
    exact hQ x1 x2 _ t3 q1 q3 (z3.keep fun o e => up _ _ e) ⟨_, _, up _ _ tO⟩ (D1.frame _ _ _ v1 fun b hb o e => up b o e) (D2.frame _ _ _ u3 fun b hb o e => up b o e) tN s7 fun c o k1 k2 k3 k4 e => up c o (kk c o k1 k2 k3 k4 e)
theorem zipG_end {n : Nat} {Q : Fin → Shared → Prop} (S : ZipSep2 z TI TO i1 i2 fp1 fp2) (D1 : Draws prog w A i1 fp1 n P1 St1)
    (zo : ZOk false s.heap z TI TO) (hTI : IsTupOf2 s.heap TI (.ref i1) (.ref i2)) (st1 : St1 n s.heap)
    (hE : ∀ h' tk e, (∀ c o, c ≠ z → c ≠ TO → c ≠ i1 → c ≠ i2 → s.heap.get? c = some o → h'.get? c = some o) → (∃ o, h'.get? e = some o ∧ o.cls = .type "StopIteration") → E (.ref e) { s with heap := h', toks := tk }) :
    wpAny (model prog w) A (Builtin.«zip.__next__» ⟨[.ref z], []⟩) Q E s := by
  obtain ⟨hp, g, d, tk0, os⟩ := s
  obtain ⟨f0, f1, hz, hf0⟩ := zo
  show wpAny _ _ (field (.ref z) 2 >>= _) _ _ _
  refine wpAny_bind (wpAny_field hz rfl (x := .bool false) rfl ?_)
  show wpAny _ _ (field (.ref z) 3 >>= _) _ _ _
  refine wpAny_bind (wpAny_field hz rfl (x := .ref TI) rfl (wpAny_bind (wpAny_seqItems hTI rfl ?_)))
  show wpAny _ _ (Builtin.SmallTypes.ownedTupleIsFree (.ref z) >>= _) _ _ _
  refine wpAny_bind (isFree_zip hz hf0 ?_ fun h0 zo0 b0 => ?_)
  · simp only [if_true]
    refine wpAny_bind (wpAny_rule (wpAny_bind (wpAny_field hz rfl (x := .ref TO) rfl (wpAny_bind (wpAny_setField_rec hz (by simp) fun h0 z0 b0 => ?_)))))
    have z0' : ZipG false .ellipsis f1 h0 z TI TO := z0
    have b0' : Heap.SameBut z hp h0 := b0
    refine wpAny_bind ?_
    simp only [List.zipIdx_cons, List.zipIdx_nil, List.forIn_cons, List.forIn_nil]
    refine wpAny_bind (wpAny_bind (wpAny_onRaise ?_))
    show wpAny _ _ (Builtin.SmallTypes.nextOf (.ref i1) >>= _) _ _ ⟨h0, g, d, tk0, os⟩
    refine wpAny_bind (D1.done ⟨h0, g, d, tk0, os⟩ _ _ (D1.over st1 b0' S.zf1) fun q e hq he => ?_)
    have hq' : Heap.ExtBut i1 h0 q := hq
    obtain ⟨oe, hoe, hce⟩ := he
    have hoe' : q.get? e = some oe := hoe
    have hzq : ZipG false .ellipsis f1 q z TI TO := hq' _ _ S.zi1 z0'
    have hez : e ≠ z := fun x => by subst x; rw [hzq] at hoe'; cases hoe'; simp at hce
    refine wpAny_setField_rec (s := ⟨q, g, d, tk0, os⟩) hzq (by simp) fun q2 _ hq2 => ?_
    have hq2' : Heap.SameBut z q q2 := hq2
    exact hE q2 tk0 e (fun c o cz cT c1 c2 x => hq2'.extBut _ _ cz (hq' _ _ c1 (b0'.extBut _ _ cz x))) ⟨oe, hq2'.extBut _ _ hez hoe', hce⟩
  · have b0' : Heap.SameBut z hp h0 := b0
    simp only [Bool.false_eq_true, if_false]
    refine wpAny_bind ?_
    rw [← Array.forIn_toList]
    simp only [List.forIn_cons, List.forIn_nil]
    refine wpAny_bind (wpAny_bind (wpAny_holding ?_))
    show wpAny _ _ (Builtin.SmallTypes.nextOf (.ref i1) >>= _) _ _ ⟨h0, g, d, tk0, os⟩
    refine wpAny_bind (D1.done ⟨h0, g, d, tk0, os⟩ _ _ (D1.over st1 b0' S.zf1) fun q e hq he => ?_)
    have hq' : Heap.ExtBut i1 h0 q := hq
    exact hE q tk0 e (fun c o cz cT c1 c2 x => hq' _ _ c1 (b0'.extBut _ _ cz x)) he
theorem nextOf_zipG {Q : Value → Shared → Prop} (S : ZipSep2 z TI TO i1 i2 fp1 fp2) (D1 : Draws prog w A.in1 i1 fp1 n1 P1 St1) (D2 : Draws prog w A.in1 i2 fp2 n2 P2 St2)
    (zo : ZOk false s.heap z TI TO) (hTI : IsTupOf2 s.heap TI (.ref i1) (.ref i2)) (hT0 : ∃ a1 a2, IsTupOf2 s.heap TO a1 a2) (st1 : St1 i s.heap) (st2 : St2 i s.heap) (hlt1 : i < n1) (hlt2 : i < n2)
    (hQ : ∀ x1 x2 h' tk, P1 i x1 → P2 i x2 → ZOk false h' z TI TO → (∃ a b, IsTupOf2 h' TO a b) → St1 (i + 1) h' → St2 (i + 1) h' → IsTupOf2 h' s.heap.objs.size x1 x2 → h'.objs.size = s.heap.objs.size + 1 →
      (∀ c o, c ≠ z → c ≠ TO → c ≠ i1 → c ≠ i2 → s.heap.get? c = some o → h'.get? c = some o) → Q (.ref s.heap.objs.size) { s with heap := h', toks := tk }) :
    wpAny (model prog w) A (Builtin.SmallTypes.nextOf (.ref z)) Q E s := by
  have hT : s.TypeIs (.ref z) "zip" := by obtain ⟨f0, f1, hz, _⟩ := zo; exact ⟨_, hz, rfl⟩
  unfold Builtin.SmallTypes.nextOf
  exact wpAny_bind (wpAny_callSpecial?_slot (name := Str.ofString "__next__") hT F.slot_zip_next
    (wpAny_call_entry F.slot_zip_next hT F.entry_zip_next (zipG_item S D1 D2 zo hTI hT0 st1 st2 hlt1 hlt2 fun x1 x2 h' tk y1 y2 b1 b2 d1 d2 b5 b6 b7 => wpAny_pure (hQ x1 x2 h' tk y1 y2 b1 b2 d1 d2 b5 b6 b7)) (F.args_zip_next_1 _)))
theorem nextOf_zipG_end {n : Nat} {Q : Value → Shared → Prop} (S : ZipSep2 z TI TO i1 i2 fp1 fp2) (D1 : Draws prog w A.in1 i1 fp1 n P1 St1)
    (zo : ZOk false s.heap z TI TO) (hTI : IsTupOf2 s.heap TI (.ref i1) (.ref i2)) (st1 : St1 n s.heap)
    (hE : ∀ h' tk e, (∀ c o, c ≠ z → c ≠ TO → c ≠ i1 → c ≠ i2 → s.heap.get? c = some o → h'.get? c = some o) → (∃ o, h'.get? e = some o ∧ o.cls = .type "StopIteration") → E (.ref e) { s with heap := h', toks := tk }) :
    wpAny (model prog w) A (Builtin.SmallTypes.nextOf (.ref z)) Q E s := by
  have hT : s.TypeIs (.ref z) "zip" := by obtain ⟨f0, f1, hz, _⟩ := zo; exact ⟨_, hz, rfl⟩
  unfold Builtin.SmallTypes.nextOf
  exact wpAny_bind (wpAny_callSpecial?_slot (name := Str.ofString "__next__") hT F.slot_zip_next
    (wpAny_call_entry F.slot_zip_next hT F.entry_zip_next (zipG_end S D1 zo hTI st1 hE) (F.args_zip_next_1 _)))
/-! enumerate over anything whose next is known -/
theorem enumX_item {e it : Addr} {c : Int} {old : Value} {R : Value → Heap → Nat → Prop} {Q : Value → Shared → Prop} (he : IsEnum s.heap e it c old)
    (inner : ∀ (Q : Value → Shared → Prop) (E : Value → Shared → Prop), (∀ x h1 tk, R x h1 tk → Q x { s with heap := h1, toks := tk }) → wpAny (model prog w) A (Builtin.SmallTypes.nextOf (.ref it)) Q E s)
    (hR : ∀ x h1 tk, R x h1 tk → IsEnum h1 e it c old)
    (hQ : ∀ x h1 tk h', R x h1 tk → IsEnumOut h' e it (c + 1) x h1.objs.size → h'.get? h1.objs.size = some { cls := .type "tuple", data := .seq #[.int c tk, x] } → h'.objs.size = h1.objs.size + 1 →
      (∀ b o, b ≠ e → h1.get? b = some o → h'.get? b = some o) → Q (.ref h1.objs.size) { s with heap := h', toks := tk + 1 }) :
    wpAny (model prog w) A (Builtin.«enumerate.__next__» ⟨[.ref e], []⟩) (fun fin s' => ∃ v, fin = .done (.ret v) ∧ Q v s') E s := by
  obtain ⟨hp, g, d, tk₀, os⟩ := s
  show wpAny _ _ (field (.ref e) 2 >>= _) _ _ _
  refine wpAny_bind (wpAny_field he rfl (x := .ref it) rfl ?_)
  refine wpAny_bind (inner _ _ fun x h₁ tk hRx => ?_)
  have he₁ : IsEnum h₁ e it c old := hR x h₁ tk hRx
  show wpAny _ _ (field (.ref e) 3 >>= _) _ _ ⟨h₁, g, d, tk, os⟩
  refine wpAny_bind (wpAny_field he₁ rfl (x := rawInt c) rfl ?_)
  show wpAny _ _ (field (.ref e) 4 >>= _) _ _ ⟨h₁, g, d, tk, os⟩
  refine wpAny_bind (wpAny_field he₁ rfl (x := .none) rfl ?_)
  show wpAny _ _ (mkInt c >>= _) _ _ ⟨h₁, g, d, tk, os⟩
  refine wpAny_bind (wpAny_mkInt ?_)
  show wpAny _ _ (setField (.ref e) 3 (rawInt (c + 1)) >>= _) _ _ ⟨h₁, g, d, tk + 1, os⟩
  refine wpAny_bind (wpAny_setField_rec he₁ (by simp) fun h₂ he₂ hs₂ => ?_)
  replace hs₂ : Heap.SameBut e h₁ h₂ := hs₂
  replace he₂ : IsEnum h₂ e it (c + 1) old := he₂
  show wpAny _ _ (setField (.ref e) 4 .none >>= _) _ _ ⟨h₂, g, d, tk + 1, os⟩
  refine wpAny_bind (wpAny_setField_rec he₂ (by simp) fun h₃ he₃ hs₃ => ?_)
  replace hs₃ : Heap.SameBut e h₂ h₃ := hs₃
  replace he₃ : IsEnum h₃ e it (c + 1) old := he₃
  show wpAny _ _ (newTuple [.int c tk, x] >>= _) _ _ ⟨h₃, g, d, tk + 1, os⟩
  refine wpAny_bind (wpAny_newTuple ?_)
  have he₄ : IsEnum (h₃.push { cls := .type "tuple", data := .seq #[.int c tk, x] }) e it (c + 1) old := Heap.get?_push_of_some _ he₃
  generalize hh₄ : h₃.push { cls := .type "tuple", data := .seq #[.int c tk, x] } = h₄ at he₄
  have hsz : h₃.objs.size = h₁.objs.size := by rw [hs₃.1, hs₂.1]
  have hel : e < h₁.objs.size := Heap.lt_size he₁
  have ht₄ : h₄.get? h₁.objs.size = some { cls := .type "tuple", data := .seq #[.int c tk, x] } := by rw [← hh₄, ← hsz]; exact Heap.get?_push_size _ rfl
  have hz₄ : h₄.objs.size = h₁.objs.size + 1 := by rw [← hh₄, Heap.size_push, hsz]
  have hk₄ : ∀ b o, b ≠ e → h₁.get? b = some o → h₄.get? b = some o := fun b o hbe hb => by
    rw [← hh₄]; exact Heap.get?_push_of_some _ (hs₃.extBut b o hbe (hs₂.extBut b o hbe hb))
  show wpAny _ _ (Builtin.SmallTypes.ownedTupleIsFree (.ref e) >>= _) _ _ ⟨h₄, g, d, tk + 1, os⟩
  rw [hsz]
  clear hh₄ he₃ hs₃ he₂ hs₂ hsz h₃ h₂
  refine wpAny_bind ?_
  · unfold Builtin.SmallTypes.ownedTupleIsFree
    refine wpAny_bind (wpAny_field he₄ rfl (x := .none) rfl (wpAny_pure ?_))
    simp only [if_true]
    refine wpAny_bind (wpAny_rule ?_)
    refine wpAny_bind (wpAny_field he₄ rfl (x := old) rfl ?_)
    refine wpAny_bind (wpAny_setField_rec he₄ (by simp) fun h₅ he₅ hs₅ => ?_)
    replace hs₅ : Heap.SameBut e h₄ h₅ := hs₅
    replace he₅ : IsEnum h₅ e it (c + 1) x := he₅
    show wpAny _ _ (Builtin.SmallTypes.ownedTupleHandOut (.ref e) (.ref h₁.objs.size) >>= _) _ _ ⟨h₅, g, d, tk + 1, os⟩
    refine wpAny_bind ?_
    · unfold Builtin.SmallTypes.ownedTupleHandOut
      refine wpAny_bind (wpAny_setField_rec he₅ (by simp) fun h₆ he₆ hs₆ => ?_)
      replace hs₆ : Heap.SameBut e h₅ h₆ := hs₆
      replace he₆ : IsEnumOut h₆ e it (c + 1) x h₁.objs.size := he₆
      refine wpAny_setField_rec he₆ (by simp) fun h₇ he₇ hs₇ => ?_
      replace hs₇ : Heap.SameBut e h₆ h₇ := hs₇
      replace he₇ : IsEnumOut h₇ e it (c + 1) x h₁.objs.size := he₇
      refine wpAny_bind (wpAny_letGo (wpAny_pure ⟨_, rfl, hQ x h₁ tk h₇ hRx he₇ ?_ ?_ ?_⟩))
      · exact hs₇.extBut _ _ (Nat.ne_of_gt hel) (hs₆.extBut _ _ (Nat.ne_of_gt hel) (hs₅.extBut _ _ (Nat.ne_of_gt hel) ht₄))
      · rw [hs₇.1, hs₆.1, hs₅.1, hz₄]
      · exact fun b o hbe hb => hs₇.extBut b o hbe (hs₆.extBut b o hbe (hs₅.extBut b o hbe (hk₄ b o hbe hb)))
theorem pyNext_enumX {e it : Addr} {c : Int} {old : Value} {R : Value → Heap → Nat → Prop} {Q : Option Value → Shared → Prop} (he : IsEnum s.heap e it c old)
    (inner : ∀ (Q : Value → Shared → Prop) (E : Value → Shared → Prop), (∀ x h1 tk, R x h1 tk → Q x { s with heap := h1, toks := tk }) → wpAny (model prog w) A.in1 (Builtin.SmallTypes.nextOf (.ref it)) Q E s)
    (hR : ∀ x h1 tk, R x h1 tk → IsEnum h1 e it c old)
    (hQ : ∀ x h1 tk h', R x h1 tk → IsEnumOut h' e it (c + 1) x h1.objs.size → h'.get? h1.objs.size = some { cls := .type "tuple", data := .seq #[.int c tk, x] } → h'.objs.size = h1.objs.size + 1 →
      (∀ b o, b ≠ e → h1.get? b = some o → h'.get? b = some o) → Q (some (.ref h1.objs.size)) { s with heap := h', toks := tk + 1 }) :
    wpAny (model prog w) A (pyNext (.ref e)) Q E s := by
  have hT : s.TypeIs (.ref e) "enumerate" := ⟨_, he, rfl⟩
  unfold pyNext
  exact wpAny_bind (wpAny_attempt (wpAny_callSpecial?_slot (name := Str.ofString "__next__") hT F.slot_enumerate_next
    (wpAny_call_entry F.slot_enumerate_next hT F.entry_enumerate_next
      (enumX_item he inner hR fun x h1 tk h' a b c d k => wpAny_pure (hQ x h1 tk h' a b c d k)) (F.args_enumerate_next_1 _))))
theorem pyNext_enumX_end {e it : Addr} {c : Int} {old : Value} {R : Heap → Nat → Prop} {Q : Option Value → Shared → Prop} (he : IsEnum s.heap e it c old)
    (inner : ∀ (Q : Value → Shared → Prop) (E : Value → Shared → Prop), (∀ h' tk x, R h' tk → (∃ o, h'.get? x = some o ∧ o.cls = .type "StopIteration") → E (.ref x) { s with heap := h', toks := tk }) → wpAny (model prog w) A.in1 (Builtin.SmallTypes.nextOf (.ref it)) Q E s)
    (hQ : ∀ h' tk, R h' tk → Q none { s with heap := h', toks := tk }) : wpAny (model prog w) A (pyNext (.ref e)) Q E s := by
  have hT : s.TypeIs (.ref e) "enumerate" := ⟨_, he, rfl⟩
  unfold pyNext
  refine wpAny_bind (wpAny_attempt (wpAny_callSpecial?_slot (name := Str.ofString "__next__") hT F.slot_enumerate_next
    (wpAny_call_entry F.slot_enumerate_next hT F.entry_enumerate_next ?_ (F.args_enumerate_next_1 _))))
  show wpAny _ _ (field (.ref e) 2 >>= _) _ _ _
  refine wpAny_bind (wpAny_field he rfl (x := .ref it) rfl ?_)
  refine wpAny_bind (inner _ _ fun h' tk x hr hx' => ?_)
  obtain ⟨o, ho, hc⟩ := hx'
  refine wpAny_bind (wpAny_isInstance (T := "StopIteration") (b := true) ⟨o, ho, hc⟩ isSubtype_stop ?_)
  exact wpAny_pure (hQ h' tk hr)
end
theorem meets_enum_self {v : Value} {H : Heap → Prop} (B : ∀ (prog : Program) (w : World) (A : Around) (E : Value → Shared → Prop) (s : Shared) (Q : Value → Shared → Prop), H s.heap → Q v s → wpAny (model prog w) A (pyIter v) Q E s) :
    Meets (Builtin.«enumerate.__new__» ⟨[.type "enumerate", v], []⟩) (fun _ R s => H s.heap ∧ R (.ok (.ret (.ref s.heap.objs.size))) { s with heap := s.heap.push { cls := .type "enumerate", data := .fields #[.none, .bool false, v, rawInt 0, .none, .none] } }) :=
  .of_wp fun prog w A R s h => by
    obtain ⟨hp, g, d, tk, os⟩ := s; obtain ⟨h1, h⟩ := h; have hsub := sub_enumerate
    have q1 : ∀ {A' : Around} {E : Value → Shared → Prop} {Q : Value → Shared → Prop}, Q v ⟨hp, g, d, tk, os⟩ → wpAny (model prog w) A' (pyIter v) Q E ⟨hp, g, d, tk, os⟩ := fun q => B prog w _ _ ⟨hp, g, d, tk, os⟩ _ h1 q
    wp_walk using q1
    refine wpAny_stack_any fun st => wpAny_pure ?_; split
    · rename_i c _ _ _ _ _
      cases (c == Value.type "enumerate") <;> (wp_walk using q1; exact ⟨_, rfl, h⟩)
    · wp_walk using q1; exact ⟨_, rfl, h⟩
end PySem
namespace L2
open PySem PySem.Spec PyProof.Rows
/-- numbers and pairs of what stands at a and at b -/
def ItEZ (K : PySem.W.Frag) (k1 k2 : SK) (a b : Addr) : It :=
  ⟨fun i H => ∃ (xs ys : List V) (x y : V), Sq k1 K H a xs ∧ Sq k2 K H b ys ∧ xs[i]? = some x ∧ ys[i]? = some y,
    fun i H v H' => ∃ T U x y, v = .ref U ∧ H T = none ∧ upd H T (.tup [x, y]) U = none ∧ H' = upd (upd H T (.tup [x, y])) U (.tup [.int (i : Nat), .ref T]) ∧ (∀ xs, Sq k1 K H a xs → xs[i]? = some x) ∧ ∀ ys, Sq k2 K H b ys → ys[i]? = some y,
    fun i H => ∃ xs ys : List V, Sq k1 K H a xs ∧ Sq k2 K H b ys ∧ i = xs.length ∧ i = ys.length⟩
theorem turn_enumZ {P : Program} {w : World} {K : PySem.W.Frag} {elts : List Expr} {kk : Nat} {tpos : Pos} {k1 k2 : SK} {a b e z TI TO i1 i2 : Addr} (S : ZipSep2 z TI TO i1 i2 [i1, a] [i2, b]) (h1 : a ≠ i1) (h2 : b ≠ i2)
    (ez : e ≠ z) (eI : e ≠ TI) (eO : e ≠ TO) (e1 : e ≠ i1) (e2 : e ≠ i2) :
    Turn P w K (.Tuple elts kk tpos) (ItEZ K k1 k2 a b) [e, z, TI, TO, i1, i2] e (fun i h => (∃ old, IsEnum h e z ((i : Nat) : Int) old) ∧ ZOk false h z TI TO ∧ IsTupOf2 h TI (.ref i1) (.ref i2) ∧ (∃ x y, IsTupOf2 h TO x y) ∧ SqI k1 h i1 a i ∧ SqI k2 h i2 b i) where
  mem := by simp
  obj := fun i h q c hc => by
    obtain ⟨⟨old, he⟩, ⟨f0, f1, hz, _⟩, hTI, ⟨x, y, hTO⟩, q1, q2⟩ := q
    have e' : c = e ∨ c = z ∨ c = TI ∨ c = TO ∨ c = i1 ∨ c = i2 := by simpa using hc
    rcases e' with rfl | rfl | rfl | rfl | rfl | rfl
    · exact ⟨_, he, fun v q => nomatch q⟩
    · exact ⟨_, hz, fun v q => nomatch q⟩
    · exact ⟨_, hTI, fun v q => nomatch q⟩
    · exact ⟨_, hTO, fun v q => nomatch q⟩
    · exact q1.obj
    · exact q2.obj
  keep := fun i h h' q kp => by
    obtain ⟨⟨old, he⟩, zo, hTI, ⟨x, y, hTO⟩, q1, q2⟩ := q
    exact ⟨⟨old, kp e (by simp) _ he⟩, zo.keep fun o x => kp z (by simp) o x, kp TI (by simp) _ hTI, ⟨x, y, kp TO (by simp) _ hTO⟩, q1.keep fun o e => kp i1 (by simp) o e, q2.keep fun o e => kp i2 (by simp) o e⟩
  item := by
    intro X hP hw hK hc i pins s σ H E I hf q hg
    subst hP hw hK
    obtain ⟨⟨old, he⟩, zo, hTI, hT0, q1, q2⟩ := q
    obtain ⟨xs, ys, x, y, hqx, hqy, hx, hy⟩ := hg
    obtain ⟨its, rv, p⟩ := I.sq hqx
    obtain ⟨its2, rv2, p2⟩ := I.sq hqy
    obtain ⟨u, hu, ru⟩ := rv.get hx
    obtain ⟨u2, hu2, ru2⟩ := rv2.get hy
    have D1 := draws_sq (prog := X.prog) (w := X.w) (A := X.A.in1.in1) (I.ok.hd hc) k1 i1 a h1 its.toArray
    have D2 := draws_sq (prog := X.prog) (w := X.w) (A := X.A.in1.in1) (I.ok.hd hc) k2 i2 b h2 its2.toArray
    have l1 : i < its.toArray.size := by have := (List.getElem?_eq_some_iff.mp hu).1; simpa using this
    have l2 : i < its2.toArray.size := by have := (List.getElem?_eq_some_iff.mp hu2).1; simpa using this
    have lts : ∀ c ∈ [e, z, TI, TO, i1, i2], c < s.heap.objs.size := fun c hcm => by
      have e' : c = e ∨ c = z ∨ c = TI ∨ c = TO ∨ c = i1 ∨ c = i2 := by simpa using hcm
      obtain ⟨f0, f1, hz, _⟩ := zo
      obtain ⟨x0, y0, hTO⟩ := hT0
      rcases e' with rfl | rfl | rfl | rfl | rfl | rfl
      · exact Heap.lt_size he
      · exact Heap.lt_size hz
      · exact Heap.lt_size hTI
      · exact Heap.lt_size hTO
      · obtain ⟨_, e1, _⟩ := q1.obj; exact Heap.lt_size e1
      · obtain ⟨_, e1, _⟩ := q2.obj; exact Heap.lt_size e1
    refine pyNext_enumX (R := fun v h' tk => v = .ref s.heap.objs.size ∧ ZOk false h' z TI TO ∧ (∃ a b, IsTupOf2 h' TO a b) ∧ (SqI k1 h' i1 a (i + 1) ∧ SqO k1 h' a its.toArray) ∧ (SqI k2 h' i2 b (i + 1) ∧ SqO k2 h' b its2.toArray) ∧ IsTupOf2 h' s.heap.objs.size u u2 ∧ h'.objs.size = s.heap.objs.size + 1 ∧
        (∀ c o, c ≠ z → c ≠ TO → c ≠ i1 → c ≠ i2 → s.heap.get? c = some o → h'.get? c = some o)) he (fun Q E h => nextOf_zipG S D1 D2 zo hTI hT0 ⟨q1, p⟩ ⟨q2, p2⟩ l1 l2 fun x1 x2 h' tk y1 y2 zo' TO' v1 v2 hT hsz hk => h _ h' tk ⟨rfl, zo', TO', v1, v2, ?_, hsz, hk⟩)
      (fun v h' tk ⟨_, _, _, _, _, _, _, hk⟩ => hk _ _ ez eO e1 e2 he) fun v hp1 tk h' ⟨ev, zo', ⟨a', b', TO'⟩, v1, v2, hT1, hsz1, hk1⟩ ho hT hsz hk => ?_
    · have e1' : x1 = u := by have q : its[i]? = some x1 := by simpa using y1
                              rw [hu] at q; exact (Option.some.inj q).symm
      have e2' : x2 = u2 := by have q : its2[i]? = some x2 := by simpa using y2
                               rw [hu2] at q; exact (Option.some.inj q).symm
      subst e1' e2'
      exact hT
    · subst ev
      refine ⟨_, rfl, wpAny_letOwnedTupleGo_enum (s := { s with heap := h', toks := tk + 1 }) ho fun h'' he' sb => ?_⟩
      have sb' : Heap.SameBut e h' h'' := sb
      have hel : e < hp1.objs.size := Nat.lt_of_lt_of_le (lts e (by simp)) (by rw [hsz1]; exact Nat.le_succ _)
      have new1 : ObjOk X.prog X.w (upd H s.heap.objs.size (.tup [x, y])) hp1 s.heap.objs.size (.tup [x, y]) := ⟨by show 2 ≤ sizeLine; decide, [u, u2], .cons ru (.cons ru2 .nil), ⟨_, hT1, rfl, _, rfl⟩⟩
      have I1 : Inv X pins σ (upd H s.heap.objs.size (.tup [x, y])) { s with heap := hp1, toks := tk } :=
        I.turnedNew (t' := tk) (ch := [e, z, TI, TO, i1, i2]) (fun c o hb q => hk1 c o (fun q' => hb (by simp [q'])) (fun q' => hb (by simp [q'])) (fun q' => hb (by simp [q'])) (fun q' => hb (by simp [q'])) q) hf (Nat.le_refl _) new1
      have hf1 : ∀ c ∈ [e, z, TI, TO, i1, i2], FpOk X pins (upd H s.heap.objs.size (.tup [x, y])) c := fun c hcm => ⟨by rw [upd_ne (Nat.ne_of_lt (lts c hcm))]; exact (hf c hcm).1, (hf c hcm).2⟩
      have hU : h''.get? hp1.objs.size = some { cls := .type "tuple", data := .seq #[.int (i : Nat) tk, .ref s.heap.objs.size] } := (sb'.2 _ (Nat.ne_of_gt hel)).trans hT
      have new2 : ObjOk X.prog X.w (upd (upd H s.heap.objs.size (.tup [x, y])) hp1.objs.size (.tup [.int (i : Nat), .ref s.heap.objs.size])) h'' hp1.objs.size (.tup [.int (i : Nat), .ref s.heap.objs.size]) := ⟨by show 2 ≤ sizeLine; decide, [.int (i : Nat) tk, .ref s.heap.objs.size], .cons ⟨_, rfl⟩ (.cons rfl .nil), ⟨_, hU, rfl, _, rfl⟩⟩
      have I2 : Inv X pins σ (upd (upd H s.heap.objs.size (.tup [x, y])) hp1.objs.size (.tup [.int (i : Nat), .ref s.heap.objs.size])) { s with heap := h'', toks := tk + 1 } :=
        I1.turnedNew (t' := tk + 1) (ch := [e, z, TI, TO, i1, i2]) (fun c o hb q => (sb'.2 c (fun q' => hb (by simp [q']))).trans (hk c o (fun q' => hb (by simp [q'])) q)) hf1 (Nat.le_refl _) new2
      have kp : ∀ c o, c ≠ e → hp1.get? c = some o → h''.get? c = some o := fun c o k q => (sb'.2 c k).trans (hk c o k q)
      refine ⟨.ref hp1.objs.size, _, I2, rfl, ⟨s.heap.objs.size, hp1.objs.size, x, y, rfl, I.hok.fresh (Nat.le_refl _), I1.hok.fresh (Nat.le_refl _), rfl, fun l hl => by rw [I.sq_inj hl hqx]; exact hx, fun l hl => by rw [I.sq_inj hl hqy]; exact hy⟩,
        ⟨⟨.ref s.heap.objs.size, ?_⟩, zo'.keep fun o q => kp z o (Ne.symm ez) q, kp _ _ (Ne.symm eI) (hk1 _ _ S.TIz S.TITO S.TIi1 S.TIi2 hTI), ⟨a', b', kp _ _ (Ne.symm eO) TO'⟩, v1.1.keep fun o q => kp _ _ (Ne.symm e1) q, v2.1.keep fun o q => kp _ _ (Ne.symm e2) q⟩, fun c hcm => ?_⟩
      · rw [show ((i + 1 : Nat) : Int) = (i : Int) + 1 by omega]; exact he'
      · have := lts c hcm
        rw [upd_ne (by rw [hsz1]; exact Nat.ne_of_lt (Nat.lt_succ_of_lt this)), upd_ne (Nat.ne_of_lt this)]
        exact (hf c hcm).1
  done := by
    intro X hP hw hK hc i pins s σ H E I hf q hg
    subst hP hw hK
    obtain ⟨⟨old, he⟩, zo, hTI, hT0, q1, q2⟩ := q
    obtain ⟨xs, ys, hqx, hqy, le1, le2⟩ := hg
    obtain ⟨its, rv, p⟩ := I.sq hqx
    have l1 := rv.length
    have D1 := draws_sq (prog := X.prog) (w := X.w) (A := X.A.in1.in1) (I.ok.hd hc) k1 i1 a h1 its.toArray
    have n1 : its.toArray.size = i := by simp; omega
    rw [n1] at D1
    refine pyNext_enumX_end (R := fun h' tk => ∀ c o, c ≠ z → c ≠ TO → c ≠ i1 → c ≠ i2 → s.heap.get? c = some o → h'.get? c = some o) he (fun Q E h => nextOf_zipG_end S D1 zo hTI ⟨q1, p⟩ fun h' tk e hk he => h h' tk e hk he) fun h' tk hk => ?_
    exact ⟨rfl, I.turnedL (t' := tk) (ch := [e, z, TI, TO, i1, i2]) (fun c o hb q => hk c o (fun q' => hb (by simp [q'])) (fun q' => hb (by simp [q'])) (fun q' => hb (by simp [q'])) (fun q' => hb (by simp [q'])) q) hf⟩
  self := fun A i s Q E st h => let ⟨⟨_, he⟩, _⟩ := st; wpAny_pyIter_enum he h
/-- enumerate(zip(a, b)), both as long -/
def iEnumZ (K : PySem.W.Frag) (ta : TA) : TI := fun σ H R => ta σ H fun vs H1 => ∃ (a b : Addr) (k1 k2 : SK) (xs ys : List V), vs = [.ref a, .ref b] ∧ Sq k1 K H1 a xs ∧ Sq k2 K H1 b ys ∧ R (ItEZ K k1 k2 a b) H1
section
variable {X : Cx} {e e2 : Expr} {ta : TA} {p p2 pos pos2 tpos : Pos} {elts : List Expr} {kk : Nat}
theorem zip_laid {pins : List (Addr × Obj)} {σ : L2.St} {H : Hp} {s : Shared} {st : Bool} {a b : Addr} {k1 k2 : SK} {xs ys : List V} {Q : Value → Shared → Prop} (I : Inv X pins σ H s) (hqx : Sq k1 X.K H a xs) (hqy : Sq k2 X.K H b ys) (vs : List Value) (kw : List (Str × Value))
    (hc : ∀ (its its2 : Array Value) (Q : Value → Shared → Prop), SqO k1 s.heap a its → SqO k2 (s.heap.push (itO k1 a)) b its2 → (((zipped st (itO k1 a) (itO k2 b) s.heap).get? (s.heap.objs.size + 4) = some { cls := .type "zip", data := .fields #[.none, .bool false, .bool st, .ref (s.heap.objs.size + 2), .ref (s.heap.objs.size + 3)] }) → Q (.ref (s.heap.objs.size + 4)) { s with heap := zipped st (itO k1 a) (itO k2 b) s.heap }) → wpAny (model X.prog X.w) X.A (call (.type "zip") vs kw) Q X.xe s)
    (hQ : ∀ (n : Nat) (h : Heap), n = s.heap.objs.size → a < n → b < n → h.objs.size = n + 5 → h.get? (n + 4) = some { cls := .type "zip", data := .fields #[.none, .bool false, .bool st, .ref (n + 2), .ref (n + 3)] } → h.get? (n + 2) = some { cls := .type "tuple", data := .seq #[.ref n, .ref (n + 1)] } → h.get? (n + 3) = some { cls := .type "tuple", data := .seq #[.none, .none] } →
      h.get? n = some (itO k1 a) → h.get? (n + 1) = some (itO k2 b) → (∀ c o, s.heap.get? c = some o → h.get? c = some o) → ZipSep2 (n + 4) (n + 2) (n + 3) n (n + 1) [n, a] [n + 1, b] → Q (.ref (n + 4)) { s with heap := h }) :
    wpAny (model X.prog X.w) X.A (call (.type "zip") vs kw) Q X.xe s := by
  obtain ⟨its, rv, p1⟩ := I.sq hqx
  obtain ⟨its2, rv2, p2⟩ := I.sq hqy
  have la := p1.lt
  have lb := p2.lt
  have z1 : (s.heap.push (itO k1 a)).objs.size = s.heap.objs.size + 1 := Heap.size_push ..
  have z2 : ((s.heap.push (itO k1 a)).push (itO k2 b)).objs.size = s.heap.objs.size + 2 := by rw [Heap.size_push, z1]
  refine hc _ _ _ p1 (p2.keep fun o e => Heap.get?_push_of_some _ e) fun hz => ?_
  have z5 : (zipped st (itO k1 a) (itO k2 b) s.heap).objs.size = s.heap.objs.size + 5 := by
    unfold zipped
    simp only [Heap.size_push]
  generalize hn : s.heap.objs.size = n at *
  have g3 : (zipped st (itO k1 a) (itO k2 b) s.heap).get? (n + 2) = some { cls := .type "tuple", data := .seq #[.ref n, .ref (n + 1)] } := by
    unfold zipped
    have q := Heap.get?_push_size ((s.heap.push (itO k1 a)).push (itO k2 b)) (o := { cls := .type "tuple", data := .seq #[.ref s.heap.objs.size, .ref (s.heap.objs.size + 1)] }) rfl
    rw [z2, hn] at q
    rw [hn]
    exact Heap.get?_push_of_some _ (Heap.get?_push_of_some _ q)
  have g4 : (zipped st (itO k1 a) (itO k2 b) s.heap).get? (n + 3) = some { cls := .type "tuple", data := .seq #[.none, .none] } := by
    unfold zipped
    have q := Heap.get?_push_size (((s.heap.push (itO k1 a)).push (itO k2 b)).push { cls := .type "tuple", data := .seq #[.ref s.heap.objs.size, .ref (s.heap.objs.size + 1)] }) (o := { cls := .type "tuple", data := .seq #[.none, .none] }) rfl
    rw [Heap.size_push, z2] at q
    exact Heap.get?_push_of_some _ q
  have g1 : (zipped st (itO k1 a) (itO k2 b) s.heap).get? n = some (itO k1 a) := by
    unfold zipped
    have q := Heap.get?_push_size s.heap (o := itO k1 a) itO_free
    rw [hn] at q
    exact Heap.get?_push_of_some _ (Heap.get?_push_of_some _ (Heap.get?_push_of_some _ (Heap.get?_push_of_some _ q)))
  have g2 : (zipped st (itO k1 a) (itO k2 b) s.heap).get? (n + 1) = some (itO k2 b) := by
    unfold zipped
    have q := Heap.get?_push_size (s.heap.push (itO k1 a)) (o := itO k2 b) itO_free
    rw [z1] at q
    exact Heap.get?_push_of_some _ (Heap.get?_push_of_some _ (Heap.get?_push_of_some _ q))
  have kp : ∀ c o, s.heap.get? c = some o → (zipped st (itO k1 a) (itO k2 b) s.heap).get? c = some o := fun c o e => by
    unfold zipped
    exact Heap.get?_push_of_some _ (Heap.get?_push_of_some _ (Heap.get?_push_of_some _ (Heap.get?_push_of_some _ (Heap.get?_push_of_some _ e))))
  have S : ZipSep2 (n + 4) (n + 2) (n + 3) n (n + 1) [n, a] [n + 1, b] := by
    have o := apart5 n a b la lb
    refine ⟨o.1, o.2.1, o.2.2.1, o.2.2.2.1, by simp, ?_, ?_, o.2.2.2.2.1, by simp, ?_, ?_, ?_, ?_⟩ <;> (simp only [List.mem_cons, List.not_mem_nil, or_false]; first | exact o.2.2.2.2.2.1 | exact o.2.2.2.2.2.2.1 | exact o.2.2.2.2.2.2.2.1 | exact o.2.2.2.2.2.2.2.2.1 | exact o.2.2.2.2.2.2.2.2.2.1 | exact o.2.2.2.2.2.2.2.2.2.2)
  exact hQ n _ rfl la lb z5 hz g3 g4 g1 g2 kp S
theorem call_enum_self {prog : Program} {w : World} {A : Around} {E : Value → Shared → Prop} {s : Shared} {z TI TO : Addr} {b : Bool} {f0 : Value} {Q : Value → Shared → Prop} (hz : ZipB b s.heap z TI TO f0)
    (done : ∀ h', IsEnum h' s.heap.objs.size z 0 .none → h'.objs.size = s.heap.objs.size + 1 → (∀ b o, s.heap.get? b = some o → h'.get? b = some o) → Q (.ref s.heap.objs.size) { s with heap := h' }) :
    wpAny (model prog w) A (call (.type "enumerate") [.ref z]) Q E s := by
  refine callType_new F.called_enumerate (by decide) (F.typeCall_enumerate_1 _) (F.newCall_enumerate_1 _) (fun obj => F.args_object_init_2 obj _) F.entry_enumerate_new (meets_enum_self (H := fun h => ZipB b h z TI TO f0) fun prog w A E s Q h q => iter_zipB h q) ⟨hz, ?_⟩
  have he : IsEnum (s.heap.push { cls := .type "enumerate", data := .fields #[.none, .bool false, .ref z, rawInt 0, .none, .none] }) s.heap.objs.size z 0 .none := Heap.get?_push_size s.heap rfl
  exact ⟨⟨_, he, rfl⟩, done _ he (Heap.size_push ..) fun b o x => Heap.get?_push_of_some _ x⟩
theorem sep6 (n : Nat) : n + 5 ≠ n + 4 ∧ n + 5 ≠ n + 2 ∧ n + 5 ≠ n + 3 ∧ n + 5 ≠ n ∧ n + 5 ≠ n + 1 := by omega
theorem le6 (n c : Nat) (h : c = n + 5 ∨ c = n + 4 ∨ c = n + 2 ∨ c = n + 3 ∨ c = n ∨ c = n + 1) : n ≤ c := by omega
theorem pi_enumZ (hg : Gl X "enumerate") (hm : X.mg "enumerate" = none) (hg2 : Gl X "zip") (hm2 : X.mg "zip" = none) (ha : PA X [e, e2] ta)
    (hs : starEach [e, e2] X.env = (false, eval e X.env) :: starEach [e2] X.env := by rfl) (hpl : (backTo pos2 (starEach [e2] X.env)).any (·.1) = false := by rfl)
    (hs2 : starEach [.Call (.Name "zip" p2) [e, e2] [] pos2] X.env = (false, eval (.Call (.Name "zip" p2) [e, e2] [] pos2) X.env) :: starEach [] X.env := by rfl) :
    PI X (.Tuple elts kk tpos) (.Call (.Name "enumerate" p) [.Call (.Name "zip" p2) [e, e2] [] pos2] [] pos) (iEnumZ X.K ta) := by
  refine ⟨fun pins s σ H R I h => Call_ (ld_blt I hg hm boot_enumerate (PyProof.Rows.callWith_type1 ?_ hs2 rfl))⟩
  rw [hs2]
  show wpAny _ _ (spliced ((false, eval (.Call (.Name "zip" p2) [e, e2] [] pos2) X.env) :: backTo pos (starEach [] X.env))) _ _ s
  refine Calls.spliced_cons (Call_ (ld_blt I hg2 hm2 PyProof.Rows.boot_zip (PyProof.Rows.callWith_type1 (thn (ha.run pos2 pins s σ H _ I h) fun us s1 ⟨vs, H1, I1, r1, q1⟩ => ?_) hs hpl)))
  obtain ⟨a, b, k1, k2, xs, ys, ex, hqx, hqy, q⟩ := q1
  subst ex
  cases r1 with
  | cons r rr =>
    cases rr with
    | cons r' rr =>
      cases rr
      cases r
      cases r'
      refine zip_laid (st := false) I1 hqx hqy _ _ (fun its its2 Q o1 o2 hQ => callType_new F.called_zip (by decide) (F.typeCall_zip_2 _ _) (F.newCall_zip_2 _ _) (fun obj => F.args_object_init_3 obj _ _) F.entry_zip_new (meets_zip0 (begins_sq k1 a its) (begins_sq k2 b its2)) ⟨o1, o2, ?_⟩) fun n h1 hn la lb hsz hz g3 g4 g1 g2 kp S => ?_
      · have hz : (zipped false (itO k1 a) (itO k2 b) s1.heap).get? (s1.heap.objs.size + 4) = some { cls := .type "zip", data := .fields #[.none, .bool false, .bool false, .ref (s1.heap.objs.size + 2), .ref (s1.heap.objs.size + 3)] } := by
          unfold zipped
          rw [← show ((((s1.heap.push (itO k1 a)).push (itO k2 b)).push { cls := .type "tuple", data := .seq #[.ref s1.heap.objs.size, .ref (s1.heap.objs.size + 1)] }).push { cls := .type "tuple", data := .seq #[.none, .none] }).objs.size = s1.heap.objs.size + 4 by simp only [Heap.size_push]]
          exact Heap.get?_push_size _ rfl
        exact ⟨⟨_, hz, rfl⟩, hQ hz⟩
      · refine Calls.spliced_nil (call_enum_self (s := { s1 with heap := h1 }) (b := false) (TI := n + 2) (TO := n + 3) (f0 := .none) hz fun h2 he hsz2 hk2 => wpAny_pyIter_enum he ?_)
        have he' : IsEnum h2 (n + 5) (n + 4) ((0 : Nat) : Int) .none := by
          have he : IsEnum h2 h1.objs.size (n + 4) 0 .none := he
          rw [hsz] at he
          exact he
        have kp2 : ∀ c o, s1.heap.get? c = some o → h2.get? c = some o := fun c o x => hk2 c o (kp c o x)
        have I2 : Inv X pins σ H1 { s1 with heap := h2 } := I1.kept (t' := s1.toks) kp2
        have o := sep6 n
        show PIE X pins σ (.Tuple elts kk tpos) R (.ref h1.objs.size) { s1 with heap := h2 }
        rw [hsz]
        refine ⟨n + 5, [n + 5, n + 4, n + 2, n + 3, n, n + 1], _, _, H1, rfl, I2, turn_enumZ S (Nat.ne_of_lt la) (Nat.ne_of_lt (Nat.lt_succ_of_lt lb)) o.1 o.2.1 o.2.2.1 o.2.2.2.1 o.2.2.2.2, ⟨⟨_, he'⟩, ⟨_, _, hk2 _ _ hz, .inl rfl⟩, hk2 _ _ g3, ⟨_, _, hk2 _ _ g4⟩, (SqI.new g1).keep fun o x => hk2 _ o x, (SqI.new g2).keep fun o x => hk2 _ o x⟩, fun c hcm => ?_, q⟩
        have hle : s1.heap.objs.size ≤ c := by
          have e' : c = n + 5 ∨ c = n + 4 ∨ c = n + 2 ∨ c = n + 3 ∨ c = n ∨ c = n + 1 := by simpa using hcm
          rw [← hn]
          exact le6 n c e'
        exact I1.fpOk hle (I1.hok.fresh hle)
end
end L2
namespace DL
open PySem PySem.Spec PyProof.Rows L2
section
variable {K : PySem.W.Frag} {tcK : TabC K} {G0 : Hp} {E : WX}
theorem Grow.trans {G1 H1 G2 H2 G3 H3 : Hp} (a : Grow G1 H1 G2 H2) (b : Grow G2 H2 G3 H3) : Grow G1 H1 G3 H3 where
  g := a.g.trans b.g
  h := a.h.trans b.h
  fr := fun c hc => by
    rcases b.fr c hc with z | z
    · exact a.fr c z
    · refine .inr ?_
      cases e : H1 c with
      | none => rfl
      | some o => rw [a.h c o e] at z; cases z
  le := b.le
  n := fun c ps z => a.n c ps (b.n c ps z)
def YEZ (xs ys : List V) (i : Nat) (H : Hp) (v : V) (H' : Hp) : Prop := ∃ T U x y, v = .ref U ∧ H T = none ∧ upd H T (.tup [x, y]) U = none ∧ H' = upd (upd H T (.tup [x, y])) U (.tup [.int (i : Nat), .ref T]) ∧ xs[i]? = some x ∧ ys[i]? = some y
theorem walk_enumZ {k1 k2 : SK} {a b : Addr} {xs ys : List V} (hl : xs.length = ys.length) : Walk (ItEZ K k1 k2 a b) xs.length (fun H => Sq k1 K H a xs ∧ Sq k2 K H b ys) (YEZ xs ys) := by
  refine ⟨fun i _ hi q => ⟨xs, ys, xs[i], ys[i]'(by omega), q.1, q.2, List.getElem?_eq_getElem hi, List.getElem?_eq_getElem (by omega)⟩, fun _ q => ⟨xs, ys, q.1, q.2, rfl, hl⟩, fun i H v H' _ q ⟨T, U, x, y, h1, h2, h3, h4, h5, h6⟩ => ⟨T, U, x, y, h1, h2, h3, h4, h5 xs q.1, h6 ys q.2⟩⟩
theorem it_enumZ {k1 k2 : SK} {a b : Addr} {xs ys : List V} {ds es : List D} (h1 : Sq k1 K G0 a xs) (h2 : Sq k2 K G0 b ys) (h : DPs K G0 xs ds) (h' : DPs K G0 ys es) (hl : ds.length = es.length) : Iterates K G0 (ItEZ K k1 k2 a b) (enumD 0 (zipD ds es)) := by
  refine ⟨fun H => Sq k1 K H a xs ∧ Sq k2 K H b ys, YEZ xs ys, by
    rw [enumD_length, show (zipD ds es).length = xs.length by unfold zipD; rw [List.length_zipWith, ← hl, Nat.min_self, h.length]]
    exact walk_enumZ (k1 := k1) (k2 := k2) (a := a) (b := b) (xs := xs) (ys := ys) (by rw [h.length, h'.length]; exact hl), fun _ s => ⟨Sq.same s h1, Sq.same s h2⟩, fun i H x H' G s1 s2 hi hy => ?_⟩
  obtain ⟨T, U, u, y, e1, e2, e3, e4, e5, e6⟩ := hy
  subst e1 e4
  obtain ⟨d, hd, hp⟩ := h.getV e5
  obtain ⟨d', hd', hp'⟩ := h'.getV e6
  have g1 := Grow.new s2 e2 (.tup [u, y])
  have g2 := Grow.new g1.le e3 (.tup [.int (i : Nat), .ref T])
  have q1 : DP K (upd G T (.tup [u, y])) (.ref T) (.tuple [d, d']) := .tup (.inl (.inl upd_same)) (.cons ((hp.mono s1).mono g1.g) (.cons ((hp'.mono s1).mono g1.g) .nil))
  refine ⟨_, _, enumD_get (zipD_get hd hd'), g1.trans g2, .tup (.inl (.inl upd_same)) (.cons ?_ (.cons (q1.mono g2.g) .nil))⟩
  rw [Int.zero_add]
  exact .int _
def pZipE (a b : D) : Option (List D) := (seqD a).bind fun ds => (seqD b).bind fun es => if ds.length = es.length then some (enumD 0 (zipD ds es)) else none
def iEnumZip (m n : M D) : M (List D) := fun r => (m r).bind fun a => (n a.2).bind fun b => (ofO (pZipE a.1 b.1)).bind fun d => .ok (d, b.2)
theorem absEnumZip {ta tb : TE} {m n : M D} (ha : AbsD K E ta m) (hb : AbsD K E tb n) : AbsI K E (iEnumZ K (tCons ta (tCons tb tNil))) (iEnumZip m n) := by
  intro G as r σ H Q R w
  refine ha G as r σ H _ R ((Wp.bind w).mono (fun a w1 => ?_) fun _ z => z)
  intro G1 H1 x S1 R1 dx
  refine hb G1 as a.2 σ H1 _ R1 ((Wp.bind w1).mono (fun b w2 => ?_) fun _ z => XPost.on R1 S1 z)
  intro G2 H2 y S2 R2 dy
  obtain ⟨ds, e, w3⟩ := wp_bindO w2
  unfold pZipE at e
  cases e1 : seqD a.1 with
  | none => rw [e1] at e; cases e
  | some xs =>
    rw [e1] at e
    cases e2 : seqD b.1 with
    | none => rw [e2] at e; cases e
    | some ys =>
      rw [e2] at e
      have e : (if xs.length = ys.length then some (enumD 0 (zipD xs ys)) else none) = some ds := e
      split at e
      · rename_i hl
        cases e
        obtain ⟨p, k1, us, rfl, q1, q1', d1⟩ := seqD_sq R2.le (dx.mono S2.g) e1
        obtain ⟨q, k2, vs, rfl, q2, q2', d2⟩ := seqD_sq R2.le dy e2
        exact ⟨p, q, k1, k2, us, vs, rfl, q1', q2', w3 G2 H2 _ (S1.trans R1 S2) R2 (it_enumZ q1 q2 d1 d2 hl)⟩
      · cases e
end
end DL
/-! # DLP: denotations reckoned: equations for simp -/
namespace DL
open PySem PySem.Spec PyProof.Rows L2
theorem g0 {α : Type} {a0 : α} {l : List α} : (a0 :: l)[0]? = some a0 := rfl
theorem u0 {α : Type} {a0 x : α} {l : List α} : (a0 :: l).set 0 x = x :: l := rfl
theorem g1 {α : Type} {a0 a1 : α} {l : List α} : (a0 :: a1 :: l)[1]? = some a1 := rfl
theorem u1 {α : Type} {a0 a1 x : α} {l : List α} : (a0 :: a1 :: l).set 1 x = a0 :: x :: l := rfl
theorem g2 {α : Type} {a0 a1 a2 : α} {l : List α} : (a0 :: a1 :: a2 :: l)[2]? = some a2 := rfl
theorem u2 {α : Type} {a0 a1 a2 x : α} {l : List α} : (a0 :: a1 :: a2 :: l).set 2 x = a0 :: a1 :: x :: l := rfl
theorem g3 {α : Type} {a0 a1 a2 a3 : α} {l : List α} : (a0 :: a1 :: a2 :: a3 :: l)[3]? = some a3 := rfl
theorem u3 {α : Type} {a0 a1 a2 a3 x : α} {l : List α} : (a0 :: a1 :: a2 :: a3 :: l).set 3 x = a0 :: a1 :: a2 :: x :: l := rfl
theorem g4 {α : Type} {a0 a1 a2 a3 a4 : α} {l : List α} : (a0 :: a1 :: a2 :: a3 :: a4 :: l)[4]? = some a4 := rfl
theorem u4 {α : Type} {a0 a1 a2 a3 a4 x : α} {l : List α} : (a0 :: a1 :: a2 :: a3 :: a4 :: l).set 4 x = a0 :: a1 :: a2 :: a3 :: x :: l := rfl
theorem g5 {α : Type} {a0 a1 a2 a3 a4 a5 : α} {l : List α} : (a0 :: a1 :: a2 :: a3 :: a4 :: a5 :: l)[5]? = some a5 := rfl
theorem u5 {α : Type} {a0 a1 a2 a3 a4 a5 x : α} {l : List α} : (a0 :: a1 :: a2 :: a3 :: a4 :: a5 :: l).set 5 x = a0 :: a1 :: a2 :: a3 :: a4 :: x :: l := rfl
theorem g6 {α : Type} {a0 a1 a2 a3 a4 a5 a6 : α} {l : List α} : (a0 :: a1 :: a2 :: a3 :: a4 :: a5 :: a6 :: l)[6]? = some a6 := rfl
theorem u6 {α : Type} {a0 a1 a2 a3 a4 a5 a6 x : α} {l : List α} : (a0 :: a1 :: a2 :: a3 :: a4 :: a5 :: a6 :: l).set 6 x = a0 :: a1 :: a2 :: a3 :: a4 :: a5 :: x :: l := rfl
theorem g7 {α : Type} {a0 a1 a2 a3 a4 a5 a6 a7 : α} {l : List α} : (a0 :: a1 :: a2 :: a3 :: a4 :: a5 :: a6 :: a7 :: l)[7]? = some a7 := rfl
theorem u7 {α : Type} {a0 a1 a2 a3 a4 a5 a6 a7 x : α} {l : List α} : (a0 :: a1 :: a2 :: a3 :: a4 :: a5 :: a6 :: a7 :: l).set 7 x = a0 :: a1 :: a2 :: a3 :: a4 :: a5 :: a6 :: x :: l := rfl
theorem g8 {α : Type} {a0 a1 a2 a3 a4 a5 a6 a7 a8 : α} {l : List α} : (a0 :: a1 :: a2 :: a3 :: a4 :: a5 :: a6 :: a7 :: a8 :: l)[8]? = some a8 := rfl
theorem u8 {α : Type} {a0 a1 a2 a3 a4 a5 a6 a7 a8 x : α} {l : List α} : (a0 :: a1 :: a2 :: a3 :: a4 :: a5 :: a6 :: a7 :: a8 :: l).set 8 x = a0 :: a1 :: a2 :: a3 :: a4 :: a5 :: a6 :: a7 :: x :: l := rfl
theorem g9 {α : Type} {a0 a1 a2 a3 a4 a5 a6 a7 a8 a9 : α} {l : List α} : (a0 :: a1 :: a2 :: a3 :: a4 :: a5 :: a6 :: a7 :: a8 :: a9 :: l)[9]? = some a9 := rfl
theorem u9 {α : Type} {a0 a1 a2 a3 a4 a5 a6 a7 a8 a9 x : α} {l : List α} : (a0 :: a1 :: a2 :: a3 :: a4 :: a5 :: a6 :: a7 :: a8 :: a9 :: l).set 9 x = a0 :: a1 :: a2 :: a3 :: a4 :: a5 :: a6 :: a7 :: a8 :: x :: l := rfl
theorem g10 {α : Type} {a0 a1 a2 a3 a4 a5 a6 a7 a8 a9 a10 : α} {l : List α} : (a0 :: a1 :: a2 :: a3 :: a4 :: a5 :: a6 :: a7 :: a8 :: a9 :: a10 :: l)[10]? = some a10 := rfl
theorem u10 {α : Type} {a0 a1 a2 a3 a4 a5 a6 a7 a8 a9 a10 x : α} {l : List α} : (a0 :: a1 :: a2 :: a3 :: a4 :: a5 :: a6 :: a7 :: a8 :: a9 :: a10 :: l).set 10 x = a0 :: a1 :: a2 :: a3 :: a4 :: a5 :: a6 :: a7 :: a8 :: a9 :: x :: l := rfl
theorem g11 {α : Type} {a0 a1 a2 a3 a4 a5 a6 a7 a8 a9 a10 a11 : α} {l : List α} : (a0 :: a1 :: a2 :: a3 :: a4 :: a5 :: a6 :: a7 :: a8 :: a9 :: a10 :: a11 :: l)[11]? = some a11 := rfl
theorem u11 {α : Type} {a0 a1 a2 a3 a4 a5 a6 a7 a8 a9 a10 a11 x : α} {l : List α} : (a0 :: a1 :: a2 :: a3 :: a4 :: a5 :: a6 :: a7 :: a8 :: a9 :: a10 :: a11 :: l).set 11 x = a0 :: a1 :: a2 :: a3 :: a4 :: a5 :: a6 :: a7 :: a8 :: a9 :: a10 :: x :: l := rfl
theorem g12 {α : Type} {a0 a1 a2 a3 a4 a5 a6 a7 a8 a9 a10 a11 a12 : α} {l : List α} : (a0 :: a1 :: a2 :: a3 :: a4 :: a5 :: a6 :: a7 :: a8 :: a9 :: a10 :: a11 :: a12 :: l)[12]? = some a12 := rfl
theorem u12 {α : Type} {a0 a1 a2 a3 a4 a5 a6 a7 a8 a9 a10 a11 a12 x : α} {l : List α} : (a0 :: a1 :: a2 :: a3 :: a4 :: a5 :: a6 :: a7 :: a8 :: a9 :: a10 :: a11 :: a12 :: l).set 12 x = a0 :: a1 :: a2 :: a3 :: a4 :: a5 :: a6 :: a7 :: a8 :: a9 :: a10 :: a11 :: x :: l := rfl
theorem g13 {α : Type} {a0 a1 a2 a3 a4 a5 a6 a7 a8 a9 a10 a11 a12 a13 : α} {l : List α} : (a0 :: a1 :: a2 :: a3 :: a4 :: a5 :: a6 :: a7 :: a8 :: a9 :: a10 :: a11 :: a12 :: a13 :: l)[13]? = some a13 := rfl
theorem u13 {α : Type} {a0 a1 a2 a3 a4 a5 a6 a7 a8 a9 a10 a11 a12 a13 x : α} {l : List α} : (a0 :: a1 :: a2 :: a3 :: a4 :: a5 :: a6 :: a7 :: a8 :: a9 :: a10 :: a11 :: a12 :: a13 :: l).set 13 x = a0 :: a1 :: a2 :: a3 :: a4 :: a5 :: a6 :: a7 :: a8 :: a9 :: a10 :: a11 :: a12 :: x :: l := rfl
theorem g14 {α : Type} {a0 a1 a2 a3 a4 a5 a6 a7 a8 a9 a10 a11 a12 a13 a14 : α} {l : List α} : (a0 :: a1 :: a2 :: a3 :: a4 :: a5 :: a6 :: a7 :: a8 :: a9 :: a10 :: a11 :: a12 :: a13 :: a14 :: l)[14]? = some a14 := rfl
theorem u14 {α : Type} {a0 a1 a2 a3 a4 a5 a6 a7 a8 a9 a10 a11 a12 a13 a14 x : α} {l : List α} : (a0 :: a1 :: a2 :: a3 :: a4 :: a5 :: a6 :: a7 :: a8 :: a9 :: a10 :: a11 :: a12 :: a13 :: a14 :: l).set 14 x = a0 :: a1 :: a2 :: a3 :: a4 :: a5 :: a6 :: a7 :: a8 :: a9 :: a10 :: a11 :: a12 :: a13 :: x :: l := rfl
theorem g15 {α : Type} {a0 a1 a2 a3 a4 a5 a6 a7 a8 a9 a10 a11 a12 a13 a14 a15 : α} {l : List α} : (a0 :: a1 :: a2 :: a3 :: a4 :: a5 :: a6 :: a7 :: a8 :: a9 :: a10 :: a11 :: a12 :: a13 :: a14 :: a15 :: l)[15]? = some a15 := rfl
theorem u15 {α : Type} {a0 a1 a2 a3 a4 a5 a6 a7 a8 a9 a10 a11 a12 a13 a14 a15 x : α} {l : List α} : (a0 :: a1 :: a2 :: a3 :: a4 :: a5 :: a6 :: a7 :: a8 :: a9 :: a10 :: a11 :: a12 :: a13 :: a14 :: a15 :: l).set 15 x = a0 :: a1 :: a2 :: a3 :: a4 :: a5 :: a6 :: a7 :: a8 :: a9 :: a10 :: a11 :: a12 :: a13 :: a14 :: x :: l := rfl
theorem g16 {α : Type} {a0 a1 a2 a3 a4 a5 a6 a7 a8 a9 a10 a11 a12 a13 a14 a15 a16 : α} {l : List α} : (a0 :: a1 :: a2 :: a3 :: a4 :: a5 :: a6 :: a7 :: a8 :: a9 :: a10 :: a11 :: a12 :: a13 :: a14 :: a15 :: a16 :: l)[16]? = some a16 := rfl
theorem u16 {α : Type} {a0 a1 a2 a3 a4 a5 a6 a7 a8 a9 a10 a11 a12 a13 a14 a15 a16 x : α} {l : List α} : (a0 :: a1 :: a2 :: a3 :: a4 :: a5 :: a6 :: a7 :: a8 :: a9 :: a10 :: a11 :: a12 :: a13 :: a14 :: a15 :: a16 :: l).set 16 x = a0 :: a1 :: a2 :: a3 :: a4 :: a5 :: a6 :: a7 :: a8 :: a9 :: a10 :: a11 :: a12 :: a13 :: a14 :: a15 :: x :: l := rfl
theorem g17 {α : Type} {a0 a1 a2 a3 a4 a5 a6 a7 a8 a9 a10 a11 a12 a13 a14 a15 a16 a17 : α} {l : List α} : (a0 :: a1 :: a2 :: a3 :: a4 :: a5 :: a6 :: a7 :: a8 :: a9 :: a10 :: a11 :: a12 :: a13 :: a14 :: a15 :: a16 :: a17 :: l)[17]? = some a17 := rfl
theorem u17 {α : Type} {a0 a1 a2 a3 a4 a5 a6 a7 a8 a9 a10 a11 a12 a13 a14 a15 a16 a17 x : α} {l : List α} : (a0 :: a1 :: a2 :: a3 :: a4 :: a5 :: a6 :: a7 :: a8 :: a9 :: a10 :: a11 :: a12 :: a13 :: a14 :: a15 :: a16 :: a17 :: l).set 17 x = a0 :: a1 :: a2 :: a3 :: a4 :: a5 :: a6 :: a7 :: a8 :: a9 :: a10 :: a11 :: a12 :: a13 :: a14 :: a15 :: a16 :: x :: l := rfl
theorem g18 {α : Type} {a0 a1 a2 a3 a4 a5 a6 a7 a8 a9 a10 a11 a12 a13 a14 a15 a16 a17 a18 : α} {l : List α} : (a0 :: a1 :: a2 :: a3 :: a4 :: a5 :: a6 :: a7 :: a8 :: a9 :: a10 :: a11 :: a12 :: a13 :: a14 :: a15 :: a16 :: a17 :: a18 :: l)[18]? = some a18 := rfl
theorem u18 {α : Type} {a0 a1 a2 a3 a4 a5 a6 a7 a8 a9 a10 a11 a12 a13 a14 a15 a16 a17 a18 x : α} {l : List α} : (a0 :: a1 :: a2 :: a3 :: a4 :: a5 :: a6 :: a7 :: a8 :: a9 :: a10 :: a11 :: a12 :: a13 :: a14 :: a15 :: a16 :: a17 :: a18 :: l).set 18 x = a0 :: a1 :: a2 :: a3 :: a4 :: a5 :: a6 :: a7 :: a8 :: a9 :: a10 :: a11 :: a12 :: a13 :: a14 :: a15 :: a16 :: a17 :: x :: l := rfl
theorem g19 {α : Type} {a0 a1 a2 a3 a4 a5 a6 a7 a8 a9 a10 a11 a12 a13 a14 a15 a16 a17 a18 a19 : α} {l : List α} : (a0 :: a1 :: a2 :: a3 :: a4 :: a5 :: a6 :: a7 :: a8 :: a9 :: a10 :: a11 :: a12 :: a13 :: a14 :: a15 :: a16 :: a17 :: a18 :: a19 :: l)[19]? = some a19 := rfl
theorem u19 {α : Type} {a0 a1 a2 a3 a4 a5 a6 a7 a8 a9 a10 a11 a12 a13 a14 a15 a16 a17 a18 a19 x : α} {l : List α} : (a0 :: a1 :: a2 :: a3 :: a4 :: a5 :: a6 :: a7 :: a8 :: a9 :: a10 :: a11 :: a12 :: a13 :: a14 :: a15 :: a16 :: a17 :: a18 :: a19 :: l).set 19 x = a0 :: a1 :: a2 :: a3 :: a4 :: a5 :: a6 :: a7 :: a8 :: a9 :: a10 :: a11 :: a12 :: a13 :: a14 :: a15 :: a16 :: a17 :: a18 :: x :: l := rfl
theorem g20 {α : Type} {a0 a1 a2 a3 a4 a5 a6 a7 a8 a9 a10 a11 a12 a13 a14 a15 a16 a17 a18 a19 a20 : α} {l : List α} : (a0 :: a1 :: a2 :: a3 :: a4 :: a5 :: a6 :: a7 :: a8 :: a9 :: a10 :: a11 :: a12 :: a13 :: a14 :: a15 :: a16 :: a17 :: a18 :: a19 :: a20 :: l)[20]? = some a20 := rfl
theorem u20 {α : Type} {a0 a1 a2 a3 a4 a5 a6 a7 a8 a9 a10 a11 a12 a13 a14 a15 a16 a17 a18 a19 a20 x : α} {l : List α} : (a0 :: a1 :: a2 :: a3 :: a4 :: a5 :: a6 :: a7 :: a8 :: a9 :: a10 :: a11 :: a12 :: a13 :: a14 :: a15 :: a16 :: a17 :: a18 :: a19 :: a20 :: l).set 20 x = a0 :: a1 :: a2 :: a3 :: a4 :: a5 :: a6 :: a7 :: a8 :: a9 :: a10 :: a11 :: a12 :: a13 :: a14 :: a15 :: a16 :: a17 :: a18 :: a19 :: x :: l := rfl
theorem g21 {α : Type} {a0 a1 a2 a3 a4 a5 a6 a7 a8 a9 a10 a11 a12 a13 a14 a15 a16 a17 a18 a19 a20 a21 : α} {l : List α} : (a0 :: a1 :: a2 :: a3 :: a4 :: a5 :: a6 :: a7 :: a8 :: a9 :: a10 :: a11 :: a12 :: a13 :: a14 :: a15 :: a16 :: a17 :: a18 :: a19 :: a20 :: a21 :: l)[21]? = some a21 := rfl
theorem u21 {α : Type} {a0 a1 a2 a3 a4 a5 a6 a7 a8 a9 a10 a11 a12 a13 a14 a15 a16 a17 a18 a19 a20 a21 x : α} {l : List α} : (a0 :: a1 :: a2 :: a3 :: a4 :: a5 :: a6 :: a7 :: a8 :: a9 :: a10 :: a11 :: a12 :: a13 :: a14 :: a15 :: a16 :: a17 :: a18 :: a19 :: a20 :: a21 :: l).set 21 x = a0 :: a1 :: a2 :: a3 :: a4 :: a5 :: a6 :: a7 :: a8 :: a9 :: a10 :: a11 :: a12 :: a13 :: a14 :: a15 :: a16 :: a17 :: a18 :: a19 :: a20 :: x :: l := rfl
theorem g22 {α : Type} {a0 a1 a2 a3 a4 a5 a6 a7 a8 a9 a10 a11 a12 a13 a14 a15 a16 a17 a18 a19 a20 a21 a22 : α} {l : List α} : (a0 :: a1 :: a2 :: a3 :: a4 :: a5 :: a6 :: a7 :: a8 :: a9 :: a10 :: a11 :: a12 :: a13 :: a14 :: a15 :: a16 :: a17 :: a18 :: a19 :: a20 :: a21 :: a22 :: l)[22]? = some a22 := rfl
theorem u22 {α : Type} {a0 a1 a2 a3 a4 a5 a6 a7 a8 a9 a10 a11 a12 a13 a14 a15 a16 a17 a18 a19 a20 a21 a22 x : α} {l : List α} : (a0 :: a1 :: a2 :: a3 :: a4 :: a5 :: a6 :: a7 :: a8 :: a9 :: a10 :: a11 :: a12 :: a13 :: a14 :: a15 :: a16 :: a17 :: a18 :: a19 :: a20 :: a21 :: a22 :: l).set 22 x = a0 :: a1 :: a2 :: a3 :: a4 :: a5 :: a6 :: a7 :: a8 :: a9 :: a10 :: a11 :: a12 :: a13 :: a14 :: a15 :: a16 :: a17 :: a18 :: a19 :: a20 :: a21 :: x :: l := rfl
theorem g23 {α : Type} {a0 a1 a2 a3 a4 a5 a6 a7 a8 a9 a10 a11 a12 a13 a14 a15 a16 a17 a18 a19 a20 a21 a22 a23 : α} {l : List α} : (a0 :: a1 :: a2 :: a3 :: a4 :: a5 :: a6 :: a7 :: a8 :: a9 :: a10 :: a11 :: a12 :: a13 :: a14 :: a15 :: a16 :: a17 :: a18 :: a19 :: a20 :: a21 :: a22 :: a23 :: l)[23]? = some a23 := rfl
theorem u23 {α : Type} {a0 a1 a2 a3 a4 a5 a6 a7 a8 a9 a10 a11 a12 a13 a14 a15 a16 a17 a18 a19 a20 a21 a22 a23 x : α} {l : List α} : (a0 :: a1 :: a2 :: a3 :: a4 :: a5 :: a6 :: a7 :: a8 :: a9 :: a10 :: a11 :: a12 :: a13 :: a14 :: a15 :: a16 :: a17 :: a18 :: a19 :: a20 :: a21 :: a22 :: a23 :: l).set 23 x = a0 :: a1 :: a2 :: a3 :: a4 :: a5 :: a6 :: a7 :: a8 :: a9 :: a10 :: a11 :: a12 :: a13 :: a14 :: a15 :: a16 :: a17 :: a18 :: a19 :: a20 :: a21 :: a22 :: x :: l := rfl
theorem g24 {α : Type} {a0 a1 a2 a3 a4 a5 a6 a7 a8 a9 a10 a11 a12 a13 a14 a15 a16 a17 a18 a19 a20 a21 a22 a23 a24 : α} {l : List α} : (a0 :: a1 :: a2 :: a3 :: a4 :: a5 :: a6 :: a7 :: a8 :: a9 :: a10 :: a11 :: a12 :: a13 :: a14 :: a15 :: a16 :: a17 :: a18 :: a19 :: a20 :: a21 :: a22 :: a23 :: a24 :: l)[24]? = some a24 := rfl
theorem u24 {α : Type} {a0 a1 a2 a3 a4 a5 a6 a7 a8 a9 a10 a11 a12 a13 a14 a15 a16 a17 a18 a19 a20 a21 a22 a23 a24 x : α} {l : List α} : (a0 :: a1 :: a2 :: a3 :: a4 :: a5 :: a6 :: a7 :: a8 :: a9 :: a10 :: a11 :: a12 :: a13 :: a14 :: a15 :: a16 :: a17 :: a18 :: a19 :: a20 :: a21 :: a22 :: a23 :: a24 :: l).set 24 x = a0 :: a1 :: a2 :: a3 :: a4 :: a5 :: a6 :: a7 :: a8 :: a9 :: a10 :: a11 :: a12 :: a13 :: a14 :: a15 :: a16 :: a17 :: a18 :: a19 :: a20 :: a21 :: a22 :: a23 :: x :: l := rfl
theorem g25 {α : Type} {a0 a1 a2 a3 a4 a5 a6 a7 a8 a9 a10 a11 a12 a13 a14 a15 a16 a17 a18 a19 a20 a21 a22 a23 a24 a25 : α} {l : List α} : (a0 :: a1 :: a2 :: a3 :: a4 :: a5 :: a6 :: a7 :: a8 :: a9 :: a10 :: a11 :: a12 :: a13 :: a14 :: a15 :: a16 :: a17 :: a18 :: a19 :: a20 :: a21 :: a22 :: a23 :: a24 :: a25 :: l)[25]? = some a25 := rfl
theorem u25 {α : Type} {a0 a1 a2 a3 a4 a5 a6 a7 a8 a9 a10 a11 a12 a13 a14 a15 a16 a17 a18 a19 a20 a21 a22 a23 a24 a25 x : α} {l : List α} : (a0 :: a1 :: a2 :: a3 :: a4 :: a5 :: a6 :: a7 :: a8 :: a9 :: a10 :: a11 :: a12 :: a13 :: a14 :: a15 :: a16 :: a17 :: a18 :: a19 :: a20 :: a21 :: a22 :: a23 :: a24 :: a25 :: l).set 25 x = a0 :: a1 :: a2 :: a3 :: a4 :: a5 :: a6 :: a7 :: a8 :: a9 :: a10 :: a11 :: a12 :: a13 :: a14 :: a15 :: a16 :: a17 :: a18 :: a19 :: a20 :: a21 :: a22 :: a23 :: a24 :: x :: l := rfl
def fre (o : Option Sl) : Bool := match o with | some (.own true _) => false | some _ => true | none => false
theorem f_non : fre (some .non) = true := rfl
theorem f_val (d : D) : fre (some (.val d)) = true := rfl
theorem f_own (o : Own) : fre (some (.own false o)) = true := rfl
theorem f_pin (o : Own) : fre (some (.own true o)) = false := rfl
theorem rb {α β : Type} (m : Res α) (f : α → Res β) : m.bind f = (match m with | .ok a => f a | .ex x => .ex x | .no => .no) := by cases m <;> rfl
theorem r_ofO {α : Type} (o : Option α) : ofO o = (match o with | some a => .ok a | none => .no) := by cases o <;> rfl
section
variable (i j n k a b : Nat) (d : D) (ds : List D) (r : Rho) (m m' : M RV) (x y z : M D) (c c' : M Bool) (s s' : SM) (ms mk : M (List D)) (us vs : M (List ASl)) (f g : D → D → Option D) (f2 : D → D → Option RV) (f1 : D → Option D) (fl : List D → Option D) (fe : List D → Option RV) (F : Den) (bm : BM) (bs : BMs) (l : List Sl) (it : M (List D)) (lo hi : M (Option Int))
theorem r_den : den n s l = outX l ((s (l ++ List.replicate (n - l.length) .non)).bind fun a => match a.1 with | .rt rv => .ok (rv, outs l a.2) | .nx => .ok (.val .none, outs l a.2) | _ => .no) := rfl
theorem r_oX1 {α : Type} (l : List Sl) (a : α) : outX l (.ok a) = .ok a := rfl
theorem r_oX2 {α : Type} (l : List Sl) (x : Exn × Rho) : outX (α := α) l (.ex x) = .ex (x.1, outs l x.2) := rfl
theorem r_bX1 {α : Type} (l : List ASl) (r : Rho) (c : α × List Sl) : backX l r (.ok c) = .ok (c.1, wb l c.2 r) := rfl
theorem r_bX2 {α : Type} (l : List ASl) (r : Rho) (x : Exn × Rho) : backX (α := α) l r (.ex x) = .ex (x.1, wb l x.2 r) := rfl
theorem r_lX1 {α : Type} (r : Rho) (c : α × List Sl) : leaveX r (.ok c) = .ok (c.1, r) := rfl
theorem r_lX2 {α : Type} (r : Rho) (x : Exn × Rho) : leaveX (α := α) r (.ex x) = .ex (x.1, r) := rfl
theorem r_C : dC d r = .ok (d, r) := rfl
theorem r_Var : dVar i r = (match r[i]? with | some (.val d) => .ok (d, r) | some (.own false (.lst ds)) => .ok (.list ds, r.set i (.val (.list ds))) | some (.own false (.dic es)) => .ok (.dict es, r.set i (.val (.dict es))) | _ => .no) := rfl
theorem r_Val : dVal i r = (match r[i]? with | some (.val d) => .ok (d, r) | _ => .no) := rfl
theorem r_Move : eMove i r = (match r[i]? with | some (.val d) => .ok (.val d, r) | some (.own false o) => .ok (.own o, r.set i .non) | _ => .no) := rfl
theorem r_fz : fz m r = (m r).bind fun a => (fzR a.1).bind fun d => .ok (d, a.2) := rfl
theorem r_ofD : ofD x r = (x r).bind fun a => .ok (.val a.1, a.2) := rfl
theorem r_Op : dOp f x y r = (x r).bind fun a => (y a.2).bind fun b => (ofO (f a.1 b.1)).bind fun d => .ok (d, b.2) := rfl
theorem r_eOp : eOp f2 x y r = (x r).bind fun a => (y a.2).bind fun b => (ofO (f2 a.1 b.1)).bind fun d => .ok (d, b.2) := rfl
theorem r_Un : dUn f1 x r = (x r).bind fun a => (ofO (f1 a.1)).bind fun d => .ok (d, a.2) := rfl
theorem r_CB : dCB fl ms r = (ms r).bind fun a => (ofO (fl a.1)).bind fun d => .ok (d, a.2) := rfl
theorem r_eCB : eCB fe ms r = (ms r).bind fun a => (ofO (fe a.1)).bind fun d => .ok (d, a.2) := rfl
theorem r_Mul : eMul m x r = (m r).bind fun a => (x a.2).bind fun b => (ofO (pMul a.1 b.1)).bind fun d => .ok (d, b.2) := rfl
theorem r_Nil : dNil r = .ok ([], r) := rfl
theorem r_Cons : dCons x ms r = (x r).bind fun a => (ms a.2).bind fun b => .ok (a.1 :: b.1, b.2) := rfl
theorem r_Lst : eLst ms r = (ms r).bind fun a => if a.1.length ≤ 16777216 then .ok (.own (.lst a.1), a.2) else .no := rfl
theorem r_Tup : dTup ms r = (ms r).bind fun a => if a.1.length ≤ 16777216 then .ok (.tuple a.1, a.2) else .no := rfl
theorem r_Bl : tBl x r = (x r).bind fun a => match a.1 with | .bool b => .ok (b, a.2) | _ => .no := rfl
theorem r_And : tAndM c c' r = (c r).bind fun a => if a.1 = true then c' a.2 else .ok (false, a.2) := rfl
theorem r_Or : tOrM c c' r = (c r).bind fun a => if a.1 = true then .ok (true, a.2) else c' a.2 := rfl
theorem r_NotM : tNotM c r = (c r).bind fun a => .ok (!a.1, a.2) := rfl
theorem r_Yes : tYesM r = .ok (true, r) := rfl
theorem r_If : eIf c m m' r = (c r).bind fun a => if a.1 = true then m a.2 else m' a.2 := rfl
theorem r_Chain : dChain f g x y z r = (x r).bind fun a => (y a.2).bind fun b => (ofO (f a.1 b.1)).bind fun d => match d with | .bool true => (z b.2).bind fun c => (ofO (g b.1 c.1)).bind fun d => .ok (d, c.2) | .bool false => .ok (.bool false, b.2) | _ => .no := rfl
theorem r_Next : sNext r = .ok (.nx, r) := rfl
theorem r_Seq : sSeq s s' r = (s r).bind fun a => match a.1 with | .nx => s' a.2 | .bk => .ok (.bk, a.2) | .ct => .ok (.ct, a.2) | .rt rv => .ok (.rt rv, a.2) := rfl
theorem r_Bk : sBk r = .ok (.bk, r) := rfl
theorem r_Ct : sCt r = .ok (.ct, r) := rfl
theorem r_Never : sNever r = .no := rfl
theorem r_Ret : sRet m r = (m r).bind fun a => .ok (.rt a.1, a.2) := rfl
theorem r_RetN : sRetN r = .ok (.rt (.val .none), r) := rfl
theorem r_Expr : sExpr m r = (m r).bind fun a => .ok (.nx, a.2) := rfl
theorem r_sIf : sIf c s s' r = (c r).bind fun a => if a.1 = true then s a.2 else s' a.2 := rfl
theorem r_Set : sSet i m r = (m r).bind fun a => if free a.2 i = true then .ok (.nx, a.2.set i (toSl a.1)) else .no := rfl
theorem r_Asg : sAsg bm x r = (x r).bind fun a => (ofO (bm a.1 a.2)).bind fun r' => .ok (.nx, r') := rfl
theorem r_Par : sPar i j m m' r = (m r).bind fun a => (m' a.2).bind fun b => if free b.2 i = true then (if free (b.2.set i (toSl a.1)) j = true then .ok (.nx, (b.2.set i (toSl a.1)).set j (toSl b.1)) else .no) else .no := rfl
theorem r_bName : bName i d r = if free r i = true then some (r.set i (.val d)) else none := rfl
theorem r_bNil : bNil ds r = (match ds with | [] => some r | _ => none) := rfl
theorem r_bCons : bCons bm bs ds r = (match ds with | [] => none | d :: ds => (match bm d r with | some r' => bs ds r' | none => none)) := by cases ds with | nil => rfl | cons d ds => show (bm d r).bind _ = (match bm d r with | some r' => bs ds r' | none => none); cases bm d r <;> rfl
theorem r_bTup : bTup n bs d r = (match d with | .tuple ds => if ds.length = n then bs ds r else none | _ => none) := rfl
theorem r_free : free r i = fre r[i]? := rfl
theorem r_toSl (v : RV) : toSl v = (match v with | .val d => .val d | .own o => .own false o) := rfl
theorem r_fzR (v : RV) : fzR v = (match v with | .val d => .ok d | .own (.lst ds) => .ok (.list ds) | .own (.dic es) => .ok (.dict es) | .own (.ins _ _) => .no) := by cases v with | val d => rfl | own o => cases o <;> rfl
theorem r_dAnd : dAnd x y r = (x r).bind fun a => match a.1 with | .bool true => y a.2 | .bool false => .ok (.bool false, a.2) | _ => .no := rfl
theorem r_dOr : dOr x y r = (x r).bind fun a => match a.1 with | .bool true => .ok (.bool true, a.2) | .bool false => y a.2 | _ => .no := rfl
theorem r_dNot : dNot x r = (x r).bind fun a => match a.1 with | .bool b => .ok (.bool (!b), a.2) | _ => .no := rfl
theorem r_ixO : dIxO i x r = (match r[i]? with | some (.own _ (.lst _)) => (x r).bind fun a => (match a.2[i]?, a.1 with | some (.own _ (.lst ds)), .int k => (ofO (atI ds k)).bind fun d => .ok (d, a.2) | _, _ => .no) | _ => .no) := rfl
theorem r_Put : sPut i x y r = (y r).bind fun a => match a.2[i]? with
  | some (.own _ (.lst _)) => (x a.2).bind fun b => (match b.2[i]? with
    | some (.own p (.lst ds)) => (match b.1 with
      | .int k => (ofO (ixD ds.length k)).bind fun j => .ok (.nx, b.2.set i (.own p (.lst (ds.set j a.1))))
      | _ => .no)
    | _ => .no)
  | _ => .no := rfl
theorem r_Mut (h : List D → List D → Option (D × List D)) : eMut i h ms r = (match r[i]? with
  | some (.own _ (.lst _)) => (ms r).bind fun a => (match a.2[i]? with
    | some (.own p (.lst ds)) => (ofO (h ds a.1)).bind fun x => .ok (.val x.1, a.2.set i (.own p (.lst x.2)))
    | _ => .no)
  | _ => .no) := rfl
theorem r_arNil : arNil r = .ok ([], r) := rfl
theorem r_arV : arV x us r = (x r).bind fun a => (us a.2).bind fun b => .ok (.val a.1 :: b.1, b.2) := rfl
theorem r_arR : arR i us r = (match r[i]? with | some (.own _ _) => (us r).bind fun b => .ok (.ref i :: b.1, b.2) | _ => .no) := rfl
theorem r_Call : eCall n F us r = (us r).bind fun a => if a.1.length = n then ((ofO (mkA a.1 a.2)).bind fun sl => backX a.1 a.2 (F sl)) else .no := rfl
theorem r_CallK (ix : List Nat) : eCallK n a b ix F us vs r = (us r).bind fun u => (vs u.2).bind fun v => if u.1.length = a ∧ v.1.length = b ∧ (pick ix (u.1 ++ v.1)).length = n then ((ofO (mkA (pick ix (u.1 ++ v.1)) v.2)).bind fun sl => backX (pick ix (u.1 ++ v.1)) v.2 (F sl)) else .no := rfl
theorem r_CallKD (ix : List Nat) : eCallKD n a b ix F us vs r = (us r).bind fun u => (vs u.2).bind fun v => if u.1.length = a ∧ v.1.length = b ∧ (pick ix (u.1 ++ v.1 ++ [.val .none])).length = n then ((ofO (mkA (pick ix (u.1 ++ v.1 ++ [.val .none])) v.2)).bind fun sl => backX (pick ix (u.1 ++ v.1 ++ [.val .none])) v.2 (F sl)) else .no := rfl
theorem r_CallT : eCallT n F m us r = (m r).bind fun a => match a.1 with
  | .own o => (us a.2).bind fun b => if b.1.length + 1 = n then ((ofO (valsOf b.1)).bind fun sl => leaveX b.2 (F (.own true o :: sl))) else .no
  | .val _ => .no := rfl
theorem r_For : sFor it bm s r = (it r).bind fun a => forD bm s a.1 a.2 := rfl
theorem r_Lc (ws : List Nat) : eLc it ws bm c x r = (it r).bind fun a => (ofO (wipeR a.2 ws)).bind fun r1 => (lcD ws bm c x a.1 [] r1).bind fun x => .ok (.own (.lst x.1), x.2) := rfl
theorem r_iSeq : iSeqM x r = (x r).bind fun a => match a.1 with | .list ds => .ok (ds, a.2) | .tuple ds => .ok (ds, a.2) | _ => .no := rfl
theorem r_iRng1 : iRng1M x r = (x r).bind fun a => match a.1 with | .int j => @ite _ (-(2 ^ 62) ≤ j ∧ j < 2 ^ 62) (Classical.propDecidable _) (.ok (rangeD 0 j.toNat, a.2)) .no | _ => .no := rfl
theorem r_iRng2 : iRng2M ms r = (ms r).bind fun a => match a.1 with | [.int i, .int j] => @ite _ (-(2 ^ 62) ≤ i ∧ i < 2 ^ 62 ∧ -(2 ^ 62) ≤ j ∧ j < 2 ^ 62) (Classical.propDecidable _) (.ok (rangeD i (j - i).toNat, a.2)) .no | _ => .no := rfl
theorem r_iEnum : iEnumM x r = (x r).bind fun a => match a.1 with | .list ds => .ok (enumD 0 ds, a.2) | _ => .no := rfl
theorem r_iZip : iZipM x y r = (x r).bind fun a => (y a.2).bind fun b => match a.1, b.1 with | .list ds, .list es => .ok (zipD ds es, b.2) | _, _ => .no := rfl
theorem r_oNone : oNone r = .ok (none, r) := rfl
theorem r_oSome : oSome x r = (x r).bind fun a => match a.1 with | .int i => .ok (some i, a.2) | _ => .no := rfl
theorem r_Cut : eCut x lo hi r = (x r).bind fun a => (lo a.2).bind fun b => (hi b.2).bind fun c => (ofO (pCut a.1 b.1 c.1)).bind fun d => .ok (d, c.2) := rfl
theorem r_Rev : eRev x r = (x r).bind fun a => match a.1 with | .list ds => .ok (.own (.lst ds.reverse), a.2) | _ => .no := rfl
theorem r_Isi (T : String) : dIsi T x r = (x r).bind fun a => (ofO (kitB (tyD a.1) T)).bind fun b => .ok (.bool b, a.2) := rfl
theorem r_IsiT (Ts : List String) : dIsiT Ts x r = (x r).bind fun a => (ofO (kitAnyB (tyD a.1) Ts)).bind fun b => .ok (.bool b, a.2) := rfl
theorem r_Bor : dBorrow i x r = (match r[i]? with
  | some (.own p (.lst ds)) => if othersBare r i = true then ((x (r.set i (.val (.list ds)))).bind fun a => if listless a.1 = true then .ok (a.1, r) else .no) else .no
  | _ => .no) := rfl
theorem r_noEx {α : Type} (m : Res α) : noEx m = (match m with | .ok a => .ok a | .ex _ => .no | .no => .no) := by cases m <;> rfl
theorem r_wipe0 : wipeR r [] = some r := rfl
theorem r_wipe1 (v : Nat) (w : List Nat) : wipeR r (v :: w) = (match wipeR r w with | some r' => if free r' v = true then some (r'.set v .non) else none | none => none) := by show (wipeR r w).bind _ = _; cases wipeR r w <;> rfl
theorem r_outs0 : outs [] l = [] := rfl
theorem r_outs1 (s : Sl) (q : List Sl) : outs (s :: q) l = out1 s l.head? :: outs q l.tail := rfl
theorem r_out1 (o : Own) (t : Sl) : out1 (.own true o) (some t) = t := rfl
theorem r_out2 (t : Option Sl) : out1 (.val d) t = .val d := rfl
theorem r_mkA0 : mkA [] r = some [] := rfl
theorem r_mkA1 (q : List ASl) : mkA (.val d :: q) r = (match mkA q r with | some s => some (.val d :: s) | none => none) := by show (mkA q r).map _ = _; cases mkA q r <;> rfl
theorem r_mkA2 (q : List ASl) : mkA (.ref i :: q) r = (match r[i]? with | some (Sl.own _ o) => if q.any (isR i) = true then none else (match mkA q r with | some s => some (Sl.own true o :: s) | none => none) | _ => none) := by
  show (match r[i]? with | some (Sl.own _ o) => if q.any (isR i) = true then none else (mkA q r).map (Sl.own true o :: ·) | _ => none) = _
  cases mkA q r <;> rfl
theorem r_wb0 (s : List Sl) : wb [] s r = r := by unfold wb; rfl
theorem r_wb1 (q : List ASl) (t : Sl) (s : List Sl) : wb (.val d :: q) (t :: s) r = wb q s r := by cases t <;> rfl
theorem r_wb2 (q : List ASl) (p : Bool) (o : Own) (s : List Sl) : wb (.ref i :: q) (.own p o :: s) r = wb q s (setOwn r i o) := rfl
theorem r_setOwn (o : Own) : setOwn r i o = (match r[i]? with | some (.own p _) => r.set i (.own p o) | _ => r) := rfl
theorem r_pick0 {α : Type} (l : List α) : pick [] l = [] := rfl
theorem r_pick1 {α : Type} (q : List Nat) (l : List α) : pick (i :: q) l = (match l[i]? with | some x => x :: pick q l | none => pick q l) := by
  unfold pick
  rw [List.filterMap_cons]
  cases l[i]? <;> rfl
theorem r_val0 : valsOf [] = some [] := rfl
theorem r_val1 (q : List ASl) : valsOf (.val d :: q) = (match valsOf q with | some s => some (.val d :: s) | none => none) := by show (valsOf q).map _ = _; cases valsOf q <;> rfl
end
/-! operators on numbers -/
section
variable (i j : Int)
theorem v_add : pAdd (.int i) (.int j) = some (.val (.int (i + j))) := rfl
theorem v_sub : pSub (.int i) (.int j) = some (.int (i - j)) := rfl
theorem v_neg : pNeg (.int i) = some (.int (-i)) := rfl
theorem v_lt : pLt (.int i) (.int j) = some (.bool (decide (i < j))) := rfl
theorem v_le : pLe (.int i) (.int j) = some (.bool (decide (i ≤ j))) := rfl
theorem v_gt : pGt (.int i) (.int j) = some (.bool (decide (j < i))) := rfl
theorem v_ge : pGe (.int i) (.int j) = some (.bool (decide (j ≤ i))) := rfl
theorem v_eq : pEq (.int i) (.int j) = some (.bool (i == j)) := rfl
theorem v_ne : pNe (.int i) (.int j) = some (.bool (!(i == j))) := rfl
theorem v_max2 : pMax2 [.int i, .int j] = some (.int (max i j)) := by
  show some (PyData.int (if j > i then j else i)) = _
  congr 2
  split <;> omega
theorem v_min2 : pMin2 [.int i, .int j] = some (.int (min i j)) := by
  show some (PyData.int (if j < i then j else i)) = _
  congr 2
  split <;> omega
theorem v_mod (h : 0 < j) : pMod (.int i) (.int j) = some (.int (i % j)) := by
  show (if decide (0 < j) = true then some (PyData.int (i % j)) else none) = _
  rw [if_pos (by simpa using h)]
theorem log2_9000 {n : Nat} (h : n < 2 ^ 128) : n.log2 < 9000 := by
  by_cases h0 : n = 0
  · subst h0; decide
  · exact Nat.lt_of_lt_of_le ((Nat.log2_lt h0).mpr h) (by decide)
theorem v_div (h : 0 < j) (h2 : j < 340282366920938463463374607431768211456) : pDiv (.int i) (.int j) = some (.int (i / j)) := by
  show (if (decide (0 < j) && decide (j.natAbs.log2 < 9000)) = true then some (PyData.int (i / j)) else none) = _
  have h3 : j.natAbs < 2 ^ 128 := by
    have : (2 : Nat) ^ 128 = 340282366920938463463374607431768211456 := by decide
    omega
  rw [if_pos (by simp only [Bool.and_eq_true, decide_eq_true_eq]; exact ⟨h, log2_9000 h3⟩)]
theorem v_pow (h1 : 0 ≤ j) (h2 : j ≤ 1000000) (h3 : i.natAbs < 2 ^ 64) : pPow (.int i) (.int j) = some (.int (i ^ j.toNat)) := by
  show (if (decide (0 ≤ j) && decide (j ≤ 1000000) && decide (i.natAbs < 2 ^ 64)) = true then some (PyData.int (i ^ j.toNat)) else none) = _
  rw [if_pos (by simp only [Bool.and_eq_true, decide_eq_true_eq]; exact ⟨⟨h1, h2⟩, h3⟩)]
theorem v_pow9 : pPow (.int 10) (.int 9) = some (.int 1000000000) := (v_pow 10 9 (by decide) (by decide) (by decide)).trans (congrArg (fun z => some (PyData.int z)) (by decide : (10 : Int) ^ (9 : Int).toNat = 1000000000))
theorem v_pow18 : pPow (.int 10) (.int 18) = some (.int 1000000000000000000) := (v_pow 10 18 (by decide) (by decide) (by decide)).trans (congrArg (fun z => some (PyData.int z)) (by decide : (10 : Int) ^ (18 : Int).toNat = 1000000000000000000))
theorem v_pow30 : pPow (.int 10) (.int 30) = some (.int 1000000000000000000000000000000) := (v_pow 10 30 (by decide) (by decide) (by decide)).trans (congrArg (fun z => some (PyData.int z)) (by decide : (10 : Int) ^ (30 : Int).toNat = 1000000000000000000000000000000))
theorem v_pow39 : pPow (.int 10) (.int 39) = some (.int 1000000000000000000000000000000000000000) := (v_pow 10 39 (by decide) (by decide) (by decide)).trans (congrArg (fun z => some (PyData.int z)) (by decide : (10 : Int) ^ (39 : Int).toNat = 1000000000000000000000000000000000000000))
theorem v_mulL (h1 : -18446744073709551616 < i) (h2 : i < 18446744073709551616) : pMul (.val (.int i)) (.int j) = some (.val (.int (i * j))) := by
  show (if mulOk i j = true then some (RV.val (.int (i * j))) else none) = _
  rw [if_pos (by unfold mulOk; simp only [Bool.or_eq_true, decide_eq_true_eq]; exact .inl (.inl ⟨by omega, by omega⟩))]
theorem v_mulR (h1 : -18446744073709551616 < j) (h2 : j < 18446744073709551616) : pMul (.val (.int i)) (.int j) = some (.val (.int (i * j))) := by
  show (if mulOk i j = true then some (RV.val (.int (i * j))) else none) = _
  rw [if_pos (by unfold mulOk; simp only [Bool.or_eq_true, decide_eq_true_eq]; exact .inl (.inr ⟨by omega, by omega⟩))]
theorem repL_one {α : Type} (a : α) : ∀ k : Nat, repL k [a] = List.replicate k a
  | 0 => rfl
  | k + 1 => by
    have ih := repL_one a k
    unfold repL at ih ⊢
    rw [List.replicate_succ, List.flatten_cons, ih]
    rfl
theorem v_rep1 (d : D) (h1 : j ≤ 16777216) (h0 : -9223372036854775808 ≤ j) : pMul (.own (.lst [d])) (.int j) = some (.own (.lst (List.replicate j.toNat d))) := by
  show (if (-(2 ^ 63) ≤ j ∧ j < 2 ^ 63) ∧ ([d] : List D).length * j.toNat ≤ 16777216 then some (RV.own (.lst (repL j.toNat [d]))) else none) = _
  rw [if_pos ⟨⟨by omega, by omega⟩, by simp; omega⟩, repL_one]
theorem v_divmod (h1 : 0 < j) (h2 : j < 1073741824) : pDivmod [.int i, .int j] = some (.tuple [.int (i / j), .int (i % j)]) := by
  show (if 0 < j ∧ j < 1073741824 then some (PyData.tuple [.int (i / j), .int (i % j)]) else none) = _
  rw [if_pos ⟨h1, h2⟩]
theorem v_catL (a b : List D) (h : a.length + b.length ≤ 16777216) : pAdd (.list a) (.list b) = some (.own (.lst (a ++ b))) := by
  show (if a.length + b.length ≤ 16777216 then some (RV.own (.lst (a ++ b))) else none) = _
  rw [if_pos h]
theorem v_lenL (a : List D) : pLen [.list a] = some (.int a.length) := rfl
theorem v_lenT (a : List D) : pLen [.tuple a] = some (.int a.length) := rfl
theorem v_sum (ns : List Int) : pSum [.list (ns.map .int)] = some (.int ns.sum) := by
  show (ints? (ns.map .int)).bind _ = _
  rw [ints?_of]; rfl
theorem v_sorted (ns : List Int) : pSorted [.list (ns.map .int)] = some (.own (.lst ((sortI ns).map .int))) := by
  show (ints? (ns.map .int)).map _ = _
  rw [ints?_of]; rfl
theorem v_all (bs : List Bool) : pAll [.list (bs.map .bool)] = some (.bool (bs.all id)) := by
  show (bools? (bs.map .bool)).map _ = _
  rw [bools?_of]; rfl
theorem v_app (ds : List D) (d : D) (h : ds.length < 16777216) : mApp ds [d] = some (.none, ds ++ [d]) := if_pos h
/-! items -/
theorem atI_ofNat {α : Type} (l : List α) (k : Nat) : atI l (k : Int) = l[k]? := by
  unfold atI ixN
  rw [if_pos (by omega)]
  by_cases h : k < l.length
  · rw [if_pos (by omega)]
    show l[(k : Int).toNat]? = _
    rw [Int.toNat_natCast]
  · rw [if_neg (by omega), List.getElem?_eq_none (by omega)]
    rfl
theorem v_atN {α : Type} (l : List α) (k : Int) (h : 0 ≤ k) : atI l k = l[k.toNat]? := by
  have : k = (k.toNat : Int) := by omega
  rw [this, atI_ofNat]
  rfl
theorem v_ixL (ds : List D) (k : Int) : pIx (.list ds) (.int k) = atI ds k := rfl
theorem v_ixT (ds : List D) (k : Int) : pIx (.tuple ds) (.int k) = atI ds k := rfl
theorem v_ixD0 (n : Nat) (k : Int) (h : 0 ≤ k) (h2 : k < n) : ixD n k = some k.toNat := by
  unfold ixD ixN
  rw [if_pos h, if_pos h2]
theorem v_cutL (ds : List D) (lo hi : Option Int) : pCut (.list ds) lo hi = some (.own (.lst (cutD ds lo hi))) := rfl
theorem v_cutT (ds : List D) (lo hi : Option Int) : pCut (.tuple ds) lo hi = some (.val (.tuple (cutD ds lo hi))) := rfl
theorem cut_to {α : Type} (l : List α) (k : Nat) : cutD l none (some (k : Int)) = l.take k := by
  unfold cutD
  rw [HT.sIx_none, HT.sIx_nat]
  rw [List.drop_zero, Nat.sub_zero]
  by_cases h : k ≤ l.length
  · rw [Nat.min_eq_left h]
  · rw [Nat.min_eq_right (by omega), List.take_of_length_le (Nat.le_refl _), List.take_of_length_le (by omega)]
theorem cut_to' {α : Type} (l : List α) (k : Int) (h : 0 ≤ k) : cutD l none (some k) = l.take k.toNat := by
  have : k = (k.toNat : Int) := by omega
  rw [this, cut_to]
  rfl
theorem cut_from {α : Type} (l : List α) (k : Nat) : cutD l (some (k : Int)) none = l.drop k := by
  unfold cutD
  rw [HT.sIx_none, HT.sIx_nat]
  by_cases h : k ≤ l.length
  · rw [Nat.min_eq_left h, List.take_of_length_le (by simp)]
  · rw [Nat.min_eq_right (by omega), List.drop_of_length_le (Nat.le_refl _), List.drop_of_length_le (by omega), List.take_nil]
end
/-! isinstance -/
theorem k_ii : kitB "int" "int" = some true := by decide +kernel
theorem k_ib : kitB "int" "bool" = some false := by decide +kernel
theorem k_bi : kitB "bool" "int" = some true := by decide +kernel
theorem k_bb : kitB "bool" "bool" = some true := by decide +kernel
theorem k_ll : kitB "list" "list" = some true := by decide +kernel
theorem k_lt : kitB "list" "tuple" = some false := by decide +kernel
theorem k_tl : kitB "tuple" "list" = some false := by decide +kernel
theorem k_tt : kitB "tuple" "tuple" = some true := by decide +kernel
theorem t_i (i : Int) : tyD (.int i) = "int" := rfl
theorem t_b (b : Bool) : tyD (.bool b) = "bool" := rfl
theorem t_l (l : List D) : tyD (.list l) = "list" := rfl
theorem t_t (l : List D) : tyD (.tuple l) = "tuple" := rfl
/-! equality of data -/
theorem lay_ints : ∀ ns : List Int, PyData.canLayAll0 (ns.map .int) = true
  | [] => rfl
  | n :: ns => by
    show (PyData.canLay0 (.int n) && PyData.canLayAll0 (ns.map .int)) = true
    rw [lay_ints ns]; rfl
theorem eqvAll_ints : ∀ a b : List Int, PyData.eqvAll (a.map .int) (b.map .int) = decide (a = b)
  | [], [] => by simp [PyData.eqvAll]
  | [], _ :: _ => by simp [PyData.eqvAll]
  | _ :: _, [] => by simp [PyData.eqvAll]
  | x :: a, y :: b => by
    show (PyData.eqv (.int x) (.int y) && PyData.eqvAll (a.map .int) (b.map .int)) = _
    rw [eqvAll_ints a b]
    show ((x == y) && decide (a = b)) = _
    by_cases h : x = y <;> by_cases h2 : a = b <;> simp [h, h2]
theorem dep_ints : ∀ ns : List Int, PyData.depthAll (ns.map .int) ≤ 1
  | [] => by simp [PyData.depthAll]
  | n :: ns => by
    have := dep_ints ns
    have h : PyData.depth (.int n) ≤ 1 := by simp [PyData.depth]
    simp only [List.map_cons, PyData.depthAll]
    omega
theorem shp_ints (ns : List Int) : SeqAt.shaped (.list (ns.map .int)) = true := by
  have h := dep_ints ns
  unfold SeqAt.shaped
  rw [Bool.and_eq_true, decide_eq_true_eq]
  refine ⟨lay_ints ns, ?_⟩
  simp only [PyData.depth]
  omega
theorem v_eqL (a b : List Int) : pEq (.list (a.map .int)) (.list (b.map .int)) = some (.bool (decide (a = b))) := by
  unfold pEq
  rw [if_pos (by rw [shp_ints a, shp_ints b]; rfl)]
  show some (PyData.bool (PyData.eqvAll (a.map .int) (b.map .int))) = _
  rw [eqvAll_ints]
theorem v_neL (a b : List Int) : pNe (.list (a.map .int)) (.list (b.map .int)) = some (.bool (!decide (a = b))) := by
  unfold pNe
  rw [if_pos (by rw [shp_ints a, shp_ints b]; rfl)]
  show some (PyData.bool (!PyData.eqvAll (a.map .int) (b.map .int))) = _
  rw [eqvAll_ints]
/-! items of written lists; a source of draws -/
theorem at0 {α : Type} (a : α) (l : List α) : atI (a :: l) 0 = some a := by rw [v_atN _ _ (by omega)]; rfl
theorem at1 {α : Type} (a b : α) (l : List α) : atI (a :: b :: l) 1 = some b := by rw [v_atN _ _ (by omega)]; rfl
theorem at2 {α : Type} (a b c : α) (l : List α) : atI (a :: b :: c :: l) 2 = some c := by rw [v_atN _ _ (by omega)]; rfl
theorem ixD0 (n : Nat) : ixD (n + 1) 0 = some 0 := v_ixD0 _ _ (by omega) (by omega)
theorem ixD2 (n : Nat) : ixD (n + 3) 2 = some 2 := v_ixD0 _ _ (by omega) (by omega)
def mixed (c k : Int) : Int :=
  let a := (c % 2147483646 + 1) * (k * 7919 + 104729) % 2147483647
  let b := (a + c / 2147483646 % 1000003 * (k + 31)) * 48271 % 2147483629
  let d := b * (b / 1013 + 69621 + k) % 2147483587
  d * (d / 2003 + 40692) % 2147483563
abbrev Src := Int × Int × Int
def srcO (s : Src) : Own := .lst [.int s.1, .int s.2.1, .int s.2.2]
def tkV (s : Src) (m : Int) : Int := if 1000000000000000000 ≤ s.1 then s.1 % m else mixed s.2.1 (s.2.2 + 1) % m
def tkS (s : Src) (m : Int) : Src := if 1000000000000000000 ≤ s.1 then (s.1 / m, s.2.1, s.2.2) else (s.1, s.2.1, s.2.2 + 1)
theorem tkV_nn (s : Src) {m : Int} (h : 0 < m) : 0 ≤ tkV s m := by
  unfold tkV
  split <;> exact Int.emod_nonneg _ (by omega)
theorem tkV_lt (s : Src) {m : Int} (h : 0 < m) : tkV s m < m := by
  unfold tkV
  split <;> exact Int.emod_lt_of_pos _ h
/-- what the many greatest of even shares are together -/
def topI (t c m : Int) : Int := t / c * m + min (t % c) m
/-! loops -/
theorem forD_cons {b : BM} {body : SM} {d : D} {ds : List D} {r : Rho} : forD b body (d :: ds) r = (ofO (b d r)).bind fun r1 => (body r1).bind fun a => match a.1 with
    | .nx => forD b body ds a.2
    | .ct => forD b body ds a.2
    | .bk => .ok (.nx, a.2)
    | .rt rv => .ok (.rt rv, a.2) := rfl
theorem forD_inv' {b : BM} {body : SM} (P : Nat → Rho → Prop) : ∀ (items : List D) (k : Nat) (r : Rho), P k r → (∀ (i : Nat) (d : D), items[i]? = some d → ∀ r, P (k + i) r → ∃ r2, (((ofO (b d r)).bind body = .ok (.nx, r2)) ∨ ((ofO (b d r)).bind body = .ok (.ct, r2))) ∧ P (k + i + 1) r2) → ∃ r', forD b body items r = .ok (.nx, r') ∧ P (k + items.length) r'
  | [], k, r, hp, _ => ⟨r, rfl, hp⟩
  | d :: items, k, r, hp, h => by
    obtain ⟨r2, e2, hp2⟩ := h 0 d rfl r hp
    obtain ⟨r', e, hp'⟩ := forD_inv' (b := b) (body := body) P items (k + 1) r2 hp2 (fun i d' e r hr => by
      have z := h (i + 1) d' (by simpa using e) r (by rw [show k + (i + 1) = k + 1 + i by omega]; exact hr)
      rw [show k + 1 + i = k + (i + 1) by omega]
      exact z)
    refine ⟨r', ?_, by rw [show k + (d :: items).length = k + 1 + items.length by simp; omega]; exact hp'⟩
    rw [← e, forD_cons]
    cases hb : b d r with
    | none => rw [hb] at e2; rcases e2 with e2 | e2 <;> cases e2
    | some r1 =>
      rw [hb] at e2
      have e3 : body r1 = .ok (.nx, r2) ∨ body r1 = .ok (.ct, r2) := e2
      rcases e3 with e3 | e3 <;> simp only [e3, ofO, Res.bind]
theorem forD_inv {b : BM} {body : SM} (P : Nat → Rho → Prop) (items : List D) (r : Rho) (h0 : P 0 r) (h : ∀ (i : Nat) (d : D), items[i]? = some d → ∀ r, P i r → ∃ r2, (((ofO (b d r)).bind body = .ok (.nx, r2)) ∨ ((ofO (b d r)).bind body = .ok (.ct, r2))) ∧ P (i + 1) r2) : ∃ r', forD b body items r = .ok (.nx, r') ∧ P items.length r' := by
  obtain ⟨r', e, hp⟩ := forD_inv' (b := b) (body := body) P items 0 r h0 (fun i d e r hr => by
    rw [Nat.zero_add] at hr ⊢
    exact h i d e r hr)
  exact ⟨r', e, by rwa [Nat.zero_add] at hp⟩
theorem atI_map {α β : Type} (f : α → β) (l : List α) (k : Int) : atI (l.map f) k = (atI l k).map f := by
  unfold atI
  rw [List.length_map]
  cases ixN l.length k with
  | none => rfl
  | some j => show (l.map f)[j]? = (l[j]?).map f; rw [List.getElem?_map]
theorem v_atG (l : List Int) (k : Int) (h : 0 ≤ k) (h2 : k < l.length) : atI (l.map PyData.int) k = some (.int (l.getD k.toNat 0)) := by
  rw [atI_map, v_atN _ _ h]
  have : k.toNat < l.length := by omega
  rw [List.getElem?_eq_getElem this, List.getD_eq_getElem?_getD, List.getElem?_eq_getElem this]
  rfl
theorem getD_nn {l : List Int} (h : ∀ x ∈ l, 0 ≤ x) (k : Nat) : 0 ≤ l.getD k 0 := by
  rw [List.getD_eq_getElem?_getD]
  cases e : l[k]? with
  | none => exact Int.le_refl _
  | some x => exact h x (List.mem_of_getElem? e)
theorem rangeD_at {lo : Int} {n i : Nat} {d : D} (h : (rangeD lo n)[i]? = some d) : i < n ∧ d = .int (lo + i) := by
  have hi : i < n := by
    have := (List.getElem?_eq_some_iff.mp h).1
    rwa [rangeD_length] at this
  rw [rangeD_get hi] at h
  exact ⟨hi, (Option.some.inj h).symm⟩
/-! the table -/
def leastI (n g p : Int) (row : List Int) (j : Int) : Int := row.getD (min (j + p) (n - p) - 1).toNat 0 + g - topI (row.getD (min (j + p) (n - p) - 1).toNat 0 + g) (j + p) p
def firstI (n g p : Int) (row : List Int) : List Int := (List.range (n - p).toNat).map fun i => leastI n g p row (1 + (i : Nat))
def nextI (n g p : Int) (row : List Int) : List Int := firstI n g p row ++ List.replicate p.toNat ((firstI n g p row).getD ((n - p).toNat - 1) 0)
/-- a row of the table -/
structure RowOk (n : Int) (row : List Int) : Prop where
  len : (row.length : Int) = n
  nn : ∀ x ∈ row, 0 ≤ x
theorem firstI_length (n g p : Int) (row : List Int) : (firstI n g p row).length = (n - p).toNat := by simp [firstI]
def zeroI (n : Int) : List Int := List.replicate n.toNat 0
theorem zero_ok {n : Int} (h : 0 ≤ n) : RowOk n (zeroI n) := ⟨by unfold zeroI; rw [List.length_replicate]; omega, fun x hx => by unfold zeroI at hx; rw [(List.mem_replicate.mp hx).2]; exact Int.le_refl _⟩
/-- the row behind t beats -/
def rowI (n g p : Int) : Nat → List Int
  | 0 => zeroI n
  | t + 1 => nextI n g p (rowI n g p t)
/-- a written list, picked from -/
theorem pick_ok {α : Type} (P : α → Prop) (l : List α) (k : Int) (h0 : 0 ≤ k) (h1 : k < l.length) (h : ∀ x ∈ l, P x) : ∃ v, atI l k = some v ∧ P v := by
  rw [v_atN _ _ h0]
  have : k.toNat < l.length := by omega
  exact ⟨l[k.toNat], List.getElem?_eq_getElem this, h _ (List.getElem_mem this)⟩
/-- rows told as data -/
def rowsD (n g p : Int) (t : Nat) : List D := (List.range (t + 1)).map fun i => .list ((rowI n g p i).map .int)
theorem rowsD_length (n g p : Int) (t : Nat) : (rowsD n g p t).length = t + 1 := by simp [rowsD]
theorem ints_at {ns : List Int} {i : Nat} {d : D} (h : (ns.map PyData.int)[i]? = some d) : ∃ z ∈ ns, d = .int z := by
  rw [List.getElem?_map] at h
  cases e : ns[i]? with
  | none => rw [e] at h; cases h
  | some z => rw [e] at h; cases h; exact ⟨z, List.mem_of_getElem? e, rfl⟩
/-! the table: it rises, it is bounded, it comes to stand still -/
theorem lag_mono {c m a b : Int} (hc : 1 ≤ c) (hm : 0 ≤ m) (hmc : m ≤ c) (h : a ≤ b) : a - topI a c m ≤ b - topI b c m := by
  unfold topI
  have ea := Int.emod_add_mul_ediv a c
  have eb := Int.emod_add_mul_ediv b c
  have ra := Int.emod_nonneg a (show c ≠ 0 by omega)
  have rb := Int.emod_nonneg b (show c ≠ 0 by omega)
  have la := Int.emod_lt_of_pos a (show 0 < c by omega)
  have lb := Int.emod_lt_of_pos b (show 0 < c by omega)
  have hq : a / c ≤ b / c := Int.ediv_le_ediv (by omega) h
  generalize a / c = qa at *
  generalize b / c = qb at *
  generalize a % c = x at *
  generalize b % c = y at *
  by_cases e : qa = qb
  · subst e
    omega
  · have hz := Int.mul_nonneg (show 0 ≤ qb - qa - 1 by omega) (show 0 ≤ c - m by omega)
    have hx : (qb - qa - 1) * (c - m) = c * qb - qb * m - c * qa + qa * m - c + m := by
      rw [Int.mul_sub, Int.sub_mul, Int.sub_mul, Int.sub_mul, Int.sub_mul, Int.mul_comm qb c, Int.mul_comm qa c]
      omega
    omega
theorem firstI_get (n g p : Int) (row : List Int) (k : Nat) (hk : k < (n - p).toNat) : (firstI n g p row).getD k 0 = leastI n g p row (1 + (k : Nat)) := by
  unfold firstI
  rw [List.getD_eq_getElem?_getD, List.getElem?_map, List.getElem?_range hk]
  rfl
theorem nextI_get {n g p : Int} (row : List Int) (hp : 1 ≤ p) (hpn : p ≤ n - 1) (k : Nat) (hk : (k : Int) < n) : (nextI n g p row).getD k 0 = leastI n g p row (min (1 + (k : Nat)) (n - p)) := by
  unfold nextI
  by_cases h : k < (n - p).toNat
  · rw [List.getD_eq_getElem?_getD, List.getElem?_append_left (by rw [firstI_length]; exact h), ← List.getD_eq_getElem?_getD, firstI_get _ _ _ _ _ h]
    congr 1
    omega
  · rw [List.getD_eq_getElem?_getD, List.getElem?_append_right (by rw [firstI_length]; omega), firstI_length, List.getElem?_replicate, if_pos (by omega)]
    show (firstI n g p row).getD ((n - p).toNat - 1) 0 = _
    rw [firstI_get _ _ _ _ _ (by omega)]
    congr 1
    omega
theorem zeroI_get (n : Int) (k : Nat) : (zeroI n).getD k 0 = 0 := by
  unfold zeroI
  rw [List.getD_eq_getElem?_getD, List.getElem?_replicate]
  split <;> rfl
end DL
/-! # DLQ: the plain laws of the program's numbers -/
namespace DL
open PySem PySem.Spec PyProof.Rows L2
theorem r_Copy (i : Nat) (r : Rho) : eCopy i r = (match r[i]? with | some (.own _ (.lst ds)) => .ok (.own (.lst ds), r) | _ => .no) := rfl
theorem sortB_f (ns : List Int) : sortB false ns = sortI ns := rfl
theorem sortB_t (ns : List Int) : sortB true ns = (sortI ns).reverse := rfl
theorem r_iEnumA (x : M D) (r : Rho) : iEnumA x r = (x r).bind fun a => match a.1 with | .list ds => .ok (enumD 0 ds, a.2) | .tuple ds => .ok (enumD 0 ds, a.2) | _ => .no := rfl
/-! what is borrowed -/
theorem ob_nil (i : Nat) : othersBare [] i = true := by cases i <;> rfl
theorem ob_zero (s : Sl) (r : Rho) : othersBare (s :: r) 0 = r.all bareSl := rfl
theorem ob_1 (s : Sl) (r : Rho) : othersBare (s :: r) 1 = (bareSl s && othersBare r 0) := rfl
theorem ob_2 (s : Sl) (r : Rho) : othersBare (s :: r) 2 = (bareSl s && othersBare r 1) := rfl
theorem ob_3 (s : Sl) (r : Rho) : othersBare (s :: r) 3 = (bareSl s && othersBare r 2) := rfl
theorem ob_4 (s : Sl) (r : Rho) : othersBare (s :: r) 4 = (bareSl s && othersBare r 3) := rfl
theorem ob_5 (s : Sl) (r : Rho) : othersBare (s :: r) 5 = (bareSl s && othersBare r 4) := rfl
theorem ob_6 (s : Sl) (r : Rho) : othersBare (s :: r) 6 = (bareSl s && othersBare r 5) := rfl
theorem ob_7 (s : Sl) (r : Rho) : othersBare (s :: r) 7 = (bareSl s && othersBare r 6) := rfl
theorem ob_8 (s : Sl) (r : Rho) : othersBare (s :: r) 8 = (bareSl s && othersBare r 7) := rfl
theorem ll_n : listless .none = true := by unfold listless; rfl
theorem ll_b (b : Bool) : listless (.bool b) = true := by unfold listless; rfl
theorem ll_i (i : Int) : listless (.int i) = true := by unfold listless; rfl
theorem ll_s (s : Str) : listless (.str s) = true := by unfold listless; rfl
theorem bs_n : bareSl .non = true := rfl
theorem bs_v (d : D) : bareSl (.val d) = true := rfl
theorem bs_l (p : Bool) (ds : List D) : bareSl (.own p (.lst ds)) = listlessA ds := rfl
theorem bs_s (p : Bool) (s : Src) : bareSl (.own p (srcO s)) = true := by show listlessA _ = true; simp [listlessA, listless]
theorem llA_ints : ∀ ns : List Int, listlessA (ns.map .int) = true
  | [] => by simp [listlessA]
  | n :: ns => by rw [List.map_cons, listlessA, llA_ints ns]; simp [listless]
/-! the first beat with an amount -/
theorem v_isN0 : pIsN .none .none = some (.bool true) := rfl
theorem v_isNi (i : Int) : pIsN (.int i) .none = some (.bool false) := rfl
theorem v_notN0 : pNotN .none .none = some (.bool false) := rfl
theorem v_notNi (i : Int) : pNotN (.int i) .none = some (.bool true) := rfl
theorem v_pow40 : pPow (.int 10) (.int 40) = some (.int 10000000000000000000000000000000000000000) := (v_pow 10 40 (by decide) (by decide) (by decide)).trans (congrArg (fun z => some (PyData.int z)) (by decide : (10 : Int) ^ (40 : Int).toNat = 10000000000000000000000000000000000000000))
/-! how soon the table stands still -/
theorem sum_gap : ∀ (a b : List Int) (m : Int), a.length = b.length → 0 ≤ m → (∀ k, b.getD k 0 - a.getD k 0 ≤ m) → b.sum ≤ a.sum + m * a.length
  | [], [], m, _, _, _ => by simp
  | x :: a, y :: b, m, hl, h0, h => by
    have ih := sum_gap a b m (by simpa using hl) h0 (fun k => by simpa using h (k + 1))
    have hx : y - x ≤ m := by simpa using h 0
    rw [List.sum_cons, List.sum_cons, List.length_cons, Int.natCast_succ, Int.mul_add, Int.mul_one]
    omega
/-! even shares; lists put otherwise -/
theorem v_inT2 (x a b : Int) : pIn true (.int x) (.tuple [.int a, .int b]) = some (.bool (!(decide (x = a) || decide (x = b)))) := by
  show (if (flatD (.int x) && [PyData.int a, PyData.int b].all flatD) = true then some (PyData.bool (!([PyData.int a, PyData.int b].any fun y => PyData.eqv y (.int x)))) else none) = _
  rw [if_pos (show (flatD (.int x) && [PyData.int a, PyData.int b].all flatD) = true from rfl)]
  show some (PyData.bool (!((a == x) || ((b == x) || false)))) = _
  have e1 : (a == x) = decide (x = a) := by by_cases h : x = a <;> simp [h]; omega
  have e2 : (b == x) = decide (x = b) := by by_cases h : x = b <;> simp [h]; omega
  rw [e1, e2, Bool.or_false]
theorem v_listOf (ds : List D) : pListOf [.list ds] = some (.own (.lst ds)) := rfl
theorem sum_rep (k : Nat) (x : Int) : (List.replicate k x).sum = k * x := by
  induction k with
  | zero => simp
  | succ k ih => rw [List.replicate_succ, List.sum_cons, ih, Int.natCast_succ, Int.add_mul, Int.one_mul]; omega
theorem topI_none {t c : Int} (hc : 1 ≤ c) : topI t c 0 = 0 := by
  have r0 := Int.emod_nonneg t (show c ≠ 0 by omega)
  unfold topI
  rw [Int.mul_zero, Int.min_eq_right r0]
  rfl
theorem sum_ge_of : ∀ (l : List Int) (x : Int), (∀ y ∈ l, x ≤ y) → l.length * x ≤ l.sum
  | [], x, _ => by simp
  | y :: l, x, h => by
    have ih := sum_ge_of l x (fun z hz => h z (List.mem_cons_of_mem _ hz))
    have h0 := h y List.mem_cons_self
    rw [List.sum_cons, List.length_cons, Int.natCast_succ, Int.add_mul, Int.one_mul]
    omega
theorem sum_le_all : ∀ (l : List Int) (x : Int), (∀ y ∈ l, y ≤ x) → l.sum ≤ l.length * x
  | [], x, _ => by simp
  | y :: l, x, h => by
    have ih := sum_le_all l x (fun z hz => h z (List.mem_cons_of_mem _ hz))
    have h0 := h y List.mem_cons_self
    rw [List.sum_cons, List.length_cons, Int.natCast_succ, Int.add_mul, Int.one_mul]
    omega
/-- no shares leave the greatest ones less than even ones do -/
theorem even_best {l : List Int} {t c m : Int} (hc : 1 ≤ c) (h0 : 0 ≤ m) (hm : m ≤ c) (hl : (l.length : Int) = c) (hs : l.sum = t) (hf : l.Pairwise (· ≥ ·)) : topI t c m ≤ (l.take m.toNat).sum := by
  by_cases hz : m = 0
  · subst hz
    rw [topI_none hc]
    exact Int.le_refl _
  have ea := Int.emod_add_mul_ediv t c
  have r0 := Int.emod_nonneg t (show c ≠ 0 by omega)
  have r1 := Int.emod_lt_of_pos t (show 0 < c by omega)
  have hk : m.toNat - 1 < l.length := by omega
  have hsum : (l.take m.toNat).sum + (l.drop m.toNat).sum = t := by rw [← List.sum_append, List.take_append_drop, hs]
  have hlt : (l.take m.toNat).length = m.toNat := by rw [List.length_take]; omega
  have hld : ((l.drop m.toNat).length : Int) = c - m := by rw [List.length_drop]; omega
  have pw := List.pairwise_iff_getElem.mp hf
  have hx1 : ∀ y ∈ l.take m.toNat, l[m.toNat - 1] ≤ y := by
    intro y hy
    obtain ⟨i, hi, rfl⟩ := List.mem_iff_getElem.mp hy
    rw [List.getElem_take]
    rw [hlt] at hi
    by_cases e : i = m.toNat - 1
    · subst e; exact Int.le_refl _
    · exact pw i (m.toNat - 1) (by omega) hk (by omega)
  have hx2 : ∀ y ∈ l.drop m.toNat, y ≤ l[m.toNat - 1] := by
    intro y hy
    obtain ⟨i, hi, rfl⟩ := List.mem_iff_getElem.mp hy
    rw [List.getElem_drop]
    rw [List.length_drop] at hi
    exact pw (m.toNat - 1) (m.toNat + i) hk (by omega) (by omega)
  generalize l[m.toNat - 1] = x at *
  unfold topI
  generalize t / c = q at *
  generalize t % c = r at *
  by_cases hxq : q + 1 ≤ x
  · have g1 := sum_ge_of (l.take m.toNat) (q + 1) (fun y hy => Int.le_trans hxq (hx1 y hy))
    rw [hlt, show ((m.toNat : Nat) : Int) = m by omega, Int.mul_add, Int.mul_one, Int.mul_comm] at g1
    omega
  · have g1 := sum_le_all (l.drop m.toNat) q (fun y hy => Int.le_trans (hx2 y hy) (by omega))
    rw [hld, Int.sub_mul, Int.mul_comm m] at g1
    omega
theorem cut_ints_to (l : List Int) (k : Int) (h : 0 ≤ k) : cutD (l.map PyData.int) none (some k) = (l.take k.toNat).map PyData.int := by
  rw [cut_to' _ _ h, List.map_take]
end DL
/-! # DLR: reckoning, further -/
namespace DL
open PySem PySem.Spec PyProof.Rows L2
section
variable {r : Rho} {m n : M D} {me : M RV}
theorem r_iZipB (st : Bool) : iZipB st m n r = (m r).bind fun a => (n a.2).bind fun b => (ofO (pZip st a.1 b.1)).bind fun d => .ok (d, b.2) := rfl
theorem r_LenSet : dLenSet m r = dUn pLenSet m r := rfl
theorem v_lensetL (ns : List Int) (h : ns.length < 4000) : pLenSet (.list (ns.map .int)) = some (.int (nubI ns).length) := by
  unfold pLenSet seqD
  simp only [Option.bind, ints?_of, if_pos h]
theorem v_lensetT (ns : List Int) (h : ns.length < 4000) : pLenSet (.tuple (ns.map .int)) = some (.int (nubI ns).length) := by
  unfold pLenSet seqD
  simp only [Option.bind, ints?_of, if_pos h]
theorem pZip_of {st : Bool} {a b : D} {ds es : List D} (ha : seqD a = some ds) (hb : seqD b = some es) (h : ds.length = es.length) : pZip st a b = some (zipD ds es) := by
  unfold pZip
  rw [ha, hb]
  show (if st && (ds.length != es.length) then none else some (zipD ds es)) = _
  rw [h, bne_self_eq_false, Bool.and_false, if_neg Bool.false_ne_true]
theorem v_zipLL (st : Bool) (ds es : List D) (h : ds.length = es.length) : pZip st (.list ds) (.list es) = some (zipD ds es) := pZip_of rfl rfl h
theorem v_zipLT (st : Bool) (ds es : List D) (h : ds.length = es.length) : pZip st (.list ds) (.tuple es) = some (zipD ds es) := pZip_of rfl rfl h
theorem zipD_ints (as bs : List Int) : zipD (as.map .int) (bs.map .int) = (as.zip bs).map pairD := by
  unfold zipD
  rw [List.zipWith_map, List.map_zip_eq_zipWith]
  rfl
theorem enumD_ints : ∀ (k : Int) (ns : List Int), enumD k (ns.map .int) = ((List.range ns.length).zip ns).map fun p => pairD (k + (p.1 : Nat), p.2)
  | _, [] => rfl
  | k, n :: ns => by
    show PyData.tuple [.int k, .int n] :: enumD (k + 1) (ns.map .int) = _
    rw [enumD_ints (k + 1) ns, List.length_cons, List.range_succ_eq_map, List.zip_cons_cons, List.map_cons, List.zip_map_left, List.map_map]
    congr 1
    · simp [pairD]
    · apply List.map_congr_left
      intro p _
      simp only [Function.comp, pairD, Prod.map, id]
      congr 3
      show k + 1 + ((p.1 : Nat) : Int) = k + ((p.1.succ : Nat) : Int)
      omega
end
/-! ### comprehensions, turn by turn -/
/-- one turn: what comes of it, if anything -/
def lcStep (vs : List Nat) (b : BM) (c : M Bool) (m : M D) (r : Rho) (d : D) : Res (Option D × Rho) :=
  (ofO (b d r)).bind fun r1 => (noEx (c r1)).bind fun t => if t.1 = true then ((noEx (m t.2)).bind fun x => (ofO (wipeR x.2 vs)).bind fun r2 => .ok (some x.1, r2)) else (ofO (wipeR t.2 vs)).bind fun r2 => .ok (none, r2)
theorem r_step (vs : List Nat) (b : BM) (c : M Bool) (m : M D) (r : Rho) (d : D) : lcStep vs b c m r d = (ofO (b d r)).bind fun r1 => (noEx (c r1)).bind fun t => if t.1 = true then ((noEx (m t.2)).bind fun x => (ofO (wipeR x.2 vs)).bind fun r2 => .ok (some x.1, r2)) else (ofO (wipeR t.2 vs)).bind fun r2 => .ok (none, r2) := rfl
theorem lcD_cons_some {vs : List Nat} {b : BM} {c : M Bool} {m : M D} {r r' : Rho} {d e : D} {ds acc : List D} (h : lcStep vs b c m r d = .ok (some e, r')) (hl : acc.length < 16777216) : lcD vs b c m (d :: ds) acc r = lcD vs b c m ds (acc ++ [e]) r' := by
  show (ofO (b d r)).bind _ = _
  unfold lcStep at h
  cases h1 : b d r with
  | none => rw [h1] at h; cases h
  | some r1 =>
    rw [h1] at h
    have h : ((noEx (c r1)).bind fun t => if t.1 = true then ((noEx (m t.2)).bind fun x => (ofO (wipeR x.2 vs)).bind fun r2 => .ok (some x.1, r2)) else (ofO (wipeR t.2 vs)).bind fun r2 => .ok (none, r2)) = .ok (some e, r') := h
    show ((noEx (c r1)).bind fun t => if t.1 = true then ((noEx (m t.2)).bind fun x => if acc.length < 16777216 then (ofO (wipeR x.2 vs)).bind fun r2 => lcD vs b c m ds (acc ++ [x.1]) r2 else .no) else (ofO (wipeR t.2 vs)).bind fun r2 => lcD vs b c m ds acc r2) = _
    obtain ⟨t, h2, h3⟩ := bind_ok h
    rw [h2]
    show (if t.1 = true then ((noEx (m t.2)).bind fun x => if acc.length < 16777216 then (ofO (wipeR x.2 vs)).bind fun r2 => lcD vs b c m ds (acc ++ [x.1]) r2 else .no) else (ofO (wipeR t.2 vs)).bind fun r2 => lcD vs b c m ds acc r2) = _
    split at h3
    · rename_i ht
      rw [if_pos ht]
      obtain ⟨x, h4, h5⟩ := bind_ok h3
      obtain ⟨r2, h6, h7⟩ := bind_ok h5
      cases h7
      rw [h4]
      show (if acc.length < 16777216 then (ofO (wipeR x.2 vs)).bind fun r2 => lcD vs b c m ds (acc ++ [x.1]) r2 else .no) = _
      rw [if_pos hl, h6]
      rfl
    · obtain ⟨r2, h6, h7⟩ := bind_ok h3
      cases h7
/-- over numbers, numbers -/
theorem lcD_mapI {α : Type} {vs : List Nat} {b : BM} {c : M Bool} {m : M D} {r : Rho} (e : α → D) (g : α → D) (items : List α) (h : ∀ z ∈ items, lcStep vs b c m r (e z) = .ok (some (g z), r)) (hl : items.length ≤ 16777216) : lcD vs b c m (items.map e) [] r = .ok (items.map g, r) := by
  have key : ∀ (items : List α) (acc : List D), (∀ z ∈ items, lcStep vs b c m r (e z) = .ok (some (g z), r)) → acc.length + items.length ≤ 16777216 → lcD vs b c m (items.map e) acc r = .ok (acc ++ items.map g, r) := by
    intro items
    induction items with
    | nil => intro acc _ _; rw [List.map_nil, List.map_nil, List.append_nil]; rfl
    | cons z zs ih =>
      intro acc h hl
      simp only [List.length_cons] at hl
      rw [List.map_cons, lcD_cons_some (h z (List.mem_cons_self ..)) (by omega), ih (acc ++ [g z]) (fun y hy => h y (List.mem_cons_of_mem _ hy)) (by simp; omega), List.append_assoc]
      rfl
  exact key items [] h (by simpa using hl)
/-- a comprehension whose turns change the slots: what holds of each item made, and of the slots -/
theorem lcD_all {vs : List Nat} {b : BM} {c : M Bool} {m : M D} (I : Rho → Prop) (Q : D → Prop) : ∀ (items acc : List D) (r : Rho), I r → (∀ d ∈ items, ∀ r, I r → ∃ e r', lcStep vs b c m r d = .ok (some e, r') ∧ Q e ∧ I r') → acc.length + items.length ≤ 16777216 →
    ∃ es r', lcD vs b c m items acc r = .ok (acc ++ es, r') ∧ es.length = items.length ∧ (∀ e ∈ es, Q e) ∧ I r'
  | [], acc, r, h0, _, _ => ⟨[], r, by rw [List.append_nil]; rfl, rfl, fun _ z => (nomatch z), h0⟩
  | d :: ds, acc, r, h0, h, hl => by
    simp only [List.length_cons] at hl
    obtain ⟨e, r1, h1, h2, h3⟩ := h d (List.mem_cons_self ..) r h0
    obtain ⟨es, r2, k1, k2, k3, k4⟩ := lcD_all I Q ds (acc ++ [e]) r1 h3 (fun d hd => h d (List.mem_cons_of_mem _ hd)) (by simp; omega)
    refine ⟨e :: es, r2, ?_, by simp [k2], fun x hx => ?_, k4⟩
    · rw [lcD_cons_some h1 (by omega), k1, List.append_assoc]; rfl
    · rcases List.mem_cons.mp hx with rfl | hx
      · exact h2
      · exact k3 x hx
/-- data that are numbers with a property -/
theorem ints_all {P : Int → Prop} : ∀ {es : List D}, (∀ e ∈ es, ∃ z, e = .int z ∧ P z) → ∃ zs : List Int, es = zs.map .int ∧ ∀ z ∈ zs, P z
  | [], _ => ⟨[], rfl, fun _ z => (nomatch z)⟩
  | e :: es, h => by
    obtain ⟨z, rfl, hz⟩ := h e (List.mem_cons_self ..)
    obtain ⟨zs, rfl, h2⟩ := ints_all fun x hx => h x (List.mem_cons_of_mem _ hx)
    exact ⟨z :: zs, rfl, fun y hy => (List.mem_cons.mp hy).elim (fun q => q ▸ hz) (h2 y)⟩
/-- all of a list of tests -/
theorem v_allM {α : Type} (f : α → Bool) (l : List α) : pAll [.list (l.map fun a => PyData.bool (f a))] = some (.bool (l.all f)) := by
  have := v_all (l.map f)
  rw [List.map_map] at this
  rw [show (l.map fun a => PyData.bool (f a)) = l.map (PyData.bool ∘ f) from rfl, this, List.all_map]
  rfl
end DL
/-! # DLS: standings, what is over what -/
namespace DL
open PySem PySem.Spec PyProof.Rows L2
/-- a standing -/
structure Stg (l : List Int) : Prop where
  nn : ∀ z ∈ l, 0 ≤ z
  lo : 2 ≤ l.length
  hi : l.length ≤ 40
def addI (a b : List Int) : List Int := (a.zip b).map fun p => p.1 + p.2
theorem addI_len {a b : List Int} (h : b.length = a.length) : (addI a b).length = a.length := by unfold addI; rw [List.length_map, List.length_zip]; omega
theorem addI_at {a b : List Int} (h : b.length = a.length) (i : Nat) : (addI a b).getD i 0 = a.getD i 0 + b.getD i 0 := by
  unfold addI
  by_cases hi : i < a.length
  · rw [List.getD_eq_getElem?_getD, List.getD_eq_getElem?_getD, List.getD_eq_getElem?_getD, List.getElem?_map, List.getElem?_eq_getElem (by rw [List.length_zip]; omega), List.getElem?_eq_getElem hi, List.getElem?_eq_getElem (by omega)]
    simp
  · rw [List.getD_eq_getElem?_getD, List.getD_eq_getElem?_getD, List.getD_eq_getElem?_getD, List.getElem?_eq_none (by rw [List.length_map, List.length_zip]; omega), List.getElem?_eq_none (by omega), List.getElem?_eq_none (by omega)]
    rfl
theorem addI_nn {a b : List Int} (ha : ∀ z ∈ a, 0 ≤ z) (hb : ∀ z ∈ b, 0 ≤ z) : ∀ z ∈ addI a b, 0 ≤ z := fun z hz => by
  unfold addI at hz
  obtain ⟨p, hp, rfl⟩ := List.mem_map.mp hz
  have h1 := ha _ (List.of_mem_zip hp).1
  have h2 := hb _ (List.of_mem_zip hp).2
  omega
theorem sortB_perm (b : Bool) (l : List Int) : (sortB b l).Perm l := by
  unfold sortB
  split
  · exact (List.reverse_perm _).trans (sortI_perm l)
  · exact sortI_perm l
theorem sortB_len (b : Bool) (l : List Int) : (sortB b l).length = l.length := (sortB_perm b l).length_eq
theorem sortB_down (l : List Int) : (sortB true l).Pairwise (· ≥ ·) := by
  show ((sortI l).reverse).Pairwise (fun a b => a ≥ b)
  exact List.pairwise_reverse.mpr (sortI_sorted l)
theorem sortB_nn {b : Bool} {l : List Int} (h : ∀ z ∈ l, 0 ≤ z) : ∀ z ∈ sortB b l, 0 ≤ z := fun z hz => h z ((sortB_perm b l).mem_iff.mp hz)
theorem Stg.perm {a b : List Int} (S : Stg a) (p : b.Perm a) : Stg b := ⟨fun z hz => S.nn z (p.mem_iff.mp hz), by rw [p.length_eq]; exact S.lo, by rw [p.length_eq]; exact S.hi⟩
/-- what is left, falling, noughts behind, where the k greatest go -/
def staysI (l : List Int) (k : Nat) : List Int := (sortB true l).drop k ++ List.replicate k 0
theorem staysI_len (l : List Int) {k : Nat} (h : k ≤ l.length) : (staysI l k).length = l.length := by
  unfold staysI
  rw [List.length_append, List.length_drop, List.length_replicate, sortB_len]; omega
/-- is_over -/
def overB (a b : List Int) : Bool := ((sortB true a).zip (sortB true b)).all fun p => decide (p.2 ≤ p.1)
/-! ### by counting -/
def cnt (t : Int) (l : List Int) : Nat := l.countP fun z => decide (t ≤ z)
structure Ov (a b : List Int) : Prop where
  len : a.length = b.length
  le : ∀ t, cnt t b ≤ cnt t a
theorem cnt_perm {t : Int} {a b : List Int} (p : a.Perm b) : cnt t a = cnt t b := p.countP_eq _
theorem cnt_app (t : Int) (a b : List Int) : cnt t (a ++ b) = cnt t a + cnt t b := List.countP_append
theorem cnt_le (t : Int) (a : List Int) : cnt t a ≤ a.length := List.countP_le_length
theorem cnt_low {t : Int} {a : List Int} (h : ∀ z ∈ a, t ≤ z) : cnt t a = a.length := List.countP_eq_length.mpr fun z hz => decide_eq_true (h z hz)
theorem cnt_none {t : Int} {a : List Int} (h : ∀ z ∈ a, z < t) : cnt t a = 0 := List.countP_eq_zero.mpr fun z hz => by
  have := h z hz
  simp; omega
theorem Ov.refl (a : List Int) : Ov a a := ⟨rfl, fun _ => Nat.le_refl _⟩
theorem Ov.trans {a b c : List Int} (h : Ov a b) (k : Ov b c) : Ov a c := ⟨h.len.trans k.len, fun t => Nat.le_trans (k.le t) (h.le t)⟩
theorem Ov.perm {a b a' b' : List Int} (h : Ov a b) (p : a'.Perm a) (q : b'.Perm b) : Ov a' b' := ⟨by rw [p.length_eq, q.length_eq]; exact h.len, fun t => by rw [cnt_perm p, cnt_perm q]; exact h.le t⟩
theorem down_at {l : List Int} (h : l.Pairwise (· ≥ ·)) {i j : Nat} (hij : i ≤ j) (hj : j < l.length) : l[j] ≤ l[i]'(by omega) := by
  by_cases e : i = j
  · subst e; exact Int.le_refl _
  · exact List.pairwise_iff_getElem.mp h i j (by omega) hj (by omega)
theorem cnt_down {l : List Int} (h : l.Pairwise (· ≥ ·)) {i : Nat} (hi : i < l.length) (t : Int) : t ≤ l[i] ↔ i < cnt t l := by
  have hsp : cnt t l = cnt t (l.take i) + cnt t (l.drop i) := by rw [← cnt_app, List.take_append_drop]
  constructor
  · intro ht
    have e : cnt t (l.take (i + 1)) = i + 1 := by
      rw [cnt_low, List.length_take, Nat.min_eq_left (by omega)]
      intro z hz
      obtain ⟨j, hj, rfl⟩ := List.mem_iff_getElem.mp hz
      rw [List.getElem_take]
      rw [List.length_take] at hj
      exact Int.le_trans ht (down_at h (by omega) hi)
    have e2 : cnt t l = cnt t (l.take (i + 1)) + cnt t (l.drop (i + 1)) := by rw [← cnt_app, List.take_append_drop]
    omega
  · intro hc
    refine Int.not_lt.mp fun hlt => ?_
    have e : cnt t (l.drop i) = 0 := cnt_none fun z hz => by
      obtain ⟨j, hj, rfl⟩ := List.mem_iff_getElem.mp hz
      rw [List.getElem_drop]
      rw [List.length_drop] at hj
      have := down_at h (i := i) (j := i + j) (by omega) (by omega)
      omega
    have := cnt_le t (l.take i)
    rw [List.length_take] at this
    omega
theorem over_of {a b : List Int} (h : Ov a b) : overB a b = true := by
  unfold overB
  rw [List.all_eq_true]
  intro p hp
  obtain ⟨i, hi, e⟩ := List.mem_iff_getElem.mp hp
  rw [List.length_zip] at hi
  rw [List.getElem_zip] at e
  subst e
  have ha := sortB_down a
  have hb := sortB_down b
  have h1 : i < cnt ((sortB true b)[i]'(by omega)) (sortB true b) := (cnt_down hb (by omega) _).mp (Int.le_refl _)
  rw [cnt_perm (sortB_perm true b)] at h1
  have h2 := h.le ((sortB true b)[i]'(by omega))
  rw [← cnt_perm (sortB_perm true a)] at h2
  have h3 : i < cnt ((sortB true b)[i]'(by omega)) (sortB true a) := by omega
  exact decide_eq_true ((cnt_down ha (by omega) _).mpr h3)
theorem cnt_drop {l : List Int} (h : l.Pairwise (· ≥ ·)) (t : Int) (k : Nat) : cnt t (l.drop k) = cnt t l - k := by
  have hsp : cnt t l = cnt t (l.take k) + cnt t (l.drop k) := by rw [← cnt_app, List.take_append_drop]
  have hle := cnt_le t (l.take k)
  rw [List.length_take] at hle
  by_cases hk : k < l.length
  · by_cases hc : k < cnt t l
    · have e : cnt t (l.take k) = k := by
        rw [cnt_low, List.length_take, Nat.min_eq_left (by omega)]
        intro z hz
        obtain ⟨j, hj, rfl⟩ := List.mem_iff_getElem.mp hz
        rw [List.length_take] at hj
        rw [List.getElem_take]
        exact (cnt_down h (by omega) t).mpr (by omega)
      omega
    · have e : cnt t (l.drop k) = 0 := cnt_none fun z hz => by
        obtain ⟨j, hj, rfl⟩ := List.mem_iff_getElem.mp hz
        rw [List.length_drop] at hj
        rw [List.getElem_drop]
        refine Int.not_le.mp fun q => ?_
        have := (cnt_down h (i := k + j) (by omega) t).mp q
        omega
      omega
  · have e : l.drop k = [] := List.drop_eq_nil_of_le (by omega)
    rw [e] at hsp ⊢
    have : cnt t l ≤ l.length := cnt_le t l
    have e0 : cnt t ([] : List Int) = 0 := rfl
    omega
theorem cnt_rep0 {t : Int} (h : 0 < t) (k : Nat) : cnt t (List.replicate k 0) = 0 := cnt_none fun z hz => by
  have := (List.mem_replicate.mp hz).2; omega
theorem cnt_stays {l : List Int} {t : Int} (ht : 0 < t) (k : Nat) : cnt t (staysI l k) = cnt t l - k := by
  unfold staysI
  rw [cnt_app, cnt_rep0 ht, cnt_drop (sortB_down l), cnt_perm (sortB_perm true l), Nat.add_zero]
/-- whichever cups go -/
def goneI (l : List Int) (g : List Int) : List Int := (List.range l.length).map fun (i : Nat) => if (i : Int) ∈ g then 0 else l.getD i 0
theorem goneI_len (l g : List Int) : (goneI l g).length = l.length := by unfold goneI; rw [List.length_map, List.length_range]
theorem goneI_nn {l g : List Int} (h : ∀ z ∈ l, 0 ≤ z) : ∀ z ∈ goneI l g, 0 ≤ z := fun z hz => by
  unfold goneI at hz
  obtain ⟨i, hi, rfl⟩ := List.mem_map.mp hz
  have hi := List.mem_range.mp hi
  by_cases q : (i : Int) ∈ g
  · show 0 ≤ (if (i : Int) ∈ g then 0 else l.getD i 0)
    rw [if_pos q]; exact Int.le_refl 0
  · show 0 ≤ (if (i : Int) ∈ g then 0 else l.getD i 0)
    rw [if_neg q, List.getD_eq_getElem?_getD, List.getElem?_eq_getElem hi]
    exact h _ (List.getElem_mem _)
theorem countP_cover {α : Type} (p q r : α → Bool) : ∀ l : List α, (∀ x ∈ l, p x = true → q x = true ∨ r x = true) → l.countP p ≤ l.countP q + l.countP r
  | [], _ => Nat.zero_le _
  | x :: l, h => by
    have ih := countP_cover p q r l fun y hy => h y (List.mem_cons_of_mem _ hy)
    have hx := h x (List.mem_cons_self ..)
    rw [List.countP_cons, List.countP_cons, List.countP_cons]
    cases hp : p x with
    | false => rw [if_neg Bool.false_ne_true]; omega
    | true =>
      rw [if_pos rfl]
      rcases hx hp with q | q
      · rw [if_pos q]; omega
      · rw [if_pos q]; omega
theorem count_in {n : Nat} : ∀ g : List Int, (List.range n).countP (fun (i : Nat) => decide ((i : Int) ∈ g)) ≤ g.length
  | [] => by simp
  | x :: g => by
    have ih := count_in (n := n) g
    have h1 : (List.range n).countP (fun (i : Nat) => decide ((i : Int) ∈ x :: g)) ≤ (List.range n).countP (fun (i : Nat) => decide ((i : Int) = x)) + (List.range n).countP (fun (i : Nat) => decide ((i : Int) ∈ g)) :=
      countP_cover _ _ _ _ fun i _ h => by
        rcases List.mem_cons.mp (of_decide_eq_true h) with q | q
        · exact .inl (decide_eq_true q)
        · exact .inr (decide_eq_true q)
    have h2 : (List.range n).countP (fun (i : Nat) => decide ((i : Int) = x)) ≤ 1 := by
      have e : (List.range n).countP (fun (i : Nat) => decide ((i : Int) = x)) ≤ (List.range n).count x.toNat := by
        unfold List.count
        apply List.countP_mono_left
        intro y _ hy
        have := of_decide_eq_true hy
        simp; omega
      exact Nat.le_trans e (List.nodup_iff_count.mp List.nodup_range _)
    rw [List.length_cons]; omega
theorem range_getD (l : List Int) : (List.range l.length).map (fun i => l.getD i 0) = l := by
  apply List.ext_getElem
  · simp
  · intro i h1 h2
    simp [List.getD_eq_getElem?_getD, h2]
theorem gone_over {l g : List Int} {k : Nat} (hn : ∀ z ∈ l, 0 ≤ z) (hg : g.length ≤ k) (hk : k ≤ l.length) : Ov (goneI l g) (staysI l k) := by
  have l1 := goneI_len l g
  have l2 := staysI_len l hk
  refine ⟨by rw [l1, l2], fun t => ?_⟩
  by_cases ht : 0 < t
  · rw [cnt_stays ht]
    have e1 : cnt t l = (List.range l.length).countP (fun (i : Nat) => decide (t ≤ l.getD i 0)) := by
      unfold cnt
      conv => lhs; rw [← range_getD l]
      rw [List.countP_map]; rfl
    have e2 : cnt t (goneI l g) = (List.range l.length).countP (fun (i : Nat) => decide (t ≤ if (i : Int) ∈ g then 0 else l.getD i 0)) := by
      unfold cnt goneI
      rw [List.countP_map]; rfl
    have h3 : (List.range l.length).countP (fun (i : Nat) => decide (t ≤ l.getD i 0)) ≤ (List.range l.length).countP (fun (i : Nat) => decide (t ≤ if (i : Int) ∈ g then 0 else l.getD i 0)) + (List.range l.length).countP (fun (i : Nat) => decide ((i : Int) ∈ g)) :=
      countP_cover _ _ _ _ fun i _ h => by
        by_cases q : (i : Int) ∈ g
        · exact .inr (decide_eq_true q)
        · refine .inl ?_
          rw [if_neg q]; exact h
    have h4 := count_in (n := l.length) g
    omega
  · rw [cnt_low fun z hz => Int.le_trans (by omega) (goneI_nn hn z hz), l1, ← l2]
    exact cnt_le _ _
/-! ### little things -/
theorem neD_nil : pNe (.list []) (.list []) = some (.bool false) := rfl
theorem neD_cons (l : List Int) (h : 0 < l.length) : pNe (.list (l.map .int)) (.list []) = some (.bool true) := by
  cases l with
  | nil => simp at h
  | cons x xs =>
    have e := v_neL (x :: xs) []
    rw [show ([] : List Int).map PyData.int = [] from rfl] at e
    rw [e]
    rfl
theorem erase_perm : ∀ (l : List Int) (i : Nat), i < l.length → ([l.getD i 0] ++ l.eraseIdx i).Perm l
  | [], _, h => by simp at h
  | x :: l, 0, _ => List.Perm.refl _
  | x :: l, i + 1, h => by
    have ih := erase_perm l i (by simpa using h)
    show (([l.getD i 0] ++ (x :: l.eraseIdx i))).Perm (x :: l)
    exact (List.Perm.swap _ _ _).trans (ih.cons x)
theorem erase_map {α β : Type} (f : α → β) : ∀ (l : List α) (i : Nat), (l.map f).eraseIdx i = (l.eraseIdx i).map f
  | [], _ => rfl
  | x :: l, 0 => rfl
  | x :: l, i + 1 => congrArg (f x :: ·) (erase_map f l i)
theorem v_popG (ns : List Int) (k : Int) (h0 : 0 ≤ k) (h1 : k < ns.length) (h2 : ns.length ≤ 1000000) : mPop (ns.map .int) [.int k] = some (.int (ns.getD k.toNat 0), (ns.eraseIdx k.toNat).map .int) := by
  unfold mPop
  show (if -(2 ^ 63) ≤ k ∧ k < 2 ^ 63 then ((seqIndex? k (ns.map PyData.int).length).bind fun j => ((ns.map PyData.int)[j]?).map fun d => (d, (ns.map PyData.int).eraseIdx j)) else none) = _
  rw [if_pos ⟨by omega, by omega⟩]
  have e : seqIndex? k (ns.map PyData.int).length = some k.toNat := by
    unfold seqIndex?
    rw [List.length_map]
    show (if (decide (0 ≤ if k < 0 then k + (ns.length : Nat) else k) && decide ((if k < 0 then k + (ns.length : Nat) else k) < (ns.length : Nat))) = true then some (if k < 0 then k + (ns.length : Nat) else k).toNat else none) = _
    rw [if_neg (show ¬ k < 0 by omega), if_pos (by simp; omega)]
  rw [e]
  show (((ns.map PyData.int)[k.toNat]?).map fun d => (d, (ns.map PyData.int).eraseIdx k.toNat)) = _
  rw [List.getElem?_map, List.getElem?_eq_getElem (by omega), List.getD_eq_getElem?_getD, List.getElem?_eq_getElem (by omega), erase_map]
  rfl
theorem v_listSeq {v : D} {ds : List D} (h : seqD v = some ds) : pListOf [v] = some (.own (.lst ds)) := by
  cases v <;> cases h <;> rfl
theorem v_tupL (ds : List D) : pTupOf [.list ds] = some (.tuple ds) := rfl
theorem v_tupT (ds : List D) : pTupOf [.tuple ds] = some (.tuple ds) := rfl
/-- what follows when a range's end is known -/
noncomputable def lrK (x : D) (b : D × Rho) : Res (RV × Rho) := (ofO (pLR x b.1)).bind fun d => .ok (d, b.2)
section
variable {r : Rho} {m n : M D}
theorem r_Raise {x f : Str} {ms : M (List D)} : sRaise x f ms r = (ms r).bind fun a => match a.1 with | [d] => .ex (⟨x, f, d⟩, a.2) | _ => .no := rfl
theorem r_Try {i : Nat} {cat : Str → Option Bool} {mb msu : SM} : sTry i cat mb msu r = match mb r with | .ok a => .ok a | .no => .no | .ex x => (match cat x.1.C with | some true => if noExn x.2 = true ∧ free x.2 i = true then endX i (msu (x.2.set i (.exn x.1))) else .no | some false => .ex x | none => .no) := rfl
theorem r_endX {i : Nat} {m : Res (Fl × Rho)} : endX i m = (noEx m).bind fun a => if noExn (a.2.set i .non) = true ∧ free a.2 i = true then .ok (a.1, a.2.set i .non) else .no := rfl
theorem r_Exn {i : Nat} {f : Str} : dExn i f r = match r[i]? with | some (.exn x) => if x.fld = f then .ok (x.d, r) else .no | _ => .no := rfl
theorem f_exn (x : Exn) : fre (some (.exn x)) = true := rfl
theorem nx_nil : noExn [] = true := rfl
theorem nx_n : noExn (.non :: r) = noExn r := rfl
theorem nx_v (d : D) : noExn (.val d :: r) = noExn r := rfl
theorem nx_o (p : Bool) (o : Own) : noExn (.own p o :: r) = noExn r := rfl
theorem nx_x (x : Exn) : noExn (.exn x :: r) = false := rfl
theorem r_keep {x : M D} : keepM x r = (x r).bind (keepK r) := rfl
theorem r_RevA {x : M D} : eRevA x r = (x r).bind fun a => match a.1 with | .list ds => .ok (.own (.lst ds.reverse), a.2) | .tuple ds => .ok (.val (.tuple ds.reverse), a.2) | _ => .no := rfl
theorem r_LR1 : eLR1 m r = (m r).bind (lrK (.int 0)) := rfl
theorem r_LR2 : eLR2 m n r = (m r).bind fun a => (n a.2).bind (lrK a.1) := rfl
end
def rangeI (lo : Int) (n : Nat) : List Int := (List.range n).map fun i => lo + (i : Nat)
theorem rangeD_I (lo : Int) (n : Nat) : rangeD lo n = (rangeI lo n).map .int := by unfold rangeD rangeI; rw [List.map_map]; rfl
theorem rangeI_len (lo : Int) (n : Nat) : (rangeI lo n).length = n := by unfold rangeI; rw [List.length_map, List.length_range]
theorem v_lr (i j : Int) (h1 : -100000 ≤ i) (h2 : i ≤ 100000) (h3 : -100000 ≤ j) (h4 : j ≤ 100000) : pLR (.int i) (.int j) = some (.own (.lst ((rangeI i (j - i).toNat).map .int))) := by
  show @ite _ (RgOk i j) (Classical.propDecidable _) (some (RV.own (.lst (rangeD i (j - i).toNat)))) none = _
  rw [if_pos (show RgOk i j from ⟨by omega, by omega, by omega, by omega, by omega⟩), rangeD_I]
theorem v_lrK (i j : Int) (r : Rho) (h1 : -100000 ≤ i) (h2 : i ≤ 100000) (h3 : -100000 ≤ j) (h4 : j ≤ 100000) : lrK (.int i) (.int j, r) = .ok (.own (.lst ((rangeI i (j - i).toNat).map .int)), r) := by
  unfold lrK
  rw [v_lr i j h1 h2 h3 h4]
  rfl
theorem v_lrK0 (j : Int) (r : Rho) (h3 : 0 ≤ j) (h4 : j ≤ 100000) : lrK (.int 0) (.int j, r) = .ok (.own (.lst ((rangeI 0 j.toNat).map .int)), r) := by
  rw [v_lrK 0 j r (by omega) (by omega) (by omega) h4, Int.sub_zero]
theorem inD_ints (k : Int) : ∀ g : List Int, (g.map PyData.int).any (fun y => PyData.eqv y (.int k)) = decide (k ∈ g)
  | [] => rfl
  | x :: g => by
    rw [List.map_cons, List.any_cons, inD_ints k g]
    have e : PyData.eqv (.int x) (.int k) = decide (x = k) := by
      show (x == k) = _
      by_cases h : x = k <;> simp [h]
    rw [e]
    by_cases h : x = k
    · subst h; simp
    · have : ¬ k = x := fun z => h z.symm
      simp [h, this]
theorem v_inL (neg : Bool) (k : Int) (g : List Int) : pIn neg (.int k) (.list (g.map .int)) = some (.bool (if neg then !decide (k ∈ g) else decide (k ∈ g))) := by
  show (if (flatD (.int k) && (g.map PyData.int).all flatD) = true then some (PyData.bool (if neg then !((g.map PyData.int).any fun y => PyData.eqv y (.int k)) else (g.map PyData.int).any fun y => PyData.eqv y (.int k))) else none) = _
  have hf : (flatD (.int k) && (g.map PyData.int).all flatD) = true := by
    rw [Bool.and_eq_true, List.all_eq_true]
    exact ⟨rfl, fun d hd => by obtain ⟨z, _, rfl⟩ := List.mem_map.mp hd; rfl⟩
  rw [if_pos hf, inD_ints]
theorem v_inT (neg : Bool) (k : Int) (g : List Int) : pIn neg (.int k) (.tuple (g.map .int)) = some (.bool (if neg then !decide (k ∈ g) else decide (k ∈ g))) := v_inL neg k g
theorem sortB_eq {a b : List Int} (p : a.Perm b) : sortB true a = sortB true b :=
  List.Perm.eq_of_pairwise (le := fun x y : Int => x ≥ y) (fun x y _ _ h1 h2 => by omega) (sortB_down a) (sortB_down b) (((sortB_perm true a).trans p).trans (sortB_perm true b).symm)
end DL
/-! # DLT: running sums, the fullest ones in order -/
namespace DL
open PySem PySem.Spec PyProof.Rows L2
theorem mem_rangeI {k : Int} {n : Nat} : k ∈ rangeI 0 n ↔ 0 ≤ k ∧ k < n := by
  unfold rangeI
  rw [List.mem_map]
  constructor
  · rintro ⟨i, hi, rfl⟩
    have := List.mem_range.mp hi
    omega
  · intro ⟨h1, h2⟩
    exact ⟨k.toNat, List.mem_range.mpr (by omega), by omega⟩
theorem rangeI_up (n : Nat) : (rangeI 0 n).Pairwise (· < ·) := by
  unfold rangeI
  rw [List.pairwise_map]
  exact List.pairwise_lt_range.imp fun {a b} h => by omega
/-- the pairs by which the fullest are ordered -/
def prs (l : List Int) : List (Int × Int) := ((List.range l.length).zip l).map fun p => (-p.2, ((p.1 : Nat) : Int))
theorem prs_len (l : List Int) : (prs l).length = l.length := by unfold prs; rw [List.length_map, List.length_zip, List.length_range, Nat.min_self]
theorem prs_at (l : List Int) (i : Nat) (h : i < l.length) : (prs l)[i]'(by rw [prs_len]; exact h) = (-(l.getD i 0), (i : Int)) := by
  unfold prs
  rw [List.getElem_map, List.getElem_zip, List.getElem_range, List.getD_eq_getElem?_getD, List.getElem?_eq_getElem h]
  rfl
theorem prs_mem (l : List Int) (p : Int × Int) : p ∈ prs l ↔ ∃ i : Nat, i < l.length ∧ p = (-(l.getD i 0), (i : Int)) := by
  rw [List.mem_iff_getElem]
  constructor
  · rintro ⟨i, hi, rfl⟩
    rw [prs_len] at hi
    exact ⟨i, hi, prs_at l i hi⟩
  · rintro ⟨i, hi, rfl⟩
    exact ⟨i, by rw [prs_len]; exact hi, prs_at l i hi⟩
theorem prs_snd (l : List Int) : (prs l).map (·.2) = rangeI 0 l.length := by
  apply List.ext_getElem
  · rw [List.length_map, prs_len, rangeI_len]
  · intro i h1 h2
    rw [List.length_map, prs_len] at h1
    rw [List.getElem_map, prs_at l i h1]
    have e : (rangeI 0 l.length)[i] = 0 + (i : Int) := by simp only [rangeI, List.getElem_map, List.getElem_range]
    rw [e, Int.zero_add]
theorem prs_fst (l : List Int) : (prs l).map (fun p => -p.1) = l := by
  apply List.ext_getElem
  · rw [List.length_map, prs_len]
  · intro i h1 h2
    rw [List.getElem_map, prs_at l i h2, Int.neg_neg, List.getD_eq_getElem?_getD, List.getElem?_eq_getElem h2]
    rfl
def ordP (l : List Int) : List (Int × Int) := sortP (prs l)
theorem ordP_perm (l : List Int) : (ordP l).Perm (prs l) := List.mergeSort_perm _ _
theorem ordP_len (l : List Int) : (ordP l).length = l.length := by rw [(ordP_perm l).length_eq, prs_len]
theorem ordP_up (l : List Int) : (ordP l).Pairwise fun p q => leP p q = true :=
  List.pairwise_mergeSort (fun a b c h1 h2 => by unfold leP at *; simp only [decide_eq_true_eq] at *; omega) (fun a b => by unfold leP; simp only [Bool.or_eq_true, decide_eq_true_eq]; omega) _
theorem ordP_nodup (l : List Int) : ((ordP l).map (·.2)).Nodup := by
  have h : ((ordP l).map (·.2)).Perm (rangeI 0 l.length) := by rw [← prs_snd]; exact (ordP_perm l).map _
  exact h.nodup_iff.mpr ((rangeI_up _).imp fun {a b} h => by omega)
theorem ordP_fst (l : List Int) : (ordP l).map (fun p => -p.1) = sortB true l := by
  refine List.Perm.eq_of_pairwise (le := fun x y : Int => x ≥ y) (fun x y _ _ h1 h2 => by omega) ?_ (sortB_down l) ?_
  · rw [List.pairwise_map]
    exact (ordP_up l).imp fun {a b} h => by unfold leP at h; simp only [decide_eq_true_eq] at h; omega
  · have h := (ordP_perm l).map fun p => -p.1
    rw [prs_fst] at h
    exact h.trans (sortB_perm true l).symm
/-- the numbers of the k fullest, the fullest first -/
def numsP (l : List Int) (k : Nat) : List Int := ((ordP l).take k).map (·.2)
theorem numsP_len (l : List Int) (k : Nat) (h : k ≤ l.length) : (numsP l k).length = k := by unfold numsP; rw [List.length_map, List.length_take, ordP_len]; omega
theorem numsP_mem {l : List Int} {k : Nat} {z : Int} (h : z ∈ numsP l k) : 0 ≤ z ∧ z < l.length := by
  unfold numsP at h
  obtain ⟨p, hp, rfl⟩ := List.mem_map.mp h
  obtain ⟨i, hi, rfl⟩ := (prs_mem l p).mp ((ordP_perm l).mem_iff.mp (List.mem_of_mem_take hp))
  show 0 ≤ (i : Int) ∧ (i : Int) < _
  omega
theorem numsP_held (l : List Int) (k : Nat) : (numsP l k).map (fun z => l.getD z.toNat 0) = (sortB true l).take k := by
  unfold numsP
  rw [List.map_map, ← ordP_fst, ← List.map_take]
  apply List.map_congr_left
  intro p hp
  obtain ⟨i, hi, rfl⟩ := (prs_mem l p).mp ((ordP_perm l).mem_iff.mp (List.mem_of_mem_take hp))
  show l.getD ((i : Int)).toNat 0 = - -(l.getD i 0)
  rw [Int.neg_neg]
  rfl
theorem sum_perm {a b : List Int} (p : a.Perm b) : a.sum = b.sum := by
  induction p with
  | nil => rfl
  | cons x _ ih => rw [List.sum_cons, List.sum_cons, ih]
  | swap x y l => simp only [List.sum_cons]; omega
  | trans _ _ h1 h2 => rw [h1, h2]
theorem draws (X1 : M D) (n : Int) (h0 : 0 ≤ n) (h1 : n ≤ 1000) (P : Int → Prop) (R : Src → Rho) (bm : BM) (vs : List Nat) (hstep : ∀ (s : Src) (k : Int), ∃ s' z, lcStep vs bm tYesM X1 (R s) (.int k) = .ok (some (.int z), R s') ∧ P z) (s : Src) :
    ∃ (s' : Src) (zs : List Int), lcD vs bm tYesM X1 (rangeD 0 n.toNat) [] (R s) = .ok (zs.map .int, R s') ∧ (zs.length : Int) = n ∧ ∀ z ∈ zs, P z := by
  obtain ⟨es, r', e, hl, hq, s', rfl⟩ := lcD_all (fun r => ∃ s, r = R s) (fun e => ∃ z, e = .int z ∧ P z) (rangeD 0 n.toNat) [] (R s) ⟨s, rfl⟩ (fun d hd r ⟨s, hr⟩ => by
    subst hr
    obtain ⟨i, hi, rfl⟩ := List.mem_map.mp (show d ∈ (List.range n.toNat).map fun i => PyData.int (0 + (i : Nat)) from hd)
    obtain ⟨s', z, h1, h2⟩ := hstep s (0 + (i : Nat))
    exact ⟨_, _, h1, ⟨z, rfl, h2⟩, s', rfl⟩) (by rw [rangeD_length]; simp; omega)
  obtain ⟨zs, rfl, hz⟩ := ints_all hq
  refine ⟨s', zs, by rw [e, List.nil_append], ?_, hz⟩
  rw [List.length_map, rangeD_length] at hl
  omega
theorem forD_nx {b : BM} {body : SM} {d : D} {ds : List D} {r r2 : Rho} (h : (ofO (b d r)).bind body = .ok (.nx, r2)) : forD b body (d :: ds) r = forD b body ds r2 := by
  rw [forD_cons]
  cases hb : b d r with
  | none => rw [hb] at h; cases h
  | some r1 =>
    rw [hb] at h
    have e3 : body r1 = .ok (.nx, r2) := h
    simp only [e3, ofO, Res.bind]
end DL
/-! # DLY: turns, rows that go round, the last beat of a cup, even shares in order (plain) -/
namespace DL
open PySem PySem.Spec PyProof.Rows L2
/-- row k of the turns -/
def trRow (n p : Int) (k : Nat) : List Int := (List.range p.toNat).map fun (i : Nat) => ((k : Int) * p + (i : Nat)) % n
def trF (n p : Int) : Nat → Nat → Nat
  | 0, k => k
  | f + 1, k => if ((k : Int) * p) % n = 0 then k else trF n p f (k + 1)
/-- how many rows the turns have -/
def trN (n p : Int) : Nat := trF n p n.toNat 1
theorem trF_ok {n p : Int} (hn : 0 < n) : ∀ f k : Nat, (k : Int) ≤ n → n ≤ k + f → (((trF n p f k : Nat) : Int) * p) % n = 0 ∧ k ≤ trF n p f k ∧ ((trF n p f k : Nat) : Int) ≤ n
  | 0, k, h1, h2 => by
    unfold trF
    have : (k : Int) = n := by omega
    rw [this, Int.mul_emod_right]
    exact ⟨rfl, Nat.le_refl _, Int.le_refl _⟩
  | f + 1, k, h1, h2 => by
    unfold trF
    split
    · rename_i h
      exact ⟨h, Nat.le_refl _, h1⟩
    · rename_i h
      have hk : (k : Int) ≠ n := fun z => h (by rw [z, Int.mul_emod_right])
      obtain ⟨a, b, c⟩ := trF_ok hn f (k + 1) (by omega) (by omega)
      exact ⟨a, by omega, c⟩
theorem trN_ok {n : Int} (p : Int) (hn : 1 ≤ n) : (((trN n p : Nat) : Int) * p) % n = 0 ∧ 1 ≤ trN n p ∧ ((trN n p : Nat) : Int) ≤ n := trF_ok (by omega) _ _ (by omega) (by omega)
theorem trRow_mod {n p : Int} {T : Nat} (hT : ((T : Int) * p) % n = 0) (i : Nat) : trRow n p (i % T) = trRow n p i := by
  obtain ⟨c, hc⟩ := Int.dvd_of_emod_eq_zero hT
  unfold trRow
  apply List.map_congr_left
  intro j _
  have e1 : ((i : Nat) : Int) = (T : Int) * ((i / T : Nat) : Int) + ((i % T : Nat) : Int) := by
    have := Nat.div_add_mod i T
    omega
  have e2 : (i : Int) * p + (j : Nat) = ((i % T : Nat) : Int) * p + (j : Nat) + n * (c * ((i / T : Nat) : Int)) := by
    rw [e1, Int.add_mul, show (T : Int) * ((i / T : Nat) : Int) * p = ((T : Int) * p) * ((i / T : Nat) : Int) by rw [Int.mul_assoc, Int.mul_comm ((i / T : Nat) : Int) p, ← Int.mul_assoc], hc, Int.mul_assoc]
    omega
  rw [e2, Int.add_mul_emod_self_left]
/-- the turns' rows -/
def trRows (n p : Int) : List (List Int) := (List.range (trN n p)).map (trRow n p)
theorem trRows_len (n p : Int) : (trRows n p).length = trN n p := by simp [trRows]
theorem trRows_at {n p : Int} {k : Nat} (h : k < trN n p) : (trRows n p).getD k [] = trRow n p k := by
  unfold trRows
  rw [List.getD_eq_getElem?_getD, List.getElem?_map, List.getElem?_range h]
  rfl
/-! ### the last beat in which a cup is emptied -/
def lastK (rows : List (List Int)) (c t : Int) : Nat → Int
  | 0 => 0
  | k + 1 => if c ∈ rows.getD k [] ∧ (k : Int) < t then max (lastK rows c t k) (t - (t - (k : Int) - 1) % rows.length) else lastK rows c t k
def lastI (rows : List (List Int)) (c t : Int) : Int := lastK rows c t rows.length
theorem lastK_ok {rows : List (List Int)} {c t : Int} (ht : 0 ≤ t) (hL : 0 < rows.length) : ∀ k ≤ rows.length, 0 ≤ lastK rows c t k ∧ lastK rows c t k ≤ t ∧ (lastK rows c t k = 0 ∨ (1 ≤ lastK rows c t k ∧ c ∈ rows.getD ((lastK rows c t k - 1) % rows.length).toNat []))
  | 0, _ => ⟨Int.le_refl _, ht, .inl rfl⟩
  | k + 1, hk => by
    obtain ⟨h1, h2, h3⟩ := lastK_ok (c := c) ht hL k (by omega)
    unfold lastK
    split
    · rename_i h
      obtain ⟨hc, hkt⟩ := h
      have m0 := Int.emod_nonneg (t - (k : Int) - 1) (b := (rows.length : Int)) (by omega)
      have m1 : (t - (k : Int) - 1) % rows.length ≤ t - k - 1 := by
        have := Int.emod_add_mul_ediv (t - (k : Int) - 1) rows.length
        have h5 : 0 ≤ (t - (k : Int) - 1) / rows.length := Int.ediv_nonneg (by omega) (by omega)
        have h6 : 0 ≤ (rows.length : Int) * ((t - (k : Int) - 1) / rows.length) := Int.mul_nonneg (by omega) h5
        omega
      have hs : (t - (t - (k : Int) - 1) % rows.length - 1) % rows.length = k := by
        have e := Int.emod_add_mul_ediv (t - (k : Int) - 1) rows.length
        rw [show t - (t - (k : Int) - 1) % rows.length - 1 = k + rows.length * ((t - (k : Int) - 1) / rows.length) by omega, Int.add_mul_emod_self_left]
        exact Int.emod_eq_of_lt (by omega) (by omega)
      rcases Int.le_total (lastK rows c t k) (t - (t - (k : Int) - 1) % rows.length) with hm | hm
      · rw [Int.max_eq_right hm]
        refine ⟨by omega, by omega, .inr ⟨by omega, ?_⟩⟩
        rw [hs]
        exact hc
      · rw [Int.max_eq_left hm]
        exact ⟨h1, h2, h3⟩
    · exact ⟨h1, h2, h3⟩
theorem lastK_mono {rows : List (List Int)} {c t : Int} (k : Nat) : ∀ d : Nat, lastK rows c t k ≤ lastK rows c t (k + d)
  | 0 => Int.le_refl _
  | d + 1 => by
    have ih := lastK_mono (rows := rows) (c := c) (t := t) k d
    have : lastK rows c t (k + d) ≤ lastK rows c t (k + d + 1) := by
      conv => rhs; unfold lastK
      split
      · exact Int.le_max_left _ _
      · exact Int.le_refl _
    exact Int.le_trans ih this
theorem last_ge {rows : List (List Int)} {c t s : Int} (hL : 0 < rows.length) (h1 : 1 ≤ s) (h2 : s ≤ t) (hc : c ∈ rows.getD ((s - 1) % rows.length).toNat []) : s ≤ lastI rows c t := by
  have m0 := Int.emod_nonneg (s - 1) (b := (rows.length : Int)) (by omega)
  have m1 := Int.emod_lt_of_pos (s - 1) (b := (rows.length : Int)) (by omega)
  generalize hk : ((s - 1) % rows.length).toNat = k at hc
  have hk' : (s - 1) % rows.length = k := by omega
  have hkl : k < rows.length := by omega
  have e := Int.emod_add_mul_ediv (s - 1) rows.length
  have h5 : 0 ≤ (s - 1) / rows.length := Int.ediv_nonneg (by omega) (by omega)
  have h6 : 0 ≤ (rows.length : Int) * ((s - 1) / rows.length) := Int.mul_nonneg (by omega) h5
  have hkt : (k : Int) < t := by omega
  have m2 : (t - (k : Int) - 1) % rows.length ≤ t - s := by
    rw [show t - (k : Int) - 1 = (t - s) + rows.length * ((s - 1) / rows.length) by omega, Int.add_mul_emod_self_left]
    have := Int.emod_add_mul_ediv (t - s) rows.length
    have h7 : 0 ≤ (t - s) / rows.length := Int.ediv_nonneg (by omega) (by omega)
    have h8 : 0 ≤ (rows.length : Int) * ((t - s) / rows.length) := Int.mul_nonneg (by omega) h7
    omega
  have h9 : t - (t - (k : Int) - 1) % rows.length ≤ lastK rows c t (k + 1) := by
    unfold lastK
    rw [if_pos ⟨hc, hkt⟩]
    exact Int.le_max_right _ _
  have h10 := lastK_mono (rows := rows) (c := c) (t := t) (k + 1) (rows.length - (k + 1))
  rw [show k + 1 + (rows.length - (k + 1)) = rows.length by omega] at h10
  unfold lastI
  omega
theorem last_ok {rows : List (List Int)} {c t : Int} (ht : 0 ≤ t) (hL : 0 < rows.length) : 0 ≤ lastI rows c t ∧ lastI rows c t ≤ t ∧ (lastI rows c t = 0 ∨ (1 ≤ lastI rows c t ∧ c ∈ rows.getD ((lastI rows c t - 1) % rows.length).toNat [])) := lastK_ok ht hL _ (Nat.le_refl _)
/-- how long some cup is left, of n cups, behind beat t -/
def leftFor (rows : List (List Int)) (n t : Int) : Int := maxI ((rangeI 0 n.toNat).map fun c => t - lastI rows c t)
/-! ### even shares, rising -/
/-! ### rules as data -/
/-- a row, told as a tuple or as a list -/
def rowD (x : Bool × List Int) : D := if x.1 = true then .tuple (x.2.map .int) else .list (x.2.map .int)
theorem shp_str (x : Str) (h : PyData.strOk x = true) : SeqAt.shaped (.str x) = true := by simp [SeqAt.shaped, PyData.canLay0, PyData.depth, h]
theorem k_anyL : kitAnyB "list" ["list", "tuple"] = some true := by decide +kernel
theorem k_anyT : kitAnyB "tuple" ["list", "tuple"] = some true := by decide +kernel
theorem t_s (x : Str) : tyD (.str x) = "str" := rfl
theorem nub_nodup : ∀ l : List Int, l.Nodup → (nubI l).length = l.length := by
  intro l h
  induction l with
  | nil => rfl
  | cons x xs ih =>
    rw [List.nodup_cons] at h
    unfold nubI
    rw [if_neg h.1, List.length_cons, List.length_cons, ih h.2]
/-- a row put in order, as a tuple -/
def rsD (rows : List (List Int)) : List D := rows.map fun l => .tuple ((sortI l).map .int)
theorem mem_sortI {c : Int} {l : List Int} : c ∈ sortI l ↔ c ∈ l := (sortI_perm l).mem_iff
/-! ### equations: instances, three at once, x += e -/
section
variable (i j l n b : Nat) (C f mn : Str) (r : Rho) (m : M RV) (x y z : M D) (ms : M (List ASl)) (F : Den) (d : D)
theorem r_Fld : dFld i C f r = (match r[i]? with | some (.own _ (.ins C' fs)) => if C' = C then ((ofO (fs.lookup f)).bind fun d => .ok (d, r)) else .no | _ => .no) := rfl
theorem r_FldM : sFldM i C f x r = (x r).bind fun a => match a.2[i]? with | some (.own p (.ins C' fs)) => if C' = C ∧ fs.length < 1000 then .ok (.nx, a.2.set i (.own p (.ins C' (putD f a.1 fs)))) else .no | _ => .no := rfl
theorem r_FldAdd : sFldAdd i C f x r = (match r[i]? with
  | some (.own _ (.ins C' fs)) => if C' = C then (match fs.lookup f with
    | some (.int j) => (x r).bind fun a => (match a.2[i]?, a.1 with
      | some (.own p (.ins C2 fs2)), .int k => if C2 = C ∧ fs2.length < 1000 then .ok (.nx, a.2.set i (.own p (.ins C2 (putD f (.int (j + k)) fs2)))) else .no
      | _, _ => .no)
    | _ => .no) else .no
  | _ => .no) := rfl
theorem r_bFld : bFld i C f d r = (match r[i]? with | some (.own p (.ins C' fs)) => if C' = C ∧ fs.length < 1000 then some (r.set i (.own p (.ins C' (putD f d fs)))) else none | _ => none) := rfl
theorem r_Meth : eMeth i C mn n F ms r = (match r[i]? with | some (.own _ (.ins C' fs)) => if C' = C ∧ fs.lookup mn = none then eCall n F (arR i ms) r else .no | _ => .no) := rfl
theorem r_MethT : eMethT C mn n F m ms r = (m r).bind fun a => match a.1 with | .own (.ins C' fs) => if C' = C ∧ fs.lookup mn = none then eCallT n F (fun r => .ok (.own (.ins C' fs), r)) ms a.2 else .no | _ => .no := rfl
theorem r_Make : eMake C n F ms r = (ms r).bind fun b => if b.1.length + 1 = n then ((ofO (valsOf b.1)).bind fun sl => leaveX b.2 (match F (.own true (.ins C []) :: sl) with
  | .ok (.val .none, .own _ (.ins C' fs) :: _) => if C' = C then .ok (.own (.ins C' fs), []) else .no
  | .ok _ => .no
  | .ex x => .ex x
  | .no => .no)) else .no := rfl
theorem r_Par3 : sPar3 i j l x y z r = (x r).bind fun a => (y a.2).bind fun b => (z b.2).bind fun c =>
  if free c.2 i = true ∧ free c.2 j = true ∧ free c.2 l = true ∧ i ≠ j ∧ i ≠ l ∧ j ≠ l then .ok (.nx, ((c.2.set i (.val a.1)).set j (.val b.1)).set l (.val c.1)) else .no := rfl
theorem r_iEnumB {m : M D} : iEnumB m r = (m r).bind fun a => (ofO (seqD a.1)).bind fun ds => .ok (enumD 1 ds, a.2) := rfl
theorem r_TR1 {m : M D} : dTR1 m r = (m r).bind fun a => (ofO (pTR a.1)).bind fun d => .ok (d, a.2) := rfl
theorem v_TR (j : Int) (h0 : 0 ≤ j) (h1 : j ≤ 100000) : pTR (.int j) = some (.tuple ((rangeI 0 j.toNat).map .int)) := by
  show @ite _ (RgOk 0 j) (Classical.propDecidable _) (some (PyData.tuple (rangeD 0 (j - 0).toNat))) none = _
  rw [if_pos ⟨by omega, by omega, by omega, by omega, by omega⟩, rangeD_I, Int.sub_zero]
theorem r_LenO : dLenO i r = (match r[i]? with | some (.own _ (.lst ds)) => .ok (.int ds.length, r) | _ => .no) := rfl
theorem r_NeO {m : M D} : dNeO i m r = (match r[i]? with
  | some (.own _ (.lst _)) => (m r).bind fun b => (match b.2[i]? with
    | some (.own _ (.lst ds)) => (ofO (pNe (.list ds) b.1)).bind fun d => .ok (d, b.2)
    | _ => .no)
  | _ => .no) := rfl
theorem r_AugN : sAugN i x r = (match r[i]? with | some (.val (.int u)) => (x r).bind fun a => (match a.1 with | .int v => if free a.2 i = true then .ok (.nx, a.2.set i (.val (.int (u + v)))) else .no | _ => .no) | _ => .no) := rfl
theorem r_AugPut : sAugPut i x y r = (match r[i]? with
  | some (.own _ (.lst _)) => (x r).bind fun b => (match b.2[i]?, b.1 with
    | some (.own _ (.lst ds)), .int k => (ofO (atI ds k)).bind fun old => (y b.2).bind fun a => (match a.2[i]?, old, a.1 with
      | some (.own p (.lst es)), .int u, .int v => (ofO (ixD es.length k)).bind fun j => .ok (.nx, a.2.set i (.own p (.lst (es.set j (.int (u + v))))))
      | _, _, _ => .no)
    | _, _ => .no)
  | _ => .no) := rfl
end
/-! ### a keeper -/
def kp1 (n : Int) : List (Str × D) := [("cups", .int n)]
def kp2 (n p : Int) : List (Str × D) := [("cups", .int n), ("scoops", .int p)]
def kp3 (n p : Int) (R : List (List Int)) : List (Str × D) := [("cups", .int n), ("scoops", .int p), ("rows", .list (rsD R))]
def kp4 (n p : Int) (R : List (List Int)) (L : Bool) : List (Str × D) := [("cups", .int n), ("scoops", .int p), ("rows", .list (rsD R)), ("looks_at_all", .bool L)]
def kp5 (n p : Int) (R : List (List Int)) (L : Bool) (h : List Int) : List (Str × D) := [("cups", .int n), ("scoops", .int p), ("rows", .list (rsD R)), ("looks_at_all", .bool L), ("held", .tuple (h.map .int))]
def kpF (n p : Int) (R : List (List Int)) (L : Bool) (h : List Int) (t : Int) : List (Str × D) := [("cups", .int n), ("scoops", .int p), ("rows", .list (rsD R)), ("looks_at_all", .bool L), ("held", .tuple (h.map .int)), ("done", .int t)]
section
variable (n p : Int) (R : List (List Int)) (L : Bool) (h h' : List Int) (t u : Int)
theorem kp_p1 : putD "cups" (.int n) [] = kp1 n := rfl
theorem kp_p2 : putD "scoops" (.int p) (kp1 n) = kp2 n p := rfl
theorem kp_p3 : putD "rows" (.list (rsD R)) (kp2 n p) = kp3 n p R := rfl
theorem kp_p4 : putD "looks_at_all" (.bool L) (kp3 n p R) = kp4 n p R L := rfl
theorem kp_p5 : putD "held" (.tuple (h.map .int)) (kp4 n p R L) = kp5 n p R L h := rfl
theorem kp_p6 : putD "done" (.int t) (kp5 n p R L h) = kpF n p R L h t := rfl
theorem kp_h : putD "held" (.tuple (h'.map .int)) (kpF n p R L h t) = kpF n p R L h' t := rfl
theorem kp_d : putD "done" (.int u) (kpF n p R L h t) = kpF n p R L h u := rfl
theorem kp_l1 : ((kp1 n).length < 1000) = True := eq_true (by show 1 < 1000; omega)
theorem kp_l2 : ((kp2 n p).length < 1000) = True := eq_true (by show 2 < 1000; omega)
theorem kp_l3 : ((kp3 n p R).length < 1000) = True := eq_true (by show 3 < 1000; omega)
theorem kp_l4 : ((kp4 n p R L).length < 1000) = True := eq_true (by show 4 < 1000; omega)
theorem kp_l5 : ((kp5 n p R L h).length < 1000) = True := eq_true (by show 5 < 1000; omega)
theorem kp_l6 : ((kpF n p R L h t).length < 1000) = True := eq_true (by show 6 < 1000; omega)
theorem kp_cups : List.lookup ("cups" : Str) (kpF n p R L h t) = some (.int n) := rfl
theorem kp_scoops : List.lookup ("scoops" : Str) (kpF n p R L h t) = some (.int p) := rfl
theorem kp_rows : List.lookup ("rows" : Str) (kpF n p R L h t) = some (.list (rsD R)) := rfl
theorem kp_looks : List.lookup ("looks_at_all" : Str) (kpF n p R L h t) = some (.bool L) := rfl
theorem kp_held : List.lookup ("held" : Str) (kpF n p R L h t) = some (.tuple (h.map .int)) := rfl
theorem kp_done : List.lookup ("done" : Str) (kpF n p R L h t) = some (.int t) := rfl
theorem kp_choose : List.lookup ("choose" : Str) (kpF n p R L h t) = none := rfl
theorem kp_nums : List.lookup ("numbers_for" : Str) (kpF n p R L h t) = none := rfl
theorem kp_stand : List.lookup ("standing" : Str) (kpF n p R L h t) = none := rfl
end
theorem in_row (neg : Bool) (c : Int) (x : Bool × List Int) : pIn neg (.int c) (rowD x) = some (.bool (if neg then !decide (c ∈ x.2) else decide (c ∈ x.2))) := by
  unfold rowD
  split
  · exact v_inT neg c x.2
  · exact v_inL neg c x.2
theorem gone_zip (l g : List Int) : ((List.range l.length).zip l).map (fun p => if ((p.1 : Nat) : Int) ∈ g then (0 : Int) else p.2) = goneI l g := by
  unfold goneI
  apply List.ext_getElem
  · simp
  · intro i h1 h2
    simp only [List.length_map, List.length_zip, List.length_range, Nat.min_self] at h1
    simp [List.getElem?_eq_getElem h1, List.getD_eq_getElem?_getD]
theorem v_int1b (b : Bool) : pInt1 [.bool b] = some (.int (if b = true then 1 else 0)) := by cases b <;> rfl
/-! ### pours -/
theorem rangeI_app (lo : Int) (a b : Nat) : rangeI lo (a + b) = rangeI lo a ++ rangeI (lo + a) b := by
  unfold rangeI
  rw [List.range_add, List.map_append, List.map_map]
  congr 1
  apply List.map_congr_left
  intro i _
  simp only [Function.comp]
  push_cast
  omega
theorem rangeI_shift (lo c : Int) (n : Nat) : (rangeI lo n).map (fun k => k + c) = rangeI (lo + c) n := by
  unfold rangeI
  rw [List.map_map]
  apply List.map_congr_left
  intro i _
  simp only [Function.comp]
  omega
/-- turned round by a place -/
theorem turned {n a : Int} (h0 : 0 ≤ a) (h1 : a < n) : ((rangeI 0 n.toNat).map fun k => (k - a) % n).Perm (rangeI 0 n.toNat) := by
  have e1 : n.toNat = a.toNat + (n - a).toNat := by omega
  have e2 : n.toNat = (n - a).toNat + a.toNat := by omega
  have ea : ((a.toNat : Nat) : Int) = a := by omega
  have eb : (((n - a).toNat : Nat) : Int) = n - a := by omega
  have p1 : (rangeI 0 a.toNat).map (fun k => (k - a) % n) = rangeI (n - a) a.toNat := by
    have := rangeI_shift 0 (n - a) a.toNat
    rw [show (0 : Int) + (n - a) = n - a by omega] at this
    rw [← this]
    apply List.map_congr_left
    intro k hk
    have hk := mem_rangeI.mp hk
    rw [← Int.add_emod_right (k - a) n, Int.emod_eq_of_lt (by omega) (by omega)]
    omega
  have p2 : (rangeI a (n - a).toNat).map (fun k => (k - a) % n) = rangeI 0 (n - a).toNat := by
    have := rangeI_shift a (-a) (n - a).toNat
    rw [show a + -a = 0 by omega] at this
    rw [← this]
    apply List.map_congr_left
    intro k hk
    unfold rangeI at hk
    obtain ⟨i, hi, rfl⟩ := List.mem_map.mp hk
    have := List.mem_range.mp hi
    rw [Int.emod_eq_of_lt (by omega) (by omega)]
    omega
  have q1 := rangeI_app 0 a.toNat (n - a).toNat
  have q2 := rangeI_app 0 (n - a).toNat a.toNat
  rw [← e1, ea, Int.zero_add] at q1
  rw [← e2, eb, Int.zero_add] at q2
  have key : ((rangeI 0 n.toNat).map fun k => (k - a) % n) = rangeI (n - a) a.toNat ++ rangeI 0 (n - a).toNat := by
    rw [q1, List.map_append, p1, p2]
  rw [key, q2]
  exact List.perm_append_comm
/-! ### what is taken out and what is left -/
theorem gone_nil (l : List Int) : goneI l [] = l := by
  unfold goneI
  refine Eq.trans (List.map_congr_left fun i _ => ?_) (range_getD l)
  rw [if_neg (by simp)]
theorem gone_cons (l g : List Int) (x : Int) (h0 : 0 ≤ x) : goneI l (x :: g) = (goneI l g).set x.toNat 0 := by
  unfold goneI
  apply List.ext_getElem
  · simp
  · intro i h1 h2
    simp only [List.length_map, List.length_range] at h1
    rw [List.getElem_set]
    simp only [List.getElem_map, List.getElem_range, List.mem_cons]
    by_cases hx : x.toNat = i
    · rw [if_pos hx, if_pos (.inl (by omega))]
    · rw [if_neg hx]
      by_cases hg : (i : Int) ∈ g
      · rw [if_pos (.inr hg), if_pos hg]
      · rw [if_neg (fun z => z.elim (fun q => hx (by omega)) hg), if_neg hg]
theorem gone_at0 (l g : List Int) (i : Nat) (h : i < l.length) : (goneI l g).getD i 0 = if (i : Int) ∈ g then 0 else l.getD i 0 := by
  unfold goneI
  rw [List.getD_eq_getElem?_getD, List.getElem?_map, List.getElem?_range h]
  rfl
theorem set_perm : ∀ (l : List Int) (i : Nat), i < l.length → (l.getD i 0 :: l.set i 0).Perm (0 :: l)
  | [], _, h => absurd h (Nat.not_lt_zero _)
  | a :: l, 0, _ => by
    show (a :: 0 :: l).Perm (0 :: a :: l)
    exact List.Perm.swap _ _ _
  | a :: l, i + 1, h => by
    have ih := set_perm l i (by simpa using h)
    show (l.getD i 0 :: a :: l.set i 0).Perm (0 :: a :: l)
    exact ((List.Perm.swap _ _ _).trans (ih.cons a)).trans (List.Perm.swap _ _ _)
theorem gone_perm (l : List Int) : ∀ g : List Int, g.Nodup → (∀ z ∈ g, 0 ≤ z ∧ z < l.length) → ((g.map fun z => l.getD z.toNat 0) ++ goneI l g).Perm (List.replicate g.length 0 ++ l)
  | [], _, _ => by
    rw [gone_nil]
    exact List.Perm.refl _
  | x :: g, hn, h => by
    rw [List.nodup_cons] at hn
    have hx := h x (by simp)
    have ih := gone_perm l g hn.2 fun z hz => h z (List.mem_cons_of_mem _ hz)
    have e : (goneI l g).getD x.toNat 0 = l.getD x.toNat 0 := by
      rw [gone_at0 l g x.toNat (by omega), if_neg (by rw [show ((x.toNat : Nat) : Int) = x by omega]; exact hn.1)]
    have sp := set_perm (goneI l g) x.toNat (by rw [goneI_len]; omega)
    rw [e, ← gone_cons l g x hx.1] at sp
    rw [List.map_cons, List.length_cons, List.replicate_succ, List.cons_append, List.cons_append]
    refine List.Perm.trans ?_ (ih.cons 0)
    refine List.Perm.trans List.perm_middle.symm ?_
    refine List.Perm.trans (List.Perm.append_left _ sp) ?_
    exact List.perm_middle
theorem gone_sum {l g : List Int} (hn : g.Nodup) (h : ∀ z ∈ g, 0 ≤ z ∧ z < l.length) : (g.map fun z => l.getD z.toNat 0).sum + (goneI l g).sum = l.sum := by
  have := sum_perm (gone_perm l g hn h)
  rw [List.sum_append, List.sum_append, sum_rep] at this
  omega
theorem over_at {a b : List Int} (h : Ov a b) (i : Nat) : (sortB true b).getD i 0 ≤ (sortB true a).getD i 0 := by
  have e := over_of h
  unfold overB at e
  rw [List.all_eq_true] at e
  have l1 := sortB_len true a
  have l2 := sortB_len true b
  have hl := h.len
  by_cases hi : i < a.length
  · have := e ((sortB true a)[i]'(by omega), (sortB true b)[i]'(by omega)) (by
      rw [List.mem_iff_getElem]
      exact ⟨i, by rw [List.length_zip]; omega, by simp⟩)
    rw [List.getD_eq_getElem?_getD, List.getD_eq_getElem?_getD, List.getElem?_eq_getElem (by omega), List.getElem?_eq_getElem (by omega)]
    exact of_decide_eq_true this
  · rw [List.getD_eq_getElem?_getD, List.getD_eq_getElem?_getD, List.getElem?_eq_none (by omega), List.getElem?_eq_none (by omega)]
    exact Int.le_refl _
theorem over_pref {a b : List Int} (h : Ov a b) (k : Nat) : ((sortB true b).take k).sum ≤ ((sortB true a).take k).sum := by
  have l1 := sortB_len true a
  have l2 := sortB_len true b
  have hl := h.len
  have := sum_gap ((sortB true a).take k) ((sortB true b).take k) 0 (by rw [List.length_take, List.length_take]; omega) (by omega) fun i => by
    have q := over_at h i
    rw [List.getD_eq_getElem?_getD, List.getD_eq_getElem?_getD] at q ⊢
    rw [List.getElem?_take, List.getElem?_take]
    split
    · omega
    · simp
  omega
theorem over_sum {a b : List Int} (h : Ov a b) : b.sum ≤ a.sum := by
  have q := over_pref h a.length
  rw [List.take_of_length_le (by rw [sortB_len, h.len]; omega), List.take_of_length_le (by rw [sortB_len]; omega), sum_perm (sortB_perm true b), sum_perm (sortB_perm true a)] at q
  exact q
/-! ### comprehensions whose slots move on, and freezing filters -/
/-! ### when a cup was emptied last -/
theorem last_zero (R : List (List Int)) (c : Int) (hL : 0 < R.length) : lastI R c 0 = 0 := by
  obtain ⟨a, b, _⟩ := last_ok (rows := R) (c := c) (t := 0) (by omega) hL
  omega
theorem last_step {R : List (List Int)} (hL : 0 < R.length) (c : Int) (t : Nat) : lastI R c ((t + 1 : Nat) : Int) = if c ∈ R.getD (t % R.length) [] then ((t + 1 : Nat) : Int) else lastI R c (t : Int) := by
  obtain ⟨a1, a2, a3⟩ := last_ok (rows := R) (c := c) (t := ((t + 1 : Nat) : Int)) (by omega) hL
  obtain ⟨b1, b2, b3⟩ := last_ok (rows := R) (c := c) (t := (t : Int)) (by omega) hL
  have hk : ((((t + 1 : Nat) : Int) - 1) % R.length).toNat = t % R.length := by
    rw [show ((t + 1 : Nat) : Int) - 1 = (t : Int) by omega, ← Int.natCast_emod]
    rfl
  split
  · rename_i hc
    have := last_ge (rows := R) (c := c) (t := ((t + 1 : Nat) : Int)) (s := ((t + 1 : Nat) : Int)) hL (by omega) (by omega) (by rw [hk]; exact hc)
    omega
  · rename_i hc
    have h1 : lastI R c ((t + 1 : Nat) : Int) ≤ t := by
      rcases a3 with z | ⟨z1, z2⟩
      · omega
      · by_cases q : lastI R c ((t + 1 : Nat) : Int) = ((t + 1 : Nat) : Int)
        · rw [q, hk] at z2
          exact absurd z2 hc
        · omega
    have h2 : lastI R c ((t + 1 : Nat) : Int) ≤ lastI R c t := by
      rcases a3 with z | ⟨z1, z2⟩
      · omega
      · exact last_ge hL z1 h1 z2
    have h3 : lastI R c t ≤ lastI R c ((t + 1 : Nat) : Int) := by
      rcases b3 with z | ⟨z1, z2⟩
      · omega
      · exact last_ge hL z1 (by omega) z2
    omega
theorem left_ge {R : List (List Int)} {n t c : Int} (h0 : 0 ≤ c) (h1 : c < n) : t - lastI R c t ≤ leftFor R n t := by
  have hm : (t - lastI R c t) ∈ (rangeI 0 n.toNat).map fun c => t - lastI R c t := List.mem_map.mpr ⟨c, mem_rangeI.mpr ⟨h0, by omega⟩, rfl⟩
  exact (maxI_mem (List.ne_nil_of_mem hm)).2 _ hm
theorem left_nn {R : List (List Int)} {n t : Int} (hn : 1 ≤ n) (hL : 0 < R.length) (ht : 0 ≤ t) : 0 ≤ leftFor R n t := by
  have := left_ge (R := R) (n := n) (t := t) (c := 0) (by omega) (by omega)
  have := (last_ok (rows := R) (c := 0) ht hL).2.1
  omega
/-! ### all grains into one cup -/
theorem ext_getD {a b : List Int} (hl : a.length = b.length) (h : ∀ i, i < a.length → a.getD i 0 = b.getD i 0) : a = b := by
  apply List.ext_getElem hl
  intro i h1 h2
  have := h i h1
  rwa [List.getD_eq_getElem?_getD, List.getD_eq_getElem?_getD, List.getElem?_eq_getElem h1, List.getElem?_eq_getElem h2] at this
theorem sortB_dn {l s : List Int} (hp : l.Perm s) (h : s.Pairwise (· ≥ ·)) : sortB true l = s := by
  have h2 : s.reverse = sortI l := sortI_is ((List.reverse_perm s).trans hp.symm) (List.pairwise_reverse.mpr h)
  rw [sortB_t, ← h2, List.reverse_reverse]
/-! ### no more than the grains of the beats that a cup was left -/
theorem sum_map_le {α : Type} (f a b : α → Int) : ∀ l : List α, (∀ z ∈ l, f z ≤ a z + b z) → (l.map f).sum ≤ (l.map a).sum + (l.map b).sum
  | [], _ => by simp
  | z :: l, h => by
    have ih := sum_map_le f a b l fun y hy => h y (List.mem_cons_of_mem _ hy)
    have := h z (List.mem_cons_self ..)
    simp only [List.map_cons, List.sum_cons]
    omega
theorem range_all (l : List Int) {n : Int} (h : (l.length : Int) = n) : (rangeI 0 n.toNat).map (fun c => l.getD c.toNat 0) = l := by
  have e := range_getD l
  rw [show l.length = n.toNat by omega] at e
  unfold rangeI
  rw [List.map_map]
  refine Eq.trans (List.map_congr_left fun i _ => ?_) e
  show l.getD ((0 : Int) + (i : Nat)).toNat 0 = _
  rw [Int.zero_add]
  rfl
/-- what the cups hold that were emptied within so many beats -/
def win (R : List (List Int)) (n : Int) (h : List Int) (t k : Nat) : Int := ((rangeI 0 n.toNat).map fun c => if (t : Int) - k ≤ lastI R c t then h.getD c.toNat 0 else 0).sum
def Win (R : List (List Int)) (n g : Int) (h : List Int) (t : Nat) : Prop := ∀ k : Nat, win R n h t k ≤ g * k
theorem Win.zero {R : List (List Int)} {n g : Int} (hg : 0 ≤ g) : Win R n g (List.replicate n.toNat 0) 0 := fun k => by
  have : ((rangeI 0 n.toNat).map fun c => if ((0 : Nat) : Int) - k ≤ lastI R c ((0 : Nat) : Int) then (List.replicate n.toNat (0 : Int)).getD c.toNat 0 else 0).sum ≤ 0 := by
    have := sum_le_all ((rangeI 0 n.toNat).map fun c => if ((0 : Nat) : Int) - k ≤ lastI R c ((0 : Nat) : Int) then (List.replicate n.toNat (0 : Int)).getD c.toNat 0 else 0) 0 fun z hz => by
      obtain ⟨c, _, rfl⟩ := List.mem_map.mp hz
      split
      · rw [List.getD_eq_getElem?_getD, List.getElem?_replicate]
        split <;> simp
      · exact Int.le_refl _
    omega
  exact Int.le_trans this (Int.mul_nonneg hg (by omega))
theorem Win.step {R : List (List Int)} {n g : Int} {h q : List Int} {t : Nat} (hL : 0 < R.length) (hn : ∀ z ∈ q, 0 ≤ z) (hh : ∀ z ∈ h, 0 ≤ z) (hl : (h.length : Int) = n) (hq : (q.length : Int) = n) (hs : q.sum = g) (W : Win R n g h t) :
    Win R n g (goneI (addI h q) (sortI (R.getD (t % R.length) []))) (t + 1) := fun k => by
  have la : (addI h q).length = h.length := addI_len (by omega)
  have hv : ∀ c ∈ rangeI 0 n.toNat, (goneI (addI h q) (sortI (R.getD (t % R.length) []))).getD c.toNat 0 = if c ∈ R.getD (t % R.length) [] then 0 else h.getD c.toNat 0 + q.getD c.toNat 0 := fun c hc => by
    have := mem_rangeI.mp hc
    rw [gone_at0 _ _ _ (by omega), addI_at (by omega), show ((c.toNat : Nat) : Int) = c by omega]
    simp only [mem_sortI]
  have hqs : ((rangeI 0 n.toNat).map fun c => q.getD c.toNat 0).sum = g := by rw [range_all q hq, hs]
  cases k with
  | zero =>
    have := sum_le_all ((rangeI 0 n.toNat).map fun c => if ((t + 1 : Nat) : Int) - ((0 : Nat) : Int) ≤ lastI R c ((t + 1 : Nat) : Int) then (goneI (addI h q) (sortI (R.getD (t % R.length) []))).getD c.toNat 0 else 0) 0 fun z hz => by
      obtain ⟨c, hc, rfl⟩ := List.mem_map.mp hz
      rw [hv c hc, last_step hL]
      by_cases hm : c ∈ R.getD (t % R.length) []
      · rw [if_pos hm, if_pos hm]
        split <;> omega
      · rw [if_neg hm]
        have := (last_ok (rows := R) (c := c) (t := (t : Int)) (by omega) hL).2.1
        rw [if_neg (by omega)]
        exact Int.le_refl _
    show win R n _ (t + 1) 0 ≤ g * ((0 : Nat) : Int)
    unfold win
    omega
  | succ k =>
    have key := sum_map_le (fun c => if ((t + 1 : Nat) : Int) - ((k + 1 : Nat) : Int) ≤ lastI R c ((t + 1 : Nat) : Int) then (goneI (addI h q) (sortI (R.getD (t % R.length) []))).getD c.toNat 0 else 0)
      (fun c => if (t : Int) - k ≤ lastI R c t then h.getD c.toNat 0 else 0) (fun c => q.getD c.toNat 0) (rangeI 0 n.toNat) fun c hc => by
        have q0 : 0 ≤ q.getD c.toNat 0 := getD_nn hn _
        have h0 : 0 ≤ h.getD c.toNat 0 := getD_nn hh _
        rw [hv c hc, last_step hL]
        by_cases hm : c ∈ R.getD (t % R.length) []
        · rw [if_pos hm, if_pos hm]
          split <;> split <;> omega
        · rw [if_neg hm, if_neg hm]
          by_cases hc2 : (t : Int) - k ≤ lastI R c t
          · rw [if_pos hc2, if_pos (by omega)]
            omega
          · rw [if_neg hc2, if_neg (by omega)]
            omega
    have := W k
    unfold win at this
    rw [hqs] at key
    have e : g * ((k + 1 : Nat) : Int) = g * k + g := by
      rw [show ((k + 1 : Nat) : Int) = (k : Int) + 1 by omega, Int.mul_add, Int.mul_one]
    show win R n _ (t + 1) (k + 1) ≤ g * ((k + 1 : Nat) : Int)
    unfold win
    omega
theorem Win.all {R : List (List Int)} {n g : Int} {h : List Int} {t : Nat} (hn : 1 ≤ n) (hL : 0 < R.length) (hl : (h.length : Int) = n) (W : Win R n g h t) : h.sum ≤ g * leftFor R n t := by
  have h0 := left_nn (R := R) (n := n) (t := (t : Int)) hn hL (by omega)
  have hw := W (leftFor R n t).toNat
  unfold win at hw
  have e : ((rangeI 0 n.toNat).map fun c => if (t : Int) - ((leftFor R n t).toNat : Nat) ≤ lastI R c t then h.getD c.toNat 0 else 0) = h := by
    refine Eq.trans (List.map_congr_left fun c hc => ?_) (range_all h hl)
    have := mem_rangeI.mp hc
    have := left_ge (R := R) (n := n) (t := (t : Int)) (c := c) (by omega) (by omega)
    rw [if_pos (by omega)]
  rw [e] at hw
  rwa [show (((leftFor R n t).toNat : Nat) : Int) = leftFor R n t by omega] at hw
/-! ### as many are empty -/
/-! ### of turns -/
/-! ### the sums of the fullest, and who looks at the pour -/
theorem stays_sum (l : List Int) (k : Nat) : (staysI l k).sum = ((sortB true l).drop k).sum := by
  unfold staysI
  rw [List.sum_append, sum_rep]
  omega
theorem some_le {l g : List Int} (hn : ∀ z ∈ l, 0 ≤ z) (hg : g.Nodup) (h : ∀ z ∈ g, 0 ≤ z ∧ z < l.length) {k : Nat} (hk : g.length ≤ k) (hk2 : k ≤ l.length) : (g.map fun z => l.getD z.toNat 0).sum ≤ ((sortB true l).take k).sum := by
  have a := gone_sum hg h
  have b := over_sum (gone_over hn hk hk2)
  rw [stays_sum] at b
  have c := sum_perm (sortB_perm true l)
  rw [← List.take_append_drop k (sortB true l), List.sum_append] at c
  omega
theorem nums_nd (l : List Int) (k : Nat) : (numsP l k).Nodup := by
  have := ordP_nodup l
  unfold numsP
  rw [List.map_take]
  exact this.sublist (List.take_sublist _ _)
/-- the fullest of two put together hold no more than those of each -/
theorem pref_add {a b : List Int} (ha : ∀ z ∈ a, 0 ≤ z) (hb : ∀ z ∈ b, 0 ≤ z) (hl : b.length = a.length) (k : Nat) (hk : k ≤ a.length) : ((sortB true (addI a b)).take k).sum ≤ ((sortB true a).take k).sum + ((sortB true b).take k).sum := by
  have lA : (addI a b).length = a.length := addI_len hl
  have h1 := numsP_held (addI a b) k
  have h2 := numsP_len (addI a b) k (by omega)
  have h3 := nums_nd (addI a b) k
  have h4 : ∀ z ∈ numsP (addI a b) k, 0 ≤ z ∧ z < a.length := fun z hz => by
    have := numsP_mem hz
    omega
  rw [← h1]
  have h5 := some_le ha h3 h4 (k := k) (by omega) hk
  have h6 := some_le hb h3 (fun z hz => by have := h4 z hz; omega) (k := k) (by omega) (by omega)
  generalize numsP (addI a b) k = N at *
  have := sum_map_le (fun z => (addI a b).getD z.toNat 0) (fun z => a.getD z.toNat 0) (fun z => b.getD z.toNat 0) N fun z _ => by rw [addI_at hl]; exact Int.le_refl _
  omega
/-! ### the table is no greater -/
/-! ### the same pour again and again -/
/-! ### two rules that are one -/
structure RS (R1 R2 : List (List Int)) : Prop where
  ne1 : R1 ≠ []
  ne2 : R2 ≠ []
  same : ∀ s : Nat, sortI (R1.getD (s % R1.length) []) = sortI (R2.getD (s % R2.length) [])
theorem RS.last {R1 R2 : List (List Int)} (h : RS R1 R2) (c : Int) : ∀ t : Nat, lastI R1 c t = lastI R2 c t
  | 0 => by
    rw [show ((0 : Nat) : Int) = 0 from rfl, last_zero R1 c (List.length_pos_iff.mpr h.ne1), last_zero R2 c (List.length_pos_iff.mpr h.ne2)]
  | t + 1 => by
    rw [last_step (List.length_pos_iff.mpr h.ne1), last_step (List.length_pos_iff.mpr h.ne2), RS.last h c t]
    have e : c ∈ R1.getD (t % R1.length) [] ↔ c ∈ R2.getD (t % R2.length) [] := by rw [← mem_sortI, h.same t, mem_sortI]
    simp only [e]
theorem RS.left {R1 R2 : List (List Int)} (h : RS R1 R2) (n t : Int) (ht : 0 ≤ t) : leftFor R1 n t = leftFor R2 n t := by
  obtain ⟨T, rfl⟩ := Int.eq_ofNat_of_zero_le ht
  unfold leftFor
  congr 1
  apply List.map_congr_left
  intro c _
  rw [h.last c T]
theorem repL_at {α : Type} (R : List α) : ∀ (k i : Nat), i < k * R.length → (repL k R)[i]? = R[i % R.length]?
  | 0, i, h => absurd h (by simp)
  | k + 1, i, h => by
    unfold repL
    rw [List.replicate_succ, List.flatten_cons]
    by_cases hi : i < R.length
    · rw [List.getElem?_append_left hi, Nat.mod_eq_of_lt hi]
    · rw [List.getElem?_append_right (by omega)]
      have ih := repL_at R k (i - R.length) (by rw [Nat.succ_mul] at h; omega)
      unfold repL at ih
      rw [ih, ← Nat.mod_eq_sub_mod (by omega)]
theorem repL_len {α : Type} (R : List α) (k : Nat) : (repL k R).length = k * R.length := by
  unfold repL
  rw [List.length_flatten, List.map_replicate, List.sum_replicate_nat]
theorem RS.rep {R : List (List Int)} (h : R ≠ []) {k : Nat} (hk : 0 < k) : RS R (repL k R) := by
  have hl := repL_len R k
  have hp := List.length_pos_iff.mpr h
  have hkp : 0 < k * R.length := Nat.mul_pos hk hp
  refine ⟨h, fun z => by rw [z] at hl; simp only [List.length_nil] at hl; omega, fun s => ?_⟩
  congr 1
  rw [hl, List.getD_eq_getElem?_getD, List.getD_eq_getElem?_getD, repL_at R k _ (Nat.mod_lt _ hkp), Nat.mod_mul_left_mod]
/-- the rows of turns, written out in any order within each -/
theorem RS.turns {n p : Int} {T : Nat} {ls : List (List Int)} (hn : 2 ≤ n) (hT : ((T : Int) * p) % n = 0) (h0 : 0 < T) (hl : ls.length = T) (h : ∀ i, i < T → (ls.getD i []).Perm (trRow n p i)) : RS (trRows n p) ls := by
  have hN := trN_ok (n := n) p (by omega)
  have hL := trRows_len n p
  refine ⟨fun z => by rw [z] at hL; simp only [List.length_nil] at hL; omega, fun z => by rw [z] at hl; simp only [List.length_nil] at hl; omega, fun s => ?_⟩
  rw [hl, hL, trRows_at (Nat.mod_lt _ (by omega)), trRow_mod hN.1]
  have hp := h (s % T) (Nat.mod_lt _ h0)
  rw [trRow_mod hT] at hp
  exact (sortI_is ((sortI_perm _).trans hp) (sortI_sorted _)).symm
/-! ### no rule is better than the fullest -/
/-! ### who empties the fullest holds no more than the table -/
theorem row_flat {n g p : Int} (hp : 1 ≤ p) (hpn : p ≤ n - 1) : ∀ (t k : Nat), n - p ≤ (k : Int) + 1 → (k : Int) < n → (rowI n g p t).getD k 0 = (rowI n g p t).getD (n - p - 1).toNat 0
  | 0, k, _, _ => by
    show (zeroI n).getD k 0 = (zeroI n).getD _ 0
    rw [zeroI_get, zeroI_get]
  | t + 1, k, h1, h2 => by
    show (nextI n g p (rowI n g p t)).getD k 0 = (nextI n g p (rowI n g p t)).getD (n - p - 1).toNat 0
    rw [nextI_get _ hp hpn k h2, nextI_get _ hp hpn _ (by omega)]
    congr 1
    omega
/-- what the fullest hold is by the table -/
def ByRow (n g p : Int) (t : Nat) (h : List Int) : Prop := ∀ j : Int, 1 ≤ j → j ≤ n → ((sortB true h).take j.toNat).sum ≤ (rowI n g p t).getD (j - 1).toNat 0
theorem ByRow.zero {n g p : Int} : ByRow n g p 0 (List.replicate n.toNat 0) := fun j _ _ => by
  have hsz : sortB true (List.replicate n.toNat (0 : Int)) = List.replicate n.toNat 0 := sortB_dn (List.Perm.refl _) (List.pairwise_replicate.mpr (.inr (Int.le_refl _)))
  show _ ≤ (zeroI n).getD _ 0
  rw [hsz, List.take_replicate, sum_rep, zeroI_get, Int.mul_zero]
  exact Int.le_refl _
theorem ByRow.perm {n g p : Int} {t : Nat} {a b : List Int} (h : ByRow n g p t a) (q : b.Perm a) : ByRow n g p t b := fun j j1 j2 => by
  rw [sortB_eq q]
  exact h j j1 j2
/-- ahead of the emptying: no more than the table and the grains -/
theorem ByRow.ahead {n g p : Int} {t : Nat} {h q : List Int} (W : ByRow n g p t h) (hh : ∀ z ∈ h, 0 ≤ z) (hn : ∀ z ∈ q, 0 ≤ z) (hlh : (h.length : Int) = n) (hl : (q.length : Int) = n) (hs : q.sum = g) {j : Int} (j1 : 1 ≤ j) (j2 : j ≤ n) : ((sortB true (addI h q)).take j.toNat).sum ≤ (rowI n g p t).getD (j - 1).toNat 0 + g := by
  have a := pref_add hh hn (by omega) j.toNat (by omega)
  have b := W j j1 j2
  have c : ((sortB true q).take j.toNat).sum ≤ g := by
    have := List.take_append_drop j.toNat (sortB true q)
    have hsum := sum_perm (sortB_perm true q)
    rw [← this, List.sum_append] at hsum
    have := sum_ge_of ((sortB true q).drop j.toNat) 0 fun y hy => sortB_nn hn y (List.mem_of_mem_drop hy)
    omega
  omega
theorem ByRow.step {n g p : Int} {t : Nat} {h q : List Int} (W : ByRow n g p t h) (hh : ∀ z ∈ h, 0 ≤ z) (hn : ∀ z ∈ q, 0 ≤ z) (hlh : (h.length : Int) = n) (hl : (q.length : Int) = n) (hs : q.sum = g) (hg : 0 ≤ g) (n2 : 2 ≤ n) (hp : 1 ≤ p) (hpn : p ≤ n - 1) : ByRow n g p (t + 1) (staysI (addI h q) p.toNat) := fun j j1 j2 => by
  have lA : (addI h q).length = h.length := addI_len (by omega)
  have nA := addI_nn hh hn
  have hah := W.ahead hh hn hlh hl hs (j := min j (n - p) + p) (by omega) (by omega)
  have hfl : (rowI n g p t).getD (min j (n - p) + p - 1).toNat 0 = (rowI n g p t).getD (min (min j (n - p) + p) (n - p) - 1).toNat 0 := by
    by_cases hc : min j (n - p) + p ≤ n - p
    · rw [show min (min j (n - p) + p) (n - p) = min j (n - p) + p by omega]
    · rw [row_flat hp hpn t _ (by omega) (by omega), show min (min j (n - p) + p) (n - p) = n - p by omega]
  rw [hfl] at hah
  show _ ≤ (nextI n g p (rowI n g p t)).getD (j - 1).toNat 0
  rw [nextI_get _ hp hpn _ (by omega), show (1 : Int) + ((j - 1).toNat : Nat) = j by omega]
  unfold leastI
  generalize (rowI n g p t).getD (min (min j (n - p) + p) (n - p) - 1).toNat 0 = x at *
  have hS : (sortB true (addI h q)).length = h.length := by rw [sortB_len, lA]
  have hdn := sortB_down (addI h q)
  have hnn := sortB_nn (b := true) nA
  have e1 : sortB true (staysI (addI h q) p.toNat) = staysI (addI h q) p.toNat := sortB_dn (List.Perm.refl _) (by
    unfold staysI
    rw [List.pairwise_append]
    refine ⟨hdn.sublist (List.drop_sublist _ _), List.pairwise_replicate.mpr (.inr (Int.le_refl _)), fun a ha b hb => ?_⟩
    rw [(List.mem_replicate.mp hb).2]
    exact hnn a (List.mem_of_mem_drop ha))
  rw [e1]
  unfold staysI
  generalize sortB true (addI h q) = S at *
  have hb := even_best (l := S.take (min j (n - p) + p).toNat) (t := (S.take (min j (n - p) + p).toNat).sum) (c := min j (n - p) + p) (m := p) (by omega) (by omega) (by omega) (by rw [List.length_take]; omega) rfl (hdn.sublist (List.take_sublist _ _))
  rw [List.take_take, show min p.toNat (min j (n - p) + p).toNat = p.toNat by omega] at hb
  have hm := lag_mono (c := min j (n - p) + p) (m := p) (by omega) (by omega) (by omega) hah
  have hsp : (S.take (min j (n - p) + p).toNat).sum = (S.take p.toNat).sum + ((S.drop p.toNat).take (min j (n - p)).toNat).sum := by
    rw [show (min j (n - p) + p).toNat = p.toNat + (min j (n - p)).toNat by omega, List.take_add, List.sum_append]
  have hj2 : ((S.drop p.toNat ++ List.replicate p.toNat 0).take j.toNat).sum = ((S.drop p.toNat).take (min j (n - p)).toNat).sum := by
    have hd : (S.drop p.toNat).length = (n - p).toNat := by rw [List.length_drop]; omega
    rw [List.take_append, List.sum_append, List.take_replicate, sum_rep, Int.mul_zero, Int.add_zero]
    by_cases h : j ≤ n - p
    · rw [show min j (n - p) = j by omega]
    · rw [List.take_of_length_le (by omega), List.take_of_length_le (by omega)]
  rw [hj2]
  omega
end DL
/-! # DLo: odd things, and what is refused (printed by mkdlo.py) -/
namespace DL
open PySem PySem.Spec PyProof.Rows L2
theorem K_nb : kitB "NoneType" "bool" = some false := by decide +kernel
theorem K_ni : kitB "NoneType" "int" = some false := by decide +kernel
theorem K_ns : kitB "NoneType" "str" = some false := by decide +kernel
theorem K_nl : kitB "NoneType" "list" = some false := by decide +kernel
theorem K_nt : kitB "NoneType" "tuple" = some false := by decide +kernel
theorem K_bb : kitB "bool" "bool" = some true := by decide +kernel
theorem K_bi : kitB "bool" "int" = some true := by decide +kernel
theorem K_bs : kitB "bool" "str" = some false := by decide +kernel
theorem K_bl : kitB "bool" "list" = some false := by decide +kernel
theorem K_bt : kitB "bool" "tuple" = some false := by decide +kernel
theorem K_ib : kitB "int" "bool" = some false := by decide +kernel
theorem K_ii : kitB "int" "int" = some true := by decide +kernel
theorem K_is : kitB "int" "str" = some false := by decide +kernel
theorem K_il : kitB "int" "list" = some false := by decide +kernel
theorem K_it : kitB "int" "tuple" = some false := by decide +kernel
theorem K_sb : kitB "str" "bool" = some false := by decide +kernel
theorem K_si : kitB "str" "int" = some false := by decide +kernel
theorem K_ss : kitB "str" "str" = some true := by decide +kernel
theorem K_sl : kitB "str" "list" = some false := by decide +kernel
theorem K_st : kitB "str" "tuple" = some false := by decide +kernel
theorem K_lb : kitB "list" "bool" = some false := by decide +kernel
theorem K_li : kitB "list" "int" = some false := by decide +kernel
theorem K_ls : kitB "list" "str" = some false := by decide +kernel
theorem K_ll : kitB "list" "list" = some true := by decide +kernel
theorem K_lt : kitB "list" "tuple" = some false := by decide +kernel
theorem K_tb : kitB "tuple" "bool" = some false := by decide +kernel
theorem K_ti : kitB "tuple" "int" = some false := by decide +kernel
theorem K_ts : kitB "tuple" "str" = some false := by decide +kernel
theorem K_tl : kitB "tuple" "list" = some false := by decide +kernel
theorem K_tt : kitB "tuple" "tuple" = some true := by decide +kernel
theorem K_db : kitB "dict" "bool" = some false := by decide +kernel
theorem K_di : kitB "dict" "int" = some false := by decide +kernel
theorem K_ds : kitB "dict" "str" = some false := by decide +kernel
theorem K_dl : kitB "dict" "list" = some false := by decide +kernel
theorem K_dt : kitB "dict" "tuple" = some false := by decide +kernel
theorem t_n : tyD .none = "NoneType" := rfl
theorem t_d (es : List (D × D)) : tyD (.dict es) = "dict" := rfl
/-! ### asking -/
theorem r_Said (sd : Option Exn → Res D) (mb : M RV) (r : Rho) : eSaid sd mb r = (ofO (outO (mb (hideR r)))).bind fun o => (noEx (sd o)).bind fun d => .ok (d, r) := rfl
theorem r_outO1 {α : Type} (a : α) : outO (.ok a) = some none := rfl
theorem r_outO2 {α : Type} (x : Exn × Rho) : outO (α := α) (.ex x) = some (some x.1) := rfl
theorem r_hide0 : hideR [] = [] := rfl
theorem r_hide1 (s : Sl) (r : Rho) : hideR (s :: r) = hideS s :: hideR r := rfl
theorem r_hideV (d : D) : hideS (.val d) = .val d := rfl
theorem r_hideO (p : Bool) (o : Own) : hideS (.own p o) = .non := rfl
theorem r_hideN : hideS .non = .non := rfl
theorem r_Ask1 (r : Rho) : sAsk none r = .ok (.nx, r) := rfl
theorem r_Ask2 (x : Exn) (r : Rho) : sAsk (some x) r = .ex (x, r) := rfl
theorem r_IsE (i : Nat) (isx : Str → Option Bool) (r : Rho) : dIsE i isx r = match r[i]? with
  | some (.exn x) => (ofO (isx x.C)).bind fun b => .ok (.bool b, r)
  | _ => .no := rfl
theorem v_repr {d : D} (h : okR d = true) : pRepr [d] = some (.str d.shown) := if_pos h
theorem shp_shown {d : D} (h : okR d = true) : SeqAt.shaped (.str d.shown) = true := shp_str _ (shown_ok h)
/-! ### what is a whole number, a number from 0 on -/
theorem okR_mk2 {d : D} (h1 : PyData.showable d = true) (h2 : PyData.leavesShort 100 d = true) (h3 : d.weight ≤ 150000) (h4 : d.depth ≤ 40) (h6 : txtOk d = true) : okR d = true := by
  unfold okR
  rw [h1, h2, decide_eq_true h3, decide_eq_true h4, h6, Bool.and_self, Bool.or_true]
  rfl
theorem v_neSelf {d : D} (h : SeqAt.shaped d = true) : pNe d d = some (.bool false) := by
  unfold pNe
  rw [h, Bool.and_self, if_pos rfl, PySem.SeqAt.eqv_refl _ (PySem.SeqAt.canLay_of_shaped h)]
  rfl
/-- small data: its text can be told, its lists are short -/
structure Sm (w k : Nat) (d : D) : Prop where
  sh : PyData.showable d = true
  ls : PyData.leavesShort 100 d = true
  wt : d.weight ≤ w
  dp : d.depth ≤ k
  tx : txtOk d = true
theorem Sm.le {w k w' k' : Nat} {d : D} (h : Sm w k d) (hw : w ≤ w') (hk : k ≤ k') : Sm w' k' d := ⟨h.sh, h.ls, Nat.le_trans h.wt hw, Nat.le_trans h.dp hk, h.tx⟩
theorem Sm.ok {w k : Nat} {d : D} (h : Sm w k d) (hw : w ≤ 150000) (hk : k ≤ 40) : okR d = true := okR_mk2 h.sh h.ls (Nat.le_trans h.wt hw) (Nat.le_trans h.dp hk) h.tx
theorem Sm.all {w k : Nat} : ∀ {ds : List D}, (∀ d ∈ ds, Sm w k d) → PyData.showableAll ds = true ∧ PyData.leavesShortAll 100 ds = true ∧ PyData.weightAll ds ≤ ds.length * (w + 1) ∧ PyData.depthAll ds ≤ k ∧ txtOkA ds = true
  | [], _ => ⟨rfl, rfl, by simp [PyData.weightAll], by simp [PyData.depthAll], rfl⟩
  | d :: ds, h => by
    obtain ⟨a, b, c, e, f⟩ := Sm.all fun x hx => h x (List.mem_cons_of_mem _ hx)
    have h0 := h d List.mem_cons_self
    refine ⟨?_, ?_, ?_, ?_, ?_⟩
    · simp only [PyData.showableAll, h0.sh, a, Bool.and_self]
    · simp only [PyData.leavesShortAll, h0.ls, b, Bool.and_self]
    · simp only [PyData.weightAll, List.length_cons, Nat.add_mul]
      have := h0.wt
      omega
    · simp only [PyData.depthAll]
      have := h0.dp
      omega
    · simp only [txtOkA, h0.tx, f, Bool.and_self]
theorem Sm.list {w k m : Nat} {ds : List D} (h : ∀ d ∈ ds, Sm w k d) (hl : ds.length ≤ m) : Sm (m * (w + 1)) (k + 1) (.list ds) := by
  obtain ⟨a, b, c, e, f⟩ := Sm.all h
  have := Nat.mul_le_mul_right (w + 1) hl
  exact ⟨by simpa only [PyData.showable] using a, by simpa only [PyData.leavesShort] using b, by simp only [PyData.weight]; omega, by simp only [PyData.depth]; omega, by simpa only [txtOk] using f⟩
theorem Sm.tuple {w k m : Nat} {ds : List D} (h : ∀ d ∈ ds, Sm w k d) (hl : ds.length ≤ m) : Sm (m * (w + 1)) (k + 1) (.tuple ds) := by
  obtain ⟨a, b, c, e, f⟩ := Sm.all h
  have := Nat.mul_le_mul_right (w + 1) hl
  exact ⟨by simpa only [PyData.showable] using a, by simpa only [PyData.leavesShort] using b, by simp only [PyData.weight]; omega, by simp only [PyData.depth]; omega, by simpa only [txtOk] using f⟩
theorem Sm.int {z : Int} (h : z.natAbs < 2 ^ 90) : Sm 90 0 (.int z) := by
  have hq : z.natAbs < 2 ^ 200 := Nat.lt_of_lt_of_le h (by decide)
  have h1 : z.natAbs.log2 < 90 := by
    by_cases q : z.natAbs = 0
    · rw [q]; decide
    · exact (Nat.log2_lt q).mpr h
  have h2 := PySem.int_text_length_le (k := 90) (by decide) h1
  refine ⟨decide_eq_true (show z.natAbs.log2 < 1920 by omega), ?_, ?_, Nat.le_refl _, rfl⟩
  · show decide ((PyData.shown (.int z)).length ≤ 100) = true
    refine decide_eq_true ?_
    show (Str.ofString (toString z)).length ≤ 100
    rw [PySem.ofString_length]; omega
  · simp only [PyData.weight]
    split <;> omega
theorem weightAll_len : ∀ ds : List D, ds.length ≤ PyData.weightAll ds
  | [] => Nat.zero_le _
  | d :: ds => by
    have := weightAll_len ds
    simp only [PyData.weightAll, List.length_cons]
    omega
theorem weightAll_mem : ∀ {ds : List D} {d : D}, d ∈ ds → d.weight + 1 ≤ PyData.weightAll ds
  | _ :: ds, d, h => by
    simp only [PyData.weightAll]
    rcases List.mem_cons.mp h with rfl | h
    · omega
    · have := weightAll_mem h
      omega
theorem Sm.len {w k : Nat} {ds : List D} (h : Sm w k (.list ds)) : ds.length ≤ w := Nat.le_trans (weightAll_len ds) (by simpa only [PyData.weight] using h.wt)
theorem Sm.row {w k : Nat} {ds l : List D} (h : Sm w k (.list ds)) (hl : PyData.list l ∈ ds) : l.length ≤ w := by
  have h1 := weightAll_mem hl
  have h2 := weightAll_len l
  have h3 : PyData.weightAll ds ≤ w := by simpa only [PyData.weight] using h.wt
  simp only [PyData.weight] at h1
  omega
end DL
/-! # DLv: ladders, plain -/
namespace DL
open PySem PySem.Spec PyProof.Rows L2
theorem r_bTupL {n : Nat} {bs : BMs} {d : D} {r : Rho} : bTupL n bs d r = (match d with | .list ds => if ds.length = n then bs ds r else none | _ => none) := rfl
theorem bo_src (s : Option Sl) (p : Bool) (x : Src) : okB s (.own p (srcO x)) = True := eq_true (by show listlessA _ = true; simp [listlessA, listless])
theorem bo_int (s : Option Sl) (k : Int) : okB s (.val (.int k)) = True := eq_true (.inr (ll_i k))
theorem bo_bool (s : Option Sl) (k : Bool) : okB s (.val (.bool k)) = True := eq_true (.inr (ll_b k))
/-! ### even shares, one by one -/
/-! ### sorted as it is -/
theorem sortB_self {l : List Int} (h : l.Pairwise (· ≥ ·)) : sortB true l = l := by
  have h1 := sortB_down l
  have h2 := sortB_perm true l
  exact List.Perm.eq_of_pairwise (le := fun a b => a ≥ b) (fun a b _ _ h1 h2 => Int.le_antisymm h2 h1) h1 h h2
/-! ### the told ladder -/
section
variable {n g p j : Int} {T k : Nat}
end
/-! ### ladders -/
/-- a step behind what came -/
structure OkStep (n g : Int) (came : List Int) (s : List Int × List Int) : Prop where
  l1 : (s.1.length : Int) = n
  n1 : ∀ z ∈ s.1, 0 ≤ z
  l2 : (s.2.length : Int) = n
  n2 : ∀ z ∈ s.2, 0 ≤ z
  falls : s.1.Pairwise (· ≥ ·)
  sum : s.2.sum = g
  over : ∀ i, s.1.getD i 0 ≤ came.getD i 0
/-- steps from what came, to what comes then -/
def Lad (n g p : Int) : List Int → List (List Int × List Int) → List Int → Prop
  | came, [], e => e = came
  | came, s :: r, e => OkStep n g came s ∧ Lad n g p (staysI (addI s.1 s.2) p.toNat) r e
/-- a ladder goes on from whatever is nowhere less -/
theorem Lad.from {n g p : Int} : ∀ {a : List (List Int × List Int)} {c d e : List Int}, Lad n g p c a e → (∀ i, c.getD i 0 ≤ d.getD i 0) → ∃ e', Lad n g p d a e' ∧ (∀ i, e.getD i 0 ≤ e'.getD i 0) ∧ (a ≠ [] → e' = e) ∧ (a = [] → e' = d)
  | [], _, d, _, h, k => by cases h; exact ⟨d, rfl, k, fun z => absurd rfl z, fun _ => rfl⟩
  | s :: r, _, d, e, ⟨h1, h2⟩, k => ⟨e, ⟨⟨h1.l1, h1.n1, h1.l2, h1.n2, h1.falls, h1.sum, fun i => Int.le_trans (h1.over i) (k i)⟩, h2⟩, fun _ => Int.le_refl _, fun _ => rfl, fun z => nomatch z⟩
end DL
/-! # DLw: tables beside one another -/
namespace DL
open PySem PySem.Spec PyProof.Rows L2
/-! the rows -/
end DL
/-! # DLx: sorts with keys, plain -/
namespace DL
open PySem PySem.Spec PySem.W PyProof.Rows L2
/-! the cups in order -/
def alongI (h o : List Int) : List Int := o.map fun k => h.getD k.toNat 0
theorem mem_rng0 {k : Int} {n : Nat} (h : k ∈ rangeI 0 n) : 0 ≤ k ∧ k < n := mem_rangeI.mp h
theorem along_perm {a o : List Int} (p : o.Perm (rangeI 0 a.length)) : (alongI a o).Perm a := by
  have h := p.map fun k : Int => a.getD k.toNat 0
  refine h.trans ?_
  unfold rangeI
  rw [List.map_map]
  have e : ((fun k : Int => a.getD k.toNat 0) ∘ fun i : Nat => 0 + (i : Int)) = fun i : Nat => a.getD i 0 := by
    funext i
    show a.getD (0 + (i : Int)).toNat 0 = _
    congr 1
    omega
  rw [e, range_getD]
/-- an order of the cups, the fullest ahead -/
structure Ord (h o : List Int) : Prop where
  perm : o.Perm (rangeI 0 h.length)
  falls : o.Pairwise fun a b => h.getD b.toNat 0 ≤ h.getD a.toNat 0
theorem Ord.along {h o : List Int} (O : Ord h o) : alongI h o = sortB true h := by
  have h1 : (alongI h o).Pairwise (· ≥ ·) := by
    unfold alongI
    rw [List.pairwise_map]
    exact O.falls
  rw [← sortB_self h1]
  exact sortB_eq (along_perm O.perm)
theorem rng_nodup (n : Nat) : (rangeI 0 n).Nodup := (rangeI_up n).imp fun h => by omega
theorem Ord.nd {h o : List Int} (O : Ord h o) : o.Nodup := O.perm.nodup_iff.mpr (rng_nodup _)
theorem Ord.mem {h o : List Int} (O : Ord h o) {a : Int} (ha : a ∈ o) : 0 ≤ a ∧ a < h.length := mem_rng0 (O.perm.mem_iff.mp ha)
theorem Ord.len {h o : List Int} (O : Ord h o) : o.length = h.length := by rw [O.perm.length_eq, rangeI_len]
/-- emptying the first ones of the order -/
theorem Ord.gone {h o : List Int} (O : Ord h o) (k : Nat) (hk : k ≤ h.length) : (goneI h (o.take k)).Perm (staysI h k) := by
  have p : (alongI (goneI h (o.take k)) o).Perm (goneI h (o.take k)) := along_perm (by rw [goneI_len]; exact O.perm)
  refine p.symm.trans ?_
  have e : alongI (goneI h (o.take k)) o = List.replicate k 0 ++ (sortB true h).drop k := by
    rw [← O.along]
    unfold alongI
    rw [← List.map_drop]
    conv => lhs; rw [← List.take_append_drop k o]
    rw [List.map_append, List.take_append_drop]
    congr 1
    · have : ∀ z ∈ o.take k, (goneI h (o.take k)).getD z.toNat 0 = 0 := fun z hz => by
        have q := O.mem (List.mem_of_mem_take hz)
        rw [gone_at0 _ _ _ (by omega), if_pos (by rw [Int.toNat_of_nonneg q.1]; exact hz)]
      rw [List.map_congr_left this, List.map_const', List.length_take, O.len, Nat.min_eq_left hk]
    · apply List.map_congr_left
      intro z hz
      have q := O.mem (List.mem_of_mem_drop hz)
      have hnd := O.nd
      rw [← List.take_append_drop k o] at hnd
      have hz2 : z ∉ o.take k := fun y => (List.nodup_append.mp hnd).2.2 _ y _ hz rfl
      rw [gone_at0 _ _ _ (by omega), if_neg (by rw [Int.toNat_of_nonneg q.1]; exact hz2)]
  rw [e]
  unfold staysI
  exact List.perm_append_comm
/-- a slot that holds data or nothing -/
structure VS (s : Sl) : Prop where
  f : fre (some s) = true
  b : bareSl s = true
  k : okB (some s) s
theorem VS.non : VS .non := ⟨rfl, rfl, trivial⟩
theorem VS.val (d : D) : VS (.val d) := ⟨rfl, rfl, .inl rfl⟩
end DL
/-! # DLs: bounds from a standing (plain) -/
namespace DL
open PySem PySem.Spec PyProof.Rows L2
/-- nowhere more -/
def RLe (n : Int) (a b : List Int) : Prop := ∀ k : Nat, (k : Int) < n → a.getD k 0 ≤ b.getD k 0
theorem RLe.all {n : Int} {a b : List Int} (h : RLe n a b) (ha : (a.length : Int) = n) (hb : (b.length : Int) = n) : (a.zip b).all (fun p => decide (p.1 ≤ p.2)) = true := List.all_eq_true.mpr fun p hp => by
  obtain ⟨i, hi, e⟩ := List.mem_iff_getElem.mp hp
  rw [List.length_zip] at hi
  rw [List.getElem_zip] at e
  have := h i (by omega)
  rw [List.getD_eq_getElem?_getD, List.getD_eq_getElem?_getD, List.getElem?_eq_getElem (by omega), List.getElem?_eq_getElem (by omega)] at this
  rw [← e]
  exact decide_eq_true this
/-! ### the worst of one beat -/
end DL
/-! # DLh: triples put in order; cups in line -/
namespace DL
open PySem PySem.Spec PyProof.Rows PySem.W L2
end DL
/-! # DLe: dicts reckoned; the pour that brings a standing to the most by one beat -/
namespace DL
open PySem PySem.Spec PyProof.Rows L2
section
variable {it : M (List D)} {bm : BM} {c : M Bool} {mk m md mx : M D} {r : Rho}
theorem r_Dc (ws : List Nat) : eDc it ws bm c mk m r = (it r).bind fun a => (ofO (wipeR a.2 ws)).bind fun r1 => (dcD ws bm c mk m a.1 [] r1).bind fun x => .ok (.own (.dic x.1), x.2) := rfl
theorem r_Get2 : dGet2 md mk mx r = (md r).bind fun a => match a.1 with
  | .dict es => (mk a.2).bind fun b => (ofO (kOf b.1)).bind fun k => (mx b.2).bind fun c => .ok ((valE es k).getD c.1, c.2)
  | _ => .no := rfl
theorem r_IxK : dIxK md mk r = (md r).bind fun a => match a.1 with
  | .dict es => (mk a.2).bind fun b => (ofO (kOf b.1)).bind fun k => (ofO (valE es k)).bind fun d => .ok (d, b.2)
  | _ => .no := rfl
theorem r_IxKO (i : Nat) : dIxKO i mk r = (match r[i]? with
  | some (.own _ (.dic _)) => (mk r).bind fun b => match b.2[i]? with
    | some (.own _ (.dic es)) => (ofO (kOf b.1)).bind fun k => (ofO (valE es k)).bind fun d => .ok (d, b.2)
    | _ => .no
  | _ => .no) := rfl
theorem r_EnumZip : iEnumZip md mk r = (md r).bind fun a => (mk a.2).bind fun b => (ofO (pZipE a.1 b.1)).bind fun d => .ok (d, b.2) := rfl
theorem r_TryM (i : Nat) (cs : List CatM) : sTryM i cs mb r = match mb r with | .ok a => .ok a | .no => .no | .ex x => suitesX i x cs := rfl
theorem r_suX0 (i : Nat) (x : Exn × Rho) : suitesX i x [] = .no := rfl
theorem r_suX1 (i : Nat) (x : Exn × Rho) (l : List CatM) : suitesX i x ((cat, msu) :: l) = match cat x.1.C with
    | some true => if noExn x.2 = true ∧ free x.2 i = true then endX i (msu (x.2.set i (.exn x.1))) else .no
    | some false => suitesX i x l
    | none => .no := rfl
theorem r_PutK (i : Nat) : sPutK i mk m r = (m r).bind fun a => match a.2[i]? with
  | some (.own _ (.dic _)) => (mk a.2).bind fun b => match b.2[i]? with
    | some (.own p (.dic es)) => (ofO (kOf b.1)).bind fun k => if es.length < 16777216 then .ok (.nx, b.2.set i (.own p (.dic (putE es k a.1)))) else .no
    | _ => .no
  | _ => .no := rfl
theorem r_Dic0 : eDic0 r = .ok (.own (.dic []), r) := rfl
end
theorem k_int (i : Int) : kOf (.int i) = some (.inl i) := rfl
/-! ### tables of numbers -/
/-- one step of a dict comprehension -/
def dcStep (vs : List Nat) (b : BM) (c : M Bool) (mk m : M D) (r : Rho) (d : D) : Res (Option (Key × D) × Rho) :=
  (ofO (b d r)).bind fun r1 => (noEx (c r1)).bind fun t => if t.1 = true then
    ((noEx (mk t.2)).bind fun y => (noEx (m y.2)).bind fun x => (ofO (kOf y.1)).bind fun k => (ofO (wipeR x.2 vs)).bind fun r2 => .ok (some (k, x.1), r2))
  else (ofO (wipeR t.2 vs)).bind fun r2 => .ok (none, r2)
theorem r_dstep (vs : List Nat) (b : BM) (c : M Bool) (mk m : M D) (r : Rho) (d : D) : dcStep vs b c mk m r d = (ofO (b d r)).bind fun r1 => (noEx (c r1)).bind fun t => if t.1 = true then
    ((noEx (mk t.2)).bind fun y => (noEx (m y.2)).bind fun x => (ofO (kOf y.1)).bind fun k => (ofO (wipeR x.2 vs)).bind fun r2 => .ok (some (k, x.1), r2))
  else (ofO (wipeR t.2 vs)).bind fun r2 => .ok (none, r2) := rfl
/-! ### looking up -/
section
variable {h o G : List Int} {ps : List (Int × Int)} {i c : Nat}
end
theorem mem_getD {v : List Int} {x : Int} (h : x ∈ v) : ∃ i, i < v.length ∧ v.getD i 0 = x := by
  obtain ⟨i, hi, e⟩ := List.mem_iff_getElem.mp h
  exact ⟨i, hi, by rw [List.getD_eq_getElem?_getD, List.getElem?_eq_getElem hi]; exact e⟩
section
variable {h o : List Int} {n g p w m : Int} (O : Ord h o) (hh : ∀ z ∈ h, 0 ≤ z) (hl : (h.length : Int) = n) (hg : 0 ≤ g) (hp : 1 ≤ p) (hpn : p ≤ n - 1) (h1 : 1 ≤ w) (h2 : w ≤ n) (m1 : m ≤ p)
include O hh hl hg hp hpn h1 h2 m1
end
end DL
namespace Gk
open PySem PySem.Spec PyProof.Rows L2 DL
/-- _law_mixed(_law_cell, _law_k) -/
noncomputable def d__law_mixed : Den := den 3 ((sSeq (sSet 2 (ofD (dOp pMod (fz (eMul (eOp pAdd (dOp pMod (dVar 0) (dC (.int 2147483646))) (dC (.int 1))) (fz (eOp pAdd (fz (eMul (ofD (dVar 1)) (dC (.int 7919)))) (dC (.int 104729)))))) (dC (.int 2147483647)))))
  (sSeq (sSet 2 (ofD (dOp pMod (fz (eMul (eOp pAdd (dVar 2) (fz (eMul (ofD (dOp pMod (dOp pDiv (dVar 0) (dC (.int 2147483646))) (dC (.int 1000003)))) (fz (eOp pAdd (dVar 1) (dC (.int 31))))))) (dC (.int 48271)))) (dC (.int 2147483629)))))
  (sSeq (sSet 2 (ofD (dOp pMod (fz (eMul (ofD (dVar 2)) (fz (eOp pAdd (fz (eOp pAdd (dOp pDiv (dVar 2) (dC (.int 1013))) (dC (.int 69621)))) (dVar 1))))) (dC (.int 2147483587)))))
  (sRet (ofD (dOp pMod (fz (eMul (ofD (dVar 2)) (fz (eOp pAdd (dOp pDiv (dVar 2) (dC (.int 2003))) (dC (.int 40692)))))) (dC (.int 2147483563)))))))))
/-- _law_take(_law_source_here, _law_size) -/
noncomputable def d__law_take : Den := den 3 ((sSeq (sIf (tBl (dOp pGe (dIxO 0 (dC (.int 0))) (dOp pPow (dC (.int 10)) (dC (.int 18)))))
  ((sSeq (sSet 2 (ofD (dOp pMod (dIxO 0 (dC (.int 0))) (dVar 1))))
  (sSeq (sPut 0 (dC (.int 0)) (dOp pDiv (dIxO 0 (dC (.int 0))) (dVar 1)))
  (sRet (eMove 2)))))
  (sNext))
  (sSeq (sPut 0 (dC (.int 2)) (fz (eOp pAdd (dIxO 0 (dC (.int 2))) (dC (.int 1)))))
  (sRet (ofD (dOp pMod (fz (eCall 2 d__law_mixed (arV (dIxO 0 (dC (.int 1))) (arV (dIxO 0 (dC (.int 2))) arNil)))) (dVar 1)))))))
/-- _law_one(_law_source_here, _law_some) -/
noncomputable def d__law_one : Den := den 2 ((sRet (ofD (dOp pIx (dVar 1) (fz (eCall 2 d__law_take (arR 0 (arV (dCB pLen (dCons (dVar 1) dNil)) arNil))))))))
noncomputable def w__law_great_1 : SM := ((sSet 2 (ofD (fz (eOp pAdd (fz (eMul (ofD (dVar 2)) (dOp pPow (dC (.int 10)) (dC (.int 9))))) (fz (eCall 2 d__law_take (arR 0 (arV (dOp pPow (dC (.int 10)) (dC (.int 9))) arNil)))))))))
theorem u_w__law_great_1 (r : Rho) : w__law_great_1 r = ((sSet 2 (ofD (fz (eOp pAdd (fz (eMul (ofD (dVar 2)) (dOp pPow (dC (.int 10)) (dC (.int 9))))) (fz (eCall 2 d__law_take (arR 0 (arV (dOp pPow (dC (.int 10)) (dC (.int 9))) arNil))))))))) r := rfl
/-- _law_great(_law_source_here, _law_many) -/
noncomputable def d__law_great : Den := den 4 ((sSeq (sSet 2 (ofD (dC (.int 0))))
  (sSeq (sFor (iRng1M (dC (.int 5))) (bName 3)
  ((sSet 2 (ofD (fz (eOp pAdd (fz (eMul (ofD (dVar 2)) (dOp pPow (dC (.int 10)) (dC (.int 9))))) (fz (eCall 2 d__law_take (arR 0 (arV (dOp pPow (dC (.int 10)) (dC (.int 9))) arNil))))))))))
  (sRet (ofD (dOp pMod (dVar 2) (dVar 1)))))))
theorem q__law_great : d__law_great = den 4 ((sSeq (sSet 2 (ofD (dC (.int 0))))
  (sSeq (sFor (iRng1M (dC (.int 5))) (bName 3)
  w__law_great_1)
  (sRet (ofD (dOp pMod (dVar 2) (dVar 1))))))) := rfl
noncomputable def w__law_shared_1 : SM := ((sSeq (sSet 6 (ofD (fz (eCall 2 d__law_take (arR 0 (arV (dVar 1) arNil))))))
  (sPut 4 (dVar 6) (fz (eOp pAdd (dIxO 4 (dVar 6)) (dC (.int 1)))))))
theorem u_w__law_shared_1 (r : Rho) : w__law_shared_1 r = ((sSeq (sSet 6 (ofD (fz (eCall 2 d__law_take (arR 0 (arV (dVar 1) arNil))))))
  (sPut 4 (dVar 6) (fz (eOp pAdd (dIxO 4 (dVar 6)) (dC (.int 1))))))) r := rfl
/-- _law_shared(_law_source_here, _law_crowd, _law_total, _law_is_heaped) -/
noncomputable def d__law_shared : Den := den 7 ((sSeq (sSet 4 (eMul (eLst (dCons (dC (.int 0)) dNil)) (dVar 1)))
  (sSeq (sIf (tBl (dVar 3))
  ((sSeq (sPut 4 (fz (eCall 2 d__law_take (arR 0 (arV (dVar 1) arNil)))) (dOp pSub (dVar 2) (dC (.int 2))))
  (sSet 2 (ofD (dC (.int 2))))))
  (sNext))
  (sSeq (sFor (iRng1M (dVar 2)) (bName 5)
  ((sSeq (sSet 6 (ofD (fz (eCall 2 d__law_take (arR 0 (arV (dVar 1) arNil))))))
  (sPut 4 (dVar 6) (fz (eOp pAdd (dIxO 4 (dVar 6)) (dC (.int 1))))))))
  (sRet (ofD (dCB pTupOf (dCons (dVar 4) dNil))))))))
theorem q__law_shared : d__law_shared = den 7 ((sSeq (sSet 4 (eMul (eLst (dCons (dC (.int 0)) dNil)) (dVar 1)))
  (sSeq (sIf (tBl (dVar 3))
  ((sSeq (sPut 4 (fz (eCall 2 d__law_take (arR 0 (arV (dVar 1) arNil)))) (dOp pSub (dVar 2) (dC (.int 2))))
  (sSet 2 (ofD (dC (.int 2))))))
  (sNext))
  (sSeq (sFor (iRng1M (dVar 2)) (bName 5)
  w__law_shared_1)
  (sRet (ofD (dCB pTupOf (dCons (dVar 4) dNil)))))))) := rfl
noncomputable def x__law_pours_1 : M D := (fz (eCall 2 d__law_great (arR 0 (arV (dVar 4) arNil))))
theorem u_x__law_pours_1 (r : Rho) : x__law_pours_1 r = (fz (eCall 2 d__law_great (arR 0 (arV (dVar 4) arNil)))) r := rfl
noncomputable def w__law_pours_1 : SM := ((sIf (tBl (dOp pLt (dVar 3) (dC (.int 3))))
  ((sExpr (eMut 5 mApp (dCons (dCB pTupOf (dCons (fz (eLc (iRng1M (dVar 1)) [7] (bName 7) tYesM x__law_pours_1)) dNil)) dNil))))
  ((sExpr (eMut 5 mApp (dCons (fz (eCall 4 d__law_shared (arR 0 (arV (dVar 1) (arV (dVar 4) (arV (dOp pEq (dVar 3) (dC (.int 4))) arNil)))))) dNil))))))
theorem u_w__law_pours_1 (r : Rho) : w__law_pours_1 r = ((sIf (tBl (dOp pLt (dVar 3) (dC (.int 3))))
  ((sExpr (eMut 5 mApp (dCons (dCB pTupOf (dCons (fz (eLc (iRng1M (dVar 1)) [7] (bName 7) tYesM x__law_pours_1)) dNil)) dNil))))
  ((sExpr (eMut 5 mApp (dCons (fz (eCall 4 d__law_shared (arR 0 (arV (dVar 1) (arV (dVar 4) (arV (dOp pEq (dVar 3) (dC (.int 4))) arNil)))))) dNil)))))) r := rfl
/-- _law_pours(_law_source_here, _law_crowd, _law_beats) -/
noncomputable def d__law_pours : Den := den 8 ((sSeq (sSet 3 (ofD (fz (eCall 2 d__law_take (arR 0 (arV (dC (.int 5)) arNil))))))
  (sSeq (sSet 4 (ofD (dOp pIx (fz (eLst (dCons (dC (.int 4)) (dCons (dC (.int 2)) (dCons (dOp pPow (dC (.int 10)) (dC (.int 30))) (dCons (dC (.int 6)) (dCons (dC (.int 9)) dNil))))))) (dVar 3))))
  (sSeq (sSet 5 (eLst dNil))
  (sSeq (sFor (iRng1M (dVar 2)) (bName 6)
  ((sIf (tBl (dOp pLt (dVar 3) (dC (.int 3))))
  ((sExpr (eMut 5 mApp (dCons (dCB pTupOf (dCons (fz (eLc (iRng1M (dVar 1)) [7] (bName 7) tYesM (fz (eCall 2 d__law_great (arR 0 (arV (dVar 4) arNil)))))) dNil)) dNil))))
  ((sExpr (eMut 5 mApp (dCons (fz (eCall 4 d__law_shared (arR 0 (arV (dVar 1) (arV (dVar 4) (arV (dOp pEq (dVar 3) (dC (.int 4))) arNil)))))) dNil)))))))
  (sRet (eMove 5)))))))
theorem q__law_pours : d__law_pours = den 8 ((sSeq (sSet 3 (ofD (fz (eCall 2 d__law_take (arR 0 (arV (dC (.int 5)) arNil))))))
  (sSeq (sSet 4 (ofD (dOp pIx (fz (eLst (dCons (dC (.int 4)) (dCons (dC (.int 2)) (dCons (dOp pPow (dC (.int 10)) (dC (.int 30))) (dCons (dC (.int 6)) (dCons (dC (.int 9)) dNil))))))) (dVar 3))))
  (sSeq (sSet 5 (eLst dNil))
  (sSeq (sFor (iRng1M (dVar 2)) (bName 6)
  w__law_pours_1)
  (sRet (eMove 5))))))) := rfl
noncomputable def c__law_shuffled_1 : M Bool := (tBl (dBorrow 2 fun r => noEx (dOp pNeE (dVal 2) (fz (eLst dNil)) r)))
theorem u_c__law_shuffled_1 (r : Rho) : c__law_shuffled_1 r = (tBl (dBorrow 2 fun r => noEx (dOp pNeE (dVal 2) (fz (eLst dNil)) r))) r := rfl
noncomputable def w__law_shuffled_1 : SM := ((sExpr (eMut 3 mApp (dCons (fz (eMut 2 mPop (dCons (fz (eCall 2 d__law_take (arR 0 (arV (dBorrow 2 fun r => noEx ((dCB pLen (dCons (dVal 2) dNil)) r)) arNil)))) dNil))) dNil))))
theorem u_w__law_shuffled_1 (r : Rho) : w__law_shuffled_1 r = ((sExpr (eMut 3 mApp (dCons (fz (eMut 2 mPop (dCons (fz (eCall 2 d__law_take (arR 0 (arV (dBorrow 2 fun r => noEx ((dCB pLen (dCons (dVal 2) dNil)) r)) arNil)))) dNil))) dNil)))) r := rfl
/-- _law_shuffled(_law_source_here, _law_some) -/
noncomputable def d__law_shuffled : Den := den 4 ((sSeq (sSet 2 (eCB pListOf (dCons (dVar 1) dNil)))
  (sSeq (sSet 3 (eLst dNil))
  (sSeq (sWhile (tBl (dBorrow 2 fun r => noEx (dOp pNeE (dVal 2) (fz (eLst dNil)) r)))
  ((sExpr (eMut 3 mApp (dCons (fz (eMut 2 mPop (dCons (fz (eCall 2 d__law_take (arR 0 (arV (dBorrow 2 fun r => noEx ((dCB pLen (dCons (dVal 2) dNil)) r)) arNil)))) dNil))) dNil)))))
  (sRet (eMove 3))))))
theorem q__law_shuffled : d__law_shuffled = den 4 ((sSeq (sSet 2 (eCB pListOf (dCons (dVar 1) dNil)))
  (sSeq (sSet 3 (eLst dNil))
  (sSeq (sWhile c__law_shuffled_1
  w__law_shuffled_1)
  (sRet (eMove 3)))))) := rfl
noncomputable def w__law_rows_1 : SM := ((sSeq (sSet 5 (ofD (fz (eCut (fz (eCall 2 d__law_shuffled (arR 0 (arV (fz (eLR1 (dVar 1))) arNil)))) oNone (oSome (fz (eCall 2 d__law_take (arR 0 (arV (fz (eOp pAdd (dVar 1) (dC (.int 1)))) arNil)))))))))
  (sExpr (eMut 3 mApp (dCons (dOp pIx (fz (eLst (dCons (dVar 5) (dCons (dCB pTupOf (dCons (dVar 5) dNil)) dNil)))) (fz (eCall 2 d__law_take (arR 0 (arV (dC (.int 2)) arNil))))) dNil)))))
theorem u_w__law_rows_1 (r : Rho) : w__law_rows_1 r = ((sSeq (sSet 5 (ofD (fz (eCut (fz (eCall 2 d__law_shuffled (arR 0 (arV (fz (eLR1 (dVar 1))) arNil)))) oNone (oSome (fz (eCall 2 d__law_take (arR 0 (arV (fz (eOp pAdd (dVar 1) (dC (.int 1)))) arNil)))))))))
  (sExpr (eMut 3 mApp (dCons (dOp pIx (fz (eLst (dCons (dVar 5) (dCons (dCB pTupOf (dCons (dVar 5) dNil)) dNil)))) (fz (eCall 2 d__law_take (arR 0 (arV (dC (.int 2)) arNil))))) dNil))))) r := rfl
/-- _law_rows(_law_source_here, _law_crowd, _law_beats) -/
noncomputable def d__law_rows : Den := den 6 ((sSeq (sSet 3 (eLst dNil))
  (sSeq (sFor (iRng1M (dVar 2)) (bName 4)
  ((sSeq (sSet 5 (ofD (fz (eCut (fz (eCall 2 d__law_shuffled (arR 0 (arV (fz (eLR1 (dVar 1))) arNil)))) oNone (oSome (fz (eCall 2 d__law_take (arR 0 (arV (fz (eOp pAdd (dVar 1) (dC (.int 1)))) arNil)))))))))
  (sExpr (eMut 3 mApp (dCons (dOp pIx (fz (eLst (dCons (dVar 5) (dCons (dCB pTupOf (dCons (dVar 5) dNil)) dNil)))) (fz (eCall 2 d__law_take (arR 0 (arV (dC (.int 2)) arNil))))) dNil))))))
  (sRet (eMove 3)))))
theorem q__law_rows : d__law_rows = den 6 ((sSeq (sSet 3 (eLst dNil))
  (sSeq (sFor (iRng1M (dVar 2)) (bName 4)
  w__law_rows_1)
  (sRet (eMove 3))))) := rfl
/-- _law_source(_law_cell) -/
noncomputable def d__law_source : Den := den 1 ((sRet (eLst (dCons (dVar 0) (dCons (dVar 0) (dCons (dC (.int 0)) dNil))))))
noncomputable def x__law_worst_1 : M D := (fz (eOp pAdd (dVar 6) (dVar 7)))
theorem u_x__law_worst_1 (r : Rho) : x__law_worst_1 r = (fz (eOp pAdd (dVar 6) (dVar 7))) r := rfl
noncomputable def x__law_worst_2 : M D := (fz (eMul (ofD (dVar 6)) (dCB pInt1 (dCons (dOp (pIn true) (dVar 8) (dVar 5)) dNil))))
theorem u_x__law_worst_2 (r : Rho) : x__law_worst_2 r = (fz (eMul (ofD (dVar 6)) (dCB pInt1 (dCons (dOp (pIn true) (dVar 8) (dVar 5)) dNil)))) r := rfl
noncomputable def w__law_worst_1 : SM := ((sSeq (sSet 2 (ofD (fz (eLc (iZipB false (dVar 2) (dVar 4)) [6, 7] (bTup 2 (bCons (bName 6) (bCons (bName 7) bNil))) tYesM x__law_worst_1))))
  (sSeq (sSet 3 (ofD (dCB pMax2 (dCons (dVar 3) (dCons (dCB pMaxA (dCons (dVar 2) dNil)) dNil)))))
  (sSet 2 (ofD (fz (eLc (iEnumA (dVar 2)) [8, 6] (bTup 2 (bCons (bName 8) (bCons (bName 6) bNil))) tYesM x__law_worst_2)))))))
theorem u_w__law_worst_1 (r : Rho) : w__law_worst_1 r = ((sSeq (sSet 2 (ofD (fz (eLc (iZipB false (dVar 2) (dVar 4)) [6, 7] (bTup 2 (bCons (bName 6) (bCons (bName 7) bNil))) tYesM x__law_worst_1))))
  (sSeq (sSet 3 (ofD (dCB pMax2 (dCons (dVar 3) (dCons (dCB pMaxA (dCons (dVar 2) dNil)) dNil)))))
  (sSet 2 (ofD (fz (eLc (iEnumA (dVar 2)) [8, 6] (bTup 2 (bCons (bName 8) (bCons (bName 6) bNil))) tYesM x__law_worst_2))))))) r := rfl
/-- _law_worst(_law_sheet, _law_lines) -/
noncomputable def d__law_worst : Den := den 9 ((sSeq (sSet 2 (ofD (fz (eMul (eLst (dCons (dC (.int 0)) dNil)) (dCB pLen (dCons (dOp pIx (dVar 0) (dC (.int 0))) dNil))))))
  (sSeq (sSet 3 (ofD (dC (.int 0))))
  (sSeq (sFor (iZipB false (dVar 0) (dVar 1)) (bTup 2 (bCons (bName 4) (bCons (bName 5) bNil)))
  ((sSeq (sSet 2 (ofD (fz (eLc (iZipB false (dVar 2) (dVar 4)) [6, 7] (bTup 2 (bCons (bName 6) (bCons (bName 7) bNil))) tYesM (fz (eOp pAdd (dVar 6) (dVar 7)))))))
  (sSeq (sSet 3 (ofD (dCB pMax2 (dCons (dVar 3) (dCons (dCB pMaxA (dCons (dVar 2) dNil)) dNil)))))
  (sSet 2 (ofD (fz (eLc (iEnumA (dVar 2)) [8, 6] (bTup 2 (bCons (bName 8) (bCons (bName 6) bNil))) tYesM (fz (eMul (ofD (dVar 6)) (dCB pInt1 (dCons (dOp (pIn true) (dVar 8) (dVar 5)) dNil))))))))))))
  (sRet (eMove 3))))))
theorem q__law_worst : d__law_worst = den 9 ((sSeq (sSet 2 (ofD (fz (eMul (eLst (dCons (dC (.int 0)) dNil)) (dCB pLen (dCons (dOp pIx (dVar 0) (dC (.int 0))) dNil))))))
  (sSeq (sSet 3 (ofD (dC (.int 0))))
  (sSeq (sFor (iZipB false (dVar 0) (dVar 1)) (bTup 2 (bCons (bName 4) (bCons (bName 5) bNil)))
  w__law_worst_1)
  (sRet (eMove 3)))))) := rfl
noncomputable def x_poured_behind_1 : M D := (fz (eOp pAdd (dVar 5) (fz (eMul (ofD (dVar 4)) (dCB pInt1 (dCons (dOp (pIn true) (dVar 3) (dVar 1)) dNil))))))
theorem u_x_poured_behind_1 (r : Rho) : x_poured_behind_1 r = (fz (eOp pAdd (dVar 5) (fz (eMul (ofD (dVar 4)) (dCB pInt1 (dCons (dOp (pIn true) (dVar 3) (dVar 1)) dNil)))))) r := rfl
/-- poured_behind(standing, numbers, pour) -/
noncomputable def d_poured_behind : Den := den 6 ((sRet (ofD (dCB pTupOf (dCons (fz (eLc (iEnumZip (dVar 0) (dVar 2)) [3, 4, 5] (bTup 2 (bCons (bName 3) (bCons (bTup 2 (bCons (bName 4) (bCons (bName 5) bNil))) bNil))) tYesM (fz (eOp pAdd (dVar 5) (fz (eMul (ofD (dVar 4)) (dCB pInt1 (dCons (dOp (pIn true) (dVar 3) (dVar 1)) dNil)))))))) dNil)))))
theorem q_poured_behind : d_poured_behind = den 6 ((sRet (ofD (dCB pTupOf (dCons (fz (eLc (iEnumZip (dVar 0) (dVar 2)) [3, 4, 5] (bTup 2 (bCons (bName 3) (bCons (bTup 2 (bCons (bName 4) (bCons (bName 5) bNil))) bNil))) tYesM x_poured_behind_1)) dNil))))) := rfl
/-- is_whole(thing) -/
noncomputable def d_is_whole : Den := den 1 ((sRet (ofD (dAnd (dIsi "int" (dVar 0)) (dNot (dIsi "bool" (dVar 0)))))))
/-- is_count(thing) -/
noncomputable def d_is_count : Den := den 1 ((sRet (ofD (dAnd (fz (eCall 1 d_is_whole (arV (dVar 0) arNil))) (dOp pGe (dVar 0) (dC (.int 0)))))))
noncomputable def x_are_counts_1 : M D := (fz (eCall 1 d_is_count (arV (dVar 2) arNil)))
theorem u_x_are_counts_1 (r : Rho) : x_are_counts_1 r = (fz (eCall 1 d_is_count (arV (dVar 2) arNil))) r := rfl
/-- are_counts(thing, many) -/
noncomputable def d_are_counts : Den := den 3 ((sRet (ofD (dAnd (dIsi "tuple" (dVar 0)) (dAnd (dOp pEq (dCB pLen (dCons (dVar 0) dNil)) (dVar 1)) (dCB pAll (dCons (fz (eLc (iSeqM (dVar 0)) [2] (bName 2) tYesM (fz (eCall 1 d_is_count (arV (dVar 2) arNil))))) dNil)))))))
theorem q_are_counts : d_are_counts = den 3 ((sRet (ofD (dAnd (dIsi "tuple" (dVar 0)) (dAnd (dOp pEq (dCB pLen (dCons (dVar 0) dNil)) (dVar 1)) (dCB pAll (dCons (fz (eLc (iSeqM (dVar 0)) [2] (bName 2) tYesM x_are_counts_1)) dNil))))))) := rfl
/-- are_amounts(thing) -/
noncomputable def d_are_amounts : Den := den 1 ((sRet (ofD (dAnd (dIsi "tuple" (dVar 0)) (dAnd (dChain pLe pLe (dC (.int 2)) (dCB pLen (dCons (dVar 0) dNil)) (dC (.int 40))) (fz (eCall 2 d_are_counts (arV (dVar 0) (arV (dCB pLen (dCons (dVar 0) dNil)) arNil)))))))))
noncomputable def w_want_pours_1 : SM := ((sIf (tOrM (tNotM (tBl (fz (eCall 1 d_are_amounts (arV (dVar 1) arNil))))) (tBl (dOp pNe (dCB pLen (dCons (dVar 1) dNil)) (dCB pLen (dCons (dOp pIx (dVar 0) (dC (.int 0))) dNil)))))
  (sNever)
  (sNext)))
theorem u_w_want_pours_1 (r : Rho) : w_want_pours_1 r = ((sIf (tOrM (tNotM (tBl (fz (eCall 1 d_are_amounts (arV (dVar 1) arNil))))) (tBl (dOp pNe (dCB pLen (dCons (dVar 1) dNil)) (dCB pLen (dCons (dOp pIx (dVar 0) (dC (.int 0))) dNil)))))
  (sNever)
  (sNext))) r := rfl
/-- want_pours(pours) -/
noncomputable def d_want_pours : Den := den 2 ((sSeq (sIf (tOrM (tNotM (tBl (dIsiT ["list", "tuple"] (dVar 0)))) (tBl (dOp pEq (dCB pLen (dCons (dVar 0) dNil)) (dC (.int 0)))))
  (sNever)
  (sNext))
  (sFor (iSeqM (dVar 0)) (bName 1)
  ((sIf (tOrM (tNotM (tBl (fz (eCall 1 d_are_amounts (arV (dVar 1) arNil))))) (tBl (dOp pNe (dCB pLen (dCons (dVar 1) dNil)) (dCB pLen (dCons (dOp pIx (dVar 0) (dC (.int 0))) dNil)))))
  (sNever)
  (sNext))))))
theorem q_want_pours : d_want_pours = den 2 ((sSeq (sIf (tOrM (tNotM (tBl (dIsiT ["list", "tuple"] (dVar 0)))) (tBl (dOp pEq (dCB pLen (dCons (dVar 0) dNil)) (dC (.int 0)))))
  (sNever)
  (sNext))
  (sFor (iSeqM (dVar 0)) (bName 1)
  w_want_pours_1))) := rfl
/-- is_from(thing, least, most) -/
noncomputable def d_is_from : Den := den 3 ((sRet (ofD (dAnd (fz (eCall 1 d_is_whole (arV (dVar 0) arNil))) (dChain pLe pLe (dVar 1) (dVar 0) (dVar 2))))))
noncomputable def x_are_numbers_1 : M D := (fz (eCall 3 d_is_from (arV (dVar 2) (arV (dC (.int 0)) (arV (dOp pSub (dVar 1) (dC (.int 1))) arNil)))))
theorem u_x_are_numbers_1 (r : Rho) : x_are_numbers_1 r = (fz (eCall 3 d_is_from (arV (dVar 2) (arV (dC (.int 0)) (arV (dOp pSub (dVar 1) (dC (.int 1))) arNil))))) r := rfl
/-- are_numbers(thing, cups) -/
noncomputable def d_are_numbers : Den := den 3 ((sSeq (sIf (tOrM (tNotM (tBl (dIsiT ["list", "tuple"] (dVar 0)))) (tNotM (tBl (dCB pAll (dCons (fz (eLc (iSeqM (dVar 0)) [2] (bName 2) tYesM (fz (eCall 3 d_is_from (arV (dVar 2) (arV (dC (.int 0)) (arV (dOp pSub (dVar 1) (dC (.int 1))) arNil))))))) dNil)))))
  ((sRet (ofD (dC (.bool false)))))
  (sNext))
  (sRet (ofD (dOp pEq (dLenSet (dVar 0)) (dCB pLen (dCons (dVar 0) dNil)))))))
theorem q_are_numbers : d_are_numbers = den 3 ((sSeq (sIf (tOrM (tNotM (tBl (dIsiT ["list", "tuple"] (dVar 0)))) (tNotM (tBl (dCB pAll (dCons (fz (eLc (iSeqM (dVar 0)) [2] (bName 2) tYesM x_are_numbers_1)) dNil)))))
  ((sRet (ofD (dC (.bool false)))))
  (sNext))
  (sRet (ofD (dOp pEq (dLenSet (dVar 0)) (dCB pLen (dCons (dVar 0) dNil))))))) := rfl
noncomputable def w_want_rows_1 : SM := ((sIf (tNotM (tBl (fz (eCall 2 d_are_numbers (arV (dVar 2) (arV (dCB pLen (dCons (dOp pIx (dVar 0) (dC (.int 0))) dNil)) arNil))))))
  (sNever)
  (sNext)))
theorem u_w_want_rows_1 (r : Rho) : w_want_rows_1 r = ((sIf (tNotM (tBl (fz (eCall 2 d_are_numbers (arV (dVar 2) (arV (dCB pLen (dCons (dOp pIx (dVar 0) (dC (.int 0))) dNil)) arNil))))))
  (sNever)
  (sNext))) r := rfl
/-- want_rows(pours, rows) -/
noncomputable def d_want_rows : Den := den 3 ((sSeq (sIf (tOrM (tNotM (tBl (dIsiT ["list", "tuple"] (dVar 1)))) (tBl (dOp pNe (dCB pLen (dCons (dVar 1) dNil)) (dCB pLen (dCons (dVar 0) dNil)))))
  (sNever)
  (sNext))
  (sFor (iSeqM (dVar 1)) (bName 2)
  ((sIf (tNotM (tBl (fz (eCall 2 d_are_numbers (arV (dVar 2) (arV (dCB pLen (dCons (dOp pIx (dVar 0) (dC (.int 0))) dNil)) arNil))))))
  (sNever)
  (sNext))))))
theorem q_want_rows : d_want_rows = den 3 ((sSeq (sIf (tOrM (tNotM (tBl (dIsiT ["list", "tuple"] (dVar 1)))) (tBl (dOp pNe (dCB pLen (dCons (dVar 1) dNil)) (dCB pLen (dCons (dVar 0) dNil)))))
  (sNever)
  (sNext))
  (sFor (iSeqM (dVar 1)) (bName 2)
  w_want_rows_1))) := rfl
noncomputable def w_worst_of_1 : SM := ((sSeq (sSet 2 (ofD (fz (eCall 3 d_poured_behind (arV (dVar 2) (arV (dVar 4) (arV (dVar 5) arNil)))))))
  (sSet 3 (ofD (dCB pMax2 (dCons (dVar 3) (dCons (dCB pMaxA (dCons (dVar 2) dNil)) dNil)))))))
theorem u_w_worst_of_1 (r : Rho) : w_worst_of_1 r = ((sSeq (sSet 2 (ofD (fz (eCall 3 d_poured_behind (arV (dVar 2) (arV (dVar 4) (arV (dVar 5) arNil)))))))
  (sSet 3 (ofD (dCB pMax2 (dCons (dVar 3) (dCons (dCB pMaxA (dCons (dVar 2) dNil)) dNil))))))) r := rfl
/-- worst_of(pours, rows) -/
noncomputable def d_worst_of : Den := den 6 ((sSeq (sExpr (eCall 1 d_want_pours (arV (dVar 0) arNil)))
  (sSeq (sExpr (eCall 2 d_want_rows (arV (dVar 0) (arV (dVar 1) arNil))))
  (sSeq (sSet 2 (ofD (dOp pIx (dVar 0) (dC (.int 0)))))
  (sSeq (sSet 3 (ofD (dCB pMaxA (dCons (dVar 2) dNil))))
  (sSeq (sFor (iZipB false (dVar 1) (fz (eCut (dVar 0) (oSome (dC (.int 1))) oNone))) (bTup 2 (bCons (bName 4) (bCons (bName 5) bNil)))
  ((sSeq (sSet 2 (ofD (fz (eCall 3 d_poured_behind (arV (dVar 2) (arV (dVar 4) (arV (dVar 5) arNil)))))))
  (sSet 3 (ofD (dCB pMax2 (dCons (dVar 3) (dCons (dCB pMaxA (dCons (dVar 2) dNil)) dNil))))))))
  (sRet (eMove 3))))))))
theorem q_worst_of : d_worst_of = den 6 ((sSeq (sExpr (eCall 1 d_want_pours (arV (dVar 0) arNil)))
  (sSeq (sExpr (eCall 2 d_want_rows (arV (dVar 0) (arV (dVar 1) arNil))))
  (sSeq (sSet 2 (ofD (dOp pIx (dVar 0) (dC (.int 0)))))
  (sSeq (sSet 3 (ofD (dCB pMaxA (dCons (dVar 2) dNil))))
  (sSeq (sFor (iZipB false (dVar 1) (fz (eCut (dVar 0) (oSome (dC (.int 1))) oNone))) (bTup 2 (bCons (bName 4) (bCons (bName 5) bNil)))
  w_worst_of_1)
  (sRet (eMove 3)))))))) := rfl
noncomputable def w_law_1 : SM := ((sSeq (sSet 2 (eCall 1 d__law_source (arV (dVar 1) arNil)))
  (sSeq (sSet 3 (ofD (fz (eCall 2 d__law_one (arR 2 (arV (fz (eLst (dCons (dC (.int 2)) (dCons (dC (.int 3)) (dCons (dC (.int 4)) (dCons (dC (.int 5)) (dCons (dC (.int 6)) (dCons (dC (.int 7)) (dCons (dC (.int 3)) (dCons (dC (.int 40)) dNil)))))))))) arNil))))))
  (sSeq (sSet 4 (ofD (fz (eOp pAdd (dC (.int 1)) (fz (eCall 2 d__law_take (arR 2 (arV (dC (.int 12)) arNil))))))))
  (sSeq (sSet 5 (ofD (fz (eCall 3 d__law_pours (arR 2 (arV (dVar 3) (arV (dVar 4) arNil)))))))
  (sSeq (sSet 6 (ofD (fz (eCall 3 d__law_rows (arR 2 (arV (dVar 3) (arV (dVar 4) arNil)))))))
  (sSeq (sPar 7 8 (ofD (dCB pRepr (dCons (dTup (dCons (dVar 5) (dCons (dVar 6) dNil))) dNil))) (ofD (fz (eCall 2 d__law_worst (arV (dVar 5) (arV (dVar 6) arNil))))))
  (sSeq (sIf (tOrM (tBl (dOp pNe (fz (eCall 2 d_worst_of (arV (dVar 5) (arV (dVar 6) arNil)))) (dVar 8))) (tBl (dOp pNe (fz (eCallK 2 0 2 [1, 0] d_worst_of arNil (arV (dCB pTupOf (dCons (dVar 6) dNil)) (arV (dCB pTupOf (dCons (dVar 5) dNil)) arNil)))) (dVar 8))))
  ((sRet (ofD (dC (.bool false)))))
  (sNext))
  (sSeq (sIf (tOrM (tBl (dOp pNe (fz (eCall 2 d_worst_of (arV (dVar 5) (arV (fz (eOp pAdd (fz (eCut (dVar 6) oNone (oSome (dUn pNeg (dC (.int 1)))))) (fz (eLst (dCons (fz (eLst dNil)) dNil))))) arNil)))) (dVar 8))) (tBl (dOp pNe (fz (eCall 2 d_worst_of (arV (dVar 5) (arV (fz (eOp pAdd (fz (eCut (dVar 6) oNone (oSome (dUn pNeg (dC (.int 1)))))) (fz (eLst (dCons (fz (eLR1 (dVar 3))) dNil))))) arNil)))) (dVar 8))))
  ((sRet (ofD (dC (.bool false)))))
  (sNext))
  (sIf (tBl (dOp pNe (dCB pRepr (dCons (dTup (dCons (dVar 5) (dCons (dVar 6) dNil))) dNil)) (dVar 7)))
  ((sRet (ofD (dC (.bool false)))))
  (sNext)))))))))))
theorem u_w_law_1 (r : Rho) : w_law_1 r = ((sSeq (sSet 2 (eCall 1 d__law_source (arV (dVar 1) arNil)))
  (sSeq (sSet 3 (ofD (fz (eCall 2 d__law_one (arR 2 (arV (fz (eLst (dCons (dC (.int 2)) (dCons (dC (.int 3)) (dCons (dC (.int 4)) (dCons (dC (.int 5)) (dCons (dC (.int 6)) (dCons (dC (.int 7)) (dCons (dC (.int 3)) (dCons (dC (.int 40)) dNil)))))))))) arNil))))))
  (sSeq (sSet 4 (ofD (fz (eOp pAdd (dC (.int 1)) (fz (eCall 2 d__law_take (arR 2 (arV (dC (.int 12)) arNil))))))))
  (sSeq (sSet 5 (ofD (fz (eCall 3 d__law_pours (arR 2 (arV (dVar 3) (arV (dVar 4) arNil)))))))
  (sSeq (sSet 6 (ofD (fz (eCall 3 d__law_rows (arR 2 (arV (dVar 3) (arV (dVar 4) arNil)))))))
  (sSeq (sPar 7 8 (ofD (dCB pRepr (dCons (dTup (dCons (dVar 5) (dCons (dVar 6) dNil))) dNil))) (ofD (fz (eCall 2 d__law_worst (arV (dVar 5) (arV (dVar 6) arNil))))))
  (sSeq (sIf (tOrM (tBl (dOp pNe (fz (eCall 2 d_worst_of (arV (dVar 5) (arV (dVar 6) arNil)))) (dVar 8))) (tBl (dOp pNe (fz (eCallK 2 0 2 [1, 0] d_worst_of arNil (arV (dCB pTupOf (dCons (dVar 6) dNil)) (arV (dCB pTupOf (dCons (dVar 5) dNil)) arNil)))) (dVar 8))))
  ((sRet (ofD (dC (.bool false)))))
  (sNext))
  (sSeq (sIf (tOrM (tBl (dOp pNe (fz (eCall 2 d_worst_of (arV (dVar 5) (arV (fz (eOp pAdd (fz (eCut (dVar 6) oNone (oSome (dUn pNeg (dC (.int 1)))))) (fz (eLst (dCons (fz (eLst dNil)) dNil))))) arNil)))) (dVar 8))) (tBl (dOp pNe (fz (eCall 2 d_worst_of (arV (dVar 5) (arV (fz (eOp pAdd (fz (eCut (dVar 6) oNone (oSome (dUn pNeg (dC (.int 1)))))) (fz (eLst (dCons (fz (eLR1 (dVar 3))) dNil))))) arNil)))) (dVar 8))))
  ((sRet (ofD (dC (.bool false)))))
  (sNext))
  (sIf (tBl (dOp pNe (dCB pRepr (dCons (dTup (dCons (dVar 5) (dCons (dVar 6) dNil))) dNil)) (dVar 7)))
  ((sRet (ofD (dC (.bool false)))))
  (sNext))))))))))) r := rfl
/-- law(_law_script) -/
noncomputable def d_law : Den := den 9 ((sSeq (sFor (iSeqM (fz (eOp pAdd (fz (eCut (dVar 0) oNone (oSome (dC (.int 8))))) (fz (eLst (dCons (dC (.int 0)) dNil)))))) (bName 1)
  ((sSeq (sSet 2 (eCall 1 d__law_source (arV (dVar 1) arNil)))
  (sSeq (sSet 3 (ofD (fz (eCall 2 d__law_one (arR 2 (arV (fz (eLst (dCons (dC (.int 2)) (dCons (dC (.int 3)) (dCons (dC (.int 4)) (dCons (dC (.int 5)) (dCons (dC (.int 6)) (dCons (dC (.int 7)) (dCons (dC (.int 3)) (dCons (dC (.int 40)) dNil)))))))))) arNil))))))
  (sSeq (sSet 4 (ofD (fz (eOp pAdd (dC (.int 1)) (fz (eCall 2 d__law_take (arR 2 (arV (dC (.int 12)) arNil))))))))
  (sSeq (sSet 5 (ofD (fz (eCall 3 d__law_pours (arR 2 (arV (dVar 3) (arV (dVar 4) arNil)))))))
  (sSeq (sSet 6 (ofD (fz (eCall 3 d__law_rows (arR 2 (arV (dVar 3) (arV (dVar 4) arNil)))))))
  (sSeq (sPar 7 8 (ofD (dCB pRepr (dCons (dTup (dCons (dVar 5) (dCons (dVar 6) dNil))) dNil))) (ofD (fz (eCall 2 d__law_worst (arV (dVar 5) (arV (dVar 6) arNil))))))
  (sSeq (sIf (tOrM (tBl (dOp pNe (fz (eCall 2 d_worst_of (arV (dVar 5) (arV (dVar 6) arNil)))) (dVar 8))) (tBl (dOp pNe (fz (eCallK 2 0 2 [1, 0] d_worst_of arNil (arV (dCB pTupOf (dCons (dVar 6) dNil)) (arV (dCB pTupOf (dCons (dVar 5) dNil)) arNil)))) (dVar 8))))
  ((sRet (ofD (dC (.bool false)))))
  (sNext))
  (sSeq (sIf (tOrM (tBl (dOp pNe (fz (eCall 2 d_worst_of (arV (dVar 5) (arV (fz (eOp pAdd (fz (eCut (dVar 6) oNone (oSome (dUn pNeg (dC (.int 1)))))) (fz (eLst (dCons (fz (eLst dNil)) dNil))))) arNil)))) (dVar 8))) (tBl (dOp pNe (fz (eCall 2 d_worst_of (arV (dVar 5) (arV (fz (eOp pAdd (fz (eCut (dVar 6) oNone (oSome (dUn pNeg (dC (.int 1)))))) (fz (eLst (dCons (fz (eLR1 (dVar 3))) dNil))))) arNil)))) (dVar 8))))
  ((sRet (ofD (dC (.bool false)))))
  (sNext))
  (sIf (tBl (dOp pNe (dCB pRepr (dCons (dTup (dCons (dVar 5) (dCons (dVar 6) dNil))) dNil)) (dVar 7)))
  ((sRet (ofD (dC (.bool false)))))
  (sNext))))))))))))
  (sRet (ofD (dC (.bool true))))))
theorem q_law : d_law = den 9 ((sSeq (sFor (iSeqM (fz (eOp pAdd (fz (eCut (dVar 0) oNone (oSome (dC (.int 8))))) (fz (eLst (dCons (dC (.int 0)) dNil)))))) (bName 1)
  w_law_1)
  (sRet (ofD (dC (.bool true)))))) := rfl
end Gk
namespace Gk
open PySem PySem.Spec PyProof.Rows L2 DL
def topS (i : Nat) : Stmt := PySem.Challenge.pw_cupkeep_k61_worst_told.main.body.getD i (.Pass ⟨0, 0, 0, 0⟩)
abbrev s__law_mixed : Stmt := topS 22
theorem sc__law_mixed : FnScope ["_law_cell", "_law_k", "_law_figure"] ["_law_cell", "_law_k"] (defScope s__law_mixed) := ⟨rfl, rfl, rfl, by decide +kernel, rfl, by decide +kernel, by decide +kernel⟩
abbrev s__law_take : Stmt := topS 24
theorem sc__law_take : FnScope ["_law_source_here", "_law_size", "_law_found"] ["_law_source_here", "_law_size"] (defScope s__law_take) := ⟨rfl, rfl, rfl, by decide +kernel, rfl, by decide +kernel, by decide +kernel⟩
abbrev s__law_one : Stmt := topS 25
theorem sc__law_one : FnScope ["_law_source_here", "_law_some"] ["_law_source_here", "_law_some"] (defScope s__law_one) := ⟨rfl, rfl, rfl, by decide +kernel, rfl, by decide +kernel, by decide +kernel⟩
abbrev s__law_great : Stmt := topS 27
theorem sc__law_great : FnScope ["_law_source_here", "_law_many", "_law_found", "_law_k"] ["_law_source_here", "_law_many"] (defScope s__law_great) := ⟨rfl, rfl, rfl, by decide +kernel, rfl, by decide +kernel, by decide +kernel⟩
abbrev s__law_shared : Stmt := topS 29
theorem sc__law_shared : FnScope ["_law_source_here", "_law_crowd", "_law_total", "_law_is_heaped", "_law_found", "_law_grain", "_law_at"] ["_law_source_here", "_law_crowd", "_law_total", "_law_is_heaped"] (defScope s__law_shared) := ⟨rfl, rfl, rfl, by decide +kernel, rfl, by decide +kernel, by decide +kernel⟩
abbrev s__law_pours : Stmt := topS 28
theorem sc__law_pours : FnScope ["_law_source_here", "_law_crowd", "_law_beats", "_law_way", "_law_peak", "_law_found", "_law_beat", "_law_cup"] ["_law_source_here", "_law_crowd", "_law_beats"] (defScope s__law_pours) := ⟨rfl, rfl, rfl, by decide +kernel, rfl, by decide +kernel, by decide +kernel⟩
abbrev s__law_shuffled : Stmt := topS 26
theorem sc__law_shuffled : FnScope ["_law_source_here", "_law_some", "_law_pile", "_law_found"] ["_law_source_here", "_law_some"] (defScope s__law_shuffled) := ⟨rfl, rfl, rfl, by decide +kernel, rfl, by decide +kernel, by decide +kernel⟩
abbrev s__law_rows : Stmt := topS 32
theorem sc__law_rows : FnScope ["_law_source_here", "_law_crowd", "_law_beats", "_law_found", "_law_beat", "_law_some"] ["_law_source_here", "_law_crowd", "_law_beats"] (defScope s__law_rows) := ⟨rfl, rfl, rfl, by decide +kernel, rfl, by decide +kernel, by decide +kernel⟩
abbrev s__law_source : Stmt := topS 23
theorem sc__law_source : FnScope ["_law_cell"] ["_law_cell"] (defScope s__law_source) := ⟨rfl, rfl, rfl, by decide +kernel, rfl, by decide +kernel, by decide +kernel⟩
abbrev s__law_worst : Stmt := topS 31
theorem sc__law_worst : FnScope ["_law_sheet", "_law_lines", "_law_held", "_law_found", "_law_pour", "_law_numbers", "_law_one_here", "_law_more", "_law_cup"] ["_law_sheet", "_law_lines"] (defScope s__law_worst) := ⟨rfl, rfl, rfl, by decide +kernel, rfl, by decide +kernel, by decide +kernel⟩
abbrev s_poured_behind : Stmt := topS 19
theorem sc_poured_behind : FnScope ["standing", "numbers", "pour", "cup", "held", "more"] ["standing", "numbers", "pour"] (defScope s_poured_behind) := ⟨rfl, rfl, rfl, by decide +kernel, rfl, by decide +kernel, by decide +kernel⟩
abbrev s_is_whole : Stmt := topS 8
theorem sc_is_whole : FnScope ["thing"] ["thing"] (defScope s_is_whole) := ⟨rfl, rfl, rfl, by decide +kernel, rfl, by decide +kernel, by decide +kernel⟩
abbrev s_is_count : Stmt := topS 10
theorem sc_is_count : FnScope ["thing"] ["thing"] (defScope s_is_count) := ⟨rfl, rfl, rfl, by decide +kernel, rfl, by decide +kernel, by decide +kernel⟩
abbrev s_are_counts : Stmt := topS 12
theorem sc_are_counts : FnScope ["thing", "many", "one"] ["thing", "many"] (defScope s_are_counts) := ⟨rfl, rfl, rfl, by decide +kernel, rfl, by decide +kernel, by decide +kernel⟩
abbrev s_are_amounts : Stmt := topS 15
theorem sc_are_amounts : FnScope ["thing"] ["thing"] (defScope s_are_amounts) := ⟨rfl, rfl, rfl, by decide +kernel, rfl, by decide +kernel, by decide +kernel⟩
abbrev s_want_pours : Stmt := topS 16
theorem sc_want_pours : FnScope ["pours", "pour"] ["pours"] (defScope s_want_pours) := ⟨rfl, rfl, rfl, by decide +kernel, rfl, by decide +kernel, by decide +kernel⟩
abbrev s_is_from : Stmt := topS 9
theorem sc_is_from : FnScope ["thing", "least", "most"] ["thing", "least", "most"] (defScope s_is_from) := ⟨rfl, rfl, rfl, by decide +kernel, rfl, by decide +kernel, by decide +kernel⟩
abbrev s_are_numbers : Stmt := topS 17
theorem sc_are_numbers : FnScope ["thing", "cups", "one"] ["thing", "cups"] (defScope s_are_numbers) := ⟨rfl, rfl, rfl, by decide +kernel, rfl, by decide +kernel, by decide +kernel⟩
abbrev s_want_rows : Stmt := topS 18
theorem sc_want_rows : FnScope ["pours", "rows", "numbers"] ["pours", "rows"] (defScope s_want_rows) := ⟨rfl, rfl, rfl, by decide +kernel, rfl, by decide +kernel, by decide +kernel⟩
abbrev s_worst_of : Stmt := topS 20
theorem sc_worst_of : FnScope ["pours", "rows", "standing", "found", "numbers", "pour"] ["pours", "rows"] (defScope s_worst_of) := ⟨rfl, rfl, rfl, by decide +kernel, rfl, by decide +kernel, by decide +kernel⟩
abbrev s_law : Stmt := topS 33
theorem sc_law : FnScope ["_law_script", "_law_cell", "_law_source_here", "_law_crowd", "_law_beats", "_law_told", "_law_lines", "_law_was", "_law_due"] ["_law_script"] (defScope s_law) := ⟨rfl, rfl, rfl, by decide +kernel, rfl, by decide +kernel, by decide +kernel⟩
section
variable {P : Program} {w : World} {K : PySem.W.Frag} {tcK : TabC K} {mg : Str → Option Value} {base : Heap}
theorem ok__law_mixed {a_0 : Addr} {fd_0 : FuncData} (F : Fun K "_law_mixed" "_law_mixed" s__law_mixed a_0 fd_0)  : FnG P w K mg base 1 a_0 fd_0 ["_law_cell", "_law_k"] (spM K 2 d__law_mixed) := by
  refine fn_g F sc__law_mixed (fun vs H Q E h => h.1) (fun cdv A outer s H vs Q E hcd hr h => ⟨tS K (fun c d _ H => E c d H) ((sSeq (sSet 2 (ofD (dOp pMod (fz (eMul (eOp pAdd (dOp pMod (dVar 0) (dC (.int 2147483646))) (dC (.int 1))) (fz (eOp pAdd (fz (eMul (ofD (dVar 1)) (dC (.int 7919)))) (dC (.int 104729)))))) (dC (.int 2147483647)))))
  (sSeq (sSet 2 (ofD (dOp pMod (fz (eMul (eOp pAdd (dVar 2) (fz (eMul (ofD (dOp pMod (dOp pDiv (dVar 0) (dC (.int 2147483646))) (dC (.int 1000003)))) (fz (eOp pAdd (dVar 1) (dC (.int 31))))))) (dC (.int 48271)))) (dC (.int 2147483629)))))
  (sSeq (sSet 2 (ofD (dOp pMod (fz (eMul (ofD (dVar 2)) (fz (eOp pAdd (fz (eOp pAdd (dOp pDiv (dVar 2) (dC (.int 1013))) (dC (.int 69621)))) (dVar 1))))) (dC (.int 2147483587)))))
  (sRet (ofD (dOp pMod (fz (eMul (ofD (dVar 2)) (fz (eOp pAdd (dOp pDiv (dVar 2) (dC (.int 2003))) (dC (.int 40692)))))) (dC (.int 2147483563))))))))), ?_, body_ok (N := ["_law_cell", "_law_k", "_law_figure"]) (sS _) (by decide) h⟩)
  exact (b_cons (wS (ps_set (i := 2) sc__law_mixed.nd rfl (by first | exact .inl rfl | exact .inr rfl) (e_rv (d_mod (d_fz (e_mul (e_add (d_mod (d_var 0) d_int) d_int) (d_fz (e_add (d_fz (e_mul (e_rv (d_var 1)) d_int)) d_int)))) d_int))) (absSet (sE _)))
    (b_cons (wS (ps_set (i := 2) sc__law_mixed.nd rfl (by first | exact .inl rfl | exact .inr rfl) (e_rv (d_mod (d_fz (e_mul (e_add (d_var 2) (d_fz (e_mul (e_rv (d_mod (d_div (d_var 0) d_int) d_int)) (d_fz (e_add (d_var 1) d_int))))) d_int)) d_int))) (absSet (sE _)))
    (b_cons (wS (ps_set (i := 2) sc__law_mixed.nd rfl (by first | exact .inl rfl | exact .inr rfl) (e_rv (d_mod (d_fz (e_mul (e_rv (d_var 2)) (d_fz (e_add (d_fz (e_add (d_div (d_var 2) d_int) d_int)) (d_var 1))))) d_int))) (absSet (sE _)))
    (b_one (s_ret (e_rv (d_mod (d_fz (e_mul (e_rv (d_var 2)) (d_fz (e_add (d_div (d_var 2) d_int) d_int)))) d_int)))))))
theorem ok__law_take {a_0 : Addr} {fd_0 : FuncData} (F : Fun K "_law_take" "_law_take" s__law_take a_0 fd_0) {a__law_mixed : Addr} {fd__law_mixed : FuncData} (F__law_mixed : Fun K "_law_mixed" "_law_mixed" s__law_mixed a__law_mixed fd__law_mixed) (b__law_mixed : Binds K fd__law_mixed ["_law_cell", "_law_k"] []) (G__law_mixed : FnG P w K mg base 1 a__law_mixed fd__law_mixed ["_law_cell", "_law_k"] (spM K 2 d__law_mixed))
    (g__law_mixed : mg "_law_mixed" = some (.ref a__law_mixed)) : FnG P w K mg base 2 a_0 fd_0 ["_law_source_here", "_law_size"] (spM K 2 d__law_take) := by
  refine fn_g F sc__law_take (fun vs H Q E h => h.1) (fun cdv A outer s H vs Q E hcd hr h => ⟨tS K (fun c d _ H => E c d H) ((sSeq (sIf (tBl (dOp pGe (dIxO 0 (dC (.int 0))) (dOp pPow (dC (.int 10)) (dC (.int 18)))))
  ((sSeq (sSet 2 (ofD (dOp pMod (dIxO 0 (dC (.int 0))) (dVar 1))))
  (sSeq (sPut 0 (dC (.int 0)) (dOp pDiv (dIxO 0 (dC (.int 0))) (dVar 1)))
  (sRet (eMove 2)))))
  (sNext))
  (sSeq (sPut 0 (dC (.int 2)) (fz (eOp pAdd (dIxO 0 (dC (.int 2))) (dC (.int 1)))))
  (sRet (ofD (dOp pMod (fz (eCall 2 d__law_mixed (arV (dIxO 0 (dC (.int 1))) (arV (dIxO 0 (dC (.int 2))) arNil)))) (dVar 1))))))), ?_, body_ok (N := ["_law_source_here", "_law_size", "_law_found"]) (sS _) (by decide) h⟩)
  exact (b_cons (s_if (t_cmp op_ge a_ge (d_ixO 0 d_int) (d_pow d_int d_int)) (b_cons (wS (ps_set (i := 2) sc__law_take.nd rfl (by first | exact .inl rfl | exact .inr rfl) (e_rv (d_mod (d_ixO 0 d_int) (d_var 1)))) (absSet (sE _)))
    (b_cons (wS (ps_asg (d_div (d_ixO 0 d_int) (d_var 1)) (pg_sub (pv 0) d_int set_list)) (absPut (sD _) (sD _)))
    (b_one (s_ret (e_mov 2))))) b_nil)
    (b_cons (wS (ps_asg (d_fz (e_add (d_ixO 0 d_int) d_int)) (pg_sub (pv 0) d_int set_list)) (absPut (sD _) (sD _)))
    (b_one (s_ret (e_rv (d_mod (d_fz (wE (pe_callG G__law_mixed (hr.mono (by decide)) (by rfl) g__law_mixed F__law_mixed.kp b__law_mixed (fun σ => passAt (takes_of (E := E) rfl rfl rfl rfl) σ) (ar_v (d_ixO 0 d_int) (ar_v (d_ixO 0 d_int) ar_nil))) (absCall (sAr _)))) (d_var 1)))))))
theorem ok__law_one {a_0 : Addr} {fd_0 : FuncData} (F : Fun K "_law_one" "_law_one" s__law_one a_0 fd_0) (m_len : mg "len" = none)
    {a__law_take : Addr} {fd__law_take : FuncData} (F__law_take : Fun K "_law_take" "_law_take" s__law_take a__law_take fd__law_take) (b__law_take : Binds K fd__law_take ["_law_source_here", "_law_size"] []) (G__law_take : FnG P w K mg base 2 a__law_take fd__law_take ["_law_source_here", "_law_size"] (spM K 2 d__law_take))
    (g__law_take : mg "_law_take" = some (.ref a__law_take)) : FnG P w K mg base 3 a_0 fd_0 ["_law_source_here", "_law_some"] (spM K 2 d__law_one) := by
  refine fn_g F sc__law_one (fun vs H Q E h => h.1) (fun cdv A outer s H vs Q E hcd hr h => ⟨tS K (fun c d _ H => E c d H) ((sRet (ofD (dOp pIx (dVar 1) (fz (eCall 2 d__law_take (arR 0 (arV (dCB pLen (dCons (dVar 1) dNil)) arNil)))))))), ?_, body_ok (N := ["_law_source_here", "_law_some"]) (sS _) (by decide) h⟩)
  exact (b_one (s_ret (e_rv (d_ix (d_var 1) (d_fz (wE (pe_callG G__law_take (hr.mono (by decide)) (by rfl) g__law_take F__law_take.kp b__law_take (fun σ => passAt (takes_of (E := E) rfl rfl rfl rfl) σ) (ar_r 0 (ar_v (wD (pe_callB call_len_seq (by rfl) m_len (by decide +kernel) (a_cons (d_var 1) a_nil)) (absCB (sA _) a_len)) ar_nil))) (absCall (sAr _))))))))
theorem ok__law_great {a_0 : Addr} {fd_0 : FuncData} (F : Fun K "_law_great" "_law_great" s__law_great a_0 fd_0) (m_range : mg "range" = none)
    {a__law_take : Addr} {fd__law_take : FuncData} (F__law_take : Fun K "_law_take" "_law_take" s__law_take a__law_take fd__law_take) (b__law_take : Binds K fd__law_take ["_law_source_here", "_law_size"] []) (G__law_take : FnG P w K mg base 2 a__law_take fd__law_take ["_law_source_here", "_law_size"] (spM K 2 d__law_take))
    (g__law_take : mg "_law_take" = some (.ref a__law_take)) : FnG P w K mg base 3 a_0 fd_0 ["_law_source_here", "_law_many"] (spM K 2 d__law_great) := by
  refine fn_g F sc__law_great (fun vs H Q E h => h.1) (fun cdv A outer s H vs Q E hcd hr h => ⟨tS K (fun c d _ H => E c d H) ((sSeq (sSet 2 (ofD (dC (.int 0))))
  (sSeq (sFor (iRng1M (dC (.int 5))) (bName 3)
  ((sSet 2 (ofD (fz (eOp pAdd (fz (eMul (ofD (dVar 2)) (dOp pPow (dC (.int 10)) (dC (.int 9))))) (fz (eCall 2 d__law_take (arR 0 (arV (dOp pPow (dC (.int 10)) (dC (.int 9))) arNil))))))))))
  (sRet (ofD (dOp pMod (dVar 2) (dVar 1))))))), ?_, body_ok (N := ["_law_source_here", "_law_many", "_law_found", "_law_k"]) (sS _) (by decide) h⟩)
  exact (b_cons (wS (ps_set (i := 2) sc__law_great.nd rfl (by first | exact .inl rfl | exact .inr rfl) (e_rv d_int)) (absSet (sE _)))
    (b_cons (wS (ps_for (passes_of rfl) rfl (wI (pi_range1 (by rfl) m_range (pa_cons d_int pa_nil)) (absIRng1 (sD _))) (wG (pg_name (i := 3) sc__law_great.nd rfl (by first | exact .inl rfl | exact .inr rfl)) (absName 3)) (b_one (wS (ps_set (i := 2) sc__law_great.nd rfl (by first | exact .inl rfl | exact .inr rfl) (e_rv (d_fz (e_add (d_fz (e_mul (e_rv (d_var 2)) (d_pow d_int d_int))) (d_fz (wE (pe_callG G__law_take (hr.mono (by decide)) (by rfl) g__law_take F__law_take.kp b__law_take (fun σ => passAt (takes_of (E := E) rfl rfl rfl rfl) σ) (ar_r 0 (ar_v (d_pow d_int d_int) ar_nil))) (absCall (sAr _)))))))) (absSet (sE _))))) (absFor (sI _) (sG _ _) (sS _)))
    (b_one (s_ret (e_rv (d_mod (d_var 2) (d_var 1)))))))
theorem ok__law_shared {a_0 : Addr} {fd_0 : FuncData} (F : Fun K "_law_shared" "_law_shared" s__law_shared a_0 fd_0) (m_range : mg "range" = none)
    (m_tuple : mg "tuple" = none)
    {a__law_take : Addr} {fd__law_take : FuncData} (F__law_take : Fun K "_law_take" "_law_take" s__law_take a__law_take fd__law_take) (b__law_take : Binds K fd__law_take ["_law_source_here", "_law_size"] []) (G__law_take : FnG P w K mg base 2 a__law_take fd__law_take ["_law_source_here", "_law_size"] (spM K 2 d__law_take))
    (g__law_take : mg "_law_take" = some (.ref a__law_take)) : FnG P w K mg base 3 a_0 fd_0 ["_law_source_here", "_law_crowd", "_law_total", "_law_is_heaped"] (spM K 4 d__law_shared) := by
  refine fn_g F sc__law_shared (fun vs H Q E h => h.1) (fun cdv A outer s H vs Q E hcd hr h => ⟨tS K (fun c d _ H => E c d H) ((sSeq (sSet 4 (eMul (eLst (dCons (dC (.int 0)) dNil)) (dVar 1)))
  (sSeq (sIf (tBl (dVar 3))
  ((sSeq (sPut 4 (fz (eCall 2 d__law_take (arR 0 (arV (dVar 1) arNil)))) (dOp pSub (dVar 2) (dC (.int 2))))
  (sSet 2 (ofD (dC (.int 2))))))
  (sNext))
  (sSeq (sFor (iRng1M (dVar 2)) (bName 5)
  ((sSeq (sSet 6 (ofD (fz (eCall 2 d__law_take (arR 0 (arV (dVar 1) arNil))))))
  (sPut 4 (dVar 6) (fz (eOp pAdd (dIxO 4 (dVar 6)) (dC (.int 1))))))))
  (sRet (ofD (dCB pTupOf (dCons (dVar 4) dNil)))))))), ?_, body_ok (N := ["_law_source_here", "_law_crowd", "_law_total", "_law_is_heaped", "_law_found", "_law_grain", "_law_at"]) (sS _) (by decide) h⟩)
  exact (b_cons (wS (ps_set (i := 4) sc__law_shared.nd rfl (by first | exact .inl rfl | exact .inr rfl) (e_mul (e_lst (a_cons d_int a_nil)) (d_var 1))) (absSet (sE _)))
    (b_cons (s_if (t_val (d_var 3)) (b_cons (wS (ps_asg (d_sub (d_var 2) d_int) (pg_sub (pv 4) (d_fz (wE (pe_callG G__law_take (hr.mono (by decide)) (by rfl) g__law_take F__law_take.kp b__law_take (fun σ => passAt (takes_of (E := E) rfl rfl rfl rfl) σ) (ar_r 0 (ar_v (d_var 1) ar_nil))) (absCall (sAr _)))) set_list)) (absPut (sD _) (sD _)))
    (b_one (wS (ps_set (i := 2) sc__law_shared.nd rfl (by first | exact .inl rfl | exact .inr rfl) (e_rv d_int)) (absSet (sE _))))) b_nil)
    (b_cons (wS (ps_for (passes_of rfl) rfl (wI (pi_range1 (by rfl) m_range (pa_cons (d_var 2) pa_nil)) (absIRng1 (sD _))) (wG (pg_name (i := 5) sc__law_shared.nd rfl (by first | exact .inl rfl | exact .inr rfl)) (absName 5)) (b_cons (wS (ps_set (i := 6) sc__law_shared.nd rfl (by first | exact .inl rfl | exact .inr rfl) (e_rv (d_fz (wE (pe_callG G__law_take (hr.mono (by decide)) (by rfl) g__law_take F__law_take.kp b__law_take (fun σ => passAt (takes_of (E := E) rfl rfl rfl rfl) σ) (ar_r 0 (ar_v (d_var 1) ar_nil))) (absCall (sAr _)))))) (absSet (sE _)))
    (b_one (wS (ps_asg (d_fz (e_add (d_ixO 4 (d_var 6)) d_int)) (pg_sub (pv 4) (d_var 6) set_list)) (absPut (sD _) (sD _)))))) (absFor (sI _) (sG _ _) (sS _)))
    (b_one (s_ret (e_rv (wD (pe_callTy call_tuple_of (by rfl) m_tuple (by decide +kernel) (a_cons (d_var 4) a_nil)) (absCB (sA _) a_tupOf))))))))
theorem ok__law_pours {a_0 : Addr} {fd_0 : FuncData} (F : Fun K "_law_pours" "_law_pours" s__law_pours a_0 fd_0) (m_range : mg "range" = none)
    (m_tuple : mg "tuple" = none)
    {a__law_great : Addr} {fd__law_great : FuncData} (F__law_great : Fun K "_law_great" "_law_great" s__law_great a__law_great fd__law_great) (b__law_great : Binds K fd__law_great ["_law_source_here", "_law_many"] []) (G__law_great : FnG P w K mg base 3 a__law_great fd__law_great ["_law_source_here", "_law_many"] (spM K 2 d__law_great))
    (g__law_great : mg "_law_great" = some (.ref a__law_great))
    {a__law_shared : Addr} {fd__law_shared : FuncData} (F__law_shared : Fun K "_law_shared" "_law_shared" s__law_shared a__law_shared fd__law_shared) (b__law_shared : Binds K fd__law_shared ["_law_source_here", "_law_crowd", "_law_total", "_law_is_heaped"] []) (G__law_shared : FnG P w K mg base 3 a__law_shared fd__law_shared ["_law_source_here", "_law_crowd", "_law_total", "_law_is_heaped"] (spM K 4 d__law_shared))
    (g__law_shared : mg "_law_shared" = some (.ref a__law_shared))
    {a__law_take : Addr} {fd__law_take : FuncData} (F__law_take : Fun K "_law_take" "_law_take" s__law_take a__law_take fd__law_take) (b__law_take : Binds K fd__law_take ["_law_source_here", "_law_size"] []) (G__law_take : FnG P w K mg base 2 a__law_take fd__law_take ["_law_source_here", "_law_size"] (spM K 2 d__law_take))
    (g__law_take : mg "_law_take" = some (.ref a__law_take)) : FnG P w K mg base 4 a_0 fd_0 ["_law_source_here", "_law_crowd", "_law_beats"] (spM K 3 d__law_pours) := by
  refine fn_g F sc__law_pours (fun vs H Q E h => h.1) (fun cdv A outer s H vs Q E hcd hr h => ⟨tS K (fun c d _ H => E c d H) ((sSeq (sSet 3 (ofD (fz (eCall 2 d__law_take (arR 0 (arV (dC (.int 5)) arNil))))))
  (sSeq (sSet 4 (ofD (dOp pIx (fz (eLst (dCons (dC (.int 4)) (dCons (dC (.int 2)) (dCons (dOp pPow (dC (.int 10)) (dC (.int 30))) (dCons (dC (.int 6)) (dCons (dC (.int 9)) dNil))))))) (dVar 3))))
  (sSeq (sSet 5 (eLst dNil))
  (sSeq (sFor (iRng1M (dVar 2)) (bName 6)
  ((sIf (tBl (dOp pLt (dVar 3) (dC (.int 3))))
  ((sExpr (eMut 5 mApp (dCons (dCB pTupOf (dCons (fz (eLc (iRng1M (dVar 1)) [7] (bName 7) tYesM (fz (eCall 2 d__law_great (arR 0 (arV (dVar 4) arNil)))))) dNil)) dNil))))
  ((sExpr (eMut 5 mApp (dCons (fz (eCall 4 d__law_shared (arR 0 (arV (dVar 1) (arV (dVar 4) (arV (dOp pEq (dVar 3) (dC (.int 4))) arNil)))))) dNil)))))))
  (sRet (eMove 5))))))), ?_, body_ok (N := ["_law_source_here", "_law_crowd", "_law_beats", "_law_way", "_law_peak", "_law_found", "_law_beat", "_law_cup"]) (sS _) (by decide) h⟩)
  exact (b_cons (wS (ps_set (i := 3) sc__law_pours.nd rfl (by first | exact .inl rfl | exact .inr rfl) (e_rv (d_fz (wE (pe_callG G__law_take (hr.mono (by decide)) (by rfl) g__law_take F__law_take.kp b__law_take (fun σ => passAt (takes_of (E := E) rfl rfl rfl rfl) σ) (ar_r 0 (ar_v d_int ar_nil))) (absCall (sAr _)))))) (absSet (sE _)))
    (b_cons (wS (ps_set (i := 4) sc__law_pours.nd rfl (by first | exact .inl rfl | exact .inr rfl) (e_rv (d_ix (d_fz (e_lst (a_cons d_int (a_cons d_int (a_cons (d_pow d_int d_int) (a_cons d_int (a_cons d_int a_nil))))))) (d_var 3)))) (absSet (sE _)))
    (b_cons (wS (ps_set (i := 5) sc__law_pours.nd rfl (by first | exact .inl rfl | exact .inr rfl) (e_lst a_nil)) (absSet (sE _)))
    (b_cons (wS (ps_for (passes_of rfl) rfl (wI (pi_range1 (by rfl) m_range (pa_cons (d_var 2) pa_nil)) (absIRng1 (sD _))) (wG (pg_name (i := 6) sc__law_pours.nd rfl (by first | exact .inl rfl | exact .inr rfl)) (absName 6)) (b_one (s_if (t_cmp op_lt a_lt (d_var 3) d_int) (b_one (wS (ps_expr (wE (pe_bm PySem.F.plainAttrs_list PySem.F.slot_list_append PySem.F.type_list_append mt_append (pv 5) (a_cons (wD (pe_callTy call_tuple_of (by rfl) m_tuple (by decide +kernel) (a_cons (d_fz (wE (pe_lc (own := [("_law_cup", 7)]) rfl sc__law_pours.nd (wI (pi_range1 (by rfl) m_range (pa_cons (d_var 1) pa_nil)) (absIRng1 (sD _))) (blkOk_by (own := [("_law_cup", 7)]) (N := ["_law_source_here", "_law_crowd", "_law_beats", "_law_way", "_law_peak", "_law_found", "_law_beat", "_law_cup"]) (sc := defScope s__law_pours) (by decide +kernel)) (fun _ _ _ _ _ => (wG (pg_name (i := 7) sc__law_pours.nd rfl (by first | exact .inl rfl | exact .inr rfl)) (absName 7))) (fun _ _ _ _ _ => pts_nil) (fun _ _ _ _ _ => (d_fz (wE (pe_callG G__law_great (hr.mono (by decide)) (by rfl) g__law_great F__law_great.kp b__law_great (fun σ => passAt takes0 σ) (ar_r 0 (ar_v (d_var 4) ar_nil))) (absCall (sAr _)))))) (absLc (sI _) (sG _ _) (by decide) absYes (sD _)))) a_nil)) (absCB (sA _) a_tupOf)) a_nil)) (absMut (sA _) am_app))) (absExpr (sE _)))) (b_one (wS (ps_expr (wE (pe_bm PySem.F.plainAttrs_list PySem.F.slot_list_append PySem.F.type_list_append mt_append (pv 5) (a_cons (d_fz (wE (pe_callG G__law_shared (hr.mono (by decide)) (by rfl) g__law_shared F__law_shared.kp b__law_shared (fun σ => passAt (takes_of (E := E) rfl rfl rfl rfl) σ) (ar_r 0 (ar_v (d_var 1) (ar_v (d_var 4) (ar_v (d_cmp (op_eqD hr.units) a_eq (d_var 3) d_int) ar_nil))))) (absCall (sAr _)))) a_nil)) (absMut (sA _) am_app))) (absExpr (sE _))))))) (absFor (sI _) (sG _ _) (sS _)))
    (b_one (s_ret (e_mov 5)))))))
theorem ok__law_shuffled {a_0 : Addr} {fd_0 : FuncData} (F : Fun K "_law_shuffled" "_law_shuffled" s__law_shuffled a_0 fd_0) (m_len : mg "len" = none)
    (m_list : mg "list" = none)
    {a__law_take : Addr} {fd__law_take : FuncData} (F__law_take : Fun K "_law_take" "_law_take" s__law_take a__law_take fd__law_take) (b__law_take : Binds K fd__law_take ["_law_source_here", "_law_size"] []) (G__law_take : FnG P w K mg base 2 a__law_take fd__law_take ["_law_source_here", "_law_size"] (spM K 2 d__law_take))
    (g__law_take : mg "_law_take" = some (.ref a__law_take)) : FnG P w K mg base 3 a_0 fd_0 ["_law_source_here", "_law_some"] (spM K 2 d__law_shuffled) := by
  refine fn_g F sc__law_shuffled (fun vs H Q E h => h.1) (fun cdv A outer s H vs Q E hcd hr h => ⟨tS K (fun c d _ H => E c d H) ((sSeq (sSet 2 (eCB pListOf (dCons (dVar 1) dNil)))
  (sSeq (sSet 3 (eLst dNil))
  (sSeq (sWhile (tBl (dBorrow 2 fun r => noEx (dOp pNeE (dVal 2) (fz (eLst dNil)) r)))
  ((sExpr (eMut 3 mApp (dCons (fz (eMut 2 mPop (dCons (fz (eCall 2 d__law_take (arR 0 (arV (dBorrow 2 fun r => noEx ((dCB pLen (dCons (dVal 2) dNil)) r)) arNil)))) dNil))) dNil)))))
  (sRet (eMove 3)))))), ?_, body_ok (N := ["_law_source_here", "_law_some", "_law_pile", "_law_found"]) (sS _) (by decide) h⟩)
  exact (b_cons (wS (ps_set (i := 2) sc__law_shuffled.nd rfl (by first | exact .inl rfl | exact .inr rfl) (wE (pe_callTy call_list_of (by rfl) m_list (by decide +kernel) (a_cons (d_var 1) a_nil)) (absCBR (sA _) a_listOf))) (absSet (sE _)))
    (b_cons (wS (ps_set (i := 3) sc__law_shuffled.nd rfl (by first | exact .inl rfl | exact .inr rfl) (e_lst a_nil)) (absSet (sE _)))
    (b_cons (s_while (passes_of rfl) (wT (pt_cmpR (op_neE hr.units) (d_val 2) (d_fz (e_lst a_nil)) (by first | exact nomark _ | rfl)) (absTest (absBorrow (absOp (sD _) (sD _) a_neE) inferInstance))) (b_one (wS (ps_expr (wE (pe_bm PySem.F.plainAttrs_list PySem.F.slot_list_append PySem.F.type_list_append mt_append (pv 3) (a_cons (d_fz (wE (pe_bm PySem.F.plainAttrs_list PySem.F.slot_list_pop PySem.F.type_list_pop mt_popAt (pv 2) (a_cons (d_fz (wE (pe_callG G__law_take (hr.mono (by decide)) (by rfl) g__law_take F__law_take.kp b__law_take (fun σ => passAt (takes_of (E := E) rfl rfl rfl rfl) σ) (ar_r 0 (ar_v (d_bor 2 (wD (pe_callB call_len_seq (by rfl) m_len (by decide +kernel) (a_cons (d_val 2) a_nil)) (absCB (sA _) a_len))) ar_nil))) (absCall (sAr _)))) a_nil)) (absMut (sA _) am_pop))) a_nil)) (absMut (sA _) am_app))) (absExpr (sE _)))))
    (b_one (s_ret (e_mov 3))))))
theorem ok__law_rows {a_0 : Addr} {fd_0 : FuncData} (F : Fun K "_law_rows" "_law_rows" s__law_rows a_0 fd_0) (m_list : mg "list" = none)
    (m_range : mg "range" = none)
    (m_tuple : mg "tuple" = none)
    {a__law_shuffled : Addr} {fd__law_shuffled : FuncData} (F__law_shuffled : Fun K "_law_shuffled" "_law_shuffled" s__law_shuffled a__law_shuffled fd__law_shuffled) (b__law_shuffled : Binds K fd__law_shuffled ["_law_source_here", "_law_some"] []) (G__law_shuffled : FnG P w K mg base 3 a__law_shuffled fd__law_shuffled ["_law_source_here", "_law_some"] (spM K 2 d__law_shuffled))
    (g__law_shuffled : mg "_law_shuffled" = some (.ref a__law_shuffled))
    {a__law_take : Addr} {fd__law_take : FuncData} (F__law_take : Fun K "_law_take" "_law_take" s__law_take a__law_take fd__law_take) (b__law_take : Binds K fd__law_take ["_law_source_here", "_law_size"] []) (G__law_take : FnG P w K mg base 2 a__law_take fd__law_take ["_law_source_here", "_law_size"] (spM K 2 d__law_take))
    (g__law_take : mg "_law_take" = some (.ref a__law_take)) : FnG P w K mg base 4 a_0 fd_0 ["_law_source_here", "_law_crowd", "_law_beats"] (spM K 3 d__law_rows) := by
  refine fn_g F sc__law_rows (fun vs H Q E h => h.1) (fun cdv A outer s H vs Q E hcd hr h => ⟨tS K (fun c d _ H => E c d H) ((sSeq (sSet 3 (eLst dNil))
  (sSeq (sFor (iRng1M (dVar 2)) (bName 4)
  ((sSeq (sSet 5 (ofD (fz (eCut (fz (eCall 2 d__law_shuffled (arR 0 (arV (fz (eLR1 (dVar 1))) arNil)))) oNone (oSome (fz (eCall 2 d__law_take (arR 0 (arV (fz (eOp pAdd (dVar 1) (dC (.int 1)))) arNil)))))))))
  (sExpr (eMut 3 mApp (dCons (dOp pIx (fz (eLst (dCons (dVar 5) (dCons (dCB pTupOf (dCons (dVar 5) dNil)) dNil)))) (fz (eCall 2 d__law_take (arR 0 (arV (dC (.int 2)) arNil))))) dNil))))))
  (sRet (eMove 3))))), ?_, body_ok (N := ["_law_source_here", "_law_crowd", "_law_beats", "_law_found", "_law_beat", "_law_some"]) (sS _) (by decide) h⟩)
  exact (b_cons (wS (ps_set (i := 3) sc__law_rows.nd rfl (by first | exact .inl rfl | exact .inr rfl) (e_lst a_nil)) (absSet (sE _)))
    (b_cons (wS (ps_for (passes_of rfl) rfl (wI (pi_range1 (by rfl) m_range (pa_cons (d_var 2) pa_nil)) (absIRng1 (sD _))) (wG (pg_name (i := 4) sc__law_rows.nd rfl (by first | exact .inl rfl | exact .inr rfl)) (absName 4)) (b_cons (wS (ps_set (i := 5) sc__law_rows.nd rfl (by first | exact .inl rfl | exact .inr rfl) (e_rv (d_fz (e_cut (d_fz (wE (pe_callG G__law_shuffled (hr.mono (by decide)) (by rfl) g__law_shuffled F__law_shuffled.kp b__law_shuffled (fun σ => passAt (takes_of (E := E) rfl rfl rfl rfl) σ) (ar_r 0 (ar_v (d_fz (wE (pe_listRg rfl (by rfl) m_list (prg_1 (by rfl) m_range (d_var 1))) (absLR1 (sD _)))) ar_nil))) (absCall (sAr _)))) o_none (o_some (d_fz (wE (pe_callG G__law_take (hr.mono (by decide)) (by rfl) g__law_take F__law_take.kp b__law_take (fun σ => passAt (takes_of (E := E) rfl rfl rfl rfl) σ) (ar_r 0 (ar_v (d_fz (e_add (d_var 1) d_int)) ar_nil))) (absCall (sAr _))))))))) (absSet (sE _)))
    (b_one (wS (ps_expr (wE (pe_bm PySem.F.plainAttrs_list PySem.F.slot_list_append PySem.F.type_list_append mt_append (pv 3) (a_cons (d_ix (d_fz (e_lst (a_cons (d_var 5) (a_cons (wD (pe_callTy call_tuple_of (by rfl) m_tuple (by decide +kernel) (a_cons (d_var 5) a_nil)) (absCB (sA _) a_tupOf)) a_nil)))) (d_fz (wE (pe_callG G__law_take (hr.mono (by decide)) (by rfl) g__law_take F__law_take.kp b__law_take (fun σ => passAt (takes_of (E := E) rfl rfl rfl rfl) σ) (ar_r 0 (ar_v d_int ar_nil))) (absCall (sAr _))))) a_nil)) (absMut (sA _) am_app))) (absExpr (sE _)))))) (absFor (sI _) (sG _ _) (sS _)))
    (b_one (s_ret (e_mov 3)))))
theorem ok__law_source {a_0 : Addr} {fd_0 : FuncData} (F : Fun K "_law_source" "_law_source" s__law_source a_0 fd_0)  : FnG P w K mg base 1 a_0 fd_0 ["_law_cell"] (spM K 1 d__law_source) := by
  refine fn_g F sc__law_source (fun vs H Q E h => h.1) (fun cdv A outer s H vs Q E hcd hr h => ⟨tS K (fun c d _ H => E c d H) ((sRet (eLst (dCons (dVar 0) (dCons (dVar 0) (dCons (dC (.int 0)) dNil)))))), ?_, body_ok (N := ["_law_cell"]) (sS _) (by decide) h⟩)
  exact (b_one (s_ret (e_lst (a_cons (d_var 0) (a_cons (d_var 0) (a_cons d_int a_nil))))))
theorem ok__law_worst {a_0 : Addr} {fd_0 : FuncData} (F : Fun K "_law_worst" "_law_worst" s__law_worst a_0 fd_0) (m_enumerate : mg "enumerate" = none)
    (m_int : mg "int" = none)
    (m_len : mg "len" = none)
    (m_max : mg "max" = none)
    (m_zip : mg "zip" = none) : FnG P w K mg base 1 a_0 fd_0 ["_law_sheet", "_law_lines"] (spM K 2 d__law_worst) := by
  refine fn_g F sc__law_worst (fun vs H Q E h => h.1) (fun cdv A outer s H vs Q E hcd hr h => ⟨tS K (fun c d _ H => E c d H) ((sSeq (sSet 2 (ofD (fz (eMul (eLst (dCons (dC (.int 0)) dNil)) (dCB pLen (dCons (dOp pIx (dVar 0) (dC (.int 0))) dNil))))))
  (sSeq (sSet 3 (ofD (dC (.int 0))))
  (sSeq (sFor (iZipB false (dVar 0) (dVar 1)) (bTup 2 (bCons (bName 4) (bCons (bName 5) bNil)))
  ((sSeq (sSet 2 (ofD (fz (eLc (iZipB false (dVar 2) (dVar 4)) [6, 7] (bTup 2 (bCons (bName 6) (bCons (bName 7) bNil))) tYesM (fz (eOp pAdd (dVar 6) (dVar 7)))))))
  (sSeq (sSet 3 (ofD (dCB pMax2 (dCons (dVar 3) (dCons (dCB pMaxA (dCons (dVar 2) dNil)) dNil)))))
  (sSet 2 (ofD (fz (eLc (iEnumA (dVar 2)) [8, 6] (bTup 2 (bCons (bName 8) (bCons (bName 6) bNil))) tYesM (fz (eMul (ofD (dVar 6)) (dCB pInt1 (dCons (dOp (pIn true) (dVar 8) (dVar 5)) dNil))))))))))))
  (sRet (eMove 3)))))), ?_, body_ok (N := ["_law_sheet", "_law_lines", "_law_held", "_law_found", "_law_pour", "_law_numbers", "_law_one_here", "_law_more", "_law_cup"]) (sS _) (by decide) h⟩)
  exact (b_cons (wS (ps_set (i := 2) sc__law_worst.nd rfl (by first | exact .inl rfl | exact .inr rfl) (e_rv (d_fz (e_mul (e_lst (a_cons d_int a_nil)) (wD (pe_callB call_len_seq (by rfl) m_len (by decide +kernel) (a_cons (d_ix (d_var 0) d_int) a_nil)) (absCB (sA _) a_len)))))) (absSet (sE _)))
    (b_cons (wS (ps_set (i := 3) sc__law_worst.nd rfl (by first | exact .inl rfl | exact .inr rfl) (e_rv d_int)) (absSet (sE _)))
    (b_cons (wS (ps_for (passes_of rfl) rfl (wI (pi_zipB (by rfl) m_zip (pa_cons (d_var 0) (pa_cons (d_var 1) pa_nil))) (absZipB (sD _) (sD _))) (wG (pg_tup (by rfl) (g_cons (wG (pg_name (i := 4) sc__law_worst.nd rfl (by first | exact .inl rfl | exact .inr rfl)) (absName 4)) (g_cons (wG (pg_name (i := 5) sc__law_worst.nd rfl (by first | exact .inl rfl | exact .inr rfl)) (absName 5)) g_nil))) (absGTup (sGs _ _))) (b_cons (wS (ps_setLc (i := 2) (own := [("_law_one_here", 6), ("_law_more", 7)]) rfl sc__law_worst.nd rfl rfl (sw_true rfl rfl rfl (by decide +kernel)) (wI (pi_zipB (by rfl) m_zip (pa_cons (d_var 2) (pa_cons (d_var 4) pa_nil))) (absZipB (sD _) (sD _))) (blkOk_by (own := [("_law_one_here", 6), ("_law_more", 7)]) (N := ["_law_sheet", "_law_lines", "_law_held", "_law_found", "_law_pour", "_law_numbers", "_law_one_here", "_law_more", "_law_cup"]) (sc := defScope s__law_worst) (by decide +kernel)) (fun _ _ _ _ _ => (wG (pg_tup (by rfl) (g_cons (wG (pg_name (i := 6) sc__law_worst.nd rfl (by first | exact .inl rfl | exact .inr rfl)) (absName 6)) (g_cons (wG (pg_name (i := 7) sc__law_worst.nd rfl (by first | exact .inl rfl | exact .inr rfl)) (absName 7)) g_nil))) (absGTup (sGs _ _)))) (fun _ _ _ _ _ => pts_nil) (fun _ _ _ _ _ => (d_fz (e_add (d_var 6) (d_var 7))))) (absSet (AbsD.rv (AbsE.fz (absLc (sI _) (sG _ _) (by decide) absYes (sD _))))))
    (b_cons (wS (ps_set (i := 3) sc__law_worst.nd rfl (by first | exact .inl rfl | exact .inr rfl) (e_rv (wD (pe_callB (call_max2 rfl) (by rfl) m_max (by decide +kernel) (a_cons (d_var 3) (a_cons (wD (pe_callB (cr_maxA rfl) (by rfl) m_max (by decide +kernel) (a_cons (d_var 2) a_nil)) (absCB (sA _) a_maxA)) a_nil))) (absCB (sA _) a_max2)))) (absSet (sE _)))
    (b_one (wS (ps_setLc (i := 2) (own := [("_law_cup", 8), ("_law_one_here", 6)]) rfl sc__law_worst.nd rfl rfl (sw_true rfl rfl rfl (by decide +kernel)) (wI (pi_enumT (by rfl) m_enumerate (pa_cons (d_var 2) pa_nil)) (absIEnumA (sD _))) (blkOk_by (own := [("_law_cup", 8), ("_law_one_here", 6)]) (N := ["_law_sheet", "_law_lines", "_law_held", "_law_found", "_law_pour", "_law_numbers", "_law_one_here", "_law_more", "_law_cup"]) (sc := defScope s__law_worst) (by decide +kernel)) (fun _ _ _ _ _ => (wG (pg_tup (by rfl) (g_cons (wG (pg_name (i := 8) sc__law_worst.nd rfl (by first | exact .inl rfl | exact .inr rfl)) (absName 8)) (g_cons (wG (pg_name (i := 6) sc__law_worst.nd rfl (by first | exact .inl rfl | exact .inr rfl)) (absName 6)) g_nil))) (absGTup (sGs _ _)))) (fun _ _ _ _ _ => pts_nil) (fun _ _ _ _ _ => (d_fz (e_mul (e_rv (d_var 6)) (wD (pe_callTy call_int1 (by rfl) m_int (by decide +kernel) (a_cons (d_cmp op_notIn_seq (a_in true) (d_var 8) (d_var 5)) a_nil)) (absCB (sA _) a_int1)))))) (absSet (AbsD.rv (AbsE.fz (absLc (sI _) (sG _ _) (by decide) absYes (sD _)))))))))) (absFor (sI _) (sG _ _) (sS _)))
    (b_one (s_ret (e_mov 3))))))
theorem ok_poured_behind {a_0 : Addr} {fd_0 : FuncData} (F : Fun K "poured_behind" "poured_behind" s_poured_behind a_0 fd_0) (m_enumerate : mg "enumerate" = none)
    (m_int : mg "int" = none)
    (m_tuple : mg "tuple" = none)
    (m_zip : mg "zip" = none) : FnG P w K mg base 1 a_0 fd_0 ["standing", "numbers", "pour"] (spM K 3 d_poured_behind) := by
  refine fn_g F sc_poured_behind (fun vs H Q E h => h.1) (fun cdv A outer s H vs Q E hcd hr h => ⟨tS K (fun c d _ H => E c d H) ((sRet (ofD (dCB pTupOf (dCons (fz (eLc (iEnumZip (dVar 0) (dVar 2)) [3, 4, 5] (bTup 2 (bCons (bName 3) (bCons (bTup 2 (bCons (bName 4) (bCons (bName 5) bNil))) bNil))) tYesM (fz (eOp pAdd (dVar 5) (fz (eMul (ofD (dVar 4)) (dCB pInt1 (dCons (dOp (pIn true) (dVar 3) (dVar 1)) dNil)))))))) dNil))))), ?_, body_ok (N := ["standing", "numbers", "pour", "cup", "held", "more"]) (sS _) (by decide) h⟩)
  exact (b_one (s_ret (e_rv (wD (pe_callTy call_tuple_of (by rfl) m_tuple (by decide +kernel) (a_cons (d_fz (wE (pe_lc (own := [("cup", 3), ("held", 4), ("more", 5)]) rfl sc_poured_behind.nd (wI (pi_enumZ (by rfl) m_enumerate (by rfl) m_zip (pa_cons (d_var 0) (pa_cons (d_var 2) pa_nil))) (absEnumZip (sD _) (sD _))) (blkOk_by (own := [("cup", 3), ("held", 4), ("more", 5)]) (N := ["standing", "numbers", "pour", "cup", "held", "more"]) (sc := defScope s_poured_behind) (by decide +kernel)) (fun _ _ _ _ _ => (wG (pg_tup (by rfl) (g_cons (wG (pg_name (i := 3) sc_poured_behind.nd rfl (by first | exact .inl rfl | exact .inr rfl)) (absName 3)) (g_cons (wG (pg_tup (by rfl) (g_cons (wG (pg_name (i := 4) sc_poured_behind.nd rfl (by first | exact .inl rfl | exact .inr rfl)) (absName 4)) (g_cons (wG (pg_name (i := 5) sc_poured_behind.nd rfl (by first | exact .inl rfl | exact .inr rfl)) (absName 5)) g_nil))) (absGTup (sGs _ _))) g_nil))) (absGTup (sGs _ _)))) (fun _ _ _ _ _ => pts_nil) (fun _ _ _ _ _ => (d_fz (e_add (d_var 5) (d_fz (e_mul (e_rv (d_var 4)) (wD (pe_callTy call_int1 (by rfl) m_int (by decide +kernel) (a_cons (d_cmp op_notIn_seq (a_in true) (d_var 3) (d_var 1)) a_nil)) (absCB (sA _) a_int1)))))))) (absLc (sI _) (sG _ _) (by decide) absYes (sD _)))) a_nil)) (absCB (sA _) a_tupOf)))))
theorem ok_is_whole {a_0 : Addr} {fd_0 : FuncData} (F : Fun K "is_whole" "is_whole" s_is_whole a_0 fd_0) (m_bool : mg "bool" = none)
    (m_int : mg "int" = none)
    (m_isinstance : mg "isinstance" = none) : FnG P w K mg base 1 a_0 fd_0 ["thing"] (spM K 1 d_is_whole) := by
  refine fn_g F sc_is_whole (fun vs H Q E h => h.1) (fun cdv A outer s H vs Q E hcd hr h => ⟨tS K (fun c d _ H => E c d H) ((sRet (ofD (dAnd (dIsi "int" (dVar 0)) (dNot (dIsi "bool" (dVar 0))))))), ?_, body_ok (N := ["thing"]) (sS _) (by decide) h⟩)
  exact (b_one (s_ret (e_rv (d_and (wD (pe_callB call_isi (by rfl) m_isinstance (by decide +kernel) (pa_cons (d_var 0) (pa_cons (pe_bltn (v := V.ty "int") (u := Value.type "int") (by rfl) m_int (by decide +kernel) rfl) pa_nil))) (absIsi (T := "int") (sD _))) (d_one (d_not (wD (pe_callB call_isi (by rfl) m_isinstance (by decide +kernel) (pa_cons (d_var 0) (pa_cons (pe_bltn (v := V.ty "bool") (u := Value.type "bool") (by rfl) m_bool (by decide +kernel) rfl) pa_nil))) (absIsi (T := "bool") (sD _)))))))))
theorem ok_is_count {a_0 : Addr} {fd_0 : FuncData} (F : Fun K "is_count" "is_count" s_is_count a_0 fd_0) {a_is_whole : Addr} {fd_is_whole : FuncData} (F_is_whole : Fun K "is_whole" "is_whole" s_is_whole a_is_whole fd_is_whole) (b_is_whole : Binds K fd_is_whole ["thing"] []) (G_is_whole : FnG P w K mg base 1 a_is_whole fd_is_whole ["thing"] (spM K 1 d_is_whole))
    (g_is_whole : mg "is_whole" = some (.ref a_is_whole)) : FnG P w K mg base 2 a_0 fd_0 ["thing"] (spM K 1 d_is_count) := by
  refine fn_g F sc_is_count (fun vs H Q E h => h.1) (fun cdv A outer s H vs Q E hcd hr h => ⟨tS K (fun c d _ H => E c d H) ((sRet (ofD (dAnd (fz (eCall 1 d_is_whole (arV (dVar 0) arNil))) (dOp pGe (dVar 0) (dC (.int 0))))))), ?_, body_ok (N := ["thing"]) (sS _) (by decide) h⟩)
  exact (b_one (s_ret (e_rv (d_and (d_fz (wE (pe_callG G_is_whole (hr.mono (by decide)) (by rfl) g_is_whole F_is_whole.kp b_is_whole (fun σ => passAt (takes_of (E := E) rfl rfl rfl rfl) σ) (ar_v (d_var 0) ar_nil)) (absCall (sAr _)))) (d_one (d_cmp op_ge a_ge (d_var 0) d_int))))))
theorem ok_are_counts {a_0 : Addr} {fd_0 : FuncData} (F : Fun K "are_counts" "are_counts" s_are_counts a_0 fd_0) (m_all : mg "all" = none)
    (m_isinstance : mg "isinstance" = none)
    (m_len : mg "len" = none)
    (m_tuple : mg "tuple" = none)
    {a_is_count : Addr} {fd_is_count : FuncData} (F_is_count : Fun K "is_count" "is_count" s_is_count a_is_count fd_is_count) (b_is_count : Binds K fd_is_count ["thing"] []) (G_is_count : FnG P w K mg base 2 a_is_count fd_is_count ["thing"] (spM K 1 d_is_count))
    (g_is_count : mg "is_count" = some (.ref a_is_count)) : FnG P w K mg base 3 a_0 fd_0 ["thing", "many"] (spM K 2 d_are_counts) := by
  refine fn_g F sc_are_counts (fun vs H Q E h => h.1) (fun cdv A outer s H vs Q E hcd hr h => ⟨tS K (fun c d _ H => E c d H) ((sRet (ofD (dAnd (dIsi "tuple" (dVar 0)) (dAnd (dOp pEq (dCB pLen (dCons (dVar 0) dNil)) (dVar 1)) (dCB pAll (dCons (fz (eLc (iSeqM (dVar 0)) [2] (bName 2) tYesM (fz (eCall 1 d_is_count (arV (dVar 2) arNil))))) dNil))))))), ?_, body_ok (N := ["thing", "many", "one"]) (sS _) (by decide) h⟩)
  exact (b_one (s_ret (e_rv (d_and (wD (pe_callB call_isi (by rfl) m_isinstance (by decide +kernel) (pa_cons (d_var 0) (pa_cons (pe_bltn (v := V.ty "tuple") (u := Value.type "tuple") (by rfl) m_tuple (by decide +kernel) rfl) pa_nil))) (absIsi (T := "tuple") (sD _))) (d_and (d_cmp (op_eqD hr.units) a_eq (wD (pe_callB call_len_seq (by rfl) m_len (by decide +kernel) (a_cons (d_var 0) a_nil)) (absCB (sA _) a_len)) (d_var 1)) (d_one (wD (pe_callB (cr_all rfl) (by rfl) m_all (by decide +kernel) (a_cons (d_fz (wE (pe_lc (own := [("one", 2)]) rfl sc_are_counts.nd (wI (pi_seq (d_var 0)) (absISeq (sD _))) (blkOk_by (own := [("one", 2)]) (N := ["thing", "many", "one"]) (sc := defScope s_are_counts) (by decide +kernel)) (fun _ _ _ _ _ => (wG (pg_name (i := 2) sc_are_counts.nd rfl (by first | exact .inl rfl | exact .inr rfl)) (absName 2))) (fun _ _ _ _ _ => pts_nil) (fun _ _ _ _ _ => (d_fz (wE (pe_callG G_is_count (hr.mono (by decide)) (by rfl) g_is_count F_is_count.kp b_is_count (fun σ => passAt takes0 σ) (ar_v (d_var 2) ar_nil)) (absCall (sAr _)))))) (absLc (sI _) (sG _ _) (by decide) absYes (sD _)))) a_nil)) (absCB (sA _) a_all))))))))
theorem ok_are_amounts {a_0 : Addr} {fd_0 : FuncData} (F : Fun K "are_amounts" "are_amounts" s_are_amounts a_0 fd_0) (m_isinstance : mg "isinstance" = none)
    (m_len : mg "len" = none)
    (m_tuple : mg "tuple" = none)
    {t_LEAST_CUPS : Tok} (g_LEAST_CUPS : mg "LEAST_CUPS" = some (.int 2 t_LEAST_CUPS))
    {t_MOST_CUPS : Tok} (g_MOST_CUPS : mg "MOST_CUPS" = some (.int 40 t_MOST_CUPS))
    {a_are_counts : Addr} {fd_are_counts : FuncData} (F_are_counts : Fun K "are_counts" "are_counts" s_are_counts a_are_counts fd_are_counts) (b_are_counts : Binds K fd_are_counts ["thing", "many"] []) (G_are_counts : FnG P w K mg base 3 a_are_counts fd_are_counts ["thing", "many"] (spM K 2 d_are_counts))
    (g_are_counts : mg "are_counts" = some (.ref a_are_counts)) : FnG P w K mg base 4 a_0 fd_0 ["thing"] (spM K 1 d_are_amounts) := by
  refine fn_g F sc_are_amounts (fun vs H Q E h => h.1) (fun cdv A outer s H vs Q E hcd hr h => ⟨tS K (fun c d _ H => E c d H) ((sRet (ofD (dAnd (dIsi "tuple" (dVar 0)) (dAnd (dChain pLe pLe (dC (.int 2)) (dCB pLen (dCons (dVar 0) dNil)) (dC (.int 40))) (fz (eCall 2 d_are_counts (arV (dVar 0) (arV (dCB pLen (dCons (dVar 0) dNil)) arNil))))))))), ?_, body_ok (N := ["thing"]) (sS _) (by decide) h⟩)
  exact (b_one (s_ret (e_rv (d_and (wD (pe_callB call_isi (by rfl) m_isinstance (by decide +kernel) (pa_cons (d_var 0) (pa_cons (pe_bltn (v := V.ty "tuple") (u := Value.type "tuple") (by rfl) m_tuple (by decide +kernel) rfl) pa_nil))) (absIsi (T := "tuple") (sD _))) (d_and (wD (pe_chain op_le op_le (d_glob (v := .int 2) g_LEAST_CUPS ⟨_, rfl⟩ (fun _ => .int 2)) (wD (pe_callB call_len_seq (by rfl) m_len (by decide +kernel) (a_cons (d_var 0) a_nil)) (absCB (sA _) a_len)) (d_glob (v := .int 40) g_MOST_CUPS ⟨_, rfl⟩ (fun _ => .int 40))) (absChain (sD _) (sD _) (sD _) a_le a_le)) (d_one (d_fz (wE (pe_callG G_are_counts (hr.mono (by decide)) (by rfl) g_are_counts F_are_counts.kp b_are_counts (fun σ => passAt (takes_of (E := E) rfl rfl rfl rfl) σ) (ar_v (d_var 0) (ar_v (wD (pe_callB call_len_seq (by rfl) m_len (by decide +kernel) (a_cons (d_var 0) a_nil)) (absCB (sA _) a_len)) ar_nil))) (absCall (sAr _))))))))))
theorem ok_want_pours {a_0 : Addr} {fd_0 : FuncData} (F : Fun K "want_pours" "want_pours" s_want_pours a_0 fd_0) (m_isinstance : mg "isinstance" = none)
    (m_len : mg "len" = none)
    (m_list : mg "list" = none)
    (m_tuple : mg "tuple" = none)
    {a_are_amounts : Addr} {fd_are_amounts : FuncData} (F_are_amounts : Fun K "are_amounts" "are_amounts" s_are_amounts a_are_amounts fd_are_amounts) (b_are_amounts : Binds K fd_are_amounts ["thing"] []) (G_are_amounts : FnG P w K mg base 4 a_are_amounts fd_are_amounts ["thing"] (spM K 1 d_are_amounts))
    (g_are_amounts : mg "are_amounts" = some (.ref a_are_amounts)) : FnG P w K mg base 5 a_0 fd_0 ["pours"] (spM K 1 d_want_pours) := by
  refine fn_g F sc_want_pours (fun vs H Q E h => h.1) (fun cdv A outer s H vs Q E hcd hr h => ⟨tS K (fun c d _ H => E c d H) ((sSeq (sIf (tOrM (tNotM (tBl (dIsiT ["list", "tuple"] (dVar 0)))) (tBl (dOp pEq (dCB pLen (dCons (dVar 0) dNil)) (dC (.int 0)))))
  (sNever)
  (sNext))
  (sFor (iSeqM (dVar 0)) (bName 1)
  ((sIf (tOrM (tNotM (tBl (fz (eCall 1 d_are_amounts (arV (dVar 1) arNil))))) (tBl (dOp pNe (dCB pLen (dCons (dVar 1) dNil)) (dCB pLen (dCons (dOp pIx (dVar 0) (dC (.int 0))) dNil)))))
  (sNever)
  (sNext)))))), ?_, body_ok (N := ["pours", "pour"]) (sS _) (by decide) h⟩)
  exact (b_cons (s_if (t_w (w_or (t_not (t_val (wD (pe_callB call_isiT (by rfl) m_isinstance (by decide +kernel) (pa_cons (d_var 0) (pa_cons (pe_tup (pa_cons (pe_bltn (v := V.ty "list") (u := Value.type "list") (by rfl) m_list (by decide +kernel) rfl) (pa_cons (pe_bltn (v := V.ty "tuple") (u := Value.type "tuple") (by rfl) m_tuple (by decide +kernel) rfl) pa_nil))) pa_nil))) (absIsi2 (T := "list") (U := "tuple") (sD _))))) (w_or1 (t_cmp (op_eqD hr.units) a_eq (wD (pe_callB call_len_seq (by rfl) m_len (by decide +kernel) (a_cons (d_var 0) a_nil)) (absCB (sA _) a_len)) d_int)))) (b_one s_never) b_nil)
    (b_one (wS (ps_for (passes_of rfl) rfl (wI (pi_seq (d_var 0)) (absISeq (sD _))) (wG (pg_name (i := 1) sc_want_pours.nd rfl (by first | exact .inl rfl | exact .inr rfl)) (absName 1)) (b_one (s_if (t_w (w_or (t_not (t_val (d_fz (wE (pe_callG G_are_amounts (hr.mono (by decide)) (by rfl) g_are_amounts F_are_amounts.kp b_are_amounts (fun σ => passAt (takes_of (E := E) rfl rfl rfl rfl) σ) (ar_v (d_var 1) ar_nil)) (absCall (sAr _)))))) (w_or1 (t_cmp (op_neD hr.units) a_ne (wD (pe_callB call_len_seq (by rfl) m_len (by decide +kernel) (a_cons (d_var 1) a_nil)) (absCB (sA _) a_len)) (wD (pe_callB call_len_seq (by rfl) m_len (by decide +kernel) (a_cons (d_ix (d_var 0) d_int) a_nil)) (absCB (sA _) a_len)))))) (b_one s_never) b_nil))) (absFor (sI _) (sG _ _) (sS _)))))
theorem ok_is_from {a_0 : Addr} {fd_0 : FuncData} (F : Fun K "is_from" "is_from" s_is_from a_0 fd_0) {a_is_whole : Addr} {fd_is_whole : FuncData} (F_is_whole : Fun K "is_whole" "is_whole" s_is_whole a_is_whole fd_is_whole) (b_is_whole : Binds K fd_is_whole ["thing"] []) (G_is_whole : FnG P w K mg base 1 a_is_whole fd_is_whole ["thing"] (spM K 1 d_is_whole))
    (g_is_whole : mg "is_whole" = some (.ref a_is_whole)) : FnG P w K mg base 2 a_0 fd_0 ["thing", "least", "most"] (spM K 3 d_is_from) := by
  refine fn_g F sc_is_from (fun vs H Q E h => h.1) (fun cdv A outer s H vs Q E hcd hr h => ⟨tS K (fun c d _ H => E c d H) ((sRet (ofD (dAnd (fz (eCall 1 d_is_whole (arV (dVar 0) arNil))) (dChain pLe pLe (dVar 1) (dVar 0) (dVar 2)))))), ?_, body_ok (N := ["thing", "least", "most"]) (sS _) (by decide) h⟩)
  exact (b_one (s_ret (e_rv (d_and (d_fz (wE (pe_callG G_is_whole (hr.mono (by decide)) (by rfl) g_is_whole F_is_whole.kp b_is_whole (fun σ => passAt (takes_of (E := E) rfl rfl rfl rfl) σ) (ar_v (d_var 0) ar_nil)) (absCall (sAr _)))) (d_one (wD (pe_chain op_le op_le (d_var 1) (d_var 0) (d_var 2)) (absChain (sD _) (sD _) (sD _) a_le a_le)))))))
theorem ok_are_numbers {a_0 : Addr} {fd_0 : FuncData} (F : Fun K "are_numbers" "are_numbers" s_are_numbers a_0 fd_0) (m_all : mg "all" = none)
    (m_isinstance : mg "isinstance" = none)
    (m_len : mg "len" = none)
    (m_list : mg "list" = none)
    (m_set : mg "set" = none)
    (m_tuple : mg "tuple" = none)
    {a_is_from : Addr} {fd_is_from : FuncData} (F_is_from : Fun K "is_from" "is_from" s_is_from a_is_from fd_is_from) (b_is_from : Binds K fd_is_from ["thing", "least", "most"] []) (G_is_from : FnG P w K mg base 2 a_is_from fd_is_from ["thing", "least", "most"] (spM K 3 d_is_from))
    (g_is_from : mg "is_from" = some (.ref a_is_from)) : FnG P w K mg base 3 a_0 fd_0 ["thing", "cups"] (spM K 2 d_are_numbers) := by
  refine fn_g F sc_are_numbers (fun vs H Q E h => h.1) (fun cdv A outer s H vs Q E hcd hr h => ⟨tS K (fun c d _ H => E c d H) ((sSeq (sIf (tOrM (tNotM (tBl (dIsiT ["list", "tuple"] (dVar 0)))) (tNotM (tBl (dCB pAll (dCons (fz (eLc (iSeqM (dVar 0)) [2] (bName 2) tYesM (fz (eCall 3 d_is_from (arV (dVar 2) (arV (dC (.int 0)) (arV (dOp pSub (dVar 1) (dC (.int 1))) arNil))))))) dNil)))))
  ((sRet (ofD (dC (.bool false)))))
  (sNext))
  (sRet (ofD (dOp pEq (dLenSet (dVar 0)) (dCB pLen (dCons (dVar 0) dNil))))))), ?_, body_ok (N := ["thing", "cups", "one"]) (sS _) (by decide) h⟩)
  exact (b_cons (s_if (t_w (w_or (t_not (t_val (wD (pe_callB call_isiT (by rfl) m_isinstance (by decide +kernel) (pa_cons (d_var 0) (pa_cons (pe_tup (pa_cons (pe_bltn (v := V.ty "list") (u := Value.type "list") (by rfl) m_list (by decide +kernel) rfl) (pa_cons (pe_bltn (v := V.ty "tuple") (u := Value.type "tuple") (by rfl) m_tuple (by decide +kernel) rfl) pa_nil))) pa_nil))) (absIsi2 (T := "list") (U := "tuple") (sD _))))) (w_or1 (t_not (t_val (wD (pe_callB (cr_all rfl) (by rfl) m_all (by decide +kernel) (a_cons (d_fz (wE (pe_lc (own := [("one", 2)]) rfl sc_are_numbers.nd (wI (pi_seq (d_var 0)) (absISeq (sD _))) (blkOk_by (own := [("one", 2)]) (N := ["thing", "cups", "one"]) (sc := defScope s_are_numbers) (by decide +kernel)) (fun _ _ _ _ _ => (wG (pg_name (i := 2) sc_are_numbers.nd rfl (by first | exact .inl rfl | exact .inr rfl)) (absName 2))) (fun _ _ _ _ _ => pts_nil) (fun _ _ _ _ _ => (d_fz (wE (pe_callG G_is_from (hr.mono (by decide)) (by rfl) g_is_from F_is_from.kp b_is_from (fun σ => passAt takes0 σ) (ar_v (d_var 2) (ar_v d_int (ar_v (d_sub (d_var 1) d_int) ar_nil)))) (absCall (sAr _)))))) (absLc (sI _) (sG _ _) (by decide) absYes (sD _)))) a_nil)) (absCB (sA _) a_all))))))) (b_one (s_ret (e_rv d_bl))) b_nil)
    (b_one (s_ret (e_rv (d_cmp (op_eqD hr.units) a_eq (wD (pe_lenSet (by rfl) m_len (by rfl) m_set (d_var 0)) (absLenSet (sD _))) (wD (pe_callB call_len_seq (by rfl) m_len (by decide +kernel) (a_cons (d_var 0) a_nil)) (absCB (sA _) a_len)))))))
theorem ok_want_rows {a_0 : Addr} {fd_0 : FuncData} (F : Fun K "want_rows" "want_rows" s_want_rows a_0 fd_0) (m_isinstance : mg "isinstance" = none)
    (m_len : mg "len" = none)
    (m_list : mg "list" = none)
    (m_tuple : mg "tuple" = none)
    {a_are_numbers : Addr} {fd_are_numbers : FuncData} (F_are_numbers : Fun K "are_numbers" "are_numbers" s_are_numbers a_are_numbers fd_are_numbers) (b_are_numbers : Binds K fd_are_numbers ["thing", "cups"] []) (G_are_numbers : FnG P w K mg base 3 a_are_numbers fd_are_numbers ["thing", "cups"] (spM K 2 d_are_numbers))
    (g_are_numbers : mg "are_numbers" = some (.ref a_are_numbers)) : FnG P w K mg base 4 a_0 fd_0 ["pours", "rows"] (spM K 2 d_want_rows) := by
  refine fn_g F sc_want_rows (fun vs H Q E h => h.1) (fun cdv A outer s H vs Q E hcd hr h => ⟨tS K (fun c d _ H => E c d H) ((sSeq (sIf (tOrM (tNotM (tBl (dIsiT ["list", "tuple"] (dVar 1)))) (tBl (dOp pNe (dCB pLen (dCons (dVar 1) dNil)) (dCB pLen (dCons (dVar 0) dNil)))))
  (sNever)
  (sNext))
  (sFor (iSeqM (dVar 1)) (bName 2)
  ((sIf (tNotM (tBl (fz (eCall 2 d_are_numbers (arV (dVar 2) (arV (dCB pLen (dCons (dOp pIx (dVar 0) (dC (.int 0))) dNil)) arNil))))))
  (sNever)
  (sNext)))))), ?_, body_ok (N := ["pours", "rows", "numbers"]) (sS _) (by decide) h⟩)
  exact (b_cons (s_if (t_w (w_or (t_not (t_val (wD (pe_callB call_isiT (by rfl) m_isinstance (by decide +kernel) (pa_cons (d_var 1) (pa_cons (pe_tup (pa_cons (pe_bltn (v := V.ty "list") (u := Value.type "list") (by rfl) m_list (by decide +kernel) rfl) (pa_cons (pe_bltn (v := V.ty "tuple") (u := Value.type "tuple") (by rfl) m_tuple (by decide +kernel) rfl) pa_nil))) pa_nil))) (absIsi2 (T := "list") (U := "tuple") (sD _))))) (w_or1 (t_cmp (op_neD hr.units) a_ne (wD (pe_callB call_len_seq (by rfl) m_len (by decide +kernel) (a_cons (d_var 1) a_nil)) (absCB (sA _) a_len)) (wD (pe_callB call_len_seq (by rfl) m_len (by decide +kernel) (a_cons (d_var 0) a_nil)) (absCB (sA _) a_len)))))) (b_one s_never) b_nil)
    (b_one (wS (ps_for (passes_of rfl) rfl (wI (pi_seq (d_var 1)) (absISeq (sD _))) (wG (pg_name (i := 2) sc_want_rows.nd rfl (by first | exact .inl rfl | exact .inr rfl)) (absName 2)) (b_one (s_if (t_not (t_val (d_fz (wE (pe_callG G_are_numbers (hr.mono (by decide)) (by rfl) g_are_numbers F_are_numbers.kp b_are_numbers (fun σ => passAt (takes_of (E := E) rfl rfl rfl rfl) σ) (ar_v (d_var 2) (ar_v (wD (pe_callB call_len_seq (by rfl) m_len (by decide +kernel) (a_cons (d_ix (d_var 0) d_int) a_nil)) (absCB (sA _) a_len)) ar_nil))) (absCall (sAr _)))))) (b_one s_never) b_nil))) (absFor (sI _) (sG _ _) (sS _)))))
theorem ok_worst_of {a_0 : Addr} {fd_0 : FuncData} (F : Fun K "worst_of" "worst_of" s_worst_of a_0 fd_0) (m_max : mg "max" = none)
    (m_zip : mg "zip" = none)
    {a_poured_behind : Addr} {fd_poured_behind : FuncData} (F_poured_behind : Fun K "poured_behind" "poured_behind" s_poured_behind a_poured_behind fd_poured_behind) (b_poured_behind : Binds K fd_poured_behind ["standing", "numbers", "pour"] []) (G_poured_behind : FnG P w K mg base 1 a_poured_behind fd_poured_behind ["standing", "numbers", "pour"] (spM K 3 d_poured_behind))
    (g_poured_behind : mg "poured_behind" = some (.ref a_poured_behind))
    {a_want_pours : Addr} {fd_want_pours : FuncData} (F_want_pours : Fun K "want_pours" "want_pours" s_want_pours a_want_pours fd_want_pours) (b_want_pours : Binds K fd_want_pours ["pours"] []) (G_want_pours : FnG P w K mg base 5 a_want_pours fd_want_pours ["pours"] (spM K 1 d_want_pours))
    (g_want_pours : mg "want_pours" = some (.ref a_want_pours))
    {a_want_rows : Addr} {fd_want_rows : FuncData} (F_want_rows : Fun K "want_rows" "want_rows" s_want_rows a_want_rows fd_want_rows) (b_want_rows : Binds K fd_want_rows ["pours", "rows"] []) (G_want_rows : FnG P w K mg base 4 a_want_rows fd_want_rows ["pours", "rows"] (spM K 2 d_want_rows))
    (g_want_rows : mg "want_rows" = some (.ref a_want_rows)) : FnG P w K mg base 6 a_0 fd_0 ["pours", "rows"] (spM K 2 d_worst_of) := by
  refine fn_g F sc_worst_of (fun vs H Q E h => h.1) (fun cdv A outer s H vs Q E hcd hr h => ⟨tS K (fun c d _ H => E c d H) ((sSeq (sExpr (eCall 1 d_want_pours (arV (dVar 0) arNil)))
  (sSeq (sExpr (eCall 2 d_want_rows (arV (dVar 0) (arV (dVar 1) arNil))))
  (sSeq (sSet 2 (ofD (dOp pIx (dVar 0) (dC (.int 0)))))
  (sSeq (sSet 3 (ofD (dCB pMaxA (dCons (dVar 2) dNil))))
  (sSeq (sFor (iZipB false (dVar 1) (fz (eCut (dVar 0) (oSome (dC (.int 1))) oNone))) (bTup 2 (bCons (bName 4) (bCons (bName 5) bNil)))
  ((sSeq (sSet 2 (ofD (fz (eCall 3 d_poured_behind (arV (dVar 2) (arV (dVar 4) (arV (dVar 5) arNil)))))))
  (sSet 3 (ofD (dCB pMax2 (dCons (dVar 3) (dCons (dCB pMaxA (dCons (dVar 2) dNil)) dNil))))))))
  (sRet (eMove 3)))))))), ?_, body_ok (N := ["pours", "rows", "standing", "found", "numbers", "pour"]) (sS _) (by decide) h⟩)
  exact (b_cons (wS (ps_expr (wE (pe_callG G_want_pours (hr.mono (by decide)) (by rfl) g_want_pours F_want_pours.kp b_want_pours (fun σ => passAt (takes_of (E := E) rfl rfl rfl rfl) σ) (ar_v (d_var 0) ar_nil)) (absCall (sAr _)))) (absExpr (sE _)))
    (b_cons (wS (ps_expr (wE (pe_callG G_want_rows (hr.mono (by decide)) (by rfl) g_want_rows F_want_rows.kp b_want_rows (fun σ => passAt (takes_of (E := E) rfl rfl rfl rfl) σ) (ar_v (d_var 0) (ar_v (d_var 1) ar_nil))) (absCall (sAr _)))) (absExpr (sE _)))
    (b_cons (wS (ps_set (i := 2) sc_worst_of.nd rfl (by first | exact .inl rfl | exact .inr rfl) (e_rv (d_ix (d_var 0) d_int))) (absSet (sE _)))
    (b_cons (wS (ps_set (i := 3) sc_worst_of.nd rfl (by first | exact .inl rfl | exact .inr rfl) (e_rv (wD (pe_callB (cr_maxA rfl) (by rfl) m_max (by decide +kernel) (a_cons (d_var 2) a_nil)) (absCB (sA _) a_maxA)))) (absSet (sE _)))
    (b_cons (wS (ps_for (passes_of rfl) rfl (wI (pi_zipB (by rfl) m_zip (pa_cons (d_var 1) (pa_cons (d_fz (e_cut (d_var 0) (o_some d_int) o_none)) pa_nil))) (absZipB (sD _) (sD _))) (wG (pg_tup (by rfl) (g_cons (wG (pg_name (i := 4) sc_worst_of.nd rfl (by first | exact .inl rfl | exact .inr rfl)) (absName 4)) (g_cons (wG (pg_name (i := 5) sc_worst_of.nd rfl (by first | exact .inl rfl | exact .inr rfl)) (absName 5)) g_nil))) (absGTup (sGs _ _))) (b_cons (wS (ps_set (i := 2) sc_worst_of.nd rfl (by first | exact .inl rfl | exact .inr rfl) (e_rv (d_fz (wE (pe_callG G_poured_behind (hr.mono (by decide)) (by rfl) g_poured_behind F_poured_behind.kp b_poured_behind (fun σ => passAt (takes_of (E := E) rfl rfl rfl rfl) σ) (ar_v (d_var 2) (ar_v (d_var 4) (ar_v (d_var 5) ar_nil)))) (absCall (sAr _)))))) (absSet (sE _)))
    (b_one (wS (ps_set (i := 3) sc_worst_of.nd rfl (by first | exact .inl rfl | exact .inr rfl) (e_rv (wD (pe_callB (call_max2 rfl) (by rfl) m_max (by decide +kernel) (a_cons (d_var 3) (a_cons (wD (pe_callB (cr_maxA rfl) (by rfl) m_max (by decide +kernel) (a_cons (d_var 2) a_nil)) (absCB (sA _) a_maxA)) a_nil))) (absCB (sA _) a_max2)))) (absSet (sE _)))))) (absFor (sI _) (sG _ _) (sS _)))
    (b_one (s_ret (e_mov 3))))))))
theorem ok_law {a_0 : Addr} {fd_0 : FuncData} (F : Fun K "law" "law" s_law a_0 fd_0) (m_list : mg "list" = none)
    (m_range : mg "range" = none)
    (m_repr : mg "repr" = none)
    (m_tuple : mg "tuple" = none)
    {a__law_one : Addr} {fd__law_one : FuncData} (F__law_one : Fun K "_law_one" "_law_one" s__law_one a__law_one fd__law_one) (b__law_one : Binds K fd__law_one ["_law_source_here", "_law_some"] []) (G__law_one : FnG P w K mg base 3 a__law_one fd__law_one ["_law_source_here", "_law_some"] (spM K 2 d__law_one))
    (g__law_one : mg "_law_one" = some (.ref a__law_one))
    {a__law_pours : Addr} {fd__law_pours : FuncData} (F__law_pours : Fun K "_law_pours" "_law_pours" s__law_pours a__law_pours fd__law_pours) (b__law_pours : Binds K fd__law_pours ["_law_source_here", "_law_crowd", "_law_beats"] []) (G__law_pours : FnG P w K mg base 4 a__law_pours fd__law_pours ["_law_source_here", "_law_crowd", "_law_beats"] (spM K 3 d__law_pours))
    (g__law_pours : mg "_law_pours" = some (.ref a__law_pours))
    {a__law_rows : Addr} {fd__law_rows : FuncData} (F__law_rows : Fun K "_law_rows" "_law_rows" s__law_rows a__law_rows fd__law_rows) (b__law_rows : Binds K fd__law_rows ["_law_source_here", "_law_crowd", "_law_beats"] []) (G__law_rows : FnG P w K mg base 4 a__law_rows fd__law_rows ["_law_source_here", "_law_crowd", "_law_beats"] (spM K 3 d__law_rows))
    (g__law_rows : mg "_law_rows" = some (.ref a__law_rows))
    {a__law_source : Addr} {fd__law_source : FuncData} (F__law_source : Fun K "_law_source" "_law_source" s__law_source a__law_source fd__law_source) (b__law_source : Binds K fd__law_source ["_law_cell"] []) (G__law_source : FnG P w K mg base 1 a__law_source fd__law_source ["_law_cell"] (spM K 1 d__law_source))
    (g__law_source : mg "_law_source" = some (.ref a__law_source))
    {a__law_take : Addr} {fd__law_take : FuncData} (F__law_take : Fun K "_law_take" "_law_take" s__law_take a__law_take fd__law_take) (b__law_take : Binds K fd__law_take ["_law_source_here", "_law_size"] []) (G__law_take : FnG P w K mg base 2 a__law_take fd__law_take ["_law_source_here", "_law_size"] (spM K 2 d__law_take))
    (g__law_take : mg "_law_take" = some (.ref a__law_take))
    {a__law_worst : Addr} {fd__law_worst : FuncData} (F__law_worst : Fun K "_law_worst" "_law_worst" s__law_worst a__law_worst fd__law_worst) (b__law_worst : Binds K fd__law_worst ["_law_sheet", "_law_lines"] []) (G__law_worst : FnG P w K mg base 1 a__law_worst fd__law_worst ["_law_sheet", "_law_lines"] (spM K 2 d__law_worst))
    (g__law_worst : mg "_law_worst" = some (.ref a__law_worst))
    {a_worst_of : Addr} {fd_worst_of : FuncData} (F_worst_of : Fun K "worst_of" "worst_of" s_worst_of a_worst_of fd_worst_of) (b_worst_of : Binds K fd_worst_of ["pours", "rows"] []) (G_worst_of : FnG P w K mg base 6 a_worst_of fd_worst_of ["pours", "rows"] (spM K 2 d_worst_of))
    (g_worst_of : mg "worst_of" = some (.ref a_worst_of))
    (kb_worst_of_0_rows_pours : KBn K fd_worst_of ["pours", "rows"] 0 ["rows", "pours"] (fun us ws => pick [1, 0] (us ++ ws)) (fun vs zs => pick [1, 0] (vs ++ zs))) : FnG P w K mg base 7 a_0 fd_0 ["_law_script"] (spM K 1 d_law) := by
  refine fn_g F sc_law (fun vs H Q E h => h.1) (fun cdv A outer s H vs Q E hcd hr h => ⟨tS K (fun c d _ H => E c d H) ((sSeq (sFor (iSeqM (fz (eOp pAdd (fz (eCut (dVar 0) oNone (oSome (dC (.int 8))))) (fz (eLst (dCons (dC (.int 0)) dNil)))))) (bName 1)
  ((sSeq (sSet 2 (eCall 1 d__law_source (arV (dVar 1) arNil)))
  (sSeq (sSet 3 (ofD (fz (eCall 2 d__law_one (arR 2 (arV (fz (eLst (dCons (dC (.int 2)) (dCons (dC (.int 3)) (dCons (dC (.int 4)) (dCons (dC (.int 5)) (dCons (dC (.int 6)) (dCons (dC (.int 7)) (dCons (dC (.int 3)) (dCons (dC (.int 40)) dNil)))))))))) arNil))))))
  (sSeq (sSet 4 (ofD (fz (eOp pAdd (dC (.int 1)) (fz (eCall 2 d__law_take (arR 2 (arV (dC (.int 12)) arNil))))))))
  (sSeq (sSet 5 (ofD (fz (eCall 3 d__law_pours (arR 2 (arV (dVar 3) (arV (dVar 4) arNil)))))))
  (sSeq (sSet 6 (ofD (fz (eCall 3 d__law_rows (arR 2 (arV (dVar 3) (arV (dVar 4) arNil)))))))
  (sSeq (sPar 7 8 (ofD (dCB pRepr (dCons (dTup (dCons (dVar 5) (dCons (dVar 6) dNil))) dNil))) (ofD (fz (eCall 2 d__law_worst (arV (dVar 5) (arV (dVar 6) arNil))))))
  (sSeq (sIf (tOrM (tBl (dOp pNe (fz (eCall 2 d_worst_of (arV (dVar 5) (arV (dVar 6) arNil)))) (dVar 8))) (tBl (dOp pNe (fz (eCallK 2 0 2 [1, 0] d_worst_of arNil (arV (dCB pTupOf (dCons (dVar 6) dNil)) (arV (dCB pTupOf (dCons (dVar 5) dNil)) arNil)))) (dVar 8))))
  ((sRet (ofD (dC (.bool false)))))
  (sNext))
  (sSeq (sIf (tOrM (tBl (dOp pNe (fz (eCall 2 d_worst_of (arV (dVar 5) (arV (fz (eOp pAdd (fz (eCut (dVar 6) oNone (oSome (dUn pNeg (dC (.int 1)))))) (fz (eLst (dCons (fz (eLst dNil)) dNil))))) arNil)))) (dVar 8))) (tBl (dOp pNe (fz (eCall 2 d_worst_of (arV (dVar 5) (arV (fz (eOp pAdd (fz (eCut (dVar 6) oNone (oSome (dUn pNeg (dC (.int 1)))))) (fz (eLst (dCons (fz (eLR1 (dVar 3))) dNil))))) arNil)))) (dVar 8))))
  ((sRet (ofD (dC (.bool false)))))
  (sNext))
  (sIf (tBl (dOp pNe (dCB pRepr (dCons (dTup (dCons (dVar 5) (dCons (dVar 6) dNil))) dNil)) (dVar 7)))
  ((sRet (ofD (dC (.bool false)))))
  (sNext))))))))))))
  (sRet (ofD (dC (.bool true)))))), ?_, body_ok (N := ["_law_script", "_law_cell", "_law_source_here", "_law_crowd", "_law_beats", "_law_told", "_law_lines", "_law_was", "_law_due"]) (sS _) (by decide) h⟩)
  exact (b_cons (wS (ps_for (passes_of rfl) rfl (wI (pi_seq (d_fz (e_add (d_fz (e_cut (d_var 0) o_none (o_some d_int))) (d_fz (e_lst (a_cons d_int a_nil)))))) (absISeq (sD _))) (wG (pg_name (i := 1) sc_law.nd rfl (by first | exact .inl rfl | exact .inr rfl)) (absName 1)) (b_cons (wS (ps_set (i := 2) sc_law.nd rfl (by first | exact .inl rfl | exact .inr rfl) (wE (pe_callG G__law_source (hr.mono (by decide)) (by rfl) g__law_source F__law_source.kp b__law_source (fun σ => passAt (takes_of (E := E) rfl rfl rfl rfl) σ) (ar_v (d_var 1) ar_nil)) (absCall (sAr _)))) (absSet (sE _)))
    (b_cons (wS (ps_set (i := 3) sc_law.nd rfl (by first | exact .inl rfl | exact .inr rfl) (e_rv (d_fz (wE (pe_callG G__law_one (hr.mono (by decide)) (by rfl) g__law_one F__law_one.kp b__law_one (fun σ => passAt (takes_of (E := E) rfl rfl rfl rfl) σ) (ar_r 2 (ar_v (d_fz (e_lst (a_cons d_int (a_cons d_int (a_cons d_int (a_cons d_int (a_cons d_int (a_cons d_int (a_cons d_int (a_cons d_int a_nil)))))))))) ar_nil))) (absCall (sAr _)))))) (absSet (sE _)))
    (b_cons (wS (ps_set (i := 4) sc_law.nd rfl (by first | exact .inl rfl | exact .inr rfl) (e_rv (d_fz (e_add d_int (d_fz (wE (pe_callG G__law_take (hr.mono (by decide)) (by rfl) g__law_take F__law_take.kp b__law_take (fun σ => passAt (takes_of (E := E) rfl rfl rfl rfl) σ) (ar_r 2 (ar_v d_int ar_nil))) (absCall (sAr _)))))))) (absSet (sE _)))
    (b_cons (wS (ps_set (i := 5) sc_law.nd rfl (by first | exact .inl rfl | exact .inr rfl) (e_rv (d_fz (wE (pe_callG G__law_pours (hr.mono (by decide)) (by rfl) g__law_pours F__law_pours.kp b__law_pours (fun σ => passAt (takes_of (E := E) rfl rfl rfl rfl) σ) (ar_r 2 (ar_v (d_var 3) (ar_v (d_var 4) ar_nil)))) (absCall (sAr _)))))) (absSet (sE _)))
    (b_cons (wS (ps_set (i := 6) sc_law.nd rfl (by first | exact .inl rfl | exact .inr rfl) (e_rv (d_fz (wE (pe_callG G__law_rows (hr.mono (by decide)) (by rfl) g__law_rows F__law_rows.kp b__law_rows (fun σ => passAt (takes_of (E := E) rfl rfl rfl rfl) σ) (ar_r 2 (ar_v (d_var 3) (ar_v (d_var 4) ar_nil)))) (absCall (sAr _)))))) (absSet (sE _)))
    (b_cons (wS (ps_par (i := 7) (j := 8) rfl sc_law.nd rfl rfl (by decide) rfl rfl (pa_cons (e_rv (wD (pe_callB (cr_repr hr.g hr.units) (by rfl) m_repr (by decide +kernel) (a_cons (d_tup (a_cons (d_var 5) (a_cons (d_var 6) a_nil))) a_nil)) (absCB (sA _) a_repr))) (pa_cons (e_rv (d_fz (wE (pe_callG G__law_worst (hr.mono (by decide)) (by rfl) g__law_worst F__law_worst.kp b__law_worst (fun σ => passAt (takes_of (E := E) rfl rfl rfl rfl) σ) (ar_v (d_var 5) (ar_v (d_var 6) ar_nil))) (absCall (sAr _))))) pa_nil)) (by rfl)) (absPar (sE _) (sE _)))
    (b_cons (s_if (t_w (w_or (t_cmp (op_neD hr.units) a_ne (d_fz (wE (pe_callG G_worst_of (hr.mono (by decide)) (by rfl) g_worst_of F_worst_of.kp b_worst_of (fun σ => passAt (takes_of (E := E) rfl rfl rfl rfl) σ) (ar_v (d_var 5) (ar_v (d_var 6) ar_nil))) (absCall (sAr _)))) (d_var 8)) (w_or1 (t_cmp (op_neD hr.units) a_ne (d_fz (wE (pe_callN0 G_worst_of (hr.mono (by decide)) (by rfl) g_worst_of F_worst_of.kp kb_worst_of_0_rows_pours (fun σ => passAt (takes_of (E := E) rfl rfl rfl rfl) σ) (k_v (wD (pe_callTy call_tuple_of (by rfl) m_tuple (by decide +kernel) (a_cons (d_var 6) a_nil)) (absCB (sA _) a_tupOf)) (k_v (wD (pe_callTy call_tuple_of (by rfl) m_tuple (by decide +kernel) (a_cons (d_var 5) a_nil)) (absCB (sA _) a_tupOf)) k_nil))) (absCallK absArNil (sAr _)))) (d_var 8))))) (b_one (s_ret (e_rv d_bl))) b_nil)
    (b_cons (s_if (t_w (w_or (t_cmp (op_neD hr.units) a_ne (d_fz (wE (pe_callG G_worst_of (hr.mono (by decide)) (by rfl) g_worst_of F_worst_of.kp b_worst_of (fun σ => passAt (takes_of (E := E) rfl rfl rfl rfl) σ) (ar_v (d_var 5) (ar_v (d_fz (e_add (d_fz (e_cut (d_var 6) o_none (o_some (d_neg d_int)))) (d_fz (e_lst (a_cons (d_fz (e_lst a_nil)) a_nil))))) ar_nil))) (absCall (sAr _)))) (d_var 8)) (w_or1 (t_cmp (op_neD hr.units) a_ne (d_fz (wE (pe_callG G_worst_of (hr.mono (by decide)) (by rfl) g_worst_of F_worst_of.kp b_worst_of (fun σ => passAt (takes_of (E := E) rfl rfl rfl rfl) σ) (ar_v (d_var 5) (ar_v (d_fz (e_add (d_fz (e_cut (d_var 6) o_none (o_some (d_neg d_int)))) (d_fz (e_lst (a_cons (d_fz (wE (pe_listRg rfl (by rfl) m_list (prg_1 (by rfl) m_range (d_var 3))) (absLR1 (sD _)))) a_nil))))) ar_nil))) (absCall (sAr _)))) (d_var 8))))) (b_one (s_ret (e_rv d_bl))) b_nil)
    (b_one (s_if (t_cmp (op_neD hr.units) a_ne (wD (pe_callB (cr_repr hr.g hr.units) (by rfl) m_repr (by decide +kernel) (a_cons (d_tup (a_cons (d_var 5) (a_cons (d_var 6) a_nil))) a_nil)) (absCB (sA _) a_repr)) (d_var 7)) (b_one (s_ret (e_rv d_bl))) b_nil))))))))))) (absFor (sI _) (sG _ _) (sS _)))
    (b_one (s_ret (e_rv d_bl))))
end
end Gk
namespace Gk
open PySem DL
open L2 (atI)
theorem e_is_whole (n : Int) : d_is_whole [.val (.int n)] = .ok (.val (.bool true), [.val (.int n)]) := by
  unfold d_is_whole
  simp (maxSteps := 1000000) (disch := first | omega | exact Or.inl rfl | exact Or.inr rfl | exact f_non | exact f_val _ | exact f_own _ | (simp only [List.length_map, List.length_replicate, List.length_append, List.length_cons, List.length_nil, firstI_length, List.length_range, rowsD_length, List.length_drop, List.length_take, sortB_len, rangeI_len]; omega)) only [↓rb, ↓r_ofO, ↓r_den, ↓r_oX1, ↓r_oX2, ↓r_bX1, ↓r_bX2, ↓r_lX1, ↓r_lX2, ↓r_C, ↓r_Var, ↓r_Val, ↓r_Move, ↓r_fz, ↓r_ofD, ↓r_Op, ↓r_eOp, ↓r_Un, ↓r_CB, ↓r_eCB, ↓r_Mul, ↓r_Nil, ↓r_Cons, ↓r_Lst, ↓r_Tup, ↓r_Bl, ↓r_And, ↓r_Or, ↓r_NotM, ↓r_Yes, ↓r_If, ↓r_Chain, ↓r_Next, ↓r_Seq, ↓r_Bk, ↓r_Ct, ↓r_Never, ↓r_Ret, ↓r_RetN, ↓r_Expr, ↓r_sIf, ↓r_Set, ↓r_Asg, ↓r_Par, ↓r_bName, ↓r_bNil, ↓r_bCons, ↓r_bTup, ↓r_bTupL, ↓r_free, ↓f_non, ↓f_val, ↓f_own, ↓f_pin, ↓r_toSl, ↓r_fzR, ↓r_dAnd, ↓r_dOr, ↓r_dNot, ↓r_ixO, ↓r_Put, ↓r_Mut, ↓r_arNil, ↓r_arV, ↓r_arR, ↓r_Call, ↓r_CallK, ↓r_CallKD, ↓r_CallT, ↓r_For, ↓r_Lc, ↓r_iSeq, ↓r_iRng1, ↓r_iRng2, ↓r_iEnum, ↓r_iEnumA, ↓r_iEnumB, ↓r_TR1, ↓r_LenO, ↓r_NeO, ↓r_iZip, ↓r_iZipB, ↓r_LenSet, ↓r_step, ↓r_LR1, ↓r_LR2, ↓r_oNone, ↓r_oSome, ↓r_Cut, ↓r_Rev, ↓r_RevA, ↓r_keep, ↓r_Raise, ↓r_Try, ↓r_endX, ↓r_Exn, ↓r_Fld, ↓r_FldM, ↓r_FldAdd, ↓r_bFld, ↓r_Meth, ↓r_MethT, ↓r_Make, ↓r_Par3, ↓r_Par3E, ↓r_AugN, ↓r_AugPut, ↓f_exn, ↓nx_nil, ↓nx_n, ↓nx_v, ↓nx_o, ↓nx_x, ↓r_Isi, ↓r_IsiT, ↓r_Bor, ↓r_BorE, ↓r_noEx, ↓r_wipe0, ↓r_wipe1, ↓r_outs0, ↓r_outs1, ↓r_out1, ↓r_out2, ↓r_mkA0, ↓r_mkA1, ↓r_mkA2, ↓r_wb0, ↓r_wb1, ↓r_wb2, ↓r_Said, ↓r_hide0, ↓r_hide1, ↓r_hideV, ↓r_hideO, ↓r_hideN, ↓r_IsE, ↓r_IsE2, ↓r_iZip3, ↓r_Mt, ↓r_Pre, ↓r_CutO, ↓r_setOwn, ↓r_Copy, ↓r_pick0, ↓r_pick1, ↓r_val0, ↓r_val1, ↓r_Dc, ↓r_Get2, ↓r_IxK, ↓r_IxKO, ↓r_PutK, ↓r_Dic0, ↓r_dstep, ↓r_TryM, ↓r_suX0, ↓r_suX1, ↓r_EnumZip, ↓g0, ↓g1, ↓g2, ↓g3, ↓g4, ↓g5, ↓g6, ↓g7, ↓g8, ↓g9, ↓g10, ↓g11, ↓g12, ↓g13, ↓g14, ↓g15, ↓g16, ↓g17, ↓g18, ↓g19, ↓g20, ↓g21, ↓g22, ↓g23, ↓g24, ↓g25, ↓u0, ↓u1, ↓u2, ↓u3, ↓u4, ↓u5, ↓u6, ↓u7, ↓u8, ↓u9, ↓u10, ↓u11, ↓u12, ↓u13, ↓u14, ↓u15, ↓u16, ↓u17, ↓u18, ↓u19, ↓u20, ↓u21, ↓u22, ↓u23, ↓u24, ↓u25, k_int, v_eqE0, v_neE0, K_nb, K_ni, K_ns, K_nl, K_nt, K_bb, K_bi, K_bs, K_bl, K_bt, K_ib, K_ii, K_is, K_il, K_it, K_sb, K_si, K_ss, K_sl, K_st, K_lb, K_li, K_ls, K_ll, K_lt, K_tb, K_ti, K_ts, K_tl, K_tt, K_db, K_di, K_ds, K_dl, K_dt, t_n, t_d, t_s, r_outO1, r_outO2, r_Ask1, r_Ask2, v_TR, v_add, v_sub, v_neg, v_lt, v_le, v_gt, v_ge, v_eq, v_ne, v_max2, v_min2, v_mod, v_div, v_pow9, v_pow18, v_mulL, v_mulR, v_divmod, v_lenL, v_lenT, v_sum, v_eqL, v_listOf, v_inT2, v_sorted, sortB_f, v_sortL, v_sortT, v_sortDL, v_sortDT, v_sortDP, v_keep, v_tupL, v_tupT, v_sumL, v_sumT, v_app, v_neL, v_pow39, v_pow40, ob_nil, ob_zero, ob_1, ob_2, ob_3, ob_4, ob_5, ob_6, ob_7, ob_8, ll_n, ll_b, ll_i, ll_s, bs_n, bs_v, bs_l, bs_s, llA_ints, List.all_cons, List.all_nil, Bool.and_true, Bool.true_and, Bool.false_and, Bool.and_false, Bool.and_self, v_isN0, v_isNi, v_notN0, v_notNi, v_ixL, v_ixT, v_cutL, v_cutT, k_ii, k_ib, k_bi, k_bb, k_ll, k_lt, k_tl, k_tt, t_i, t_b, t_l, t_t, isR, if_true, true_and, and_true, and_self, if_false, if_pos, Bool.not_true, Bool.not_false, List.length_cons, List.length_nil, List.replicate, List.cons_append, List.nil_append, List.head?_cons, List.tail_cons, List.any_nil, List.any_cons, Bool.false_eq_true, Bool.or_false, Bool.false_or, beq_self_eq_true, Nat.reduceSub, Nat.reduceAdd, Nat.reduceLeDiff, Nat.reduceBEq, Nat.reduceEqDiff, reduceIte, eq_self, reduceCtorEq, bo_rvV, bo_rvL, bo_nil, bo_cons, bo_non, bo_valS, bo_int, bo_bool, bo_own, bo_src, kp_p1, kp_p2, kp_p3, kp_p4, kp_p5, kp_p6, kp_h, kp_d, kp_l1, kp_l2, kp_l3, kp_l4, kp_l5, kp_l6, kp_cups, kp_scoops, kp_rows, kp_looks, kp_held, kp_done, kp_choose, kp_nums, kp_stand, Int.reduceToNat, Int.reduceBEq, Nat.zero_add, Nat.reduceLT]
theorem e_is_from (n a b : Int) : d_is_from [.val (.int n), .val (.int a), .val (.int b)] = .ok (.val (.bool (decide (a ≤ n) && decide (n ≤ b))), [.val (.int n), .val (.int a), .val (.int b)]) := by
  unfold d_is_from
  simp (maxSteps := 1000000) (disch := first | omega | exact Or.inl rfl | exact Or.inr rfl | exact f_non | exact f_val _ | exact f_own _ | (simp only [List.length_map, List.length_replicate, List.length_append, List.length_cons, List.length_nil, firstI_length, List.length_range, rowsD_length, List.length_drop, List.length_take, sortB_len, rangeI_len]; omega)) only [↓rb, ↓r_ofO, ↓r_den, ↓r_oX1, ↓r_oX2, ↓r_bX1, ↓r_bX2, ↓r_lX1, ↓r_lX2, ↓r_C, ↓r_Var, ↓r_Val, ↓r_Move, ↓r_fz, ↓r_ofD, ↓r_Op, ↓r_eOp, ↓r_Un, ↓r_CB, ↓r_eCB, ↓r_Mul, ↓r_Nil, ↓r_Cons, ↓r_Lst, ↓r_Tup, ↓r_Bl, ↓r_And, ↓r_Or, ↓r_NotM, ↓r_Yes, ↓r_If, ↓r_Chain, ↓r_Next, ↓r_Seq, ↓r_Bk, ↓r_Ct, ↓r_Never, ↓r_Ret, ↓r_RetN, ↓r_Expr, ↓r_sIf, ↓r_Set, ↓r_Asg, ↓r_Par, ↓r_bName, ↓r_bNil, ↓r_bCons, ↓r_bTup, ↓r_bTupL, ↓r_free, ↓f_non, ↓f_val, ↓f_own, ↓f_pin, ↓r_toSl, ↓r_fzR, ↓r_dAnd, ↓r_dOr, ↓r_dNot, ↓r_ixO, ↓r_Put, ↓r_Mut, ↓r_arNil, ↓r_arV, ↓r_arR, ↓r_Call, ↓r_CallK, ↓r_CallKD, ↓r_CallT, ↓r_For, ↓r_Lc, ↓r_iSeq, ↓r_iRng1, ↓r_iRng2, ↓r_iEnum, ↓r_iEnumA, ↓r_iEnumB, ↓r_TR1, ↓r_LenO, ↓r_NeO, ↓r_iZip, ↓r_iZipB, ↓r_LenSet, ↓r_step, ↓r_LR1, ↓r_LR2, ↓r_oNone, ↓r_oSome, ↓r_Cut, ↓r_Rev, ↓r_RevA, ↓r_keep, ↓r_Raise, ↓r_Try, ↓r_endX, ↓r_Exn, ↓r_Fld, ↓r_FldM, ↓r_FldAdd, ↓r_bFld, ↓r_Meth, ↓r_MethT, ↓r_Make, ↓r_Par3, ↓r_Par3E, ↓r_AugN, ↓r_AugPut, ↓f_exn, ↓nx_nil, ↓nx_n, ↓nx_v, ↓nx_o, ↓nx_x, ↓r_Isi, ↓r_IsiT, ↓r_Bor, ↓r_BorE, ↓r_noEx, ↓r_wipe0, ↓r_wipe1, ↓r_outs0, ↓r_outs1, ↓r_out1, ↓r_out2, ↓r_mkA0, ↓r_mkA1, ↓r_mkA2, ↓r_wb0, ↓r_wb1, ↓r_wb2, ↓r_Said, ↓r_hide0, ↓r_hide1, ↓r_hideV, ↓r_hideO, ↓r_hideN, ↓r_IsE, ↓r_IsE2, ↓r_iZip3, ↓r_Mt, ↓r_Pre, ↓r_CutO, ↓r_setOwn, ↓r_Copy, ↓r_pick0, ↓r_pick1, ↓r_val0, ↓r_val1, ↓r_Dc, ↓r_Get2, ↓r_IxK, ↓r_IxKO, ↓r_PutK, ↓r_Dic0, ↓r_dstep, ↓r_TryM, ↓r_suX0, ↓r_suX1, ↓r_EnumZip, ↓g0, ↓g1, ↓g2, ↓g3, ↓g4, ↓g5, ↓g6, ↓g7, ↓g8, ↓g9, ↓g10, ↓g11, ↓g12, ↓g13, ↓g14, ↓g15, ↓g16, ↓g17, ↓g18, ↓g19, ↓g20, ↓g21, ↓g22, ↓g23, ↓g24, ↓g25, ↓u0, ↓u1, ↓u2, ↓u3, ↓u4, ↓u5, ↓u6, ↓u7, ↓u8, ↓u9, ↓u10, ↓u11, ↓u12, ↓u13, ↓u14, ↓u15, ↓u16, ↓u17, ↓u18, ↓u19, ↓u20, ↓u21, ↓u22, ↓u23, ↓u24, ↓u25, k_int, v_eqE0, v_neE0, K_nb, K_ni, K_ns, K_nl, K_nt, K_bb, K_bi, K_bs, K_bl, K_bt, K_ib, K_ii, K_is, K_il, K_it, K_sb, K_si, K_ss, K_sl, K_st, K_lb, K_li, K_ls, K_ll, K_lt, K_tb, K_ti, K_ts, K_tl, K_tt, K_db, K_di, K_ds, K_dl, K_dt, t_n, t_d, t_s, r_outO1, r_outO2, r_Ask1, r_Ask2, v_TR, v_add, v_sub, v_neg, v_lt, v_le, v_gt, v_ge, v_eq, v_ne, v_max2, v_min2, v_mod, v_div, v_pow9, v_pow18, v_mulL, v_mulR, v_divmod, v_lenL, v_lenT, v_sum, v_eqL, v_listOf, v_inT2, v_sorted, sortB_f, v_sortL, v_sortT, v_sortDL, v_sortDT, v_sortDP, v_keep, v_tupL, v_tupT, v_sumL, v_sumT, v_app, v_neL, v_pow39, v_pow40, ob_nil, ob_zero, ob_1, ob_2, ob_3, ob_4, ob_5, ob_6, ob_7, ob_8, ll_n, ll_b, ll_i, ll_s, bs_n, bs_v, bs_l, bs_s, llA_ints, List.all_cons, List.all_nil, Bool.and_true, Bool.true_and, Bool.false_and, Bool.and_false, Bool.and_self, v_isN0, v_isNi, v_notN0, v_notNi, v_ixL, v_ixT, v_cutL, v_cutT, k_ii, k_ib, k_bi, k_bb, k_ll, k_lt, k_tl, k_tt, t_i, t_b, t_l, t_t, isR, if_true, true_and, and_true, and_self, if_false, if_pos, Bool.not_true, Bool.not_false, List.length_cons, List.length_nil, List.replicate, List.cons_append, List.nil_append, List.head?_cons, List.tail_cons, List.any_nil, List.any_cons, Bool.false_eq_true, Bool.or_false, Bool.false_or, beq_self_eq_true, Nat.reduceSub, Nat.reduceAdd, Nat.reduceLeDiff, Nat.reduceBEq, Nat.reduceEqDiff, reduceIte, eq_self, reduceCtorEq, bo_rvV, bo_rvL, bo_nil, bo_cons, bo_non, bo_valS, bo_int, bo_bool, bo_own, bo_src, kp_p1, kp_p2, kp_p3, kp_p4, kp_p5, kp_p6, kp_h, kp_d, kp_l1, kp_l2, kp_l3, kp_l4, kp_l5, kp_l6, kp_cups, kp_scoops, kp_rows, kp_looks, kp_held, kp_done, kp_choose, kp_nums, kp_stand, Int.reduceToNat, Int.reduceBEq, Nat.zero_add, Nat.reduceLT, e_is_whole]
  by_cases h : a ≤ n <;> simp (maxSteps := 1000000) (disch := first | omega | exact Or.inl rfl | exact Or.inr rfl | exact f_non | exact f_val _ | exact f_own _ | (simp only [List.length_map, List.length_replicate, List.length_append, List.length_cons, List.length_nil, firstI_length, List.length_range, rowsD_length, List.length_drop, List.length_take, sortB_len, rangeI_len]; omega)) only [↓rb, ↓r_ofO, ↓r_den, ↓r_oX1, ↓r_oX2, ↓r_bX1, ↓r_bX2, ↓r_lX1, ↓r_lX2, ↓r_C, ↓r_Var, ↓r_Val, ↓r_Move, ↓r_fz, ↓r_ofD, ↓r_Op, ↓r_eOp, ↓r_Un, ↓r_CB, ↓r_eCB, ↓r_Mul, ↓r_Nil, ↓r_Cons, ↓r_Lst, ↓r_Tup, ↓r_Bl, ↓r_And, ↓r_Or, ↓r_NotM, ↓r_Yes, ↓r_If, ↓r_Chain, ↓r_Next, ↓r_Seq, ↓r_Bk, ↓r_Ct, ↓r_Never, ↓r_Ret, ↓r_RetN, ↓r_Expr, ↓r_sIf, ↓r_Set, ↓r_Asg, ↓r_Par, ↓r_bName, ↓r_bNil, ↓r_bCons, ↓r_bTup, ↓r_bTupL, ↓r_free, ↓f_non, ↓f_val, ↓f_own, ↓f_pin, ↓r_toSl, ↓r_fzR, ↓r_dAnd, ↓r_dOr, ↓r_dNot, ↓r_ixO, ↓r_Put, ↓r_Mut, ↓r_arNil, ↓r_arV, ↓r_arR, ↓r_Call, ↓r_CallK, ↓r_CallKD, ↓r_CallT, ↓r_For, ↓r_Lc, ↓r_iSeq, ↓r_iRng1, ↓r_iRng2, ↓r_iEnum, ↓r_iEnumA, ↓r_iEnumB, ↓r_TR1, ↓r_LenO, ↓r_NeO, ↓r_iZip, ↓r_iZipB, ↓r_LenSet, ↓r_step, ↓r_LR1, ↓r_LR2, ↓r_oNone, ↓r_oSome, ↓r_Cut, ↓r_Rev, ↓r_RevA, ↓r_keep, ↓r_Raise, ↓r_Try, ↓r_endX, ↓r_Exn, ↓r_Fld, ↓r_FldM, ↓r_FldAdd, ↓r_bFld, ↓r_Meth, ↓r_MethT, ↓r_Make, ↓r_Par3, ↓r_Par3E, ↓r_AugN, ↓r_AugPut, ↓f_exn, ↓nx_nil, ↓nx_n, ↓nx_v, ↓nx_o, ↓nx_x, ↓r_Isi, ↓r_IsiT, ↓r_Bor, ↓r_BorE, ↓r_noEx, ↓r_wipe0, ↓r_wipe1, ↓r_outs0, ↓r_outs1, ↓r_out1, ↓r_out2, ↓r_mkA0, ↓r_mkA1, ↓r_mkA2, ↓r_wb0, ↓r_wb1, ↓r_wb2, ↓r_Said, ↓r_hide0, ↓r_hide1, ↓r_hideV, ↓r_hideO, ↓r_hideN, ↓r_IsE, ↓r_IsE2, ↓r_iZip3, ↓r_Mt, ↓r_Pre, ↓r_CutO, ↓r_setOwn, ↓r_Copy, ↓r_pick0, ↓r_pick1, ↓r_val0, ↓r_val1, ↓r_Dc, ↓r_Get2, ↓r_IxK, ↓r_IxKO, ↓r_PutK, ↓r_Dic0, ↓r_dstep, ↓r_TryM, ↓r_suX0, ↓r_suX1, ↓r_EnumZip, ↓g0, ↓g1, ↓g2, ↓g3, ↓g4, ↓g5, ↓g6, ↓g7, ↓g8, ↓g9, ↓g10, ↓g11, ↓g12, ↓g13, ↓g14, ↓g15, ↓g16, ↓g17, ↓g18, ↓g19, ↓g20, ↓g21, ↓g22, ↓g23, ↓g24, ↓g25, ↓u0, ↓u1, ↓u2, ↓u3, ↓u4, ↓u5, ↓u6, ↓u7, ↓u8, ↓u9, ↓u10, ↓u11, ↓u12, ↓u13, ↓u14, ↓u15, ↓u16, ↓u17, ↓u18, ↓u19, ↓u20, ↓u21, ↓u22, ↓u23, ↓u24, ↓u25, k_int, v_eqE0, v_neE0, K_nb, K_ni, K_ns, K_nl, K_nt, K_bb, K_bi, K_bs, K_bl, K_bt, K_ib, K_ii, K_is, K_il, K_it, K_sb, K_si, K_ss, K_sl, K_st, K_lb, K_li, K_ls, K_ll, K_lt, K_tb, K_ti, K_ts, K_tl, K_tt, K_db, K_di, K_ds, K_dl, K_dt, t_n, t_d, t_s, r_outO1, r_outO2, r_Ask1, r_Ask2, v_TR, v_add, v_sub, v_neg, v_lt, v_le, v_gt, v_ge, v_eq, v_ne, v_max2, v_min2, v_mod, v_div, v_pow9, v_pow18, v_mulL, v_mulR, v_divmod, v_lenL, v_lenT, v_sum, v_eqL, v_listOf, v_inT2, v_sorted, sortB_f, v_sortL, v_sortT, v_sortDL, v_sortDT, v_sortDP, v_keep, v_tupL, v_tupT, v_sumL, v_sumT, v_app, v_neL, v_pow39, v_pow40, ob_nil, ob_zero, ob_1, ob_2, ob_3, ob_4, ob_5, ob_6, ob_7, ob_8, ll_n, ll_b, ll_i, ll_s, bs_n, bs_v, bs_l, bs_s, llA_ints, List.all_cons, List.all_nil, Bool.and_true, Bool.true_and, Bool.false_and, Bool.and_false, Bool.and_self, v_isN0, v_isNi, v_notN0, v_notNi, v_ixL, v_ixT, v_cutL, v_cutT, k_ii, k_ib, k_bi, k_bb, k_ll, k_lt, k_tl, k_tt, t_i, t_b, t_l, t_t, isR, if_true, true_and, and_true, and_self, if_false, if_pos, Bool.not_true, Bool.not_false, List.length_cons, List.length_nil, List.replicate, List.cons_append, List.nil_append, List.head?_cons, List.tail_cons, List.any_nil, List.any_cons, Bool.false_eq_true, Bool.or_false, Bool.false_or, beq_self_eq_true, Nat.reduceSub, Nat.reduceAdd, Nat.reduceLeDiff, Nat.reduceBEq, Nat.reduceEqDiff, reduceIte, eq_self, reduceCtorEq, bo_rvV, bo_rvL, bo_nil, bo_cons, bo_non, bo_valS, bo_int, bo_bool, bo_own, bo_src, kp_p1, kp_p2, kp_p3, kp_p4, kp_p5, kp_p6, kp_h, kp_d, kp_l1, kp_l2, kp_l3, kp_l4, kp_l5, kp_l6, kp_cups, kp_scoops, kp_rows, kp_looks, kp_held, kp_done, kp_choose, kp_nums, kp_stand, Int.reduceToNat, Int.reduceBEq, Nat.zero_add, Nat.reduceLT, h, decide_true, decide_false, Bool.true_and, Bool.false_and]
theorem e_is_count (n : Int) : d_is_count [.val (.int n)] = .ok (.val (.bool (decide (0 ≤ n))), [.val (.int n)]) := by
  unfold d_is_count
  simp (maxSteps := 1000000) (disch := first | omega | exact Or.inl rfl | exact Or.inr rfl | exact f_non | exact f_val _ | exact f_own _ | (simp only [List.length_map, List.length_replicate, List.length_append, List.length_cons, List.length_nil, firstI_length, List.length_range, rowsD_length, List.length_drop, List.length_take, sortB_len, rangeI_len]; omega)) only [↓rb, ↓r_ofO, ↓r_den, ↓r_oX1, ↓r_oX2, ↓r_bX1, ↓r_bX2, ↓r_lX1, ↓r_lX2, ↓r_C, ↓r_Var, ↓r_Val, ↓r_Move, ↓r_fz, ↓r_ofD, ↓r_Op, ↓r_eOp, ↓r_Un, ↓r_CB, ↓r_eCB, ↓r_Mul, ↓r_Nil, ↓r_Cons, ↓r_Lst, ↓r_Tup, ↓r_Bl, ↓r_And, ↓r_Or, ↓r_NotM, ↓r_Yes, ↓r_If, ↓r_Chain, ↓r_Next, ↓r_Seq, ↓r_Bk, ↓r_Ct, ↓r_Never, ↓r_Ret, ↓r_RetN, ↓r_Expr, ↓r_sIf, ↓r_Set, ↓r_Asg, ↓r_Par, ↓r_bName, ↓r_bNil, ↓r_bCons, ↓r_bTup, ↓r_bTupL, ↓r_free, ↓f_non, ↓f_val, ↓f_own, ↓f_pin, ↓r_toSl, ↓r_fzR, ↓r_dAnd, ↓r_dOr, ↓r_dNot, ↓r_ixO, ↓r_Put, ↓r_Mut, ↓r_arNil, ↓r_arV, ↓r_arR, ↓r_Call, ↓r_CallK, ↓r_CallKD, ↓r_CallT, ↓r_For, ↓r_Lc, ↓r_iSeq, ↓r_iRng1, ↓r_iRng2, ↓r_iEnum, ↓r_iEnumA, ↓r_iEnumB, ↓r_TR1, ↓r_LenO, ↓r_NeO, ↓r_iZip, ↓r_iZipB, ↓r_LenSet, ↓r_step, ↓r_LR1, ↓r_LR2, ↓r_oNone, ↓r_oSome, ↓r_Cut, ↓r_Rev, ↓r_RevA, ↓r_keep, ↓r_Raise, ↓r_Try, ↓r_endX, ↓r_Exn, ↓r_Fld, ↓r_FldM, ↓r_FldAdd, ↓r_bFld, ↓r_Meth, ↓r_MethT, ↓r_Make, ↓r_Par3, ↓r_Par3E, ↓r_AugN, ↓r_AugPut, ↓f_exn, ↓nx_nil, ↓nx_n, ↓nx_v, ↓nx_o, ↓nx_x, ↓r_Isi, ↓r_IsiT, ↓r_Bor, ↓r_BorE, ↓r_noEx, ↓r_wipe0, ↓r_wipe1, ↓r_outs0, ↓r_outs1, ↓r_out1, ↓r_out2, ↓r_mkA0, ↓r_mkA1, ↓r_mkA2, ↓r_wb0, ↓r_wb1, ↓r_wb2, ↓r_Said, ↓r_hide0, ↓r_hide1, ↓r_hideV, ↓r_hideO, ↓r_hideN, ↓r_IsE, ↓r_IsE2, ↓r_iZip3, ↓r_Mt, ↓r_Pre, ↓r_CutO, ↓r_setOwn, ↓r_Copy, ↓r_pick0, ↓r_pick1, ↓r_val0, ↓r_val1, ↓r_Dc, ↓r_Get2, ↓r_IxK, ↓r_IxKO, ↓r_PutK, ↓r_Dic0, ↓r_dstep, ↓r_TryM, ↓r_suX0, ↓r_suX1, ↓r_EnumZip, ↓g0, ↓g1, ↓g2, ↓g3, ↓g4, ↓g5, ↓g6, ↓g7, ↓g8, ↓g9, ↓g10, ↓g11, ↓g12, ↓g13, ↓g14, ↓g15, ↓g16, ↓g17, ↓g18, ↓g19, ↓g20, ↓g21, ↓g22, ↓g23, ↓g24, ↓g25, ↓u0, ↓u1, ↓u2, ↓u3, ↓u4, ↓u5, ↓u6, ↓u7, ↓u8, ↓u9, ↓u10, ↓u11, ↓u12, ↓u13, ↓u14, ↓u15, ↓u16, ↓u17, ↓u18, ↓u19, ↓u20, ↓u21, ↓u22, ↓u23, ↓u24, ↓u25, k_int, v_eqE0, v_neE0, K_nb, K_ni, K_ns, K_nl, K_nt, K_bb, K_bi, K_bs, K_bl, K_bt, K_ib, K_ii, K_is, K_il, K_it, K_sb, K_si, K_ss, K_sl, K_st, K_lb, K_li, K_ls, K_ll, K_lt, K_tb, K_ti, K_ts, K_tl, K_tt, K_db, K_di, K_ds, K_dl, K_dt, t_n, t_d, t_s, r_outO1, r_outO2, r_Ask1, r_Ask2, v_TR, v_add, v_sub, v_neg, v_lt, v_le, v_gt, v_ge, v_eq, v_ne, v_max2, v_min2, v_mod, v_div, v_pow9, v_pow18, v_mulL, v_mulR, v_divmod, v_lenL, v_lenT, v_sum, v_eqL, v_listOf, v_inT2, v_sorted, sortB_f, v_sortL, v_sortT, v_sortDL, v_sortDT, v_sortDP, v_keep, v_tupL, v_tupT, v_sumL, v_sumT, v_app, v_neL, v_pow39, v_pow40, ob_nil, ob_zero, ob_1, ob_2, ob_3, ob_4, ob_5, ob_6, ob_7, ob_8, ll_n, ll_b, ll_i, ll_s, bs_n, bs_v, bs_l, bs_s, llA_ints, List.all_cons, List.all_nil, Bool.and_true, Bool.true_and, Bool.false_and, Bool.and_false, Bool.and_self, v_isN0, v_isNi, v_notN0, v_notNi, v_ixL, v_ixT, v_cutL, v_cutT, k_ii, k_ib, k_bi, k_bb, k_ll, k_lt, k_tl, k_tt, t_i, t_b, t_l, t_t, isR, if_true, true_and, and_true, and_self, if_false, if_pos, Bool.not_true, Bool.not_false, List.length_cons, List.length_nil, List.replicate, List.cons_append, List.nil_append, List.head?_cons, List.tail_cons, List.any_nil, List.any_cons, Bool.false_eq_true, Bool.or_false, Bool.false_or, beq_self_eq_true, Nat.reduceSub, Nat.reduceAdd, Nat.reduceLeDiff, Nat.reduceBEq, Nat.reduceEqDiff, reduceIte, eq_self, reduceCtorEq, bo_rvV, bo_rvL, bo_nil, bo_cons, bo_non, bo_valS, bo_int, bo_bool, bo_own, bo_src, kp_p1, kp_p2, kp_p3, kp_p4, kp_p5, kp_p6, kp_h, kp_d, kp_l1, kp_l2, kp_l3, kp_l4, kp_l5, kp_l6, kp_cups, kp_scoops, kp_rows, kp_looks, kp_held, kp_done, kp_choose, kp_nums, kp_stand, Int.reduceToNat, Int.reduceBEq, Nat.zero_add, Nat.reduceLT, e_is_whole]
theorem e_mixed (c k : Int) : d__law_mixed [.val (.int c), .val (.int k)] = .ok (.val (.int (mixed c k)), [.val (.int c), .val (.int k)]) := by
  unfold d__law_mixed
  simp (maxSteps := 1000000) (disch := first | omega | exact Or.inl rfl | exact Or.inr rfl | exact f_non | exact f_val _ | exact f_own _ | (simp only [List.length_map, List.length_replicate, List.length_append, List.length_cons, List.length_nil, firstI_length, List.length_range, rowsD_length, List.length_drop, List.length_take, sortB_len, rangeI_len]; omega)) only [↓rb, ↓r_ofO, ↓r_den, ↓r_oX1, ↓r_oX2, ↓r_bX1, ↓r_bX2, ↓r_lX1, ↓r_lX2, ↓r_C, ↓r_Var, ↓r_Val, ↓r_Move, ↓r_fz, ↓r_ofD, ↓r_Op, ↓r_eOp, ↓r_Un, ↓r_CB, ↓r_eCB, ↓r_Mul, ↓r_Nil, ↓r_Cons, ↓r_Lst, ↓r_Tup, ↓r_Bl, ↓r_And, ↓r_Or, ↓r_NotM, ↓r_Yes, ↓r_If, ↓r_Chain, ↓r_Next, ↓r_Seq, ↓r_Bk, ↓r_Ct, ↓r_Never, ↓r_Ret, ↓r_RetN, ↓r_Expr, ↓r_sIf, ↓r_Set, ↓r_Asg, ↓r_Par, ↓r_bName, ↓r_bNil, ↓r_bCons, ↓r_bTup, ↓r_bTupL, ↓r_free, ↓f_non, ↓f_val, ↓f_own, ↓f_pin, ↓r_toSl, ↓r_fzR, ↓r_dAnd, ↓r_dOr, ↓r_dNot, ↓r_ixO, ↓r_Put, ↓r_Mut, ↓r_arNil, ↓r_arV, ↓r_arR, ↓r_Call, ↓r_CallK, ↓r_CallKD, ↓r_CallT, ↓r_For, ↓r_Lc, ↓r_iSeq, ↓r_iRng1, ↓r_iRng2, ↓r_iEnum, ↓r_iEnumA, ↓r_iEnumB, ↓r_TR1, ↓r_LenO, ↓r_NeO, ↓r_iZip, ↓r_iZipB, ↓r_LenSet, ↓r_step, ↓r_LR1, ↓r_LR2, ↓r_oNone, ↓r_oSome, ↓r_Cut, ↓r_Rev, ↓r_RevA, ↓r_keep, ↓r_Raise, ↓r_Try, ↓r_endX, ↓r_Exn, ↓r_Fld, ↓r_FldM, ↓r_FldAdd, ↓r_bFld, ↓r_Meth, ↓r_MethT, ↓r_Make, ↓r_Par3, ↓r_Par3E, ↓r_AugN, ↓r_AugPut, ↓f_exn, ↓nx_nil, ↓nx_n, ↓nx_v, ↓nx_o, ↓nx_x, ↓r_Isi, ↓r_IsiT, ↓r_Bor, ↓r_BorE, ↓r_noEx, ↓r_wipe0, ↓r_wipe1, ↓r_outs0, ↓r_outs1, ↓r_out1, ↓r_out2, ↓r_mkA0, ↓r_mkA1, ↓r_mkA2, ↓r_wb0, ↓r_wb1, ↓r_wb2, ↓r_Said, ↓r_hide0, ↓r_hide1, ↓r_hideV, ↓r_hideO, ↓r_hideN, ↓r_IsE, ↓r_IsE2, ↓r_iZip3, ↓r_Mt, ↓r_Pre, ↓r_CutO, ↓r_setOwn, ↓r_Copy, ↓r_pick0, ↓r_pick1, ↓r_val0, ↓r_val1, ↓r_Dc, ↓r_Get2, ↓r_IxK, ↓r_IxKO, ↓r_PutK, ↓r_Dic0, ↓r_dstep, ↓r_TryM, ↓r_suX0, ↓r_suX1, ↓r_EnumZip, ↓g0, ↓g1, ↓g2, ↓g3, ↓g4, ↓g5, ↓g6, ↓g7, ↓g8, ↓g9, ↓g10, ↓g11, ↓g12, ↓g13, ↓g14, ↓g15, ↓g16, ↓g17, ↓g18, ↓g19, ↓g20, ↓g21, ↓g22, ↓g23, ↓g24, ↓g25, ↓u0, ↓u1, ↓u2, ↓u3, ↓u4, ↓u5, ↓u6, ↓u7, ↓u8, ↓u9, ↓u10, ↓u11, ↓u12, ↓u13, ↓u14, ↓u15, ↓u16, ↓u17, ↓u18, ↓u19, ↓u20, ↓u21, ↓u22, ↓u23, ↓u24, ↓u25, k_int, v_eqE0, v_neE0, K_nb, K_ni, K_ns, K_nl, K_nt, K_bb, K_bi, K_bs, K_bl, K_bt, K_ib, K_ii, K_is, K_il, K_it, K_sb, K_si, K_ss, K_sl, K_st, K_lb, K_li, K_ls, K_ll, K_lt, K_tb, K_ti, K_ts, K_tl, K_tt, K_db, K_di, K_ds, K_dl, K_dt, t_n, t_d, t_s, r_outO1, r_outO2, r_Ask1, r_Ask2, v_TR, v_add, v_sub, v_neg, v_lt, v_le, v_gt, v_ge, v_eq, v_ne, v_max2, v_min2, v_mod, v_div, v_pow9, v_pow18, v_mulL, v_mulR, v_divmod, v_lenL, v_lenT, v_sum, v_eqL, v_listOf, v_inT2, v_sorted, sortB_f, v_sortL, v_sortT, v_sortDL, v_sortDT, v_sortDP, v_keep, v_tupL, v_tupT, v_sumL, v_sumT, v_app, v_neL, v_pow39, v_pow40, ob_nil, ob_zero, ob_1, ob_2, ob_3, ob_4, ob_5, ob_6, ob_7, ob_8, ll_n, ll_b, ll_i, ll_s, bs_n, bs_v, bs_l, bs_s, llA_ints, List.all_cons, List.all_nil, Bool.and_true, Bool.true_and, Bool.false_and, Bool.and_false, Bool.and_self, v_isN0, v_isNi, v_notN0, v_notNi, v_ixL, v_ixT, v_cutL, v_cutT, k_ii, k_ib, k_bi, k_bb, k_ll, k_lt, k_tl, k_tt, t_i, t_b, t_l, t_t, isR, if_true, true_and, and_true, and_self, if_false, if_pos, Bool.not_true, Bool.not_false, List.length_cons, List.length_nil, List.replicate, List.cons_append, List.nil_append, List.head?_cons, List.tail_cons, List.any_nil, List.any_cons, Bool.false_eq_true, Bool.or_false, Bool.false_or, beq_self_eq_true, Nat.reduceSub, Nat.reduceAdd, Nat.reduceLeDiff, Nat.reduceBEq, Nat.reduceEqDiff, reduceIte, eq_self, reduceCtorEq, bo_rvV, bo_rvL, bo_nil, bo_cons, bo_non, bo_valS, bo_int, bo_bool, bo_own, bo_src, kp_p1, kp_p2, kp_p3, kp_p4, kp_p5, kp_p6, kp_h, kp_d, kp_l1, kp_l2, kp_l3, kp_l4, kp_l5, kp_l6, kp_cups, kp_scoops, kp_rows, kp_looks, kp_held, kp_done, kp_choose, kp_nums, kp_stand, Int.reduceToNat, Int.reduceBEq, Nat.zero_add, Nat.reduceLT]
  rfl
theorem e_take (s : Src) (m : Int) (h : 0 < m) (h2 : m < 340282366920938463463374607431768211456) : d__law_take [.own true (srcO s), .val (.int m)] = .ok (.val (.int (tkV s m)), [.own true (srcO (tkS s m)), .val (.int m)]) := by
  obtain ⟨x, y, z⟩ := s
  unfold d__law_take tkV tkS srcO
  by_cases hc : 1000000000000000000 ≤ x
  · simp (maxSteps := 1000000) (disch := first | omega | exact Or.inl rfl | exact Or.inr rfl | exact f_non | exact f_val _ | exact f_own _ | (simp only [List.length_map, List.length_replicate, List.length_append, List.length_cons, List.length_nil, firstI_length, List.length_range, rowsD_length, List.length_drop, List.length_take, sortB_len, rangeI_len]; omega)) only [↓rb, ↓r_ofO, ↓r_den, ↓r_oX1, ↓r_oX2, ↓r_bX1, ↓r_bX2, ↓r_lX1, ↓r_lX2, ↓r_C, ↓r_Var, ↓r_Val, ↓r_Move, ↓r_fz, ↓r_ofD, ↓r_Op, ↓r_eOp, ↓r_Un, ↓r_CB, ↓r_eCB, ↓r_Mul, ↓r_Nil, ↓r_Cons, ↓r_Lst, ↓r_Tup, ↓r_Bl, ↓r_And, ↓r_Or, ↓r_NotM, ↓r_Yes, ↓r_If, ↓r_Chain, ↓r_Next, ↓r_Seq, ↓r_Bk, ↓r_Ct, ↓r_Never, ↓r_Ret, ↓r_RetN, ↓r_Expr, ↓r_sIf, ↓r_Set, ↓r_Asg, ↓r_Par, ↓r_bName, ↓r_bNil, ↓r_bCons, ↓r_bTup, ↓r_bTupL, ↓r_free, ↓f_non, ↓f_val, ↓f_own, ↓f_pin, ↓r_toSl, ↓r_fzR, ↓r_dAnd, ↓r_dOr, ↓r_dNot, ↓r_ixO, ↓r_Put, ↓r_Mut, ↓r_arNil, ↓r_arV, ↓r_arR, ↓r_Call, ↓r_CallK, ↓r_CallKD, ↓r_CallT, ↓r_For, ↓r_Lc, ↓r_iSeq, ↓r_iRng1, ↓r_iRng2, ↓r_iEnum, ↓r_iEnumA, ↓r_iEnumB, ↓r_TR1, ↓r_LenO, ↓r_NeO, ↓r_iZip, ↓r_iZipB, ↓r_LenSet, ↓r_step, ↓r_LR1, ↓r_LR2, ↓r_oNone, ↓r_oSome, ↓r_Cut, ↓r_Rev, ↓r_RevA, ↓r_keep, ↓r_Raise, ↓r_Try, ↓r_endX, ↓r_Exn, ↓r_Fld, ↓r_FldM, ↓r_FldAdd, ↓r_bFld, ↓r_Meth, ↓r_MethT, ↓r_Make, ↓r_Par3, ↓r_Par3E, ↓r_AugN, ↓r_AugPut, ↓f_exn, ↓nx_nil, ↓nx_n, ↓nx_v, ↓nx_o, ↓nx_x, ↓r_Isi, ↓r_IsiT, ↓r_Bor, ↓r_BorE, ↓r_noEx, ↓r_wipe0, ↓r_wipe1, ↓r_outs0, ↓r_outs1, ↓r_out1, ↓r_out2, ↓r_mkA0, ↓r_mkA1, ↓r_mkA2, ↓r_wb0, ↓r_wb1, ↓r_wb2, ↓r_Said, ↓r_hide0, ↓r_hide1, ↓r_hideV, ↓r_hideO, ↓r_hideN, ↓r_IsE, ↓r_IsE2, ↓r_iZip3, ↓r_Mt, ↓r_Pre, ↓r_CutO, ↓r_setOwn, ↓r_Copy, ↓r_pick0, ↓r_pick1, ↓r_val0, ↓r_val1, ↓r_Dc, ↓r_Get2, ↓r_IxK, ↓r_IxKO, ↓r_PutK, ↓r_Dic0, ↓r_dstep, ↓r_TryM, ↓r_suX0, ↓r_suX1, ↓r_EnumZip, ↓g0, ↓g1, ↓g2, ↓g3, ↓g4, ↓g5, ↓g6, ↓g7, ↓g8, ↓g9, ↓g10, ↓g11, ↓g12, ↓g13, ↓g14, ↓g15, ↓g16, ↓g17, ↓g18, ↓g19, ↓g20, ↓g21, ↓g22, ↓g23, ↓g24, ↓g25, ↓u0, ↓u1, ↓u2, ↓u3, ↓u4, ↓u5, ↓u6, ↓u7, ↓u8, ↓u9, ↓u10, ↓u11, ↓u12, ↓u13, ↓u14, ↓u15, ↓u16, ↓u17, ↓u18, ↓u19, ↓u20, ↓u21, ↓u22, ↓u23, ↓u24, ↓u25, k_int, v_eqE0, v_neE0, K_nb, K_ni, K_ns, K_nl, K_nt, K_bb, K_bi, K_bs, K_bl, K_bt, K_ib, K_ii, K_is, K_il, K_it, K_sb, K_si, K_ss, K_sl, K_st, K_lb, K_li, K_ls, K_ll, K_lt, K_tb, K_ti, K_ts, K_tl, K_tt, K_db, K_di, K_ds, K_dl, K_dt, t_n, t_d, t_s, r_outO1, r_outO2, r_Ask1, r_Ask2, v_TR, v_add, v_sub, v_neg, v_lt, v_le, v_gt, v_ge, v_eq, v_ne, v_max2, v_min2, v_mod, v_div, v_pow9, v_pow18, v_mulL, v_mulR, v_divmod, v_lenL, v_lenT, v_sum, v_eqL, v_listOf, v_inT2, v_sorted, sortB_f, v_sortL, v_sortT, v_sortDL, v_sortDT, v_sortDP, v_keep, v_tupL, v_tupT, v_sumL, v_sumT, v_app, v_neL, v_pow39, v_pow40, ob_nil, ob_zero, ob_1, ob_2, ob_3, ob_4, ob_5, ob_6, ob_7, ob_8, ll_n, ll_b, ll_i, ll_s, bs_n, bs_v, bs_l, bs_s, llA_ints, List.all_cons, List.all_nil, Bool.and_true, Bool.true_and, Bool.false_and, Bool.and_false, Bool.and_self, v_isN0, v_isNi, v_notN0, v_notNi, v_ixL, v_ixT, v_cutL, v_cutT, k_ii, k_ib, k_bi, k_bb, k_ll, k_lt, k_tl, k_tt, t_i, t_b, t_l, t_t, isR, if_true, true_and, and_true, and_self, if_false, if_pos, Bool.not_true, Bool.not_false, List.length_cons, List.length_nil, List.replicate, List.cons_append, List.nil_append, List.head?_cons, List.tail_cons, List.any_nil, List.any_cons, Bool.false_eq_true, Bool.or_false, Bool.false_or, beq_self_eq_true, Nat.reduceSub, Nat.reduceAdd, Nat.reduceLeDiff, Nat.reduceBEq, Nat.reduceEqDiff, reduceIte, eq_self, reduceCtorEq, bo_rvV, bo_rvL, bo_nil, bo_cons, bo_non, bo_valS, bo_int, bo_bool, bo_own, bo_src, kp_p1, kp_p2, kp_p3, kp_p4, kp_p5, kp_p6, kp_h, kp_d, kp_l1, kp_l2, kp_l3, kp_l4, kp_l5, kp_l6, kp_cups, kp_scoops, kp_rows, kp_looks, kp_held, kp_done, kp_choose, kp_nums, kp_stand, Int.reduceToNat, Int.reduceBEq, Nat.zero_add, Nat.reduceLT, at0, ixD0, hc, decide_true]
  · simp (maxSteps := 1000000) (disch := first | omega | exact Or.inl rfl | exact Or.inr rfl | exact f_non | exact f_val _ | exact f_own _ | (simp only [List.length_map, List.length_replicate, List.length_append, List.length_cons, List.length_nil, firstI_length, List.length_range, rowsD_length, List.length_drop, List.length_take, sortB_len, rangeI_len]; omega)) only [↓rb, ↓r_ofO, ↓r_den, ↓r_oX1, ↓r_oX2, ↓r_bX1, ↓r_bX2, ↓r_lX1, ↓r_lX2, ↓r_C, ↓r_Var, ↓r_Val, ↓r_Move, ↓r_fz, ↓r_ofD, ↓r_Op, ↓r_eOp, ↓r_Un, ↓r_CB, ↓r_eCB, ↓r_Mul, ↓r_Nil, ↓r_Cons, ↓r_Lst, ↓r_Tup, ↓r_Bl, ↓r_And, ↓r_Or, ↓r_NotM, ↓r_Yes, ↓r_If, ↓r_Chain, ↓r_Next, ↓r_Seq, ↓r_Bk, ↓r_Ct, ↓r_Never, ↓r_Ret, ↓r_RetN, ↓r_Expr, ↓r_sIf, ↓r_Set, ↓r_Asg, ↓r_Par, ↓r_bName, ↓r_bNil, ↓r_bCons, ↓r_bTup, ↓r_bTupL, ↓r_free, ↓f_non, ↓f_val, ↓f_own, ↓f_pin, ↓r_toSl, ↓r_fzR, ↓r_dAnd, ↓r_dOr, ↓r_dNot, ↓r_ixO, ↓r_Put, ↓r_Mut, ↓r_arNil, ↓r_arV, ↓r_arR, ↓r_Call, ↓r_CallK, ↓r_CallKD, ↓r_CallT, ↓r_For, ↓r_Lc, ↓r_iSeq, ↓r_iRng1, ↓r_iRng2, ↓r_iEnum, ↓r_iEnumA, ↓r_iEnumB, ↓r_TR1, ↓r_LenO, ↓r_NeO, ↓r_iZip, ↓r_iZipB, ↓r_LenSet, ↓r_step, ↓r_LR1, ↓r_LR2, ↓r_oNone, ↓r_oSome, ↓r_Cut, ↓r_Rev, ↓r_RevA, ↓r_keep, ↓r_Raise, ↓r_Try, ↓r_endX, ↓r_Exn, ↓r_Fld, ↓r_FldM, ↓r_FldAdd, ↓r_bFld, ↓r_Meth, ↓r_MethT, ↓r_Make, ↓r_Par3, ↓r_Par3E, ↓r_AugN, ↓r_AugPut, ↓f_exn, ↓nx_nil, ↓nx_n, ↓nx_v, ↓nx_o, ↓nx_x, ↓r_Isi, ↓r_IsiT, ↓r_Bor, ↓r_BorE, ↓r_noEx, ↓r_wipe0, ↓r_wipe1, ↓r_outs0, ↓r_outs1, ↓r_out1, ↓r_out2, ↓r_mkA0, ↓r_mkA1, ↓r_mkA2, ↓r_wb0, ↓r_wb1, ↓r_wb2, ↓r_Said, ↓r_hide0, ↓r_hide1, ↓r_hideV, ↓r_hideO, ↓r_hideN, ↓r_IsE, ↓r_IsE2, ↓r_iZip3, ↓r_Mt, ↓r_Pre, ↓r_CutO, ↓r_setOwn, ↓r_Copy, ↓r_pick0, ↓r_pick1, ↓r_val0, ↓r_val1, ↓r_Dc, ↓r_Get2, ↓r_IxK, ↓r_IxKO, ↓r_PutK, ↓r_Dic0, ↓r_dstep, ↓r_TryM, ↓r_suX0, ↓r_suX1, ↓r_EnumZip, ↓g0, ↓g1, ↓g2, ↓g3, ↓g4, ↓g5, ↓g6, ↓g7, ↓g8, ↓g9, ↓g10, ↓g11, ↓g12, ↓g13, ↓g14, ↓g15, ↓g16, ↓g17, ↓g18, ↓g19, ↓g20, ↓g21, ↓g22, ↓g23, ↓g24, ↓g25, ↓u0, ↓u1, ↓u2, ↓u3, ↓u4, ↓u5, ↓u6, ↓u7, ↓u8, ↓u9, ↓u10, ↓u11, ↓u12, ↓u13, ↓u14, ↓u15, ↓u16, ↓u17, ↓u18, ↓u19, ↓u20, ↓u21, ↓u22, ↓u23, ↓u24, ↓u25, k_int, v_eqE0, v_neE0, K_nb, K_ni, K_ns, K_nl, K_nt, K_bb, K_bi, K_bs, K_bl, K_bt, K_ib, K_ii, K_is, K_il, K_it, K_sb, K_si, K_ss, K_sl, K_st, K_lb, K_li, K_ls, K_ll, K_lt, K_tb, K_ti, K_ts, K_tl, K_tt, K_db, K_di, K_ds, K_dl, K_dt, t_n, t_d, t_s, r_outO1, r_outO2, r_Ask1, r_Ask2, v_TR, v_add, v_sub, v_neg, v_lt, v_le, v_gt, v_ge, v_eq, v_ne, v_max2, v_min2, v_mod, v_div, v_pow9, v_pow18, v_mulL, v_mulR, v_divmod, v_lenL, v_lenT, v_sum, v_eqL, v_listOf, v_inT2, v_sorted, sortB_f, v_sortL, v_sortT, v_sortDL, v_sortDT, v_sortDP, v_keep, v_tupL, v_tupT, v_sumL, v_sumT, v_app, v_neL, v_pow39, v_pow40, ob_nil, ob_zero, ob_1, ob_2, ob_3, ob_4, ob_5, ob_6, ob_7, ob_8, ll_n, ll_b, ll_i, ll_s, bs_n, bs_v, bs_l, bs_s, llA_ints, List.all_cons, List.all_nil, Bool.and_true, Bool.true_and, Bool.false_and, Bool.and_false, Bool.and_self, v_isN0, v_isNi, v_notN0, v_notNi, v_ixL, v_ixT, v_cutL, v_cutT, k_ii, k_ib, k_bi, k_bb, k_ll, k_lt, k_tl, k_tt, t_i, t_b, t_l, t_t, isR, if_true, true_and, and_true, and_self, if_false, if_pos, Bool.not_true, Bool.not_false, List.length_cons, List.length_nil, List.replicate, List.cons_append, List.nil_append, List.head?_cons, List.tail_cons, List.any_nil, List.any_cons, Bool.false_eq_true, Bool.or_false, Bool.false_or, beq_self_eq_true, Nat.reduceSub, Nat.reduceAdd, Nat.reduceLeDiff, Nat.reduceBEq, Nat.reduceEqDiff, reduceIte, eq_self, reduceCtorEq, bo_rvV, bo_rvL, bo_nil, bo_cons, bo_non, bo_valS, bo_int, bo_bool, bo_own, bo_src, kp_p1, kp_p2, kp_p3, kp_p4, kp_p5, kp_p6, kp_h, kp_d, kp_l1, kp_l2, kp_l3, kp_l4, kp_l5, kp_l6, kp_cups, kp_scoops, kp_rows, kp_looks, kp_held, kp_done, kp_choose, kp_nums, kp_stand, Int.reduceToNat, Int.reduceBEq, Nat.zero_add, Nat.reduceLT, at0, at1, at2, ixD2, hc, decide_false, e_mixed]
theorem e_source (c : Int) : d__law_source [.val (.int c)] = .ok (.own (srcO (c, c, 0)), [.val (.int c)]) := by
  unfold d__law_source srcO
  simp (maxSteps := 1000000) (disch := first | omega | exact Or.inl rfl | exact Or.inr rfl | exact f_non | exact f_val _ | exact f_own _ | (simp only [List.length_map, List.length_replicate, List.length_append, List.length_cons, List.length_nil, firstI_length, List.length_range, rowsD_length, List.length_drop, List.length_take, sortB_len, rangeI_len]; omega)) only [↓rb, ↓r_ofO, ↓r_den, ↓r_oX1, ↓r_oX2, ↓r_bX1, ↓r_bX2, ↓r_lX1, ↓r_lX2, ↓r_C, ↓r_Var, ↓r_Val, ↓r_Move, ↓r_fz, ↓r_ofD, ↓r_Op, ↓r_eOp, ↓r_Un, ↓r_CB, ↓r_eCB, ↓r_Mul, ↓r_Nil, ↓r_Cons, ↓r_Lst, ↓r_Tup, ↓r_Bl, ↓r_And, ↓r_Or, ↓r_NotM, ↓r_Yes, ↓r_If, ↓r_Chain, ↓r_Next, ↓r_Seq, ↓r_Bk, ↓r_Ct, ↓r_Never, ↓r_Ret, ↓r_RetN, ↓r_Expr, ↓r_sIf, ↓r_Set, ↓r_Asg, ↓r_Par, ↓r_bName, ↓r_bNil, ↓r_bCons, ↓r_bTup, ↓r_bTupL, ↓r_free, ↓f_non, ↓f_val, ↓f_own, ↓f_pin, ↓r_toSl, ↓r_fzR, ↓r_dAnd, ↓r_dOr, ↓r_dNot, ↓r_ixO, ↓r_Put, ↓r_Mut, ↓r_arNil, ↓r_arV, ↓r_arR, ↓r_Call, ↓r_CallK, ↓r_CallKD, ↓r_CallT, ↓r_For, ↓r_Lc, ↓r_iSeq, ↓r_iRng1, ↓r_iRng2, ↓r_iEnum, ↓r_iEnumA, ↓r_iEnumB, ↓r_TR1, ↓r_LenO, ↓r_NeO, ↓r_iZip, ↓r_iZipB, ↓r_LenSet, ↓r_step, ↓r_LR1, ↓r_LR2, ↓r_oNone, ↓r_oSome, ↓r_Cut, ↓r_Rev, ↓r_RevA, ↓r_keep, ↓r_Raise, ↓r_Try, ↓r_endX, ↓r_Exn, ↓r_Fld, ↓r_FldM, ↓r_FldAdd, ↓r_bFld, ↓r_Meth, ↓r_MethT, ↓r_Make, ↓r_Par3, ↓r_Par3E, ↓r_AugN, ↓r_AugPut, ↓f_exn, ↓nx_nil, ↓nx_n, ↓nx_v, ↓nx_o, ↓nx_x, ↓r_Isi, ↓r_IsiT, ↓r_Bor, ↓r_BorE, ↓r_noEx, ↓r_wipe0, ↓r_wipe1, ↓r_outs0, ↓r_outs1, ↓r_out1, ↓r_out2, ↓r_mkA0, ↓r_mkA1, ↓r_mkA2, ↓r_wb0, ↓r_wb1, ↓r_wb2, ↓r_Said, ↓r_hide0, ↓r_hide1, ↓r_hideV, ↓r_hideO, ↓r_hideN, ↓r_IsE, ↓r_IsE2, ↓r_iZip3, ↓r_Mt, ↓r_Pre, ↓r_CutO, ↓r_setOwn, ↓r_Copy, ↓r_pick0, ↓r_pick1, ↓r_val0, ↓r_val1, ↓r_Dc, ↓r_Get2, ↓r_IxK, ↓r_IxKO, ↓r_PutK, ↓r_Dic0, ↓r_dstep, ↓r_TryM, ↓r_suX0, ↓r_suX1, ↓r_EnumZip, ↓g0, ↓g1, ↓g2, ↓g3, ↓g4, ↓g5, ↓g6, ↓g7, ↓g8, ↓g9, ↓g10, ↓g11, ↓g12, ↓g13, ↓g14, ↓g15, ↓g16, ↓g17, ↓g18, ↓g19, ↓g20, ↓g21, ↓g22, ↓g23, ↓g24, ↓g25, ↓u0, ↓u1, ↓u2, ↓u3, ↓u4, ↓u5, ↓u6, ↓u7, ↓u8, ↓u9, ↓u10, ↓u11, ↓u12, ↓u13, ↓u14, ↓u15, ↓u16, ↓u17, ↓u18, ↓u19, ↓u20, ↓u21, ↓u22, ↓u23, ↓u24, ↓u25, k_int, v_eqE0, v_neE0, K_nb, K_ni, K_ns, K_nl, K_nt, K_bb, K_bi, K_bs, K_bl, K_bt, K_ib, K_ii, K_is, K_il, K_it, K_sb, K_si, K_ss, K_sl, K_st, K_lb, K_li, K_ls, K_ll, K_lt, K_tb, K_ti, K_ts, K_tl, K_tt, K_db, K_di, K_ds, K_dl, K_dt, t_n, t_d, t_s, r_outO1, r_outO2, r_Ask1, r_Ask2, v_TR, v_add, v_sub, v_neg, v_lt, v_le, v_gt, v_ge, v_eq, v_ne, v_max2, v_min2, v_mod, v_div, v_pow9, v_pow18, v_mulL, v_mulR, v_divmod, v_lenL, v_lenT, v_sum, v_eqL, v_listOf, v_inT2, v_sorted, sortB_f, v_sortL, v_sortT, v_sortDL, v_sortDT, v_sortDP, v_keep, v_tupL, v_tupT, v_sumL, v_sumT, v_app, v_neL, v_pow39, v_pow40, ob_nil, ob_zero, ob_1, ob_2, ob_3, ob_4, ob_5, ob_6, ob_7, ob_8, ll_n, ll_b, ll_i, ll_s, bs_n, bs_v, bs_l, bs_s, llA_ints, List.all_cons, List.all_nil, Bool.and_true, Bool.true_and, Bool.false_and, Bool.and_false, Bool.and_self, v_isN0, v_isNi, v_notN0, v_notNi, v_ixL, v_ixT, v_cutL, v_cutT, k_ii, k_ib, k_bi, k_bb, k_ll, k_lt, k_tl, k_tt, t_i, t_b, t_l, t_t, isR, if_true, true_and, and_true, and_self, if_false, if_pos, Bool.not_true, Bool.not_false, List.length_cons, List.length_nil, List.replicate, List.cons_append, List.nil_append, List.head?_cons, List.tail_cons, List.any_nil, List.any_cons, Bool.false_eq_true, Bool.or_false, Bool.false_or, beq_self_eq_true, Nat.reduceSub, Nat.reduceAdd, Nat.reduceLeDiff, Nat.reduceBEq, Nat.reduceEqDiff, reduceIte, eq_self, reduceCtorEq, bo_rvV, bo_rvL, bo_nil, bo_cons, bo_non, bo_valS, bo_int, bo_bool, bo_own, bo_src, kp_p1, kp_p2, kp_p3, kp_p4, kp_p5, kp_p6, kp_h, kp_d, kp_l1, kp_l2, kp_l3, kp_l4, kp_l5, kp_l6, kp_cups, kp_scoops, kp_rows, kp_looks, kp_held, kp_done, kp_choose, kp_nums, kp_stand, Int.reduceToNat, Int.reduceBEq, Nat.zero_add, Nat.reduceLT]
theorem e_are_counts (l : List Int) (m : Int) (hn : ∀ z ∈ l, 0 ≤ z) (hl : (l.length : Int) = m) (hb : l.length ≤ 1000) : d_are_counts [.val (.tuple (l.map .int)), .val (.int m)] = .ok (.val (.bool true), [.val (.tuple (l.map .int)), .val (.int m)]) := by
  have lc : lcD [2] (bName 2) tYesM x_are_counts_1 (l.map .int) [] [.val (.tuple (l.map .int)), .val (.int m), .non] = .ok (l.map (fun z => .bool (decide (0 ≤ z))), [.val (.tuple (l.map .int)), .val (.int m), .non]) :=
    lcD_mapI .int (fun z => .bool (decide (0 ≤ z))) l (fun z _ => by simp (maxSteps := 1000000) (disch := first | omega | exact Or.inl rfl | exact Or.inr rfl | exact f_non | exact f_val _ | exact f_own _ | (simp only [List.length_map, List.length_replicate, List.length_append, List.length_cons, List.length_nil, firstI_length, List.length_range, rowsD_length, List.length_drop, List.length_take, sortB_len, rangeI_len]; omega)) only [↓rb, ↓r_ofO, ↓r_den, ↓r_oX1, ↓r_oX2, ↓r_bX1, ↓r_bX2, ↓r_lX1, ↓r_lX2, ↓r_C, ↓r_Var, ↓r_Val, ↓r_Move, ↓r_fz, ↓r_ofD, ↓r_Op, ↓r_eOp, ↓r_Un, ↓r_CB, ↓r_eCB, ↓r_Mul, ↓r_Nil, ↓r_Cons, ↓r_Lst, ↓r_Tup, ↓r_Bl, ↓r_And, ↓r_Or, ↓r_NotM, ↓r_Yes, ↓r_If, ↓r_Chain, ↓r_Next, ↓r_Seq, ↓r_Bk, ↓r_Ct, ↓r_Never, ↓r_Ret, ↓r_RetN, ↓r_Expr, ↓r_sIf, ↓r_Set, ↓r_Asg, ↓r_Par, ↓r_bName, ↓r_bNil, ↓r_bCons, ↓r_bTup, ↓r_bTupL, ↓r_free, ↓f_non, ↓f_val, ↓f_own, ↓f_pin, ↓r_toSl, ↓r_fzR, ↓r_dAnd, ↓r_dOr, ↓r_dNot, ↓r_ixO, ↓r_Put, ↓r_Mut, ↓r_arNil, ↓r_arV, ↓r_arR, ↓r_Call, ↓r_CallK, ↓r_CallKD, ↓r_CallT, ↓r_For, ↓r_Lc, ↓r_iSeq, ↓r_iRng1, ↓r_iRng2, ↓r_iEnum, ↓r_iEnumA, ↓r_iEnumB, ↓r_TR1, ↓r_LenO, ↓r_NeO, ↓r_iZip, ↓r_iZipB, ↓r_LenSet, ↓r_step, ↓r_LR1, ↓r_LR2, ↓r_oNone, ↓r_oSome, ↓r_Cut, ↓r_Rev, ↓r_RevA, ↓r_keep, ↓r_Raise, ↓r_Try, ↓r_endX, ↓r_Exn, ↓r_Fld, ↓r_FldM, ↓r_FldAdd, ↓r_bFld, ↓r_Meth, ↓r_MethT, ↓r_Make, ↓r_Par3, ↓r_Par3E, ↓r_AugN, ↓r_AugPut, ↓f_exn, ↓nx_nil, ↓nx_n, ↓nx_v, ↓nx_o, ↓nx_x, ↓r_Isi, ↓r_IsiT, ↓r_Bor, ↓r_BorE, ↓r_noEx, ↓r_wipe0, ↓r_wipe1, ↓r_outs0, ↓r_outs1, ↓r_out1, ↓r_out2, ↓r_mkA0, ↓r_mkA1, ↓r_mkA2, ↓r_wb0, ↓r_wb1, ↓r_wb2, ↓r_Said, ↓r_hide0, ↓r_hide1, ↓r_hideV, ↓r_hideO, ↓r_hideN, ↓r_IsE, ↓r_IsE2, ↓r_iZip3, ↓r_Mt, ↓r_Pre, ↓r_CutO, ↓r_setOwn, ↓r_Copy, ↓r_pick0, ↓r_pick1, ↓r_val0, ↓r_val1, ↓r_Dc, ↓r_Get2, ↓r_IxK, ↓r_IxKO, ↓r_PutK, ↓r_Dic0, ↓r_dstep, ↓r_TryM, ↓r_suX0, ↓r_suX1, ↓r_EnumZip, ↓g0, ↓g1, ↓g2, ↓g3, ↓g4, ↓g5, ↓g6, ↓g7, ↓g8, ↓g9, ↓g10, ↓g11, ↓g12, ↓g13, ↓g14, ↓g15, ↓g16, ↓g17, ↓g18, ↓g19, ↓g20, ↓g21, ↓g22, ↓g23, ↓g24, ↓g25, ↓u0, ↓u1, ↓u2, ↓u3, ↓u4, ↓u5, ↓u6, ↓u7, ↓u8, ↓u9, ↓u10, ↓u11, ↓u12, ↓u13, ↓u14, ↓u15, ↓u16, ↓u17, ↓u18, ↓u19, ↓u20, ↓u21, ↓u22, ↓u23, ↓u24, ↓u25, k_int, v_eqE0, v_neE0, K_nb, K_ni, K_ns, K_nl, K_nt, K_bb, K_bi, K_bs, K_bl, K_bt, K_ib, K_ii, K_is, K_il, K_it, K_sb, K_si, K_ss, K_sl, K_st, K_lb, K_li, K_ls, K_ll, K_lt, K_tb, K_ti, K_ts, K_tl, K_tt, K_db, K_di, K_ds, K_dl, K_dt, t_n, t_d, t_s, r_outO1, r_outO2, r_Ask1, r_Ask2, v_TR, v_add, v_sub, v_neg, v_lt, v_le, v_gt, v_ge, v_eq, v_ne, v_max2, v_min2, v_mod, v_div, v_pow9, v_pow18, v_mulL, v_mulR, v_divmod, v_lenL, v_lenT, v_sum, v_eqL, v_listOf, v_inT2, v_sorted, sortB_f, v_sortL, v_sortT, v_sortDL, v_sortDT, v_sortDP, v_keep, v_tupL, v_tupT, v_sumL, v_sumT, v_app, v_neL, v_pow39, v_pow40, ob_nil, ob_zero, ob_1, ob_2, ob_3, ob_4, ob_5, ob_6, ob_7, ob_8, ll_n, ll_b, ll_i, ll_s, bs_n, bs_v, bs_l, bs_s, llA_ints, List.all_cons, List.all_nil, Bool.and_true, Bool.true_and, Bool.false_and, Bool.and_false, Bool.and_self, v_isN0, v_isNi, v_notN0, v_notNi, v_ixL, v_ixT, v_cutL, v_cutT, k_ii, k_ib, k_bi, k_bb, k_ll, k_lt, k_tl, k_tt, t_i, t_b, t_l, t_t, isR, if_true, true_and, and_true, and_self, if_false, if_pos, Bool.not_true, Bool.not_false, List.length_cons, List.length_nil, List.replicate, List.cons_append, List.nil_append, List.head?_cons, List.tail_cons, List.any_nil, List.any_cons, Bool.false_eq_true, Bool.or_false, Bool.false_or, beq_self_eq_true, Nat.reduceSub, Nat.reduceAdd, Nat.reduceLeDiff, Nat.reduceBEq, Nat.reduceEqDiff, reduceIte, eq_self, reduceCtorEq, bo_rvV, bo_rvL, bo_nil, bo_cons, bo_non, bo_valS, bo_int, bo_bool, bo_own, bo_src, kp_p1, kp_p2, kp_p3, kp_p4, kp_p5, kp_p6, kp_h, kp_d, kp_l1, kp_l2, kp_l3, kp_l4, kp_l5, kp_l6, kp_cups, kp_scoops, kp_rows, kp_looks, kp_held, kp_done, kp_choose, kp_nums, kp_stand, Int.reduceToNat, Int.reduceBEq, Nat.zero_add, Nat.reduceLT, u_x_are_counts_1, e_is_count]) (by omega)
  have ha : l.all (fun z => decide (0 ≤ z)) = true := List.all_eq_true.mpr fun z hz => decide_eq_true (hn z hz)
  rw [q_are_counts]
  simp (maxSteps := 1000000) (disch := first | omega | exact Or.inl rfl | exact Or.inr rfl | exact f_non | exact f_val _ | exact f_own _ | (simp only [List.length_map, List.length_replicate, List.length_append, List.length_cons, List.length_nil, firstI_length, List.length_range, rowsD_length, List.length_drop, List.length_take, sortB_len, rangeI_len]; omega)) only [↓rb, ↓r_ofO, ↓r_den, ↓r_oX1, ↓r_oX2, ↓r_bX1, ↓r_bX2, ↓r_lX1, ↓r_lX2, ↓r_C, ↓r_Var, ↓r_Val, ↓r_Move, ↓r_fz, ↓r_ofD, ↓r_Op, ↓r_eOp, ↓r_Un, ↓r_CB, ↓r_eCB, ↓r_Mul, ↓r_Nil, ↓r_Cons, ↓r_Lst, ↓r_Tup, ↓r_Bl, ↓r_And, ↓r_Or, ↓r_NotM, ↓r_Yes, ↓r_If, ↓r_Chain, ↓r_Next, ↓r_Seq, ↓r_Bk, ↓r_Ct, ↓r_Never, ↓r_Ret, ↓r_RetN, ↓r_Expr, ↓r_sIf, ↓r_Set, ↓r_Asg, ↓r_Par, ↓r_bName, ↓r_bNil, ↓r_bCons, ↓r_bTup, ↓r_bTupL, ↓r_free, ↓f_non, ↓f_val, ↓f_own, ↓f_pin, ↓r_toSl, ↓r_fzR, ↓r_dAnd, ↓r_dOr, ↓r_dNot, ↓r_ixO, ↓r_Put, ↓r_Mut, ↓r_arNil, ↓r_arV, ↓r_arR, ↓r_Call, ↓r_CallK, ↓r_CallKD, ↓r_CallT, ↓r_For, ↓r_Lc, ↓r_iSeq, ↓r_iRng1, ↓r_iRng2, ↓r_iEnum, ↓r_iEnumA, ↓r_iEnumB, ↓r_TR1, ↓r_LenO, ↓r_NeO, ↓r_iZip, ↓r_iZipB, ↓r_LenSet, ↓r_step, ↓r_LR1, ↓r_LR2, ↓r_oNone, ↓r_oSome, ↓r_Cut, ↓r_Rev, ↓r_RevA, ↓r_keep, ↓r_Raise, ↓r_Try, ↓r_endX, ↓r_Exn, ↓r_Fld, ↓r_FldM, ↓r_FldAdd, ↓r_bFld, ↓r_Meth, ↓r_MethT, ↓r_Make, ↓r_Par3, ↓r_Par3E, ↓r_AugN, ↓r_AugPut, ↓f_exn, ↓nx_nil, ↓nx_n, ↓nx_v, ↓nx_o, ↓nx_x, ↓r_Isi, ↓r_IsiT, ↓r_Bor, ↓r_BorE, ↓r_noEx, ↓r_wipe0, ↓r_wipe1, ↓r_outs0, ↓r_outs1, ↓r_out1, ↓r_out2, ↓r_mkA0, ↓r_mkA1, ↓r_mkA2, ↓r_wb0, ↓r_wb1, ↓r_wb2, ↓r_Said, ↓r_hide0, ↓r_hide1, ↓r_hideV, ↓r_hideO, ↓r_hideN, ↓r_IsE, ↓r_IsE2, ↓r_iZip3, ↓r_Mt, ↓r_Pre, ↓r_CutO, ↓r_setOwn, ↓r_Copy, ↓r_pick0, ↓r_pick1, ↓r_val0, ↓r_val1, ↓r_Dc, ↓r_Get2, ↓r_IxK, ↓r_IxKO, ↓r_PutK, ↓r_Dic0, ↓r_dstep, ↓r_TryM, ↓r_suX0, ↓r_suX1, ↓r_EnumZip, ↓g0, ↓g1, ↓g2, ↓g3, ↓g4, ↓g5, ↓g6, ↓g7, ↓g8, ↓g9, ↓g10, ↓g11, ↓g12, ↓g13, ↓g14, ↓g15, ↓g16, ↓g17, ↓g18, ↓g19, ↓g20, ↓g21, ↓g22, ↓g23, ↓g24, ↓g25, ↓u0, ↓u1, ↓u2, ↓u3, ↓u4, ↓u5, ↓u6, ↓u7, ↓u8, ↓u9, ↓u10, ↓u11, ↓u12, ↓u13, ↓u14, ↓u15, ↓u16, ↓u17, ↓u18, ↓u19, ↓u20, ↓u21, ↓u22, ↓u23, ↓u24, ↓u25, k_int, v_eqE0, v_neE0, K_nb, K_ni, K_ns, K_nl, K_nt, K_bb, K_bi, K_bs, K_bl, K_bt, K_ib, K_ii, K_is, K_il, K_it, K_sb, K_si, K_ss, K_sl, K_st, K_lb, K_li, K_ls, K_ll, K_lt, K_tb, K_ti, K_ts, K_tl, K_tt, K_db, K_di, K_ds, K_dl, K_dt, t_n, t_d, t_s, r_outO1, r_outO2, r_Ask1, r_Ask2, v_TR, v_add, v_sub, v_neg, v_lt, v_le, v_gt, v_ge, v_eq, v_ne, v_max2, v_min2, v_mod, v_div, v_pow9, v_pow18, v_mulL, v_mulR, v_divmod, v_lenL, v_lenT, v_sum, v_eqL, v_listOf, v_inT2, v_sorted, sortB_f, v_sortL, v_sortT, v_sortDL, v_sortDT, v_sortDP, v_keep, v_tupL, v_tupT, v_sumL, v_sumT, v_app, v_neL, v_pow39, v_pow40, ob_nil, ob_zero, ob_1, ob_2, ob_3, ob_4, ob_5, ob_6, ob_7, ob_8, ll_n, ll_b, ll_i, ll_s, bs_n, bs_v, bs_l, bs_s, llA_ints, List.all_cons, List.all_nil, Bool.and_true, Bool.true_and, Bool.false_and, Bool.and_false, Bool.and_self, v_isN0, v_isNi, v_notN0, v_notNi, v_ixL, v_ixT, v_cutL, v_cutT, k_ii, k_ib, k_bi, k_bb, k_ll, k_lt, k_tl, k_tt, t_i, t_b, t_l, t_t, isR, if_true, true_and, and_true, and_self, if_false, if_pos, Bool.not_true, Bool.not_false, List.length_cons, List.length_nil, List.replicate, List.cons_append, List.nil_append, List.head?_cons, List.tail_cons, List.any_nil, List.any_cons, Bool.false_eq_true, Bool.or_false, Bool.false_or, beq_self_eq_true, Nat.reduceSub, Nat.reduceAdd, Nat.reduceLeDiff, Nat.reduceBEq, Nat.reduceEqDiff, reduceIte, eq_self, reduceCtorEq, bo_rvV, bo_rvL, bo_nil, bo_cons, bo_non, bo_valS, bo_int, bo_bool, bo_own, bo_src, kp_p1, kp_p2, kp_p3, kp_p4, kp_p5, kp_p6, kp_h, kp_d, kp_l1, kp_l2, kp_l3, kp_l4, kp_l5, kp_l6, kp_cups, kp_scoops, kp_rows, kp_looks, kp_held, kp_done, kp_choose, kp_nums, kp_stand, Int.reduceToNat, Int.reduceBEq, Nat.zero_add, Nat.reduceLT, List.length_map, hl, lc, v_allM, ha, eq_self, decide_true]
theorem shuffled_loop (S1 : Sl) (hS1 : bareSl S1 = true) : ∀ (n : Nat) (st fo : List Int) (s : Src), st.length = n → st.length + fo.length ≤ 1000 → ∃ (s' : Src) (fo' : List Int), sWhile c__law_shuffled_1 w__law_shuffled_1 [.own true (srcO s), S1, .own false (.lst (st.map .int)), .own false (.lst (fo.map .int))] = .ok (.nx, [.own true (srcO s'), S1, .own false (.lst []), .own false (.lst (fo'.map .int))]) ∧ fo'.Perm (fo ++ st)
  | 0, st, fo, s, hl, _ => by
    rw [List.eq_nil_of_length_eq_zero hl]
    refine ⟨s, fo, ?_, by rw [List.append_nil]⟩
    rw [sWhile_step]
    simp (maxSteps := 1000000) (disch := first | omega | exact Or.inl rfl | exact Or.inr rfl | exact f_non | exact f_val _ | exact f_own _ | (simp only [List.length_map, List.length_replicate, List.length_append, List.length_cons, List.length_nil, firstI_length, List.length_range, rowsD_length, List.length_drop, List.length_take, sortB_len, rangeI_len]; omega)) only [↓rb, ↓r_ofO, ↓r_den, ↓r_oX1, ↓r_oX2, ↓r_bX1, ↓r_bX2, ↓r_lX1, ↓r_lX2, ↓r_C, ↓r_Var, ↓r_Val, ↓r_Move, ↓r_fz, ↓r_ofD, ↓r_Op, ↓r_eOp, ↓r_Un, ↓r_CB, ↓r_eCB, ↓r_Mul, ↓r_Nil, ↓r_Cons, ↓r_Lst, ↓r_Tup, ↓r_Bl, ↓r_And, ↓r_Or, ↓r_NotM, ↓r_Yes, ↓r_If, ↓r_Chain, ↓r_Next, ↓r_Seq, ↓r_Bk, ↓r_Ct, ↓r_Never, ↓r_Ret, ↓r_RetN, ↓r_Expr, ↓r_sIf, ↓r_Set, ↓r_Asg, ↓r_Par, ↓r_bName, ↓r_bNil, ↓r_bCons, ↓r_bTup, ↓r_bTupL, ↓r_free, ↓f_non, ↓f_val, ↓f_own, ↓f_pin, ↓r_toSl, ↓r_fzR, ↓r_dAnd, ↓r_dOr, ↓r_dNot, ↓r_ixO, ↓r_Put, ↓r_Mut, ↓r_arNil, ↓r_arV, ↓r_arR, ↓r_Call, ↓r_CallK, ↓r_CallKD, ↓r_CallT, ↓r_For, ↓r_Lc, ↓r_iSeq, ↓r_iRng1, ↓r_iRng2, ↓r_iEnum, ↓r_iEnumA, ↓r_iEnumB, ↓r_TR1, ↓r_LenO, ↓r_NeO, ↓r_iZip, ↓r_iZipB, ↓r_LenSet, ↓r_step, ↓r_LR1, ↓r_LR2, ↓r_oNone, ↓r_oSome, ↓r_Cut, ↓r_Rev, ↓r_RevA, ↓r_keep, ↓r_Raise, ↓r_Try, ↓r_endX, ↓r_Exn, ↓r_Fld, ↓r_FldM, ↓r_FldAdd, ↓r_bFld, ↓r_Meth, ↓r_MethT, ↓r_Make, ↓r_Par3, ↓r_Par3E, ↓r_AugN, ↓r_AugPut, ↓f_exn, ↓nx_nil, ↓nx_n, ↓nx_v, ↓nx_o, ↓nx_x, ↓r_Isi, ↓r_IsiT, ↓r_Bor, ↓r_BorE, ↓r_noEx, ↓r_wipe0, ↓r_wipe1, ↓r_outs0, ↓r_outs1, ↓r_out1, ↓r_out2, ↓r_mkA0, ↓r_mkA1, ↓r_mkA2, ↓r_wb0, ↓r_wb1, ↓r_wb2, ↓r_Said, ↓r_hide0, ↓r_hide1, ↓r_hideV, ↓r_hideO, ↓r_hideN, ↓r_IsE, ↓r_IsE2, ↓r_iZip3, ↓r_Mt, ↓r_Pre, ↓r_CutO, ↓r_setOwn, ↓r_Copy, ↓r_pick0, ↓r_pick1, ↓r_val0, ↓r_val1, ↓r_Dc, ↓r_Get2, ↓r_IxK, ↓r_IxKO, ↓r_PutK, ↓r_Dic0, ↓r_dstep, ↓r_TryM, ↓r_suX0, ↓r_suX1, ↓r_EnumZip, ↓g0, ↓g1, ↓g2, ↓g3, ↓g4, ↓g5, ↓g6, ↓g7, ↓g8, ↓g9, ↓g10, ↓g11, ↓g12, ↓g13, ↓g14, ↓g15, ↓g16, ↓g17, ↓g18, ↓g19, ↓g20, ↓g21, ↓g22, ↓g23, ↓g24, ↓g25, ↓u0, ↓u1, ↓u2, ↓u3, ↓u4, ↓u5, ↓u6, ↓u7, ↓u8, ↓u9, ↓u10, ↓u11, ↓u12, ↓u13, ↓u14, ↓u15, ↓u16, ↓u17, ↓u18, ↓u19, ↓u20, ↓u21, ↓u22, ↓u23, ↓u24, ↓u25, k_int, v_eqE0, v_neE0, K_nb, K_ni, K_ns, K_nl, K_nt, K_bb, K_bi, K_bs, K_bl, K_bt, K_ib, K_ii, K_is, K_il, K_it, K_sb, K_si, K_ss, K_sl, K_st, K_lb, K_li, K_ls, K_ll, K_lt, K_tb, K_ti, K_ts, K_tl, K_tt, K_db, K_di, K_ds, K_dl, K_dt, t_n, t_d, t_s, r_outO1, r_outO2, r_Ask1, r_Ask2, v_TR, v_add, v_sub, v_neg, v_lt, v_le, v_gt, v_ge, v_eq, v_ne, v_max2, v_min2, v_mod, v_div, v_pow9, v_pow18, v_mulL, v_mulR, v_divmod, v_lenL, v_lenT, v_sum, v_eqL, v_listOf, v_inT2, v_sorted, sortB_f, v_sortL, v_sortT, v_sortDL, v_sortDT, v_sortDP, v_keep, v_tupL, v_tupT, v_sumL, v_sumT, v_app, v_neL, v_pow39, v_pow40, ob_nil, ob_zero, ob_1, ob_2, ob_3, ob_4, ob_5, ob_6, ob_7, ob_8, ll_n, ll_b, ll_i, ll_s, bs_n, bs_v, bs_l, bs_s, llA_ints, List.all_cons, List.all_nil, Bool.and_true, Bool.true_and, Bool.false_and, Bool.and_false, Bool.and_self, v_isN0, v_isNi, v_notN0, v_notNi, v_ixL, v_ixT, v_cutL, v_cutT, k_ii, k_ib, k_bi, k_bb, k_ll, k_lt, k_tl, k_tt, t_i, t_b, t_l, t_t, isR, if_true, true_and, and_true, and_self, if_false, if_pos, Bool.not_true, Bool.not_false, List.length_cons, List.length_nil, List.replicate, List.cons_append, List.nil_append, List.head?_cons, List.tail_cons, List.any_nil, List.any_cons, Bool.false_eq_true, Bool.or_false, Bool.false_or, beq_self_eq_true, Nat.reduceSub, Nat.reduceAdd, Nat.reduceLeDiff, Nat.reduceBEq, Nat.reduceEqDiff, reduceIte, eq_self, reduceCtorEq, bo_rvV, bo_rvL, bo_nil, bo_cons, bo_non, bo_valS, bo_int, bo_bool, bo_own, bo_src, kp_p1, kp_p2, kp_p3, kp_p4, kp_p5, kp_p6, kp_h, kp_d, kp_l1, kp_l2, kp_l3, kp_l4, kp_l5, kp_l6, kp_cups, kp_scoops, kp_rows, kp_looks, kp_held, kp_done, kp_choose, kp_nums, kp_stand, Int.reduceToNat, Int.reduceBEq, Nat.zero_add, Nat.reduceLT, u_c__law_shuffled_1, List.map_nil, hS1, neD_nil, decide_true, List.isEmpty_nil]
  | n + 1, st, fo, s, hl, hb => by
    have z1 := tkV_nn s (m := (st.length : Int)) (by omega)
    have z2 := tkV_lt s (m := (st.length : Int)) (by omega)
    generalize hk : tkV s (st.length : Int) = k at *
    generalize hs : tkS s (st.length : Int) = s1
    have hk2 : k.toNat < st.length := by omega
    obtain ⟨s', fo', e, p⟩ := shuffled_loop S1 hS1 n (st.eraseIdx k.toNat) (fo ++ [st.getD k.toNat 0]) s1 (by rw [List.length_eraseIdx, if_pos hk2]; omega) (by rw [List.length_eraseIdx, if_pos hk2, List.length_append]; simp only [List.length_cons, List.length_nil]; omega)
    refine ⟨s', fo', ?_, p.trans ?_⟩
    · rw [sWhile_step]
      rw [List.map_append, show [st.getD k.toNat 0].map PyData.int = [PyData.int (st.getD k.toNat 0)] from rfl] at e
      have hem : (st.map PyData.int).isEmpty = false := by cases st with
        | nil => simp at hl
        | cons a l => rfl
      simp (maxSteps := 1000000) (disch := first | omega | exact Or.inl rfl | exact Or.inr rfl | exact f_non | exact f_val _ | exact f_own _ | (simp only [List.length_map, List.length_replicate, List.length_append, List.length_cons, List.length_nil, firstI_length, List.length_range, rowsD_length, List.length_drop, List.length_take, sortB_len, rangeI_len]; omega)) only [↓rb, ↓r_ofO, ↓r_den, ↓r_oX1, ↓r_oX2, ↓r_bX1, ↓r_bX2, ↓r_lX1, ↓r_lX2, ↓r_C, ↓r_Var, ↓r_Val, ↓r_Move, ↓r_fz, ↓r_ofD, ↓r_Op, ↓r_eOp, ↓r_Un, ↓r_CB, ↓r_eCB, ↓r_Mul, ↓r_Nil, ↓r_Cons, ↓r_Lst, ↓r_Tup, ↓r_Bl, ↓r_And, ↓r_Or, ↓r_NotM, ↓r_Yes, ↓r_If, ↓r_Chain, ↓r_Next, ↓r_Seq, ↓r_Bk, ↓r_Ct, ↓r_Never, ↓r_Ret, ↓r_RetN, ↓r_Expr, ↓r_sIf, ↓r_Set, ↓r_Asg, ↓r_Par, ↓r_bName, ↓r_bNil, ↓r_bCons, ↓r_bTup, ↓r_bTupL, ↓r_free, ↓f_non, ↓f_val, ↓f_own, ↓f_pin, ↓r_toSl, ↓r_fzR, ↓r_dAnd, ↓r_dOr, ↓r_dNot, ↓r_ixO, ↓r_Put, ↓r_Mut, ↓r_arNil, ↓r_arV, ↓r_arR, ↓r_Call, ↓r_CallK, ↓r_CallKD, ↓r_CallT, ↓r_For, ↓r_Lc, ↓r_iSeq, ↓r_iRng1, ↓r_iRng2, ↓r_iEnum, ↓r_iEnumA, ↓r_iEnumB, ↓r_TR1, ↓r_LenO, ↓r_NeO, ↓r_iZip, ↓r_iZipB, ↓r_LenSet, ↓r_step, ↓r_LR1, ↓r_LR2, ↓r_oNone, ↓r_oSome, ↓r_Cut, ↓r_Rev, ↓r_RevA, ↓r_keep, ↓r_Raise, ↓r_Try, ↓r_endX, ↓r_Exn, ↓r_Fld, ↓r_FldM, ↓r_FldAdd, ↓r_bFld, ↓r_Meth, ↓r_MethT, ↓r_Make, ↓r_Par3, ↓r_Par3E, ↓r_AugN, ↓r_AugPut, ↓f_exn, ↓nx_nil, ↓nx_n, ↓nx_v, ↓nx_o, ↓nx_x, ↓r_Isi, ↓r_IsiT, ↓r_Bor, ↓r_BorE, ↓r_noEx, ↓r_wipe0, ↓r_wipe1, ↓r_outs0, ↓r_outs1, ↓r_out1, ↓r_out2, ↓r_mkA0, ↓r_mkA1, ↓r_mkA2, ↓r_wb0, ↓r_wb1, ↓r_wb2, ↓r_Said, ↓r_hide0, ↓r_hide1, ↓r_hideV, ↓r_hideO, ↓r_hideN, ↓r_IsE, ↓r_IsE2, ↓r_iZip3, ↓r_Mt, ↓r_Pre, ↓r_CutO, ↓r_setOwn, ↓r_Copy, ↓r_pick0, ↓r_pick1, ↓r_val0, ↓r_val1, ↓r_Dc, ↓r_Get2, ↓r_IxK, ↓r_IxKO, ↓r_PutK, ↓r_Dic0, ↓r_dstep, ↓r_TryM, ↓r_suX0, ↓r_suX1, ↓r_EnumZip, ↓g0, ↓g1, ↓g2, ↓g3, ↓g4, ↓g5, ↓g6, ↓g7, ↓g8, ↓g9, ↓g10, ↓g11, ↓g12, ↓g13, ↓g14, ↓g15, ↓g16, ↓g17, ↓g18, ↓g19, ↓g20, ↓g21, ↓g22, ↓g23, ↓g24, ↓g25, ↓u0, ↓u1, ↓u2, ↓u3, ↓u4, ↓u5, ↓u6, ↓u7, ↓u8, ↓u9, ↓u10, ↓u11, ↓u12, ↓u13, ↓u14, ↓u15, ↓u16, ↓u17, ↓u18, ↓u19, ↓u20, ↓u21, ↓u22, ↓u23, ↓u24, ↓u25, k_int, v_eqE0, v_neE0, K_nb, K_ni, K_ns, K_nl, K_nt, K_bb, K_bi, K_bs, K_bl, K_bt, K_ib, K_ii, K_is, K_il, K_it, K_sb, K_si, K_ss, K_sl, K_st, K_lb, K_li, K_ls, K_ll, K_lt, K_tb, K_ti, K_ts, K_tl, K_tt, K_db, K_di, K_ds, K_dl, K_dt, t_n, t_d, t_s, r_outO1, r_outO2, r_Ask1, r_Ask2, v_TR, v_add, v_sub, v_neg, v_lt, v_le, v_gt, v_ge, v_eq, v_ne, v_max2, v_min2, v_mod, v_div, v_pow9, v_pow18, v_mulL, v_mulR, v_divmod, v_lenL, v_lenT, v_sum, v_eqL, v_listOf, v_inT2, v_sorted, sortB_f, v_sortL, v_sortT, v_sortDL, v_sortDT, v_sortDP, v_keep, v_tupL, v_tupT, v_sumL, v_sumT, v_app, v_neL, v_pow39, v_pow40, ob_nil, ob_zero, ob_1, ob_2, ob_3, ob_4, ob_5, ob_6, ob_7, ob_8, ll_n, ll_b, ll_i, ll_s, bs_n, bs_v, bs_l, bs_s, llA_ints, List.all_cons, List.all_nil, Bool.and_true, Bool.true_and, Bool.false_and, Bool.and_false, Bool.and_self, v_isN0, v_isNi, v_notN0, v_notNi, v_ixL, v_ixT, v_cutL, v_cutT, k_ii, k_ib, k_bi, k_bb, k_ll, k_lt, k_tl, k_tt, t_i, t_b, t_l, t_t, isR, if_true, true_and, and_true, and_self, if_false, if_pos, Bool.not_true, Bool.not_false, List.length_cons, List.length_nil, List.replicate, List.cons_append, List.nil_append, List.head?_cons, List.tail_cons, List.any_nil, List.any_cons, Bool.false_eq_true, Bool.or_false, Bool.false_or, beq_self_eq_true, Nat.reduceSub, Nat.reduceAdd, Nat.reduceLeDiff, Nat.reduceBEq, Nat.reduceEqDiff, reduceIte, eq_self, reduceCtorEq, bo_rvV, bo_rvL, bo_nil, bo_cons, bo_non, bo_valS, bo_int, bo_bool, bo_own, bo_src, kp_p1, kp_p2, kp_p3, kp_p4, kp_p5, kp_p6, kp_h, kp_d, kp_l1, kp_l2, kp_l3, kp_l4, kp_l5, kp_l6, kp_cups, kp_scoops, kp_rows, kp_looks, kp_held, kp_done, kp_choose, kp_nums, kp_stand, Int.reduceToNat, Int.reduceBEq, Nat.zero_add, Nat.reduceLT, u_c__law_shuffled_1, hS1, neD_cons st (by omega), hem, u_w__law_shuffled_1, List.length_map, e_take, hk, hs, v_popG, e]
    · rw [List.append_assoc]
      exact (List.Perm.refl fo).append (erase_perm st k.toNat hk2)
theorem e_shuffled (s : Src) (l : List Int) (hb : l.length ≤ 1000) (v : D) (hv : seqD v = some (l.map .int)) : ∃ (s' : Src) (l' : List Int), d__law_shuffled [.own true (srcO s), .val v] = .ok (.own (.lst (l'.map .int)), [.own true (srcO s'), .val v]) ∧ l'.Perm l := by
  obtain ⟨s', l', e, p⟩ := shuffled_loop (.val v) rfl l.length l [] s rfl (by simp; omega)
  refine ⟨s', l', ?_, by simpa using p⟩
  rw [List.map_nil] at e
  have e1 : pListOf [v] = some (.own (.lst (l.map .int))) := v_listSeq hv
  rw [q__law_shuffled]
  simp (maxSteps := 1000000) (disch := first | omega | exact Or.inl rfl | exact Or.inr rfl | exact f_non | exact f_val _ | exact f_own _ | (simp only [List.length_map, List.length_replicate, List.length_append, List.length_cons, List.length_nil, firstI_length, List.length_range, rowsD_length, List.length_drop, List.length_take, sortB_len, rangeI_len]; omega)) only [↓rb, ↓r_ofO, ↓r_den, ↓r_oX1, ↓r_oX2, ↓r_bX1, ↓r_bX2, ↓r_lX1, ↓r_lX2, ↓r_C, ↓r_Var, ↓r_Val, ↓r_Move, ↓r_fz, ↓r_ofD, ↓r_Op, ↓r_eOp, ↓r_Un, ↓r_CB, ↓r_eCB, ↓r_Mul, ↓r_Nil, ↓r_Cons, ↓r_Lst, ↓r_Tup, ↓r_Bl, ↓r_And, ↓r_Or, ↓r_NotM, ↓r_Yes, ↓r_If, ↓r_Chain, ↓r_Next, ↓r_Seq, ↓r_Bk, ↓r_Ct, ↓r_Never, ↓r_Ret, ↓r_RetN, ↓r_Expr, ↓r_sIf, ↓r_Set, ↓r_Asg, ↓r_Par, ↓r_bName, ↓r_bNil, ↓r_bCons, ↓r_bTup, ↓r_bTupL, ↓r_free, ↓f_non, ↓f_val, ↓f_own, ↓f_pin, ↓r_toSl, ↓r_fzR, ↓r_dAnd, ↓r_dOr, ↓r_dNot, ↓r_ixO, ↓r_Put, ↓r_Mut, ↓r_arNil, ↓r_arV, ↓r_arR, ↓r_Call, ↓r_CallK, ↓r_CallKD, ↓r_CallT, ↓r_For, ↓r_Lc, ↓r_iSeq, ↓r_iRng1, ↓r_iRng2, ↓r_iEnum, ↓r_iEnumA, ↓r_iEnumB, ↓r_TR1, ↓r_LenO, ↓r_NeO, ↓r_iZip, ↓r_iZipB, ↓r_LenSet, ↓r_step, ↓r_LR1, ↓r_LR2, ↓r_oNone, ↓r_oSome, ↓r_Cut, ↓r_Rev, ↓r_RevA, ↓r_keep, ↓r_Raise, ↓r_Try, ↓r_endX, ↓r_Exn, ↓r_Fld, ↓r_FldM, ↓r_FldAdd, ↓r_bFld, ↓r_Meth, ↓r_MethT, ↓r_Make, ↓r_Par3, ↓r_Par3E, ↓r_AugN, ↓r_AugPut, ↓f_exn, ↓nx_nil, ↓nx_n, ↓nx_v, ↓nx_o, ↓nx_x, ↓r_Isi, ↓r_IsiT, ↓r_Bor, ↓r_BorE, ↓r_noEx, ↓r_wipe0, ↓r_wipe1, ↓r_outs0, ↓r_outs1, ↓r_out1, ↓r_out2, ↓r_mkA0, ↓r_mkA1, ↓r_mkA2, ↓r_wb0, ↓r_wb1, ↓r_wb2, ↓r_Said, ↓r_hide0, ↓r_hide1, ↓r_hideV, ↓r_hideO, ↓r_hideN, ↓r_IsE, ↓r_IsE2, ↓r_iZip3, ↓r_Mt, ↓r_Pre, ↓r_CutO, ↓r_setOwn, ↓r_Copy, ↓r_pick0, ↓r_pick1, ↓r_val0, ↓r_val1, ↓r_Dc, ↓r_Get2, ↓r_IxK, ↓r_IxKO, ↓r_PutK, ↓r_Dic0, ↓r_dstep, ↓r_TryM, ↓r_suX0, ↓r_suX1, ↓r_EnumZip, ↓g0, ↓g1, ↓g2, ↓g3, ↓g4, ↓g5, ↓g6, ↓g7, ↓g8, ↓g9, ↓g10, ↓g11, ↓g12, ↓g13, ↓g14, ↓g15, ↓g16, ↓g17, ↓g18, ↓g19, ↓g20, ↓g21, ↓g22, ↓g23, ↓g24, ↓g25, ↓u0, ↓u1, ↓u2, ↓u3, ↓u4, ↓u5, ↓u6, ↓u7, ↓u8, ↓u9, ↓u10, ↓u11, ↓u12, ↓u13, ↓u14, ↓u15, ↓u16, ↓u17, ↓u18, ↓u19, ↓u20, ↓u21, ↓u22, ↓u23, ↓u24, ↓u25, k_int, v_eqE0, v_neE0, K_nb, K_ni, K_ns, K_nl, K_nt, K_bb, K_bi, K_bs, K_bl, K_bt, K_ib, K_ii, K_is, K_il, K_it, K_sb, K_si, K_ss, K_sl, K_st, K_lb, K_li, K_ls, K_ll, K_lt, K_tb, K_ti, K_ts, K_tl, K_tt, K_db, K_di, K_ds, K_dl, K_dt, t_n, t_d, t_s, r_outO1, r_outO2, r_Ask1, r_Ask2, v_TR, v_add, v_sub, v_neg, v_lt, v_le, v_gt, v_ge, v_eq, v_ne, v_max2, v_min2, v_mod, v_div, v_pow9, v_pow18, v_mulL, v_mulR, v_divmod, v_lenL, v_lenT, v_sum, v_eqL, v_listOf, v_inT2, v_sorted, sortB_f, v_sortL, v_sortT, v_sortDL, v_sortDT, v_sortDP, v_keep, v_tupL, v_tupT, v_sumL, v_sumT, v_app, v_neL, v_pow39, v_pow40, ob_nil, ob_zero, ob_1, ob_2, ob_3, ob_4, ob_5, ob_6, ob_7, ob_8, ll_n, ll_b, ll_i, ll_s, bs_n, bs_v, bs_l, bs_s, llA_ints, List.all_cons, List.all_nil, Bool.and_true, Bool.true_and, Bool.false_and, Bool.and_false, Bool.and_self, v_isN0, v_isNi, v_notN0, v_notNi, v_ixL, v_ixT, v_cutL, v_cutT, k_ii, k_ib, k_bi, k_bb, k_ll, k_lt, k_tl, k_tt, t_i, t_b, t_l, t_t, isR, if_true, true_and, and_true, and_self, if_false, if_pos, Bool.not_true, Bool.not_false, List.length_cons, List.length_nil, List.replicate, List.cons_append, List.nil_append, List.head?_cons, List.tail_cons, List.any_nil, List.any_cons, Bool.false_eq_true, Bool.or_false, Bool.false_or, beq_self_eq_true, Nat.reduceSub, Nat.reduceAdd, Nat.reduceLeDiff, Nat.reduceBEq, Nat.reduceEqDiff, reduceIte, eq_self, reduceCtorEq, bo_rvV, bo_rvL, bo_nil, bo_cons, bo_non, bo_valS, bo_int, bo_bool, bo_own, bo_src, kp_p1, kp_p2, kp_p3, kp_p4, kp_p5, kp_p6, kp_h, kp_d, kp_l1, kp_l2, kp_l3, kp_l4, kp_l5, kp_l6, kp_cups, kp_scoops, kp_rows, kp_looks, kp_held, kp_done, kp_choose, kp_nums, kp_stand, Int.reduceToNat, Int.reduceBEq, Nat.zero_add, Nat.reduceLT, e1, e]
theorem e_one (s : Src) (ds : List D) (h : 0 < ds.length) (hb : ds.length ≤ 100000) : ∃ (s' : Src) (d : D), d ∈ ds ∧ d__law_one [.own true (srcO s), .val (.list ds)] = .ok (.val d, [.own true (srcO s'), .val (.list ds)]) := by
  have a1 := tkV_nn s (m := (ds.length : Int)) (by omega)
  have a2 := tkV_lt s (m := (ds.length : Int)) (by omega)
  have e1 := e_take s (ds.length : Int) (by omega) (by omega)
  generalize hv : tkV s (ds.length : Int) = k at *
  generalize hs : tkS s (ds.length : Int) = s1 at *
  obtain ⟨d, hd, hm⟩ := pick_ok (fun d => d ∈ ds) ds k a1 a2 (fun _ h => h)
  refine ⟨s1, d, hm, ?_⟩
  unfold d__law_one
  simp (maxSteps := 1000000) (disch := first | omega | exact Or.inl rfl | exact Or.inr rfl | exact f_non | exact f_val _ | exact f_own _ | (simp only [List.length_map, List.length_replicate, List.length_append, List.length_cons, List.length_nil, firstI_length, List.length_range, rowsD_length, List.length_drop, List.length_take, sortB_len, rangeI_len]; omega)) only [↓rb, ↓r_ofO, ↓r_den, ↓r_oX1, ↓r_oX2, ↓r_bX1, ↓r_bX2, ↓r_lX1, ↓r_lX2, ↓r_C, ↓r_Var, ↓r_Val, ↓r_Move, ↓r_fz, ↓r_ofD, ↓r_Op, ↓r_eOp, ↓r_Un, ↓r_CB, ↓r_eCB, ↓r_Mul, ↓r_Nil, ↓r_Cons, ↓r_Lst, ↓r_Tup, ↓r_Bl, ↓r_And, ↓r_Or, ↓r_NotM, ↓r_Yes, ↓r_If, ↓r_Chain, ↓r_Next, ↓r_Seq, ↓r_Bk, ↓r_Ct, ↓r_Never, ↓r_Ret, ↓r_RetN, ↓r_Expr, ↓r_sIf, ↓r_Set, ↓r_Asg, ↓r_Par, ↓r_bName, ↓r_bNil, ↓r_bCons, ↓r_bTup, ↓r_bTupL, ↓r_free, ↓f_non, ↓f_val, ↓f_own, ↓f_pin, ↓r_toSl, ↓r_fzR, ↓r_dAnd, ↓r_dOr, ↓r_dNot, ↓r_ixO, ↓r_Put, ↓r_Mut, ↓r_arNil, ↓r_arV, ↓r_arR, ↓r_Call, ↓r_CallK, ↓r_CallKD, ↓r_CallT, ↓r_For, ↓r_Lc, ↓r_iSeq, ↓r_iRng1, ↓r_iRng2, ↓r_iEnum, ↓r_iEnumA, ↓r_iEnumB, ↓r_TR1, ↓r_LenO, ↓r_NeO, ↓r_iZip, ↓r_iZipB, ↓r_LenSet, ↓r_step, ↓r_LR1, ↓r_LR2, ↓r_oNone, ↓r_oSome, ↓r_Cut, ↓r_Rev, ↓r_RevA, ↓r_keep, ↓r_Raise, ↓r_Try, ↓r_endX, ↓r_Exn, ↓r_Fld, ↓r_FldM, ↓r_FldAdd, ↓r_bFld, ↓r_Meth, ↓r_MethT, ↓r_Make, ↓r_Par3, ↓r_Par3E, ↓r_AugN, ↓r_AugPut, ↓f_exn, ↓nx_nil, ↓nx_n, ↓nx_v, ↓nx_o, ↓nx_x, ↓r_Isi, ↓r_IsiT, ↓r_Bor, ↓r_BorE, ↓r_noEx, ↓r_wipe0, ↓r_wipe1, ↓r_outs0, ↓r_outs1, ↓r_out1, ↓r_out2, ↓r_mkA0, ↓r_mkA1, ↓r_mkA2, ↓r_wb0, ↓r_wb1, ↓r_wb2, ↓r_Said, ↓r_hide0, ↓r_hide1, ↓r_hideV, ↓r_hideO, ↓r_hideN, ↓r_IsE, ↓r_IsE2, ↓r_iZip3, ↓r_Mt, ↓r_Pre, ↓r_CutO, ↓r_setOwn, ↓r_Copy, ↓r_pick0, ↓r_pick1, ↓r_val0, ↓r_val1, ↓r_Dc, ↓r_Get2, ↓r_IxK, ↓r_IxKO, ↓r_PutK, ↓r_Dic0, ↓r_dstep, ↓r_TryM, ↓r_suX0, ↓r_suX1, ↓r_EnumZip, ↓g0, ↓g1, ↓g2, ↓g3, ↓g4, ↓g5, ↓g6, ↓g7, ↓g8, ↓g9, ↓g10, ↓g11, ↓g12, ↓g13, ↓g14, ↓g15, ↓g16, ↓g17, ↓g18, ↓g19, ↓g20, ↓g21, ↓g22, ↓g23, ↓g24, ↓g25, ↓u0, ↓u1, ↓u2, ↓u3, ↓u4, ↓u5, ↓u6, ↓u7, ↓u8, ↓u9, ↓u10, ↓u11, ↓u12, ↓u13, ↓u14, ↓u15, ↓u16, ↓u17, ↓u18, ↓u19, ↓u20, ↓u21, ↓u22, ↓u23, ↓u24, ↓u25, k_int, v_eqE0, v_neE0, K_nb, K_ni, K_ns, K_nl, K_nt, K_bb, K_bi, K_bs, K_bl, K_bt, K_ib, K_ii, K_is, K_il, K_it, K_sb, K_si, K_ss, K_sl, K_st, K_lb, K_li, K_ls, K_ll, K_lt, K_tb, K_ti, K_ts, K_tl, K_tt, K_db, K_di, K_ds, K_dl, K_dt, t_n, t_d, t_s, r_outO1, r_outO2, r_Ask1, r_Ask2, v_TR, v_add, v_sub, v_neg, v_lt, v_le, v_gt, v_ge, v_eq, v_ne, v_max2, v_min2, v_mod, v_div, v_pow9, v_pow18, v_mulL, v_mulR, v_divmod, v_lenL, v_lenT, v_sum, v_eqL, v_listOf, v_inT2, v_sorted, sortB_f, v_sortL, v_sortT, v_sortDL, v_sortDT, v_sortDP, v_keep, v_tupL, v_tupT, v_sumL, v_sumT, v_app, v_neL, v_pow39, v_pow40, ob_nil, ob_zero, ob_1, ob_2, ob_3, ob_4, ob_5, ob_6, ob_7, ob_8, ll_n, ll_b, ll_i, ll_s, bs_n, bs_v, bs_l, bs_s, llA_ints, List.all_cons, List.all_nil, Bool.and_true, Bool.true_and, Bool.false_and, Bool.and_false, Bool.and_self, v_isN0, v_isNi, v_notN0, v_notNi, v_ixL, v_ixT, v_cutL, v_cutT, k_ii, k_ib, k_bi, k_bb, k_ll, k_lt, k_tl, k_tt, t_i, t_b, t_l, t_t, isR, if_true, true_and, and_true, and_self, if_false, if_pos, Bool.not_true, Bool.not_false, List.length_cons, List.length_nil, List.replicate, List.cons_append, List.nil_append, List.head?_cons, List.tail_cons, List.any_nil, List.any_cons, Bool.false_eq_true, Bool.or_false, Bool.false_or, beq_self_eq_true, Nat.reduceSub, Nat.reduceAdd, Nat.reduceLeDiff, Nat.reduceBEq, Nat.reduceEqDiff, reduceIte, eq_self, reduceCtorEq, bo_rvV, bo_rvL, bo_nil, bo_cons, bo_non, bo_valS, bo_int, bo_bool, bo_own, bo_src, kp_p1, kp_p2, kp_p3, kp_p4, kp_p5, kp_p6, kp_h, kp_d, kp_l1, kp_l2, kp_l3, kp_l4, kp_l5, kp_l6, kp_cups, kp_scoops, kp_rows, kp_looks, kp_held, kp_done, kp_choose, kp_nums, kp_stand, Int.reduceToNat, Int.reduceBEq, Nat.zero_add, Nat.reduceLT, e1, hd]
/-! the worst, told and walked -/
abbrev Row := Bool × List Int
def tpD (q : List Int) : D := .tuple (q.map .int)
/-- the program's walk: what is ahead, the greatest so far -/
def pwI : List Int → Int → List (Row × List Int) → Int
  | _, f, [] => f
  | a, f, (x, q) :: l => pwI (addI (goneI a x.2) q) (max f (maxI (addI (goneI a x.2) q))) l
/-- the law's walk: what is held, the greatest so far -/
def wlI : List Int → Int → List (List Int × Row) → Int
  | _, f, [] => f
  | h, f, (q, x) :: l => wlI (goneI (addI h q) x.2) (max f (maxI (addI h q))) l
theorem walks_one : ∀ (P : List (List Int)) (R : List Row) (a : List Int) (f : Int) (x : Row), P.length = R.length → wlI (goneI a x.2) f (P.zip R) = pwI a f ((x :: R).zip P)
  | [], [], _, _, _, _ => rfl
  | [], _ :: _, _, _, _, h => by cases h
  | _ :: _, [], _, _, _, h => by cases h
  | q :: P, y :: R, a, f, x, h => walks_one P R (addI (goneI a x.2) q) (max f (maxI (addI (goneI a x.2) q))) y (by simpa using h)
theorem add_zero {n : Int} {q : List Int} (hl : (q.length : Int) = n) (n0 : 0 ≤ n) : addI (zeroI n) q = q := by
  have Z := (zero_ok n0).len
  refine ext_getD (by rw [addI_len (by omega)]; omega) fun i hi => ?_
  rw [addI_at (by omega), zeroI_get, Int.zero_add]
theorem zip_last {α β : Type} : ∀ (R R' : List α) (P : List β), R.take P.length = R'.take P.length → R.zip P = R'.zip P
  | _, _, [], _ => by rw [List.zip_nil_right, List.zip_nil_right]
  | [], [], _ :: _, _ => rfl
  | [], _ :: _, _ :: _, h => by cases h
  | _ :: _, [], _ :: _, h => by cases h
  | r :: R, r' :: R', p :: P, h => by
    rw [List.length_cons, List.take_succ_cons, List.take_succ_cons] at h
    injection h with h1 h2
    rw [List.zip_cons_cons, List.zip_cons_cons, h1, zip_last R R' P h2]
structure PsOk (n : Int) (P : List (List Int)) : Prop where
  len : ∀ q ∈ P, (q.length : Int) = n
  nn : ∀ q ∈ P, ∀ z ∈ q, 0 ≤ z
structure RsOk (n : Int) (R : List Row) : Prop where
  mem : ∀ x ∈ R, ∀ z ∈ x.2, 0 ≤ z ∧ z < n
  nd : ∀ x ∈ R, x.2.Nodup
theorem row_short {n : Int} {x : Row} (n0 : 0 ≤ n) (hm : ∀ z ∈ x.2, 0 ≤ z ∧ z < n) (hn : x.2.Nodup) : (x.2.length : Int) ≤ n := by
  have := hn.length_le_of_subset (l₂ := rangeI 0 n.toNat) (fun z hz => mem_rangeI.mpr (by have := hm z hz; omega))
  rw [rangeI_len] at this
  omega
/-! what is no pour, what are no rows: never here -/
theorem e_amounts (q : List Int) (hn : ∀ z ∈ q, 0 ≤ z) (h1 : 2 ≤ q.length) (h2 : q.length ≤ 40) : d_are_amounts [.val (.tuple (q.map .int))] = .ok (.val (.bool true), [.val (.tuple (q.map .int))]) := by
  have e := e_are_counts q (q.length : Nat) hn rfl (by omega)
  have hl : pLen [.tuple (q.map PyData.int)] = some (.int (q.length : Nat)) := by rw [v_lenT, List.length_map]
  have d1 : decide ((2 : Int) ≤ (q.length : Nat)) = true := decide_eq_true (by omega)
  have d2 : decide (((q.length : Nat) : Int) ≤ 40) = true := decide_eq_true (by omega)
  unfold d_are_amounts
  simp (maxSteps := 1000000) (disch := first | omega | exact Or.inl rfl | exact Or.inr rfl | exact f_non | exact f_val _ | exact f_own _ | (simp only [List.length_map, List.length_replicate, List.length_append, List.length_cons, List.length_nil, firstI_length, List.length_range, rowsD_length, List.length_drop, List.length_take, sortB_len, rangeI_len]; omega)) only [↓rb, ↓r_ofO, ↓r_den, ↓r_oX1, ↓r_oX2, ↓r_bX1, ↓r_bX2, ↓r_lX1, ↓r_lX2, ↓r_C, ↓r_Var, ↓r_Val, ↓r_Move, ↓r_fz, ↓r_ofD, ↓r_Op, ↓r_eOp, ↓r_Un, ↓r_CB, ↓r_eCB, ↓r_Mul, ↓r_Nil, ↓r_Cons, ↓r_Lst, ↓r_Tup, ↓r_Bl, ↓r_And, ↓r_Or, ↓r_NotM, ↓r_Yes, ↓r_If, ↓r_Chain, ↓r_Next, ↓r_Seq, ↓r_Bk, ↓r_Ct, ↓r_Never, ↓r_Ret, ↓r_RetN, ↓r_Expr, ↓r_sIf, ↓r_Set, ↓r_Asg, ↓r_Par, ↓r_bName, ↓r_bNil, ↓r_bCons, ↓r_bTup, ↓r_bTupL, ↓r_free, ↓f_non, ↓f_val, ↓f_own, ↓f_pin, ↓r_toSl, ↓r_fzR, ↓r_dAnd, ↓r_dOr, ↓r_dNot, ↓r_ixO, ↓r_Put, ↓r_Mut, ↓r_arNil, ↓r_arV, ↓r_arR, ↓r_Call, ↓r_CallK, ↓r_CallKD, ↓r_CallT, ↓r_For, ↓r_Lc, ↓r_iSeq, ↓r_iRng1, ↓r_iRng2, ↓r_iEnum, ↓r_iEnumA, ↓r_iEnumB, ↓r_TR1, ↓r_LenO, ↓r_NeO, ↓r_iZip, ↓r_iZipB, ↓r_LenSet, ↓r_step, ↓r_LR1, ↓r_LR2, ↓r_oNone, ↓r_oSome, ↓r_Cut, ↓r_Rev, ↓r_RevA, ↓r_keep, ↓r_Raise, ↓r_Try, ↓r_endX, ↓r_Exn, ↓r_Fld, ↓r_FldM, ↓r_FldAdd, ↓r_bFld, ↓r_Meth, ↓r_MethT, ↓r_Make, ↓r_Par3, ↓r_Par3E, ↓r_AugN, ↓r_AugPut, ↓f_exn, ↓nx_nil, ↓nx_n, ↓nx_v, ↓nx_o, ↓nx_x, ↓r_Isi, ↓r_IsiT, ↓r_Bor, ↓r_BorE, ↓r_noEx, ↓r_wipe0, ↓r_wipe1, ↓r_outs0, ↓r_outs1, ↓r_out1, ↓r_out2, ↓r_mkA0, ↓r_mkA1, ↓r_mkA2, ↓r_wb0, ↓r_wb1, ↓r_wb2, ↓r_Said, ↓r_hide0, ↓r_hide1, ↓r_hideV, ↓r_hideO, ↓r_hideN, ↓r_IsE, ↓r_IsE2, ↓r_iZip3, ↓r_Mt, ↓r_Pre, ↓r_CutO, ↓r_setOwn, ↓r_Copy, ↓r_pick0, ↓r_pick1, ↓r_val0, ↓r_val1, ↓r_Dc, ↓r_Get2, ↓r_IxK, ↓r_IxKO, ↓r_PutK, ↓r_Dic0, ↓r_dstep, ↓r_TryM, ↓r_suX0, ↓r_suX1, ↓r_EnumZip, ↓g0, ↓g1, ↓g2, ↓g3, ↓g4, ↓g5, ↓g6, ↓g7, ↓g8, ↓g9, ↓g10, ↓g11, ↓g12, ↓g13, ↓g14, ↓g15, ↓g16, ↓g17, ↓g18, ↓g19, ↓g20, ↓g21, ↓g22, ↓g23, ↓g24, ↓g25, ↓u0, ↓u1, ↓u2, ↓u3, ↓u4, ↓u5, ↓u6, ↓u7, ↓u8, ↓u9, ↓u10, ↓u11, ↓u12, ↓u13, ↓u14, ↓u15, ↓u16, ↓u17, ↓u18, ↓u19, ↓u20, ↓u21, ↓u22, ↓u23, ↓u24, ↓u25, k_int, v_eqE0, v_neE0, K_nb, K_ni, K_ns, K_nl, K_nt, K_bb, K_bi, K_bs, K_bl, K_bt, K_ib, K_ii, K_is, K_il, K_it, K_sb, K_si, K_ss, K_sl, K_st, K_lb, K_li, K_ls, K_ll, K_lt, K_tb, K_ti, K_ts, K_tl, K_tt, K_db, K_di, K_ds, K_dl, K_dt, t_n, t_d, t_s, r_outO1, r_outO2, r_Ask1, r_Ask2, v_TR, v_add, v_sub, v_neg, v_lt, v_le, v_gt, v_ge, v_eq, v_ne, v_max2, v_min2, v_mod, v_div, v_pow9, v_pow18, v_mulL, v_mulR, v_divmod, v_lenL, v_lenT, v_sum, v_eqL, v_listOf, v_inT2, v_sorted, sortB_f, v_sortL, v_sortT, v_sortDL, v_sortDT, v_sortDP, v_keep, v_tupL, v_tupT, v_sumL, v_sumT, v_app, v_neL, v_pow39, v_pow40, ob_nil, ob_zero, ob_1, ob_2, ob_3, ob_4, ob_5, ob_6, ob_7, ob_8, ll_n, ll_b, ll_i, ll_s, bs_n, bs_v, bs_l, bs_s, llA_ints, List.all_cons, List.all_nil, Bool.and_true, Bool.true_and, Bool.false_and, Bool.and_false, Bool.and_self, v_isN0, v_isNi, v_notN0, v_notNi, v_ixL, v_ixT, v_cutL, v_cutT, k_ii, k_ib, k_bi, k_bb, k_ll, k_lt, k_tl, k_tt, t_i, t_b, t_l, t_t, isR, if_true, true_and, and_true, and_self, if_false, if_pos, Bool.not_true, Bool.not_false, List.length_cons, List.length_nil, List.replicate, List.cons_append, List.nil_append, List.head?_cons, List.tail_cons, List.any_nil, List.any_cons, Bool.false_eq_true, Bool.or_false, Bool.false_or, beq_self_eq_true, Nat.reduceSub, Nat.reduceAdd, Nat.reduceLeDiff, Nat.reduceBEq, Nat.reduceEqDiff, reduceIte, eq_self, reduceCtorEq, bo_rvV, bo_rvL, bo_nil, bo_cons, bo_non, bo_valS, bo_int, bo_bool, bo_own, bo_src, kp_p1, kp_p2, kp_p3, kp_p4, kp_p5, kp_p6, kp_h, kp_d, kp_l1, kp_l2, kp_l3, kp_l4, kp_l5, kp_l6, kp_cups, kp_scoops, kp_rows, kp_looks, kp_held, kp_done, kp_choose, kp_nums, kp_stand, Int.reduceToNat, Int.reduceBEq, Nat.zero_add, Nat.reduceLT, ↓hl, e, d1, d2]
theorem wp_turn (V Q : D) (s1 : Sl) (f1 : fre (some s1) = true) (n : Int) (q0 : D) (e : d_are_amounts [.val Q] = .ok (.val (.bool true), [.val Q])) (hl : pLen [Q] = some (.int n)) (hx : pIx V (.int 0) = some q0) (hl0 : pLen [q0] = some (.int n)) :
    (ofO (bName 1 Q [.val V, s1])).bind w_want_pours_1 = .ok (.nx, [.val V, .val Q]) := by
  simp (maxSteps := 1000000) (disch := first | omega | exact Or.inl rfl | exact Or.inr rfl | exact f_non | exact f_val _ | exact f_own _ | (simp only [List.length_map, List.length_replicate, List.length_append, List.length_cons, List.length_nil, firstI_length, List.length_range, rowsD_length, List.length_drop, List.length_take, sortB_len, rangeI_len]; omega)) only [↓rb, ↓r_ofO, ↓r_den, ↓r_oX1, ↓r_oX2, ↓r_bX1, ↓r_bX2, ↓r_lX1, ↓r_lX2, ↓r_C, ↓r_Var, ↓r_Val, ↓r_Move, ↓r_fz, ↓r_ofD, ↓r_Op, ↓r_eOp, ↓r_Un, ↓r_CB, ↓r_eCB, ↓r_Mul, ↓r_Nil, ↓r_Cons, ↓r_Lst, ↓r_Tup, ↓r_Bl, ↓r_And, ↓r_Or, ↓r_NotM, ↓r_Yes, ↓r_If, ↓r_Chain, ↓r_Next, ↓r_Seq, ↓r_Bk, ↓r_Ct, ↓r_Never, ↓r_Ret, ↓r_RetN, ↓r_Expr, ↓r_sIf, ↓r_Set, ↓r_Asg, ↓r_Par, ↓r_bName, ↓r_bNil, ↓r_bCons, ↓r_bTup, ↓r_bTupL, ↓r_free, ↓f_non, ↓f_val, ↓f_own, ↓f_pin, ↓r_toSl, ↓r_fzR, ↓r_dAnd, ↓r_dOr, ↓r_dNot, ↓r_ixO, ↓r_Put, ↓r_Mut, ↓r_arNil, ↓r_arV, ↓r_arR, ↓r_Call, ↓r_CallK, ↓r_CallKD, ↓r_CallT, ↓r_For, ↓r_Lc, ↓r_iSeq, ↓r_iRng1, ↓r_iRng2, ↓r_iEnum, ↓r_iEnumA, ↓r_iEnumB, ↓r_TR1, ↓r_LenO, ↓r_NeO, ↓r_iZip, ↓r_iZipB, ↓r_LenSet, ↓r_step, ↓r_LR1, ↓r_LR2, ↓r_oNone, ↓r_oSome, ↓r_Cut, ↓r_Rev, ↓r_RevA, ↓r_keep, ↓r_Raise, ↓r_Try, ↓r_endX, ↓r_Exn, ↓r_Fld, ↓r_FldM, ↓r_FldAdd, ↓r_bFld, ↓r_Meth, ↓r_MethT, ↓r_Make, ↓r_Par3, ↓r_Par3E, ↓r_AugN, ↓r_AugPut, ↓f_exn, ↓nx_nil, ↓nx_n, ↓nx_v, ↓nx_o, ↓nx_x, ↓r_Isi, ↓r_IsiT, ↓r_Bor, ↓r_BorE, ↓r_noEx, ↓r_wipe0, ↓r_wipe1, ↓r_outs0, ↓r_outs1, ↓r_out1, ↓r_out2, ↓r_mkA0, ↓r_mkA1, ↓r_mkA2, ↓r_wb0, ↓r_wb1, ↓r_wb2, ↓r_Said, ↓r_hide0, ↓r_hide1, ↓r_hideV, ↓r_hideO, ↓r_hideN, ↓r_IsE, ↓r_IsE2, ↓r_iZip3, ↓r_Mt, ↓r_Pre, ↓r_CutO, ↓r_setOwn, ↓r_Copy, ↓r_pick0, ↓r_pick1, ↓r_val0, ↓r_val1, ↓r_Dc, ↓r_Get2, ↓r_IxK, ↓r_IxKO, ↓r_PutK, ↓r_Dic0, ↓r_dstep, ↓r_TryM, ↓r_suX0, ↓r_suX1, ↓r_EnumZip, ↓g0, ↓g1, ↓g2, ↓g3, ↓g4, ↓g5, ↓g6, ↓g7, ↓g8, ↓g9, ↓g10, ↓g11, ↓g12, ↓g13, ↓g14, ↓g15, ↓g16, ↓g17, ↓g18, ↓g19, ↓g20, ↓g21, ↓g22, ↓g23, ↓g24, ↓g25, ↓u0, ↓u1, ↓u2, ↓u3, ↓u4, ↓u5, ↓u6, ↓u7, ↓u8, ↓u9, ↓u10, ↓u11, ↓u12, ↓u13, ↓u14, ↓u15, ↓u16, ↓u17, ↓u18, ↓u19, ↓u20, ↓u21, ↓u22, ↓u23, ↓u24, ↓u25, k_int, v_eqE0, v_neE0, K_nb, K_ni, K_ns, K_nl, K_nt, K_bb, K_bi, K_bs, K_bl, K_bt, K_ib, K_ii, K_is, K_il, K_it, K_sb, K_si, K_ss, K_sl, K_st, K_lb, K_li, K_ls, K_ll, K_lt, K_tb, K_ti, K_ts, K_tl, K_tt, K_db, K_di, K_ds, K_dl, K_dt, t_n, t_d, t_s, r_outO1, r_outO2, r_Ask1, r_Ask2, v_TR, v_add, v_sub, v_neg, v_lt, v_le, v_gt, v_ge, v_eq, v_ne, v_max2, v_min2, v_mod, v_div, v_pow9, v_pow18, v_mulL, v_mulR, v_divmod, v_lenL, v_lenT, v_sum, v_eqL, v_listOf, v_inT2, v_sorted, sortB_f, v_sortL, v_sortT, v_sortDL, v_sortDT, v_sortDP, v_keep, v_tupL, v_tupT, v_sumL, v_sumT, v_app, v_neL, v_pow39, v_pow40, ob_nil, ob_zero, ob_1, ob_2, ob_3, ob_4, ob_5, ob_6, ob_7, ob_8, ll_n, ll_b, ll_i, ll_s, bs_n, bs_v, bs_l, bs_s, llA_ints, List.all_cons, List.all_nil, Bool.and_true, Bool.true_and, Bool.false_and, Bool.and_false, Bool.and_self, v_isN0, v_isNi, v_notN0, v_notNi, v_ixL, v_ixT, v_cutL, v_cutT, k_ii, k_ib, k_bi, k_bb, k_ll, k_lt, k_tl, k_tt, t_i, t_b, t_l, t_t, isR, if_true, true_and, and_true, and_self, if_false, if_pos, Bool.not_true, Bool.not_false, List.length_cons, List.length_nil, List.replicate, List.cons_append, List.nil_append, List.head?_cons, List.tail_cons, List.any_nil, List.any_cons, Bool.false_eq_true, Bool.or_false, Bool.false_or, beq_self_eq_true, Nat.reduceSub, Nat.reduceAdd, Nat.reduceLeDiff, Nat.reduceBEq, Nat.reduceEqDiff, reduceIte, eq_self, reduceCtorEq, bo_rvV, bo_rvL, bo_nil, bo_cons, bo_non, bo_valS, bo_int, bo_bool, bo_own, bo_src, kp_p1, kp_p2, kp_p3, kp_p4, kp_p5, kp_p6, kp_h, kp_d, kp_l1, kp_l2, kp_l3, kp_l4, kp_l5, kp_l6, kp_cups, kp_scoops, kp_rows, kp_looks, kp_held, kp_done, kp_choose, kp_nums, kp_stand, Int.reduceToNat, Int.reduceBEq, Nat.zero_add, Nat.reduceLT, f1, u_w_want_pours_1, e, ↓hl, ↓hx, ↓hl0, Bool.not_true]
theorem wp_out (V : D) (ds : List D) (k : Int) (s1 : Sl) (hV : V = .list ds ∨ V = .tuple ds) (hl : (ds.length : Int) = k) (k0 : (k == 0) = false) (e : forD (bName 1) w_want_pours_1 ds [.val V, .non] = .ok (.nx, [.val V, s1])) : d_want_pours [.val V] = .ok (.val .none, [.val V]) := by
  rw [q_want_pours]
  rcases hV with rfl | rfl
  · simp (maxSteps := 1000000) (disch := first | omega | exact Or.inl rfl | exact Or.inr rfl | exact f_non | exact f_val _ | exact f_own _ | (simp only [List.length_map, List.length_replicate, List.length_append, List.length_cons, List.length_nil, firstI_length, List.length_range, rowsD_length, List.length_drop, List.length_take, sortB_len, rangeI_len]; omega)) only [↓rb, ↓r_ofO, ↓r_den, ↓r_oX1, ↓r_oX2, ↓r_bX1, ↓r_bX2, ↓r_lX1, ↓r_lX2, ↓r_C, ↓r_Var, ↓r_Val, ↓r_Move, ↓r_fz, ↓r_ofD, ↓r_Op, ↓r_eOp, ↓r_Un, ↓r_CB, ↓r_eCB, ↓r_Mul, ↓r_Nil, ↓r_Cons, ↓r_Lst, ↓r_Tup, ↓r_Bl, ↓r_And, ↓r_Or, ↓r_NotM, ↓r_Yes, ↓r_If, ↓r_Chain, ↓r_Next, ↓r_Seq, ↓r_Bk, ↓r_Ct, ↓r_Never, ↓r_Ret, ↓r_RetN, ↓r_Expr, ↓r_sIf, ↓r_Set, ↓r_Asg, ↓r_Par, ↓r_bName, ↓r_bNil, ↓r_bCons, ↓r_bTup, ↓r_bTupL, ↓r_free, ↓f_non, ↓f_val, ↓f_own, ↓f_pin, ↓r_toSl, ↓r_fzR, ↓r_dAnd, ↓r_dOr, ↓r_dNot, ↓r_ixO, ↓r_Put, ↓r_Mut, ↓r_arNil, ↓r_arV, ↓r_arR, ↓r_Call, ↓r_CallK, ↓r_CallKD, ↓r_CallT, ↓r_For, ↓r_Lc, ↓r_iSeq, ↓r_iRng1, ↓r_iRng2, ↓r_iEnum, ↓r_iEnumA, ↓r_iEnumB, ↓r_TR1, ↓r_LenO, ↓r_NeO, ↓r_iZip, ↓r_iZipB, ↓r_LenSet, ↓r_step, ↓r_LR1, ↓r_LR2, ↓r_oNone, ↓r_oSome, ↓r_Cut, ↓r_Rev, ↓r_RevA, ↓r_keep, ↓r_Raise, ↓r_Try, ↓r_endX, ↓r_Exn, ↓r_Fld, ↓r_FldM, ↓r_FldAdd, ↓r_bFld, ↓r_Meth, ↓r_MethT, ↓r_Make, ↓r_Par3, ↓r_Par3E, ↓r_AugN, ↓r_AugPut, ↓f_exn, ↓nx_nil, ↓nx_n, ↓nx_v, ↓nx_o, ↓nx_x, ↓r_Isi, ↓r_IsiT, ↓r_Bor, ↓r_BorE, ↓r_noEx, ↓r_wipe0, ↓r_wipe1, ↓r_outs0, ↓r_outs1, ↓r_out1, ↓r_out2, ↓r_mkA0, ↓r_mkA1, ↓r_mkA2, ↓r_wb0, ↓r_wb1, ↓r_wb2, ↓r_Said, ↓r_hide0, ↓r_hide1, ↓r_hideV, ↓r_hideO, ↓r_hideN, ↓r_IsE, ↓r_IsE2, ↓r_iZip3, ↓r_Mt, ↓r_Pre, ↓r_CutO, ↓r_setOwn, ↓r_Copy, ↓r_pick0, ↓r_pick1, ↓r_val0, ↓r_val1, ↓r_Dc, ↓r_Get2, ↓r_IxK, ↓r_IxKO, ↓r_PutK, ↓r_Dic0, ↓r_dstep, ↓r_TryM, ↓r_suX0, ↓r_suX1, ↓r_EnumZip, ↓g0, ↓g1, ↓g2, ↓g3, ↓g4, ↓g5, ↓g6, ↓g7, ↓g8, ↓g9, ↓g10, ↓g11, ↓g12, ↓g13, ↓g14, ↓g15, ↓g16, ↓g17, ↓g18, ↓g19, ↓g20, ↓g21, ↓g22, ↓g23, ↓g24, ↓g25, ↓u0, ↓u1, ↓u2, ↓u3, ↓u4, ↓u5, ↓u6, ↓u7, ↓u8, ↓u9, ↓u10, ↓u11, ↓u12, ↓u13, ↓u14, ↓u15, ↓u16, ↓u17, ↓u18, ↓u19, ↓u20, ↓u21, ↓u22, ↓u23, ↓u24, ↓u25, k_int, v_eqE0, v_neE0, K_nb, K_ni, K_ns, K_nl, K_nt, K_bb, K_bi, K_bs, K_bl, K_bt, K_ib, K_ii, K_is, K_il, K_it, K_sb, K_si, K_ss, K_sl, K_st, K_lb, K_li, K_ls, K_ll, K_lt, K_tb, K_ti, K_ts, K_tl, K_tt, K_db, K_di, K_ds, K_dl, K_dt, t_n, t_d, t_s, r_outO1, r_outO2, r_Ask1, r_Ask2, v_TR, v_add, v_sub, v_neg, v_lt, v_le, v_gt, v_ge, v_eq, v_ne, v_max2, v_min2, v_mod, v_div, v_pow9, v_pow18, v_mulL, v_mulR, v_divmod, v_lenL, v_lenT, v_sum, v_eqL, v_listOf, v_inT2, v_sorted, sortB_f, v_sortL, v_sortT, v_sortDL, v_sortDT, v_sortDP, v_keep, v_tupL, v_tupT, v_sumL, v_sumT, v_app, v_neL, v_pow39, v_pow40, ob_nil, ob_zero, ob_1, ob_2, ob_3, ob_4, ob_5, ob_6, ob_7, ob_8, ll_n, ll_b, ll_i, ll_s, bs_n, bs_v, bs_l, bs_s, llA_ints, List.all_cons, List.all_nil, Bool.and_true, Bool.true_and, Bool.false_and, Bool.and_false, Bool.and_self, v_isN0, v_isNi, v_notN0, v_notNi, v_ixL, v_ixT, v_cutL, v_cutT, k_ii, k_ib, k_bi, k_bb, k_ll, k_lt, k_tl, k_tt, t_i, t_b, t_l, t_t, isR, if_true, true_and, and_true, and_self, if_false, if_pos, Bool.not_true, Bool.not_false, List.length_cons, List.length_nil, List.replicate, List.cons_append, List.nil_append, List.head?_cons, List.tail_cons, List.any_nil, List.any_cons, Bool.false_eq_true, Bool.or_false, Bool.false_or, beq_self_eq_true, Nat.reduceSub, Nat.reduceAdd, Nat.reduceLeDiff, Nat.reduceBEq, Nat.reduceEqDiff, reduceIte, eq_self, reduceCtorEq, bo_rvV, bo_rvL, bo_nil, bo_cons, bo_non, bo_valS, bo_int, bo_bool, bo_own, bo_src, kp_p1, kp_p2, kp_p3, kp_p4, kp_p5, kp_p6, kp_h, kp_d, kp_l1, kp_l2, kp_l3, kp_l4, kp_l5, kp_l6, kp_cups, kp_scoops, kp_rows, kp_looks, kp_held, kp_done, kp_choose, kp_nums, kp_stand, Int.reduceToNat, Int.reduceBEq, Nat.zero_add, Nat.reduceLT, k_anyL, hl, k0, e, Bool.not_true]
  · simp (maxSteps := 1000000) (disch := first | omega | exact Or.inl rfl | exact Or.inr rfl | exact f_non | exact f_val _ | exact f_own _ | (simp only [List.length_map, List.length_replicate, List.length_append, List.length_cons, List.length_nil, firstI_length, List.length_range, rowsD_length, List.length_drop, List.length_take, sortB_len, rangeI_len]; omega)) only [↓rb, ↓r_ofO, ↓r_den, ↓r_oX1, ↓r_oX2, ↓r_bX1, ↓r_bX2, ↓r_lX1, ↓r_lX2, ↓r_C, ↓r_Var, ↓r_Val, ↓r_Move, ↓r_fz, ↓r_ofD, ↓r_Op, ↓r_eOp, ↓r_Un, ↓r_CB, ↓r_eCB, ↓r_Mul, ↓r_Nil, ↓r_Cons, ↓r_Lst, ↓r_Tup, ↓r_Bl, ↓r_And, ↓r_Or, ↓r_NotM, ↓r_Yes, ↓r_If, ↓r_Chain, ↓r_Next, ↓r_Seq, ↓r_Bk, ↓r_Ct, ↓r_Never, ↓r_Ret, ↓r_RetN, ↓r_Expr, ↓r_sIf, ↓r_Set, ↓r_Asg, ↓r_Par, ↓r_bName, ↓r_bNil, ↓r_bCons, ↓r_bTup, ↓r_bTupL, ↓r_free, ↓f_non, ↓f_val, ↓f_own, ↓f_pin, ↓r_toSl, ↓r_fzR, ↓r_dAnd, ↓r_dOr, ↓r_dNot, ↓r_ixO, ↓r_Put, ↓r_Mut, ↓r_arNil, ↓r_arV, ↓r_arR, ↓r_Call, ↓r_CallK, ↓r_CallKD, ↓r_CallT, ↓r_For, ↓r_Lc, ↓r_iSeq, ↓r_iRng1, ↓r_iRng2, ↓r_iEnum, ↓r_iEnumA, ↓r_iEnumB, ↓r_TR1, ↓r_LenO, ↓r_NeO, ↓r_iZip, ↓r_iZipB, ↓r_LenSet, ↓r_step, ↓r_LR1, ↓r_LR2, ↓r_oNone, ↓r_oSome, ↓r_Cut, ↓r_Rev, ↓r_RevA, ↓r_keep, ↓r_Raise, ↓r_Try, ↓r_endX, ↓r_Exn, ↓r_Fld, ↓r_FldM, ↓r_FldAdd, ↓r_bFld, ↓r_Meth, ↓r_MethT, ↓r_Make, ↓r_Par3, ↓r_Par3E, ↓r_AugN, ↓r_AugPut, ↓f_exn, ↓nx_nil, ↓nx_n, ↓nx_v, ↓nx_o, ↓nx_x, ↓r_Isi, ↓r_IsiT, ↓r_Bor, ↓r_BorE, ↓r_noEx, ↓r_wipe0, ↓r_wipe1, ↓r_outs0, ↓r_outs1, ↓r_out1, ↓r_out2, ↓r_mkA0, ↓r_mkA1, ↓r_mkA2, ↓r_wb0, ↓r_wb1, ↓r_wb2, ↓r_Said, ↓r_hide0, ↓r_hide1, ↓r_hideV, ↓r_hideO, ↓r_hideN, ↓r_IsE, ↓r_IsE2, ↓r_iZip3, ↓r_Mt, ↓r_Pre, ↓r_CutO, ↓r_setOwn, ↓r_Copy, ↓r_pick0, ↓r_pick1, ↓r_val0, ↓r_val1, ↓r_Dc, ↓r_Get2, ↓r_IxK, ↓r_IxKO, ↓r_PutK, ↓r_Dic0, ↓r_dstep, ↓r_TryM, ↓r_suX0, ↓r_suX1, ↓r_EnumZip, ↓g0, ↓g1, ↓g2, ↓g3, ↓g4, ↓g5, ↓g6, ↓g7, ↓g8, ↓g9, ↓g10, ↓g11, ↓g12, ↓g13, ↓g14, ↓g15, ↓g16, ↓g17, ↓g18, ↓g19, ↓g20, ↓g21, ↓g22, ↓g23, ↓g24, ↓g25, ↓u0, ↓u1, ↓u2, ↓u3, ↓u4, ↓u5, ↓u6, ↓u7, ↓u8, ↓u9, ↓u10, ↓u11, ↓u12, ↓u13, ↓u14, ↓u15, ↓u16, ↓u17, ↓u18, ↓u19, ↓u20, ↓u21, ↓u22, ↓u23, ↓u24, ↓u25, k_int, v_eqE0, v_neE0, K_nb, K_ni, K_ns, K_nl, K_nt, K_bb, K_bi, K_bs, K_bl, K_bt, K_ib, K_ii, K_is, K_il, K_it, K_sb, K_si, K_ss, K_sl, K_st, K_lb, K_li, K_ls, K_ll, K_lt, K_tb, K_ti, K_ts, K_tl, K_tt, K_db, K_di, K_ds, K_dl, K_dt, t_n, t_d, t_s, r_outO1, r_outO2, r_Ask1, r_Ask2, v_TR, v_add, v_sub, v_neg, v_lt, v_le, v_gt, v_ge, v_eq, v_ne, v_max2, v_min2, v_mod, v_div, v_pow9, v_pow18, v_mulL, v_mulR, v_divmod, v_lenL, v_lenT, v_sum, v_eqL, v_listOf, v_inT2, v_sorted, sortB_f, v_sortL, v_sortT, v_sortDL, v_sortDT, v_sortDP, v_keep, v_tupL, v_tupT, v_sumL, v_sumT, v_app, v_neL, v_pow39, v_pow40, ob_nil, ob_zero, ob_1, ob_2, ob_3, ob_4, ob_5, ob_6, ob_7, ob_8, ll_n, ll_b, ll_i, ll_s, bs_n, bs_v, bs_l, bs_s, llA_ints, List.all_cons, List.all_nil, Bool.and_true, Bool.true_and, Bool.false_and, Bool.and_false, Bool.and_self, v_isN0, v_isNi, v_notN0, v_notNi, v_ixL, v_ixT, v_cutL, v_cutT, k_ii, k_ib, k_bi, k_bb, k_ll, k_lt, k_tl, k_tt, t_i, t_b, t_l, t_t, isR, if_true, true_and, and_true, and_self, if_false, if_pos, Bool.not_true, Bool.not_false, List.length_cons, List.length_nil, List.replicate, List.cons_append, List.nil_append, List.head?_cons, List.tail_cons, List.any_nil, List.any_cons, Bool.false_eq_true, Bool.or_false, Bool.false_or, beq_self_eq_true, Nat.reduceSub, Nat.reduceAdd, Nat.reduceLeDiff, Nat.reduceBEq, Nat.reduceEqDiff, reduceIte, eq_self, reduceCtorEq, bo_rvV, bo_rvL, bo_nil, bo_cons, bo_non, bo_valS, bo_int, bo_bool, bo_own, bo_src, kp_p1, kp_p2, kp_p3, kp_p4, kp_p5, kp_p6, kp_h, kp_d, kp_l1, kp_l2, kp_l3, kp_l4, kp_l5, kp_l6, kp_cups, kp_scoops, kp_rows, kp_looks, kp_held, kp_done, kp_choose, kp_nums, kp_stand, Int.reduceToNat, Int.reduceBEq, Nat.zero_add, Nat.reduceLT, k_anyT, hl, k0, e, Bool.not_true]
theorem ix0 {V : D} {d : D} {ds : List D} (hV : V = .list (d :: ds) ∨ V = .tuple (d :: ds)) : pIx V (.int 0) = some d := by
  rcases hV with rfl | rfl
  · rw [v_ixL, v_atN _ _ (Int.le_refl _)]; rfl
  · rw [v_ixT, v_atN _ _ (Int.le_refl _)]; rfl
theorem e_want_pours (V : D) (n : Int) (q0 : List Int) (P : List (List Int)) (hV : V = .list ((q0 :: P).map tpD) ∨ V = .tuple ((q0 :: P).map tpD)) (O : PsOk n (q0 :: P)) (h1 : 2 ≤ n) (h2 : n ≤ 40) : d_want_pours [.val V] = .ok (.val .none, [.val V]) := by
  have l0 := O.len q0 (List.mem_cons_self ..)
  obtain ⟨r', e, s1, f1, rfl⟩ := forD_inv (b := bName 1) (body := w_want_pours_1) (fun _ r => ∃ s1 : Sl, fre (some s1) = true ∧ r = [.val V, s1]) ((q0 :: P).map tpD) [.val V, .non] ⟨.non, rfl, rfl⟩ (fun i d hd r ⟨s1, f1, hr⟩ => by
    subst hr
    obtain ⟨q, hq, rfl⟩ := List.mem_map.mp (List.mem_of_getElem? hd)
    have lq := O.len q hq
    exact ⟨_, .inl (wp_turn V (tpD q) s1 f1 n (tpD q0) (e_amounts q (O.nn q hq) (by omega) (by omega)) (by unfold tpD; rw [v_lenT, List.length_map, lq]) (ix0 (ds := P.map tpD) hV) (by unfold tpD; rw [v_lenT, List.length_map, l0])), _, rfl, rfl⟩)
  exact wp_out V _ ((q0 :: P).map tpD).length s1 hV rfl (by rw [List.map_cons, List.length_cons]; exact beq_eq_false_iff_ne.mpr (by omega)) e
theorem e_numb (n : Int) (x : Row) (hm : ∀ z ∈ x.2, 0 ≤ z ∧ z < n) (hnd : x.2.Nodup) (hb : x.2.length ≤ 1000) : d_are_numbers [.val (rowD x), .val (.int n)] = .ok (.val (.bool true), [.val (rowD x), .val (.int n)]) := by
  obtain ⟨b, l⟩ := x
  have hnb := nub_nodup l hnd
  have hb : l.length ≤ 1000 := hb
  have ha : l.all (fun z => decide (0 ≤ z) && decide (z ≤ n - 1)) = true := List.all_eq_true.mpr fun z hz => by
    have := hm z hz
    simp only [Bool.and_eq_true, decide_eq_true_eq]
    omega
  cases b with
  | true =>
    have lc : lcD [2] (bName 2) tYesM x_are_numbers_1 (l.map .int) [] [.val (.tuple (l.map .int)), .val (.int n), .non] = .ok (l.map (fun z => .bool (decide (0 ≤ z) && decide (z ≤ n - 1))), [.val (.tuple (l.map .int)), .val (.int n), .non]) :=
      lcD_mapI .int (fun z => .bool (decide (0 ≤ z) && decide (z ≤ n - 1))) l (fun z _ => by simp (maxSteps := 1000000) (disch := first | omega | exact Or.inl rfl | exact Or.inr rfl | exact f_non | exact f_val _ | exact f_own _ | (simp only [List.length_map, List.length_replicate, List.length_append, List.length_cons, List.length_nil, firstI_length, List.length_range, rowsD_length, List.length_drop, List.length_take, sortB_len, rangeI_len]; omega)) only [↓rb, ↓r_ofO, ↓r_den, ↓r_oX1, ↓r_oX2, ↓r_bX1, ↓r_bX2, ↓r_lX1, ↓r_lX2, ↓r_C, ↓r_Var, ↓r_Val, ↓r_Move, ↓r_fz, ↓r_ofD, ↓r_Op, ↓r_eOp, ↓r_Un, ↓r_CB, ↓r_eCB, ↓r_Mul, ↓r_Nil, ↓r_Cons, ↓r_Lst, ↓r_Tup, ↓r_Bl, ↓r_And, ↓r_Or, ↓r_NotM, ↓r_Yes, ↓r_If, ↓r_Chain, ↓r_Next, ↓r_Seq, ↓r_Bk, ↓r_Ct, ↓r_Never, ↓r_Ret, ↓r_RetN, ↓r_Expr, ↓r_sIf, ↓r_Set, ↓r_Asg, ↓r_Par, ↓r_bName, ↓r_bNil, ↓r_bCons, ↓r_bTup, ↓r_bTupL, ↓r_free, ↓f_non, ↓f_val, ↓f_own, ↓f_pin, ↓r_toSl, ↓r_fzR, ↓r_dAnd, ↓r_dOr, ↓r_dNot, ↓r_ixO, ↓r_Put, ↓r_Mut, ↓r_arNil, ↓r_arV, ↓r_arR, ↓r_Call, ↓r_CallK, ↓r_CallKD, ↓r_CallT, ↓r_For, ↓r_Lc, ↓r_iSeq, ↓r_iRng1, ↓r_iRng2, ↓r_iEnum, ↓r_iEnumA, ↓r_iEnumB, ↓r_TR1, ↓r_LenO, ↓r_NeO, ↓r_iZip, ↓r_iZipB, ↓r_LenSet, ↓r_step, ↓r_LR1, ↓r_LR2, ↓r_oNone, ↓r_oSome, ↓r_Cut, ↓r_Rev, ↓r_RevA, ↓r_keep, ↓r_Raise, ↓r_Try, ↓r_endX, ↓r_Exn, ↓r_Fld, ↓r_FldM, ↓r_FldAdd, ↓r_bFld, ↓r_Meth, ↓r_MethT, ↓r_Make, ↓r_Par3, ↓r_Par3E, ↓r_AugN, ↓r_AugPut, ↓f_exn, ↓nx_nil, ↓nx_n, ↓nx_v, ↓nx_o, ↓nx_x, ↓r_Isi, ↓r_IsiT, ↓r_Bor, ↓r_BorE, ↓r_noEx, ↓r_wipe0, ↓r_wipe1, ↓r_outs0, ↓r_outs1, ↓r_out1, ↓r_out2, ↓r_mkA0, ↓r_mkA1, ↓r_mkA2, ↓r_wb0, ↓r_wb1, ↓r_wb2, ↓r_Said, ↓r_hide0, ↓r_hide1, ↓r_hideV, ↓r_hideO, ↓r_hideN, ↓r_IsE, ↓r_IsE2, ↓r_iZip3, ↓r_Mt, ↓r_Pre, ↓r_CutO, ↓r_setOwn, ↓r_Copy, ↓r_pick0, ↓r_pick1, ↓r_val0, ↓r_val1, ↓r_Dc, ↓r_Get2, ↓r_IxK, ↓r_IxKO, ↓r_PutK, ↓r_Dic0, ↓r_dstep, ↓r_TryM, ↓r_suX0, ↓r_suX1, ↓r_EnumZip, ↓g0, ↓g1, ↓g2, ↓g3, ↓g4, ↓g5, ↓g6, ↓g7, ↓g8, ↓g9, ↓g10, ↓g11, ↓g12, ↓g13, ↓g14, ↓g15, ↓g16, ↓g17, ↓g18, ↓g19, ↓g20, ↓g21, ↓g22, ↓g23, ↓g24, ↓g25, ↓u0, ↓u1, ↓u2, ↓u3, ↓u4, ↓u5, ↓u6, ↓u7, ↓u8, ↓u9, ↓u10, ↓u11, ↓u12, ↓u13, ↓u14, ↓u15, ↓u16, ↓u17, ↓u18, ↓u19, ↓u20, ↓u21, ↓u22, ↓u23, ↓u24, ↓u25, k_int, v_eqE0, v_neE0, K_nb, K_ni, K_ns, K_nl, K_nt, K_bb, K_bi, K_bs, K_bl, K_bt, K_ib, K_ii, K_is, K_il, K_it, K_sb, K_si, K_ss, K_sl, K_st, K_lb, K_li, K_ls, K_ll, K_lt, K_tb, K_ti, K_ts, K_tl, K_tt, K_db, K_di, K_ds, K_dl, K_dt, t_n, t_d, t_s, r_outO1, r_outO2, r_Ask1, r_Ask2, v_TR, v_add, v_sub, v_neg, v_lt, v_le, v_gt, v_ge, v_eq, v_ne, v_max2, v_min2, v_mod, v_div, v_pow9, v_pow18, v_mulL, v_mulR, v_divmod, v_lenL, v_lenT, v_sum, v_eqL, v_listOf, v_inT2, v_sorted, sortB_f, v_sortL, v_sortT, v_sortDL, v_sortDT, v_sortDP, v_keep, v_tupL, v_tupT, v_sumL, v_sumT, v_app, v_neL, v_pow39, v_pow40, ob_nil, ob_zero, ob_1, ob_2, ob_3, ob_4, ob_5, ob_6, ob_7, ob_8, ll_n, ll_b, ll_i, ll_s, bs_n, bs_v, bs_l, bs_s, llA_ints, List.all_cons, List.all_nil, Bool.and_true, Bool.true_and, Bool.false_and, Bool.and_false, Bool.and_self, v_isN0, v_isNi, v_notN0, v_notNi, v_ixL, v_ixT, v_cutL, v_cutT, k_ii, k_ib, k_bi, k_bb, k_ll, k_lt, k_tl, k_tt, t_i, t_b, t_l, t_t, isR, if_true, true_and, and_true, and_self, if_false, if_pos, Bool.not_true, Bool.not_false, List.length_cons, List.length_nil, List.replicate, List.cons_append, List.nil_append, List.head?_cons, List.tail_cons, List.any_nil, List.any_cons, Bool.false_eq_true, Bool.or_false, Bool.false_or, beq_self_eq_true, Nat.reduceSub, Nat.reduceAdd, Nat.reduceLeDiff, Nat.reduceBEq, Nat.reduceEqDiff, reduceIte, eq_self, reduceCtorEq, bo_rvV, bo_rvL, bo_nil, bo_cons, bo_non, bo_valS, bo_int, bo_bool, bo_own, bo_src, kp_p1, kp_p2, kp_p3, kp_p4, kp_p5, kp_p6, kp_h, kp_d, kp_l1, kp_l2, kp_l3, kp_l4, kp_l5, kp_l6, kp_cups, kp_scoops, kp_rows, kp_looks, kp_held, kp_done, kp_choose, kp_nums, kp_stand, Int.reduceToNat, Int.reduceBEq, Nat.zero_add, Nat.reduceLT, u_x_are_numbers_1, e_is_from]) (by omega)
    show d_are_numbers [.val (.tuple (l.map .int)), .val (.int n)] = .ok (.val (.bool true), [.val (.tuple (l.map .int)), .val (.int n)])
    rw [q_are_numbers]
    simp (maxSteps := 1000000) (disch := first | omega | exact Or.inl rfl | exact Or.inr rfl | exact f_non | exact f_val _ | exact f_own _ | (simp only [List.length_map, List.length_replicate, List.length_append, List.length_cons, List.length_nil, firstI_length, List.length_range, rowsD_length, List.length_drop, List.length_take, sortB_len, rangeI_len]; omega)) only [↓rb, ↓r_ofO, ↓r_den, ↓r_oX1, ↓r_oX2, ↓r_bX1, ↓r_bX2, ↓r_lX1, ↓r_lX2, ↓r_C, ↓r_Var, ↓r_Val, ↓r_Move, ↓r_fz, ↓r_ofD, ↓r_Op, ↓r_eOp, ↓r_Un, ↓r_CB, ↓r_eCB, ↓r_Mul, ↓r_Nil, ↓r_Cons, ↓r_Lst, ↓r_Tup, ↓r_Bl, ↓r_And, ↓r_Or, ↓r_NotM, ↓r_Yes, ↓r_If, ↓r_Chain, ↓r_Next, ↓r_Seq, ↓r_Bk, ↓r_Ct, ↓r_Never, ↓r_Ret, ↓r_RetN, ↓r_Expr, ↓r_sIf, ↓r_Set, ↓r_Asg, ↓r_Par, ↓r_bName, ↓r_bNil, ↓r_bCons, ↓r_bTup, ↓r_bTupL, ↓r_free, ↓f_non, ↓f_val, ↓f_own, ↓f_pin, ↓r_toSl, ↓r_fzR, ↓r_dAnd, ↓r_dOr, ↓r_dNot, ↓r_ixO, ↓r_Put, ↓r_Mut, ↓r_arNil, ↓r_arV, ↓r_arR, ↓r_Call, ↓r_CallK, ↓r_CallKD, ↓r_CallT, ↓r_For, ↓r_Lc, ↓r_iSeq, ↓r_iRng1, ↓r_iRng2, ↓r_iEnum, ↓r_iEnumA, ↓r_iEnumB, ↓r_TR1, ↓r_LenO, ↓r_NeO, ↓r_iZip, ↓r_iZipB, ↓r_LenSet, ↓r_step, ↓r_LR1, ↓r_LR2, ↓r_oNone, ↓r_oSome, ↓r_Cut, ↓r_Rev, ↓r_RevA, ↓r_keep, ↓r_Raise, ↓r_Try, ↓r_endX, ↓r_Exn, ↓r_Fld, ↓r_FldM, ↓r_FldAdd, ↓r_bFld, ↓r_Meth, ↓r_MethT, ↓r_Make, ↓r_Par3, ↓r_Par3E, ↓r_AugN, ↓r_AugPut, ↓f_exn, ↓nx_nil, ↓nx_n, ↓nx_v, ↓nx_o, ↓nx_x, ↓r_Isi, ↓r_IsiT, ↓r_Bor, ↓r_BorE, ↓r_noEx, ↓r_wipe0, ↓r_wipe1, ↓r_outs0, ↓r_outs1, ↓r_out1, ↓r_out2, ↓r_mkA0, ↓r_mkA1, ↓r_mkA2, ↓r_wb0, ↓r_wb1, ↓r_wb2, ↓r_Said, ↓r_hide0, ↓r_hide1, ↓r_hideV, ↓r_hideO, ↓r_hideN, ↓r_IsE, ↓r_IsE2, ↓r_iZip3, ↓r_Mt, ↓r_Pre, ↓r_CutO, ↓r_setOwn, ↓r_Copy, ↓r_pick0, ↓r_pick1, ↓r_val0, ↓r_val1, ↓r_Dc, ↓r_Get2, ↓r_IxK, ↓r_IxKO, ↓r_PutK, ↓r_Dic0, ↓r_dstep, ↓r_TryM, ↓r_suX0, ↓r_suX1, ↓r_EnumZip, ↓g0, ↓g1, ↓g2, ↓g3, ↓g4, ↓g5, ↓g6, ↓g7, ↓g8, ↓g9, ↓g10, ↓g11, ↓g12, ↓g13, ↓g14, ↓g15, ↓g16, ↓g17, ↓g18, ↓g19, ↓g20, ↓g21, ↓g22, ↓g23, ↓g24, ↓g25, ↓u0, ↓u1, ↓u2, ↓u3, ↓u4, ↓u5, ↓u6, ↓u7, ↓u8, ↓u9, ↓u10, ↓u11, ↓u12, ↓u13, ↓u14, ↓u15, ↓u16, ↓u17, ↓u18, ↓u19, ↓u20, ↓u21, ↓u22, ↓u23, ↓u24, ↓u25, k_int, v_eqE0, v_neE0, K_nb, K_ni, K_ns, K_nl, K_nt, K_bb, K_bi, K_bs, K_bl, K_bt, K_ib, K_ii, K_is, K_il, K_it, K_sb, K_si, K_ss, K_sl, K_st, K_lb, K_li, K_ls, K_ll, K_lt, K_tb, K_ti, K_ts, K_tl, K_tt, K_db, K_di, K_ds, K_dl, K_dt, t_n, t_d, t_s, r_outO1, r_outO2, r_Ask1, r_Ask2, v_TR, v_add, v_sub, v_neg, v_lt, v_le, v_gt, v_ge, v_eq, v_ne, v_max2, v_min2, v_mod, v_div, v_pow9, v_pow18, v_mulL, v_mulR, v_divmod, v_lenL, v_lenT, v_sum, v_eqL, v_listOf, v_inT2, v_sorted, sortB_f, v_sortL, v_sortT, v_sortDL, v_sortDT, v_sortDP, v_keep, v_tupL, v_tupT, v_sumL, v_sumT, v_app, v_neL, v_pow39, v_pow40, ob_nil, ob_zero, ob_1, ob_2, ob_3, ob_4, ob_5, ob_6, ob_7, ob_8, ll_n, ll_b, ll_i, ll_s, bs_n, bs_v, bs_l, bs_s, llA_ints, List.all_cons, List.all_nil, Bool.and_true, Bool.true_and, Bool.false_and, Bool.and_false, Bool.and_self, v_isN0, v_isNi, v_notN0, v_notNi, v_ixL, v_ixT, v_cutL, v_cutT, k_ii, k_ib, k_bi, k_bb, k_ll, k_lt, k_tl, k_tt, t_i, t_b, t_l, t_t, isR, if_true, true_and, and_true, and_self, if_false, if_pos, Bool.not_true, Bool.not_false, List.length_cons, List.length_nil, List.replicate, List.cons_append, List.nil_append, List.head?_cons, List.tail_cons, List.any_nil, List.any_cons, Bool.false_eq_true, Bool.or_false, Bool.false_or, beq_self_eq_true, Nat.reduceSub, Nat.reduceAdd, Nat.reduceLeDiff, Nat.reduceBEq, Nat.reduceEqDiff, reduceIte, eq_self, reduceCtorEq, bo_rvV, bo_rvL, bo_nil, bo_cons, bo_non, bo_valS, bo_int, bo_bool, bo_own, bo_src, kp_p1, kp_p2, kp_p3, kp_p4, kp_p5, kp_p6, kp_h, kp_d, kp_l1, kp_l2, kp_l3, kp_l4, kp_l5, kp_l6, kp_cups, kp_scoops, kp_rows, kp_looks, kp_held, kp_done, kp_choose, kp_nums, kp_stand, Int.reduceToNat, Int.reduceBEq, Nat.zero_add, Nat.reduceLT, k_anyT, v_lensetT, List.length_map, hnb, lc, v_allM, ha, eq_self, decide_true]
  | false =>
    have lc : lcD [2] (bName 2) tYesM x_are_numbers_1 (l.map .int) [] [.val (.list (l.map .int)), .val (.int n), .non] = .ok (l.map (fun z => .bool (decide (0 ≤ z) && decide (z ≤ n - 1))), [.val (.list (l.map .int)), .val (.int n), .non]) :=
      lcD_mapI .int (fun z => .bool (decide (0 ≤ z) && decide (z ≤ n - 1))) l (fun z _ => by simp (maxSteps := 1000000) (disch := first | omega | exact Or.inl rfl | exact Or.inr rfl | exact f_non | exact f_val _ | exact f_own _ | (simp only [List.length_map, List.length_replicate, List.length_append, List.length_cons, List.length_nil, firstI_length, List.length_range, rowsD_length, List.length_drop, List.length_take, sortB_len, rangeI_len]; omega)) only [↓rb, ↓r_ofO, ↓r_den, ↓r_oX1, ↓r_oX2, ↓r_bX1, ↓r_bX2, ↓r_lX1, ↓r_lX2, ↓r_C, ↓r_Var, ↓r_Val, ↓r_Move, ↓r_fz, ↓r_ofD, ↓r_Op, ↓r_eOp, ↓r_Un, ↓r_CB, ↓r_eCB, ↓r_Mul, ↓r_Nil, ↓r_Cons, ↓r_Lst, ↓r_Tup, ↓r_Bl, ↓r_And, ↓r_Or, ↓r_NotM, ↓r_Yes, ↓r_If, ↓r_Chain, ↓r_Next, ↓r_Seq, ↓r_Bk, ↓r_Ct, ↓r_Never, ↓r_Ret, ↓r_RetN, ↓r_Expr, ↓r_sIf, ↓r_Set, ↓r_Asg, ↓r_Par, ↓r_bName, ↓r_bNil, ↓r_bCons, ↓r_bTup, ↓r_bTupL, ↓r_free, ↓f_non, ↓f_val, ↓f_own, ↓f_pin, ↓r_toSl, ↓r_fzR, ↓r_dAnd, ↓r_dOr, ↓r_dNot, ↓r_ixO, ↓r_Put, ↓r_Mut, ↓r_arNil, ↓r_arV, ↓r_arR, ↓r_Call, ↓r_CallK, ↓r_CallKD, ↓r_CallT, ↓r_For, ↓r_Lc, ↓r_iSeq, ↓r_iRng1, ↓r_iRng2, ↓r_iEnum, ↓r_iEnumA, ↓r_iEnumB, ↓r_TR1, ↓r_LenO, ↓r_NeO, ↓r_iZip, ↓r_iZipB, ↓r_LenSet, ↓r_step, ↓r_LR1, ↓r_LR2, ↓r_oNone, ↓r_oSome, ↓r_Cut, ↓r_Rev, ↓r_RevA, ↓r_keep, ↓r_Raise, ↓r_Try, ↓r_endX, ↓r_Exn, ↓r_Fld, ↓r_FldM, ↓r_FldAdd, ↓r_bFld, ↓r_Meth, ↓r_MethT, ↓r_Make, ↓r_Par3, ↓r_Par3E, ↓r_AugN, ↓r_AugPut, ↓f_exn, ↓nx_nil, ↓nx_n, ↓nx_v, ↓nx_o, ↓nx_x, ↓r_Isi, ↓r_IsiT, ↓r_Bor, ↓r_BorE, ↓r_noEx, ↓r_wipe0, ↓r_wipe1, ↓r_outs0, ↓r_outs1, ↓r_out1, ↓r_out2, ↓r_mkA0, ↓r_mkA1, ↓r_mkA2, ↓r_wb0, ↓r_wb1, ↓r_wb2, ↓r_Said, ↓r_hide0, ↓r_hide1, ↓r_hideV, ↓r_hideO, ↓r_hideN, ↓r_IsE, ↓r_IsE2, ↓r_iZip3, ↓r_Mt, ↓r_Pre, ↓r_CutO, ↓r_setOwn, ↓r_Copy, ↓r_pick0, ↓r_pick1, ↓r_val0, ↓r_val1, ↓r_Dc, ↓r_Get2, ↓r_IxK, ↓r_IxKO, ↓r_PutK, ↓r_Dic0, ↓r_dstep, ↓r_TryM, ↓r_suX0, ↓r_suX1, ↓r_EnumZip, ↓g0, ↓g1, ↓g2, ↓g3, ↓g4, ↓g5, ↓g6, ↓g7, ↓g8, ↓g9, ↓g10, ↓g11, ↓g12, ↓g13, ↓g14, ↓g15, ↓g16, ↓g17, ↓g18, ↓g19, ↓g20, ↓g21, ↓g22, ↓g23, ↓g24, ↓g25, ↓u0, ↓u1, ↓u2, ↓u3, ↓u4, ↓u5, ↓u6, ↓u7, ↓u8, ↓u9, ↓u10, ↓u11, ↓u12, ↓u13, ↓u14, ↓u15, ↓u16, ↓u17, ↓u18, ↓u19, ↓u20, ↓u21, ↓u22, ↓u23, ↓u24, ↓u25, k_int, v_eqE0, v_neE0, K_nb, K_ni, K_ns, K_nl, K_nt, K_bb, K_bi, K_bs, K_bl, K_bt, K_ib, K_ii, K_is, K_il, K_it, K_sb, K_si, K_ss, K_sl, K_st, K_lb, K_li, K_ls, K_ll, K_lt, K_tb, K_ti, K_ts, K_tl, K_tt, K_db, K_di, K_ds, K_dl, K_dt, t_n, t_d, t_s, r_outO1, r_outO2, r_Ask1, r_Ask2, v_TR, v_add, v_sub, v_neg, v_lt, v_le, v_gt, v_ge, v_eq, v_ne, v_max2, v_min2, v_mod, v_div, v_pow9, v_pow18, v_mulL, v_mulR, v_divmod, v_lenL, v_lenT, v_sum, v_eqL, v_listOf, v_inT2, v_sorted, sortB_f, v_sortL, v_sortT, v_sortDL, v_sortDT, v_sortDP, v_keep, v_tupL, v_tupT, v_sumL, v_sumT, v_app, v_neL, v_pow39, v_pow40, ob_nil, ob_zero, ob_1, ob_2, ob_3, ob_4, ob_5, ob_6, ob_7, ob_8, ll_n, ll_b, ll_i, ll_s, bs_n, bs_v, bs_l, bs_s, llA_ints, List.all_cons, List.all_nil, Bool.and_true, Bool.true_and, Bool.false_and, Bool.and_false, Bool.and_self, v_isN0, v_isNi, v_notN0, v_notNi, v_ixL, v_ixT, v_cutL, v_cutT, k_ii, k_ib, k_bi, k_bb, k_ll, k_lt, k_tl, k_tt, t_i, t_b, t_l, t_t, isR, if_true, true_and, and_true, and_self, if_false, if_pos, Bool.not_true, Bool.not_false, List.length_cons, List.length_nil, List.replicate, List.cons_append, List.nil_append, List.head?_cons, List.tail_cons, List.any_nil, List.any_cons, Bool.false_eq_true, Bool.or_false, Bool.false_or, beq_self_eq_true, Nat.reduceSub, Nat.reduceAdd, Nat.reduceLeDiff, Nat.reduceBEq, Nat.reduceEqDiff, reduceIte, eq_self, reduceCtorEq, bo_rvV, bo_rvL, bo_nil, bo_cons, bo_non, bo_valS, bo_int, bo_bool, bo_own, bo_src, kp_p1, kp_p2, kp_p3, kp_p4, kp_p5, kp_p6, kp_h, kp_d, kp_l1, kp_l2, kp_l3, kp_l4, kp_l5, kp_l6, kp_cups, kp_scoops, kp_rows, kp_looks, kp_held, kp_done, kp_choose, kp_nums, kp_stand, Int.reduceToNat, Int.reduceBEq, Nat.zero_add, Nat.reduceLT, u_x_are_numbers_1, e_is_from]) (by omega)
    show d_are_numbers [.val (.list (l.map .int)), .val (.int n)] = .ok (.val (.bool true), [.val (.list (l.map .int)), .val (.int n)])
    rw [q_are_numbers]
    simp (maxSteps := 1000000) (disch := first | omega | exact Or.inl rfl | exact Or.inr rfl | exact f_non | exact f_val _ | exact f_own _ | (simp only [List.length_map, List.length_replicate, List.length_append, List.length_cons, List.length_nil, firstI_length, List.length_range, rowsD_length, List.length_drop, List.length_take, sortB_len, rangeI_len]; omega)) only [↓rb, ↓r_ofO, ↓r_den, ↓r_oX1, ↓r_oX2, ↓r_bX1, ↓r_bX2, ↓r_lX1, ↓r_lX2, ↓r_C, ↓r_Var, ↓r_Val, ↓r_Move, ↓r_fz, ↓r_ofD, ↓r_Op, ↓r_eOp, ↓r_Un, ↓r_CB, ↓r_eCB, ↓r_Mul, ↓r_Nil, ↓r_Cons, ↓r_Lst, ↓r_Tup, ↓r_Bl, ↓r_And, ↓r_Or, ↓r_NotM, ↓r_Yes, ↓r_If, ↓r_Chain, ↓r_Next, ↓r_Seq, ↓r_Bk, ↓r_Ct, ↓r_Never, ↓r_Ret, ↓r_RetN, ↓r_Expr, ↓r_sIf, ↓r_Set, ↓r_Asg, ↓r_Par, ↓r_bName, ↓r_bNil, ↓r_bCons, ↓r_bTup, ↓r_bTupL, ↓r_free, ↓f_non, ↓f_val, ↓f_own, ↓f_pin, ↓r_toSl, ↓r_fzR, ↓r_dAnd, ↓r_dOr, ↓r_dNot, ↓r_ixO, ↓r_Put, ↓r_Mut, ↓r_arNil, ↓r_arV, ↓r_arR, ↓r_Call, ↓r_CallK, ↓r_CallKD, ↓r_CallT, ↓r_For, ↓r_Lc, ↓r_iSeq, ↓r_iRng1, ↓r_iRng2, ↓r_iEnum, ↓r_iEnumA, ↓r_iEnumB, ↓r_TR1, ↓r_LenO, ↓r_NeO, ↓r_iZip, ↓r_iZipB, ↓r_LenSet, ↓r_step, ↓r_LR1, ↓r_LR2, ↓r_oNone, ↓r_oSome, ↓r_Cut, ↓r_Rev, ↓r_RevA, ↓r_keep, ↓r_Raise, ↓r_Try, ↓r_endX, ↓r_Exn, ↓r_Fld, ↓r_FldM, ↓r_FldAdd, ↓r_bFld, ↓r_Meth, ↓r_MethT, ↓r_Make, ↓r_Par3, ↓r_Par3E, ↓r_AugN, ↓r_AugPut, ↓f_exn, ↓nx_nil, ↓nx_n, ↓nx_v, ↓nx_o, ↓nx_x, ↓r_Isi, ↓r_IsiT, ↓r_Bor, ↓r_BorE, ↓r_noEx, ↓r_wipe0, ↓r_wipe1, ↓r_outs0, ↓r_outs1, ↓r_out1, ↓r_out2, ↓r_mkA0, ↓r_mkA1, ↓r_mkA2, ↓r_wb0, ↓r_wb1, ↓r_wb2, ↓r_Said, ↓r_hide0, ↓r_hide1, ↓r_hideV, ↓r_hideO, ↓r_hideN, ↓r_IsE, ↓r_IsE2, ↓r_iZip3, ↓r_Mt, ↓r_Pre, ↓r_CutO, ↓r_setOwn, ↓r_Copy, ↓r_pick0, ↓r_pick1, ↓r_val0, ↓r_val1, ↓r_Dc, ↓r_Get2, ↓r_IxK, ↓r_IxKO, ↓r_PutK, ↓r_Dic0, ↓r_dstep, ↓r_TryM, ↓r_suX0, ↓r_suX1, ↓r_EnumZip, ↓g0, ↓g1, ↓g2, ↓g3, ↓g4, ↓g5, ↓g6, ↓g7, ↓g8, ↓g9, ↓g10, ↓g11, ↓g12, ↓g13, ↓g14, ↓g15, ↓g16, ↓g17, ↓g18, ↓g19, ↓g20, ↓g21, ↓g22, ↓g23, ↓g24, ↓g25, ↓u0, ↓u1, ↓u2, ↓u3, ↓u4, ↓u5, ↓u6, ↓u7, ↓u8, ↓u9, ↓u10, ↓u11, ↓u12, ↓u13, ↓u14, ↓u15, ↓u16, ↓u17, ↓u18, ↓u19, ↓u20, ↓u21, ↓u22, ↓u23, ↓u24, ↓u25, k_int, v_eqE0, v_neE0, K_nb, K_ni, K_ns, K_nl, K_nt, K_bb, K_bi, K_bs, K_bl, K_bt, K_ib, K_ii, K_is, K_il, K_it, K_sb, K_si, K_ss, K_sl, K_st, K_lb, K_li, K_ls, K_ll, K_lt, K_tb, K_ti, K_ts, K_tl, K_tt, K_db, K_di, K_ds, K_dl, K_dt, t_n, t_d, t_s, r_outO1, r_outO2, r_Ask1, r_Ask2, v_TR, v_add, v_sub, v_neg, v_lt, v_le, v_gt, v_ge, v_eq, v_ne, v_max2, v_min2, v_mod, v_div, v_pow9, v_pow18, v_mulL, v_mulR, v_divmod, v_lenL, v_lenT, v_sum, v_eqL, v_listOf, v_inT2, v_sorted, sortB_f, v_sortL, v_sortT, v_sortDL, v_sortDT, v_sortDP, v_keep, v_tupL, v_tupT, v_sumL, v_sumT, v_app, v_neL, v_pow39, v_pow40, ob_nil, ob_zero, ob_1, ob_2, ob_3, ob_4, ob_5, ob_6, ob_7, ob_8, ll_n, ll_b, ll_i, ll_s, bs_n, bs_v, bs_l, bs_s, llA_ints, List.all_cons, List.all_nil, Bool.and_true, Bool.true_and, Bool.false_and, Bool.and_false, Bool.and_self, v_isN0, v_isNi, v_notN0, v_notNi, v_ixL, v_ixT, v_cutL, v_cutT, k_ii, k_ib, k_bi, k_bb, k_ll, k_lt, k_tl, k_tt, t_i, t_b, t_l, t_t, isR, if_true, true_and, and_true, and_self, if_false, if_pos, Bool.not_true, Bool.not_false, List.length_cons, List.length_nil, List.replicate, List.cons_append, List.nil_append, List.head?_cons, List.tail_cons, List.any_nil, List.any_cons, Bool.false_eq_true, Bool.or_false, Bool.false_or, beq_self_eq_true, Nat.reduceSub, Nat.reduceAdd, Nat.reduceLeDiff, Nat.reduceBEq, Nat.reduceEqDiff, reduceIte, eq_self, reduceCtorEq, bo_rvV, bo_rvL, bo_nil, bo_cons, bo_non, bo_valS, bo_int, bo_bool, bo_own, bo_src, kp_p1, kp_p2, kp_p3, kp_p4, kp_p5, kp_p6, kp_h, kp_d, kp_l1, kp_l2, kp_l3, kp_l4, kp_l5, kp_l6, kp_cups, kp_scoops, kp_rows, kp_looks, kp_held, kp_done, kp_choose, kp_nums, kp_stand, Int.reduceToNat, Int.reduceBEq, Nat.zero_add, Nat.reduceLT, k_anyL, v_lensetL, List.length_map, hnb, lc, v_allM, ha, eq_self, decide_true]
theorem wr_turn (V W X : D) (s2 : Sl) (f2 : fre (some s2) = true) (n : Int) (q0 : D) (e : d_are_numbers [.val X, .val (.int n)] = .ok (.val (.bool true), [.val X, .val (.int n)])) (hx : pIx V (.int 0) = some q0) (hl0 : pLen [q0] = some (.int n)) :
    (ofO (bName 2 X [.val V, .val W, s2])).bind w_want_rows_1 = .ok (.nx, [.val V, .val W, .val X]) := by
  simp (maxSteps := 1000000) (disch := first | omega | exact Or.inl rfl | exact Or.inr rfl | exact f_non | exact f_val _ | exact f_own _ | (simp only [List.length_map, List.length_replicate, List.length_append, List.length_cons, List.length_nil, firstI_length, List.length_range, rowsD_length, List.length_drop, List.length_take, sortB_len, rangeI_len]; omega)) only [↓rb, ↓r_ofO, ↓r_den, ↓r_oX1, ↓r_oX2, ↓r_bX1, ↓r_bX2, ↓r_lX1, ↓r_lX2, ↓r_C, ↓r_Var, ↓r_Val, ↓r_Move, ↓r_fz, ↓r_ofD, ↓r_Op, ↓r_eOp, ↓r_Un, ↓r_CB, ↓r_eCB, ↓r_Mul, ↓r_Nil, ↓r_Cons, ↓r_Lst, ↓r_Tup, ↓r_Bl, ↓r_And, ↓r_Or, ↓r_NotM, ↓r_Yes, ↓r_If, ↓r_Chain, ↓r_Next, ↓r_Seq, ↓r_Bk, ↓r_Ct, ↓r_Never, ↓r_Ret, ↓r_RetN, ↓r_Expr, ↓r_sIf, ↓r_Set, ↓r_Asg, ↓r_Par, ↓r_bName, ↓r_bNil, ↓r_bCons, ↓r_bTup, ↓r_bTupL, ↓r_free, ↓f_non, ↓f_val, ↓f_own, ↓f_pin, ↓r_toSl, ↓r_fzR, ↓r_dAnd, ↓r_dOr, ↓r_dNot, ↓r_ixO, ↓r_Put, ↓r_Mut, ↓r_arNil, ↓r_arV, ↓r_arR, ↓r_Call, ↓r_CallK, ↓r_CallKD, ↓r_CallT, ↓r_For, ↓r_Lc, ↓r_iSeq, ↓r_iRng1, ↓r_iRng2, ↓r_iEnum, ↓r_iEnumA, ↓r_iEnumB, ↓r_TR1, ↓r_LenO, ↓r_NeO, ↓r_iZip, ↓r_iZipB, ↓r_LenSet, ↓r_step, ↓r_LR1, ↓r_LR2, ↓r_oNone, ↓r_oSome, ↓r_Cut, ↓r_Rev, ↓r_RevA, ↓r_keep, ↓r_Raise, ↓r_Try, ↓r_endX, ↓r_Exn, ↓r_Fld, ↓r_FldM, ↓r_FldAdd, ↓r_bFld, ↓r_Meth, ↓r_MethT, ↓r_Make, ↓r_Par3, ↓r_Par3E, ↓r_AugN, ↓r_AugPut, ↓f_exn, ↓nx_nil, ↓nx_n, ↓nx_v, ↓nx_o, ↓nx_x, ↓r_Isi, ↓r_IsiT, ↓r_Bor, ↓r_BorE, ↓r_noEx, ↓r_wipe0, ↓r_wipe1, ↓r_outs0, ↓r_outs1, ↓r_out1, ↓r_out2, ↓r_mkA0, ↓r_mkA1, ↓r_mkA2, ↓r_wb0, ↓r_wb1, ↓r_wb2, ↓r_Said, ↓r_hide0, ↓r_hide1, ↓r_hideV, ↓r_hideO, ↓r_hideN, ↓r_IsE, ↓r_IsE2, ↓r_iZip3, ↓r_Mt, ↓r_Pre, ↓r_CutO, ↓r_setOwn, ↓r_Copy, ↓r_pick0, ↓r_pick1, ↓r_val0, ↓r_val1, ↓r_Dc, ↓r_Get2, ↓r_IxK, ↓r_IxKO, ↓r_PutK, ↓r_Dic0, ↓r_dstep, ↓r_TryM, ↓r_suX0, ↓r_suX1, ↓r_EnumZip, ↓g0, ↓g1, ↓g2, ↓g3, ↓g4, ↓g5, ↓g6, ↓g7, ↓g8, ↓g9, ↓g10, ↓g11, ↓g12, ↓g13, ↓g14, ↓g15, ↓g16, ↓g17, ↓g18, ↓g19, ↓g20, ↓g21, ↓g22, ↓g23, ↓g24, ↓g25, ↓u0, ↓u1, ↓u2, ↓u3, ↓u4, ↓u5, ↓u6, ↓u7, ↓u8, ↓u9, ↓u10, ↓u11, ↓u12, ↓u13, ↓u14, ↓u15, ↓u16, ↓u17, ↓u18, ↓u19, ↓u20, ↓u21, ↓u22, ↓u23, ↓u24, ↓u25, k_int, v_eqE0, v_neE0, K_nb, K_ni, K_ns, K_nl, K_nt, K_bb, K_bi, K_bs, K_bl, K_bt, K_ib, K_ii, K_is, K_il, K_it, K_sb, K_si, K_ss, K_sl, K_st, K_lb, K_li, K_ls, K_ll, K_lt, K_tb, K_ti, K_ts, K_tl, K_tt, K_db, K_di, K_ds, K_dl, K_dt, t_n, t_d, t_s, r_outO1, r_outO2, r_Ask1, r_Ask2, v_TR, v_add, v_sub, v_neg, v_lt, v_le, v_gt, v_ge, v_eq, v_ne, v_max2, v_min2, v_mod, v_div, v_pow9, v_pow18, v_mulL, v_mulR, v_divmod, v_lenL, v_lenT, v_sum, v_eqL, v_listOf, v_inT2, v_sorted, sortB_f, v_sortL, v_sortT, v_sortDL, v_sortDT, v_sortDP, v_keep, v_tupL, v_tupT, v_sumL, v_sumT, v_app, v_neL, v_pow39, v_pow40, ob_nil, ob_zero, ob_1, ob_2, ob_3, ob_4, ob_5, ob_6, ob_7, ob_8, ll_n, ll_b, ll_i, ll_s, bs_n, bs_v, bs_l, bs_s, llA_ints, List.all_cons, List.all_nil, Bool.and_true, Bool.true_and, Bool.false_and, Bool.and_false, Bool.and_self, v_isN0, v_isNi, v_notN0, v_notNi, v_ixL, v_ixT, v_cutL, v_cutT, k_ii, k_ib, k_bi, k_bb, k_ll, k_lt, k_tl, k_tt, t_i, t_b, t_l, t_t, isR, if_true, true_and, and_true, and_self, if_false, if_pos, Bool.not_true, Bool.not_false, List.length_cons, List.length_nil, List.replicate, List.cons_append, List.nil_append, List.head?_cons, List.tail_cons, List.any_nil, List.any_cons, Bool.false_eq_true, Bool.or_false, Bool.false_or, beq_self_eq_true, Nat.reduceSub, Nat.reduceAdd, Nat.reduceLeDiff, Nat.reduceBEq, Nat.reduceEqDiff, reduceIte, eq_self, reduceCtorEq, bo_rvV, bo_rvL, bo_nil, bo_cons, bo_non, bo_valS, bo_int, bo_bool, bo_own, bo_src, kp_p1, kp_p2, kp_p3, kp_p4, kp_p5, kp_p6, kp_h, kp_d, kp_l1, kp_l2, kp_l3, kp_l4, kp_l5, kp_l6, kp_cups, kp_scoops, kp_rows, kp_looks, kp_held, kp_done, kp_choose, kp_nums, kp_stand, Int.reduceToNat, Int.reduceBEq, Nat.zero_add, Nat.reduceLT, f2, u_w_want_rows_1, e, ↓hx, ↓hl0, Bool.not_true]
theorem wr_out (V W : D) (ds : List D) (k : Int) (s2 : Sl) (hW : W = .list ds ∨ W = .tuple ds) (hl : (ds.length : Int) = k) (hv : pLen [V] = some (.int k)) (e : forD (bName 2) w_want_rows_1 ds [.val V, .val W, .non] = .ok (.nx, [.val V, .val W, s2])) : d_want_rows [.val V, .val W] = .ok (.val .none, [.val V, .val W]) := by
  rw [q_want_rows]
  rcases hW with rfl | rfl
  · simp (maxSteps := 1000000) (disch := first | omega | exact Or.inl rfl | exact Or.inr rfl | exact f_non | exact f_val _ | exact f_own _ | (simp only [List.length_map, List.length_replicate, List.length_append, List.length_cons, List.length_nil, firstI_length, List.length_range, rowsD_length, List.length_drop, List.length_take, sortB_len, rangeI_len]; omega)) only [↓rb, ↓r_ofO, ↓r_den, ↓r_oX1, ↓r_oX2, ↓r_bX1, ↓r_bX2, ↓r_lX1, ↓r_lX2, ↓r_C, ↓r_Var, ↓r_Val, ↓r_Move, ↓r_fz, ↓r_ofD, ↓r_Op, ↓r_eOp, ↓r_Un, ↓r_CB, ↓r_eCB, ↓r_Mul, ↓r_Nil, ↓r_Cons, ↓r_Lst, ↓r_Tup, ↓r_Bl, ↓r_And, ↓r_Or, ↓r_NotM, ↓r_Yes, ↓r_If, ↓r_Chain, ↓r_Next, ↓r_Seq, ↓r_Bk, ↓r_Ct, ↓r_Never, ↓r_Ret, ↓r_RetN, ↓r_Expr, ↓r_sIf, ↓r_Set, ↓r_Asg, ↓r_Par, ↓r_bName, ↓r_bNil, ↓r_bCons, ↓r_bTup, ↓r_bTupL, ↓r_free, ↓f_non, ↓f_val, ↓f_own, ↓f_pin, ↓r_toSl, ↓r_fzR, ↓r_dAnd, ↓r_dOr, ↓r_dNot, ↓r_ixO, ↓r_Put, ↓r_Mut, ↓r_arNil, ↓r_arV, ↓r_arR, ↓r_Call, ↓r_CallK, ↓r_CallKD, ↓r_CallT, ↓r_For, ↓r_Lc, ↓r_iSeq, ↓r_iRng1, ↓r_iRng2, ↓r_iEnum, ↓r_iEnumA, ↓r_iEnumB, ↓r_TR1, ↓r_LenO, ↓r_NeO, ↓r_iZip, ↓r_iZipB, ↓r_LenSet, ↓r_step, ↓r_LR1, ↓r_LR2, ↓r_oNone, ↓r_oSome, ↓r_Cut, ↓r_Rev, ↓r_RevA, ↓r_keep, ↓r_Raise, ↓r_Try, ↓r_endX, ↓r_Exn, ↓r_Fld, ↓r_FldM, ↓r_FldAdd, ↓r_bFld, ↓r_Meth, ↓r_MethT, ↓r_Make, ↓r_Par3, ↓r_Par3E, ↓r_AugN, ↓r_AugPut, ↓f_exn, ↓nx_nil, ↓nx_n, ↓nx_v, ↓nx_o, ↓nx_x, ↓r_Isi, ↓r_IsiT, ↓r_Bor, ↓r_BorE, ↓r_noEx, ↓r_wipe0, ↓r_wipe1, ↓r_outs0, ↓r_outs1, ↓r_out1, ↓r_out2, ↓r_mkA0, ↓r_mkA1, ↓r_mkA2, ↓r_wb0, ↓r_wb1, ↓r_wb2, ↓r_Said, ↓r_hide0, ↓r_hide1, ↓r_hideV, ↓r_hideO, ↓r_hideN, ↓r_IsE, ↓r_IsE2, ↓r_iZip3, ↓r_Mt, ↓r_Pre, ↓r_CutO, ↓r_setOwn, ↓r_Copy, ↓r_pick0, ↓r_pick1, ↓r_val0, ↓r_val1, ↓r_Dc, ↓r_Get2, ↓r_IxK, ↓r_IxKO, ↓r_PutK, ↓r_Dic0, ↓r_dstep, ↓r_TryM, ↓r_suX0, ↓r_suX1, ↓r_EnumZip, ↓g0, ↓g1, ↓g2, ↓g3, ↓g4, ↓g5, ↓g6, ↓g7, ↓g8, ↓g9, ↓g10, ↓g11, ↓g12, ↓g13, ↓g14, ↓g15, ↓g16, ↓g17, ↓g18, ↓g19, ↓g20, ↓g21, ↓g22, ↓g23, ↓g24, ↓g25, ↓u0, ↓u1, ↓u2, ↓u3, ↓u4, ↓u5, ↓u6, ↓u7, ↓u8, ↓u9, ↓u10, ↓u11, ↓u12, ↓u13, ↓u14, ↓u15, ↓u16, ↓u17, ↓u18, ↓u19, ↓u20, ↓u21, ↓u22, ↓u23, ↓u24, ↓u25, k_int, v_eqE0, v_neE0, K_nb, K_ni, K_ns, K_nl, K_nt, K_bb, K_bi, K_bs, K_bl, K_bt, K_ib, K_ii, K_is, K_il, K_it, K_sb, K_si, K_ss, K_sl, K_st, K_lb, K_li, K_ls, K_ll, K_lt, K_tb, K_ti, K_ts, K_tl, K_tt, K_db, K_di, K_ds, K_dl, K_dt, t_n, t_d, t_s, r_outO1, r_outO2, r_Ask1, r_Ask2, v_TR, v_add, v_sub, v_neg, v_lt, v_le, v_gt, v_ge, v_eq, v_ne, v_max2, v_min2, v_mod, v_div, v_pow9, v_pow18, v_mulL, v_mulR, v_divmod, v_lenL, v_lenT, v_sum, v_eqL, v_listOf, v_inT2, v_sorted, sortB_f, v_sortL, v_sortT, v_sortDL, v_sortDT, v_sortDP, v_keep, v_tupL, v_tupT, v_sumL, v_sumT, v_app, v_neL, v_pow39, v_pow40, ob_nil, ob_zero, ob_1, ob_2, ob_3, ob_4, ob_5, ob_6, ob_7, ob_8, ll_n, ll_b, ll_i, ll_s, bs_n, bs_v, bs_l, bs_s, llA_ints, List.all_cons, List.all_nil, Bool.and_true, Bool.true_and, Bool.false_and, Bool.and_false, Bool.and_self, v_isN0, v_isNi, v_notN0, v_notNi, v_ixL, v_ixT, v_cutL, v_cutT, k_ii, k_ib, k_bi, k_bb, k_ll, k_lt, k_tl, k_tt, t_i, t_b, t_l, t_t, isR, if_true, true_and, and_true, and_self, if_false, if_pos, Bool.not_true, Bool.not_false, List.length_cons, List.length_nil, List.replicate, List.cons_append, List.nil_append, List.head?_cons, List.tail_cons, List.any_nil, List.any_cons, Bool.false_eq_true, Bool.or_false, Bool.false_or, beq_self_eq_true, Nat.reduceSub, Nat.reduceAdd, Nat.reduceLeDiff, Nat.reduceBEq, Nat.reduceEqDiff, reduceIte, eq_self, reduceCtorEq, bo_rvV, bo_rvL, bo_nil, bo_cons, bo_non, bo_valS, bo_int, bo_bool, bo_own, bo_src, kp_p1, kp_p2, kp_p3, kp_p4, kp_p5, kp_p6, kp_h, kp_d, kp_l1, kp_l2, kp_l3, kp_l4, kp_l5, kp_l6, kp_cups, kp_scoops, kp_rows, kp_looks, kp_held, kp_done, kp_choose, kp_nums, kp_stand, Int.reduceToNat, Int.reduceBEq, Nat.zero_add, Nat.reduceLT, k_anyL, hl, ↓hv, e, Bool.not_true]
  · simp (maxSteps := 1000000) (disch := first | omega | exact Or.inl rfl | exact Or.inr rfl | exact f_non | exact f_val _ | exact f_own _ | (simp only [List.length_map, List.length_replicate, List.length_append, List.length_cons, List.length_nil, firstI_length, List.length_range, rowsD_length, List.length_drop, List.length_take, sortB_len, rangeI_len]; omega)) only [↓rb, ↓r_ofO, ↓r_den, ↓r_oX1, ↓r_oX2, ↓r_bX1, ↓r_bX2, ↓r_lX1, ↓r_lX2, ↓r_C, ↓r_Var, ↓r_Val, ↓r_Move, ↓r_fz, ↓r_ofD, ↓r_Op, ↓r_eOp, ↓r_Un, ↓r_CB, ↓r_eCB, ↓r_Mul, ↓r_Nil, ↓r_Cons, ↓r_Lst, ↓r_Tup, ↓r_Bl, ↓r_And, ↓r_Or, ↓r_NotM, ↓r_Yes, ↓r_If, ↓r_Chain, ↓r_Next, ↓r_Seq, ↓r_Bk, ↓r_Ct, ↓r_Never, ↓r_Ret, ↓r_RetN, ↓r_Expr, ↓r_sIf, ↓r_Set, ↓r_Asg, ↓r_Par, ↓r_bName, ↓r_bNil, ↓r_bCons, ↓r_bTup, ↓r_bTupL, ↓r_free, ↓f_non, ↓f_val, ↓f_own, ↓f_pin, ↓r_toSl, ↓r_fzR, ↓r_dAnd, ↓r_dOr, ↓r_dNot, ↓r_ixO, ↓r_Put, ↓r_Mut, ↓r_arNil, ↓r_arV, ↓r_arR, ↓r_Call, ↓r_CallK, ↓r_CallKD, ↓r_CallT, ↓r_For, ↓r_Lc, ↓r_iSeq, ↓r_iRng1, ↓r_iRng2, ↓r_iEnum, ↓r_iEnumA, ↓r_iEnumB, ↓r_TR1, ↓r_LenO, ↓r_NeO, ↓r_iZip, ↓r_iZipB, ↓r_LenSet, ↓r_step, ↓r_LR1, ↓r_LR2, ↓r_oNone, ↓r_oSome, ↓r_Cut, ↓r_Rev, ↓r_RevA, ↓r_keep, ↓r_Raise, ↓r_Try, ↓r_endX, ↓r_Exn, ↓r_Fld, ↓r_FldM, ↓r_FldAdd, ↓r_bFld, ↓r_Meth, ↓r_MethT, ↓r_Make, ↓r_Par3, ↓r_Par3E, ↓r_AugN, ↓r_AugPut, ↓f_exn, ↓nx_nil, ↓nx_n, ↓nx_v, ↓nx_o, ↓nx_x, ↓r_Isi, ↓r_IsiT, ↓r_Bor, ↓r_BorE, ↓r_noEx, ↓r_wipe0, ↓r_wipe1, ↓r_outs0, ↓r_outs1, ↓r_out1, ↓r_out2, ↓r_mkA0, ↓r_mkA1, ↓r_mkA2, ↓r_wb0, ↓r_wb1, ↓r_wb2, ↓r_Said, ↓r_hide0, ↓r_hide1, ↓r_hideV, ↓r_hideO, ↓r_hideN, ↓r_IsE, ↓r_IsE2, ↓r_iZip3, ↓r_Mt, ↓r_Pre, ↓r_CutO, ↓r_setOwn, ↓r_Copy, ↓r_pick0, ↓r_pick1, ↓r_val0, ↓r_val1, ↓r_Dc, ↓r_Get2, ↓r_IxK, ↓r_IxKO, ↓r_PutK, ↓r_Dic0, ↓r_dstep, ↓r_TryM, ↓r_suX0, ↓r_suX1, ↓r_EnumZip, ↓g0, ↓g1, ↓g2, ↓g3, ↓g4, ↓g5, ↓g6, ↓g7, ↓g8, ↓g9, ↓g10, ↓g11, ↓g12, ↓g13, ↓g14, ↓g15, ↓g16, ↓g17, ↓g18, ↓g19, ↓g20, ↓g21, ↓g22, ↓g23, ↓g24, ↓g25, ↓u0, ↓u1, ↓u2, ↓u3, ↓u4, ↓u5, ↓u6, ↓u7, ↓u8, ↓u9, ↓u10, ↓u11, ↓u12, ↓u13, ↓u14, ↓u15, ↓u16, ↓u17, ↓u18, ↓u19, ↓u20, ↓u21, ↓u22, ↓u23, ↓u24, ↓u25, k_int, v_eqE0, v_neE0, K_nb, K_ni, K_ns, K_nl, K_nt, K_bb, K_bi, K_bs, K_bl, K_bt, K_ib, K_ii, K_is, K_il, K_it, K_sb, K_si, K_ss, K_sl, K_st, K_lb, K_li, K_ls, K_ll, K_lt, K_tb, K_ti, K_ts, K_tl, K_tt, K_db, K_di, K_ds, K_dl, K_dt, t_n, t_d, t_s, r_outO1, r_outO2, r_Ask1, r_Ask2, v_TR, v_add, v_sub, v_neg, v_lt, v_le, v_gt, v_ge, v_eq, v_ne, v_max2, v_min2, v_mod, v_div, v_pow9, v_pow18, v_mulL, v_mulR, v_divmod, v_lenL, v_lenT, v_sum, v_eqL, v_listOf, v_inT2, v_sorted, sortB_f, v_sortL, v_sortT, v_sortDL, v_sortDT, v_sortDP, v_keep, v_tupL, v_tupT, v_sumL, v_sumT, v_app, v_neL, v_pow39, v_pow40, ob_nil, ob_zero, ob_1, ob_2, ob_3, ob_4, ob_5, ob_6, ob_7, ob_8, ll_n, ll_b, ll_i, ll_s, bs_n, bs_v, bs_l, bs_s, llA_ints, List.all_cons, List.all_nil, Bool.and_true, Bool.true_and, Bool.false_and, Bool.and_false, Bool.and_self, v_isN0, v_isNi, v_notN0, v_notNi, v_ixL, v_ixT, v_cutL, v_cutT, k_ii, k_ib, k_bi, k_bb, k_ll, k_lt, k_tl, k_tt, t_i, t_b, t_l, t_t, isR, if_true, true_and, and_true, and_self, if_false, if_pos, Bool.not_true, Bool.not_false, List.length_cons, List.length_nil, List.replicate, List.cons_append, List.nil_append, List.head?_cons, List.tail_cons, List.any_nil, List.any_cons, Bool.false_eq_true, Bool.or_false, Bool.false_or, beq_self_eq_true, Nat.reduceSub, Nat.reduceAdd, Nat.reduceLeDiff, Nat.reduceBEq, Nat.reduceEqDiff, reduceIte, eq_self, reduceCtorEq, bo_rvV, bo_rvL, bo_nil, bo_cons, bo_non, bo_valS, bo_int, bo_bool, bo_own, bo_src, kp_p1, kp_p2, kp_p3, kp_p4, kp_p5, kp_p6, kp_h, kp_d, kp_l1, kp_l2, kp_l3, kp_l4, kp_l5, kp_l6, kp_cups, kp_scoops, kp_rows, kp_looks, kp_held, kp_done, kp_choose, kp_nums, kp_stand, Int.reduceToNat, Int.reduceBEq, Nat.zero_add, Nat.reduceLT, k_anyT, hl, ↓hv, e, Bool.not_true]
theorem len_of {V : D} {ds : List D} (hV : V = .list ds ∨ V = .tuple ds) : pLen [V] = some (.int (ds.length : Nat)) := by
  rcases hV with rfl | rfl
  · rw [v_lenL]
  · rw [v_lenT]
theorem e_want_rows (V W : D) (n : Int) (q0 : List Int) (P : List (List Int)) (R : List Row) (hV : V = .list ((q0 :: P).map tpD) ∨ V = .tuple ((q0 :: P).map tpD)) (hW : W = .list (R.map rowD) ∨ W = .tuple (R.map rowD)) (O : PsOk n (q0 :: P)) (OR : RsOk n R) (hl : R.length = P.length + 1) (h1 : 2 ≤ n) (h2 : n ≤ 40) : d_want_rows [.val V, .val W] = .ok (.val .none, [.val V, .val W]) := by
  have l0 := O.len q0 (List.mem_cons_self ..)
  obtain ⟨r', e, s1, f1, rfl⟩ := forD_inv (b := bName 2) (body := w_want_rows_1) (fun _ r => ∃ s1 : Sl, fre (some s1) = true ∧ r = [.val V, .val W, s1]) (R.map rowD) [.val V, .val W, .non] ⟨.non, rfl, rfl⟩ (fun i d hd r ⟨s1, f1, hr⟩ => by
    subst hr
    obtain ⟨x, hx, rfl⟩ := List.mem_map.mp (List.mem_of_getElem? hd)
    have := row_short (n := n) (by omega) (OR.mem x hx) (OR.nd x hx)
    exact ⟨_, .inl (wr_turn V W (rowD x) s1 f1 n (tpD q0) (e_numb n x (OR.mem x hx) (OR.nd x hx) (by omega)) (ix0 (ds := P.map tpD) hV) (by unfold tpD; rw [v_lenT, List.length_map, l0])), _, rfl, rfl⟩)
  exact wr_out V W _ ((R.map rowD).length : Nat) s1 hW rfl (by rw [len_of hV, List.length_map, List.length_map, List.length_cons, hl]) e
/-! the beats -/
theorem enum_map {α : Type} (f : α → D) : ∀ (k : Int) (l : List α), enumD k (l.map f) = ((List.range l.length).zip l).map fun p => .tuple [.int (k + (p.1 : Nat)), f p.2]
  | _, [] => rfl
  | k, n :: ns => by
    show PyData.tuple [.int k, f n] :: enumD (k + 1) (ns.map f) = _
    rw [enum_map f (k + 1) ns, List.length_cons, List.range_succ_eq_map, List.zip_cons_cons, List.map_cons, List.zip_map_left, List.map_map]
    congr 1
    · simp
    · apply List.map_congr_left
      intro p _
      simp only [Function.comp, Prod.map, id]
      congr 3
      show k + 1 + ((p.1 : Nat) : Int) = k + ((p.1.succ : Nat) : Int)
      omega
theorem pb_step (S0 S2 : Sl) (X : D) (c h q j : Int) (b : Bool) (e : pIn true (.int c) X = some (.bool b)) (hj : (if b = true then (1 : Int) else 0) = j) (j0 : 0 ≤ j) (j1 : j ≤ 1) : lcStep [3, 4, 5] (bTup 2 (bCons (bName 3) (bCons (bTup 2 (bCons (bName 4) (bCons (bName 5) bNil))) bNil))) tYesM x_poured_behind_1 [S0, .val X, S2, .non, .non, .non] (.tuple [.int c, .tuple [.int h, .int q]]) = .ok (some (.int (q + h * j)), [S0, .val X, S2, .non, .non, .non]) := by
  have hm := v_mulR (i := h) (j := j) (by omega) (by omega)
  simp (maxSteps := 1000000) (disch := first | omega | exact Or.inl rfl | exact Or.inr rfl | exact f_non | exact f_val _ | exact f_own _ | (simp only [List.length_map, List.length_replicate, List.length_append, List.length_cons, List.length_nil, firstI_length, List.length_range, rowsD_length, List.length_drop, List.length_take, sortB_len, rangeI_len]; omega)) only [↓rb, ↓r_ofO, ↓r_den, ↓r_oX1, ↓r_oX2, ↓r_bX1, ↓r_bX2, ↓r_lX1, ↓r_lX2, ↓r_C, ↓r_Var, ↓r_Val, ↓r_Move, ↓r_fz, ↓r_ofD, ↓r_Op, ↓r_eOp, ↓r_Un, ↓r_CB, ↓r_eCB, ↓r_Mul, ↓r_Nil, ↓r_Cons, ↓r_Lst, ↓r_Tup, ↓r_Bl, ↓r_And, ↓r_Or, ↓r_NotM, ↓r_Yes, ↓r_If, ↓r_Chain, ↓r_Next, ↓r_Seq, ↓r_Bk, ↓r_Ct, ↓r_Never, ↓r_Ret, ↓r_RetN, ↓r_Expr, ↓r_sIf, ↓r_Set, ↓r_Asg, ↓r_Par, ↓r_bName, ↓r_bNil, ↓r_bCons, ↓r_bTup, ↓r_bTupL, ↓r_free, ↓f_non, ↓f_val, ↓f_own, ↓f_pin, ↓r_toSl, ↓r_fzR, ↓r_dAnd, ↓r_dOr, ↓r_dNot, ↓r_ixO, ↓r_Put, ↓r_Mut, ↓r_arNil, ↓r_arV, ↓r_arR, ↓r_Call, ↓r_CallK, ↓r_CallKD, ↓r_CallT, ↓r_For, ↓r_Lc, ↓r_iSeq, ↓r_iRng1, ↓r_iRng2, ↓r_iEnum, ↓r_iEnumA, ↓r_iEnumB, ↓r_TR1, ↓r_LenO, ↓r_NeO, ↓r_iZip, ↓r_iZipB, ↓r_LenSet, ↓r_step, ↓r_LR1, ↓r_LR2, ↓r_oNone, ↓r_oSome, ↓r_Cut, ↓r_Rev, ↓r_RevA, ↓r_keep, ↓r_Raise, ↓r_Try, ↓r_endX, ↓r_Exn, ↓r_Fld, ↓r_FldM, ↓r_FldAdd, ↓r_bFld, ↓r_Meth, ↓r_MethT, ↓r_Make, ↓r_Par3, ↓r_Par3E, ↓r_AugN, ↓r_AugPut, ↓f_exn, ↓nx_nil, ↓nx_n, ↓nx_v, ↓nx_o, ↓nx_x, ↓r_Isi, ↓r_IsiT, ↓r_Bor, ↓r_BorE, ↓r_noEx, ↓r_wipe0, ↓r_wipe1, ↓r_outs0, ↓r_outs1, ↓r_out1, ↓r_out2, ↓r_mkA0, ↓r_mkA1, ↓r_mkA2, ↓r_wb0, ↓r_wb1, ↓r_wb2, ↓r_Said, ↓r_hide0, ↓r_hide1, ↓r_hideV, ↓r_hideO, ↓r_hideN, ↓r_IsE, ↓r_IsE2, ↓r_iZip3, ↓r_Mt, ↓r_Pre, ↓r_CutO, ↓r_setOwn, ↓r_Copy, ↓r_pick0, ↓r_pick1, ↓r_val0, ↓r_val1, ↓r_Dc, ↓r_Get2, ↓r_IxK, ↓r_IxKO, ↓r_PutK, ↓r_Dic0, ↓r_dstep, ↓r_TryM, ↓r_suX0, ↓r_suX1, ↓r_EnumZip, ↓g0, ↓g1, ↓g2, ↓g3, ↓g4, ↓g5, ↓g6, ↓g7, ↓g8, ↓g9, ↓g10, ↓g11, ↓g12, ↓g13, ↓g14, ↓g15, ↓g16, ↓g17, ↓g18, ↓g19, ↓g20, ↓g21, ↓g22, ↓g23, ↓g24, ↓g25, ↓u0, ↓u1, ↓u2, ↓u3, ↓u4, ↓u5, ↓u6, ↓u7, ↓u8, ↓u9, ↓u10, ↓u11, ↓u12, ↓u13, ↓u14, ↓u15, ↓u16, ↓u17, ↓u18, ↓u19, ↓u20, ↓u21, ↓u22, ↓u23, ↓u24, ↓u25, k_int, v_eqE0, v_neE0, K_nb, K_ni, K_ns, K_nl, K_nt, K_bb, K_bi, K_bs, K_bl, K_bt, K_ib, K_ii, K_is, K_il, K_it, K_sb, K_si, K_ss, K_sl, K_st, K_lb, K_li, K_ls, K_ll, K_lt, K_tb, K_ti, K_ts, K_tl, K_tt, K_db, K_di, K_ds, K_dl, K_dt, t_n, t_d, t_s, r_outO1, r_outO2, r_Ask1, r_Ask2, v_TR, v_add, v_sub, v_neg, v_lt, v_le, v_gt, v_ge, v_eq, v_ne, v_max2, v_min2, v_mod, v_div, v_pow9, v_pow18, v_mulL, v_mulR, v_divmod, v_lenL, v_lenT, v_sum, v_eqL, v_listOf, v_inT2, v_sorted, sortB_f, v_sortL, v_sortT, v_sortDL, v_sortDT, v_sortDP, v_keep, v_tupL, v_tupT, v_sumL, v_sumT, v_app, v_neL, v_pow39, v_pow40, ob_nil, ob_zero, ob_1, ob_2, ob_3, ob_4, ob_5, ob_6, ob_7, ob_8, ll_n, ll_b, ll_i, ll_s, bs_n, bs_v, bs_l, bs_s, llA_ints, List.all_cons, List.all_nil, Bool.and_true, Bool.true_and, Bool.false_and, Bool.and_false, Bool.and_self, v_isN0, v_isNi, v_notN0, v_notNi, v_ixL, v_ixT, v_cutL, v_cutT, k_ii, k_ib, k_bi, k_bb, k_ll, k_lt, k_tl, k_tt, t_i, t_b, t_l, t_t, isR, if_true, true_and, and_true, and_self, if_false, if_pos, Bool.not_true, Bool.not_false, List.length_cons, List.length_nil, List.replicate, List.cons_append, List.nil_append, List.head?_cons, List.tail_cons, List.any_nil, List.any_cons, Bool.false_eq_true, Bool.or_false, Bool.false_or, beq_self_eq_true, Nat.reduceSub, Nat.reduceAdd, Nat.reduceLeDiff, Nat.reduceBEq, Nat.reduceEqDiff, reduceIte, eq_self, reduceCtorEq, bo_rvV, bo_rvL, bo_nil, bo_cons, bo_non, bo_valS, bo_int, bo_bool, bo_own, bo_src, kp_p1, kp_p2, kp_p3, kp_p4, kp_p5, kp_p6, kp_h, kp_d, kp_l1, kp_l2, kp_l3, kp_l4, kp_l5, kp_l6, kp_cups, kp_scoops, kp_rows, kp_looks, kp_held, kp_done, kp_choose, kp_nums, kp_stand, Int.reduceToNat, Int.reduceBEq, Nat.zero_add, Nat.reduceLT, u_x_poured_behind_1, e, v_int1b, hj, ↓hm]
theorem pb_out (Hd Qd X : D) (Z O : List D) (hz : pZipE Hd Qd = some Z) (lc : lcD [3, 4, 5] (bTup 2 (bCons (bName 3) (bCons (bTup 2 (bCons (bName 4) (bCons (bName 5) bNil))) bNil))) tYesM x_poured_behind_1 Z [] [.val Hd, .val X, .val Qd, .non, .non, .non] = .ok (O, [.val Hd, .val X, .val Qd, .non, .non, .non])) : d_poured_behind [.val Hd, .val X, .val Qd] = .ok (.val (.tuple O), [.val Hd, .val X, .val Qd]) := by
  rw [q_poured_behind]
  simp (maxSteps := 1000000) (disch := first | omega | exact Or.inl rfl | exact Or.inr rfl | exact f_non | exact f_val _ | exact f_own _ | (simp only [List.length_map, List.length_replicate, List.length_append, List.length_cons, List.length_nil, firstI_length, List.length_range, rowsD_length, List.length_drop, List.length_take, sortB_len, rangeI_len]; omega)) only [↓rb, ↓r_ofO, ↓r_den, ↓r_oX1, ↓r_oX2, ↓r_bX1, ↓r_bX2, ↓r_lX1, ↓r_lX2, ↓r_C, ↓r_Var, ↓r_Val, ↓r_Move, ↓r_fz, ↓r_ofD, ↓r_Op, ↓r_eOp, ↓r_Un, ↓r_CB, ↓r_eCB, ↓r_Mul, ↓r_Nil, ↓r_Cons, ↓r_Lst, ↓r_Tup, ↓r_Bl, ↓r_And, ↓r_Or, ↓r_NotM, ↓r_Yes, ↓r_If, ↓r_Chain, ↓r_Next, ↓r_Seq, ↓r_Bk, ↓r_Ct, ↓r_Never, ↓r_Ret, ↓r_RetN, ↓r_Expr, ↓r_sIf, ↓r_Set, ↓r_Asg, ↓r_Par, ↓r_bName, ↓r_bNil, ↓r_bCons, ↓r_bTup, ↓r_bTupL, ↓r_free, ↓f_non, ↓f_val, ↓f_own, ↓f_pin, ↓r_toSl, ↓r_fzR, ↓r_dAnd, ↓r_dOr, ↓r_dNot, ↓r_ixO, ↓r_Put, ↓r_Mut, ↓r_arNil, ↓r_arV, ↓r_arR, ↓r_Call, ↓r_CallK, ↓r_CallKD, ↓r_CallT, ↓r_For, ↓r_Lc, ↓r_iSeq, ↓r_iRng1, ↓r_iRng2, ↓r_iEnum, ↓r_iEnumA, ↓r_iEnumB, ↓r_TR1, ↓r_LenO, ↓r_NeO, ↓r_iZip, ↓r_iZipB, ↓r_LenSet, ↓r_step, ↓r_LR1, ↓r_LR2, ↓r_oNone, ↓r_oSome, ↓r_Cut, ↓r_Rev, ↓r_RevA, ↓r_keep, ↓r_Raise, ↓r_Try, ↓r_endX, ↓r_Exn, ↓r_Fld, ↓r_FldM, ↓r_FldAdd, ↓r_bFld, ↓r_Meth, ↓r_MethT, ↓r_Make, ↓r_Par3, ↓r_Par3E, ↓r_AugN, ↓r_AugPut, ↓f_exn, ↓nx_nil, ↓nx_n, ↓nx_v, ↓nx_o, ↓nx_x, ↓r_Isi, ↓r_IsiT, ↓r_Bor, ↓r_BorE, ↓r_noEx, ↓r_wipe0, ↓r_wipe1, ↓r_outs0, ↓r_outs1, ↓r_out1, ↓r_out2, ↓r_mkA0, ↓r_mkA1, ↓r_mkA2, ↓r_wb0, ↓r_wb1, ↓r_wb2, ↓r_Said, ↓r_hide0, ↓r_hide1, ↓r_hideV, ↓r_hideO, ↓r_hideN, ↓r_IsE, ↓r_IsE2, ↓r_iZip3, ↓r_Mt, ↓r_Pre, ↓r_CutO, ↓r_setOwn, ↓r_Copy, ↓r_pick0, ↓r_pick1, ↓r_val0, ↓r_val1, ↓r_Dc, ↓r_Get2, ↓r_IxK, ↓r_IxKO, ↓r_PutK, ↓r_Dic0, ↓r_dstep, ↓r_TryM, ↓r_suX0, ↓r_suX1, ↓r_EnumZip, ↓g0, ↓g1, ↓g2, ↓g3, ↓g4, ↓g5, ↓g6, ↓g7, ↓g8, ↓g9, ↓g10, ↓g11, ↓g12, ↓g13, ↓g14, ↓g15, ↓g16, ↓g17, ↓g18, ↓g19, ↓g20, ↓g21, ↓g22, ↓g23, ↓g24, ↓g25, ↓u0, ↓u1, ↓u2, ↓u3, ↓u4, ↓u5, ↓u6, ↓u7, ↓u8, ↓u9, ↓u10, ↓u11, ↓u12, ↓u13, ↓u14, ↓u15, ↓u16, ↓u17, ↓u18, ↓u19, ↓u20, ↓u21, ↓u22, ↓u23, ↓u24, ↓u25, k_int, v_eqE0, v_neE0, K_nb, K_ni, K_ns, K_nl, K_nt, K_bb, K_bi, K_bs, K_bl, K_bt, K_ib, K_ii, K_is, K_il, K_it, K_sb, K_si, K_ss, K_sl, K_st, K_lb, K_li, K_ls, K_ll, K_lt, K_tb, K_ti, K_ts, K_tl, K_tt, K_db, K_di, K_ds, K_dl, K_dt, t_n, t_d, t_s, r_outO1, r_outO2, r_Ask1, r_Ask2, v_TR, v_add, v_sub, v_neg, v_lt, v_le, v_gt, v_ge, v_eq, v_ne, v_max2, v_min2, v_mod, v_div, v_pow9, v_pow18, v_mulL, v_mulR, v_divmod, v_lenL, v_lenT, v_sum, v_eqL, v_listOf, v_inT2, v_sorted, sortB_f, v_sortL, v_sortT, v_sortDL, v_sortDT, v_sortDP, v_keep, v_tupL, v_tupT, v_sumL, v_sumT, v_app, v_neL, v_pow39, v_pow40, ob_nil, ob_zero, ob_1, ob_2, ob_3, ob_4, ob_5, ob_6, ob_7, ob_8, ll_n, ll_b, ll_i, ll_s, bs_n, bs_v, bs_l, bs_s, llA_ints, List.all_cons, List.all_nil, Bool.and_true, Bool.true_and, Bool.false_and, Bool.and_false, Bool.and_self, v_isN0, v_isNi, v_notN0, v_notNi, v_ixL, v_ixT, v_cutL, v_cutT, k_ii, k_ib, k_bi, k_bb, k_ll, k_lt, k_tl, k_tt, t_i, t_b, t_l, t_t, isR, if_true, true_and, and_true, and_self, if_false, if_pos, Bool.not_true, Bool.not_false, List.length_cons, List.length_nil, List.replicate, List.cons_append, List.nil_append, List.head?_cons, List.tail_cons, List.any_nil, List.any_cons, Bool.false_eq_true, Bool.or_false, Bool.false_or, beq_self_eq_true, Nat.reduceSub, Nat.reduceAdd, Nat.reduceLeDiff, Nat.reduceBEq, Nat.reduceEqDiff, reduceIte, eq_self, reduceCtorEq, bo_rvV, bo_rvL, bo_nil, bo_cons, bo_non, bo_valS, bo_int, bo_bool, bo_own, bo_src, kp_p1, kp_p2, kp_p3, kp_p4, kp_p5, kp_p6, kp_h, kp_d, kp_l1, kp_l2, kp_l3, kp_l4, kp_l5, kp_l6, kp_cups, kp_scoops, kp_rows, kp_looks, kp_held, kp_done, kp_choose, kp_nums, kp_stand, Int.reduceToNat, Int.reduceBEq, Nat.zero_add, Nat.reduceLT, ↓hz, lc]
theorem e_pb (h q : List Int) (x : Row) (hl : q.length = h.length) (hb : h.length ≤ 1000) : d_poured_behind [.val (.tuple (h.map .int)), .val (rowD x), .val (.tuple (q.map .int))] = .ok (.val (.tuple ((addI (goneI h x.2) q).map .int)), [.val (.tuple (h.map .int)), .val (rowD x), .val (.tuple (q.map .int))]) := by
  have hz : pZipE (.tuple (h.map .int)) (.tuple (q.map .int)) = some (enumD 0 ((h.zip q).map pairD)) := by
    show (if (h.map PyData.int).length = (q.map PyData.int).length then some (enumD 0 (zipD (h.map .int) (q.map .int))) else none) = _
    rw [if_pos (by rw [List.length_map, List.length_map, hl]), zipD_ints]
  refine pb_out _ _ _ _ _ hz ?_
  rw [enum_map]
  refine (lcD_mapI (fun p : Nat × Int × Int => PyData.tuple [.int (0 + (p.1 : Nat)), pairD p.2]) (fun p => .int (p.2.2 + p.2.1 * (if (!decide (((p.1 : Nat) : Int) ∈ x.2)) = true then 1 else 0))) _ (fun z _ => by
    have ei := in_row true (0 + ((z.1 : Nat) : Int)) x
    rw [if_pos rfl, Int.zero_add] at ei
    rw [Int.zero_add]
    generalize hj : (if (!decide (((z.1 : Nat) : Int) ∈ x.2)) = true then (1 : Int) else 0) = j
    exact pb_step _ _ _ _ _ _ j _ ei hj (by rw [← hj]; split <;> omega) (by rw [← hj]; split <;> omega)) (by rw [List.length_zip, List.length_range, List.length_zip]; omega)).trans ?_
  congr 2
  have gl := goneI_len h x.2
  have al : (addI (goneI h x.2) q).length = (goneI h x.2).length := addI_len (by omega)
  apply List.ext_getElem
  · rw [List.length_map, List.length_zip, List.length_range, List.length_zip, List.length_map]
    omega
  · intro i a1 a2
    rw [List.length_map, List.length_zip, List.length_range, List.length_zip] at a1
    rw [List.getElem_map, List.getElem_map, List.getElem_zip, List.getElem_zip, List.getElem_range]
    have e := addI_at (a := goneI h x.2) (b := q) (by omega) i
    rw [gone_at0 _ _ _ (by omega), List.getD_eq_getElem?_getD, List.getElem?_eq_getElem (by omega), List.getD_eq_getElem?_getD, List.getElem?_eq_getElem (by omega), List.getD_eq_getElem?_getD, List.getElem?_eq_getElem (by omega)] at e
    show PyData.int (q[i] + h[i] * _) = .int _
    have e : (addI (goneI h x.2) q)[i] = (if ((i : Nat) : Int) ∈ x.2 then 0 else h[i]) + q[i] := e
    rw [e]
    by_cases z : ((i : Nat) : Int) ∈ x.2
    · rw [decide_eq_true z, if_pos z, if_neg (by simp), Int.mul_zero, Int.add_comm]
    · rw [decide_eq_false z, if_neg z, if_pos (show (!false) = true from rfl), Int.mul_one, Int.add_comm]
theorem wo_run (S0 S1 s4 s5 : Sl) (A X Q A' : D) (f m : Int) (f4 : fre (some s4) = true) (f5 : fre (some s5) = true) (e : d_poured_behind [.val A, .val X, .val Q] = .ok (.val A', [.val A, .val X, .val Q])) (hm : pMaxA [A'] = some (.int m)) :
    (ofO (bTup 2 (bCons (bName 4) (bCons (bName 5) bNil)) (.tuple [X, Q]) [S0, S1, .val A, .val (.int f), s4, s5])).bind w_worst_of_1 = .ok (.nx, [S0, S1, .val A', .val (.int (max f m)), .val X, .val Q]) := by
  simp (maxSteps := 1000000) (disch := first | omega | exact Or.inl rfl | exact Or.inr rfl | exact f_non | exact f_val _ | exact f_own _ | (simp only [List.length_map, List.length_replicate, List.length_append, List.length_cons, List.length_nil, firstI_length, List.length_range, rowsD_length, List.length_drop, List.length_take, sortB_len, rangeI_len]; omega)) only [↓rb, ↓r_ofO, ↓r_den, ↓r_oX1, ↓r_oX2, ↓r_bX1, ↓r_bX2, ↓r_lX1, ↓r_lX2, ↓r_C, ↓r_Var, ↓r_Val, ↓r_Move, ↓r_fz, ↓r_ofD, ↓r_Op, ↓r_eOp, ↓r_Un, ↓r_CB, ↓r_eCB, ↓r_Mul, ↓r_Nil, ↓r_Cons, ↓r_Lst, ↓r_Tup, ↓r_Bl, ↓r_And, ↓r_Or, ↓r_NotM, ↓r_Yes, ↓r_If, ↓r_Chain, ↓r_Next, ↓r_Seq, ↓r_Bk, ↓r_Ct, ↓r_Never, ↓r_Ret, ↓r_RetN, ↓r_Expr, ↓r_sIf, ↓r_Set, ↓r_Asg, ↓r_Par, ↓r_bName, ↓r_bNil, ↓r_bCons, ↓r_bTup, ↓r_bTupL, ↓r_free, ↓f_non, ↓f_val, ↓f_own, ↓f_pin, ↓r_toSl, ↓r_fzR, ↓r_dAnd, ↓r_dOr, ↓r_dNot, ↓r_ixO, ↓r_Put, ↓r_Mut, ↓r_arNil, ↓r_arV, ↓r_arR, ↓r_Call, ↓r_CallK, ↓r_CallKD, ↓r_CallT, ↓r_For, ↓r_Lc, ↓r_iSeq, ↓r_iRng1, ↓r_iRng2, ↓r_iEnum, ↓r_iEnumA, ↓r_iEnumB, ↓r_TR1, ↓r_LenO, ↓r_NeO, ↓r_iZip, ↓r_iZipB, ↓r_LenSet, ↓r_step, ↓r_LR1, ↓r_LR2, ↓r_oNone, ↓r_oSome, ↓r_Cut, ↓r_Rev, ↓r_RevA, ↓r_keep, ↓r_Raise, ↓r_Try, ↓r_endX, ↓r_Exn, ↓r_Fld, ↓r_FldM, ↓r_FldAdd, ↓r_bFld, ↓r_Meth, ↓r_MethT, ↓r_Make, ↓r_Par3, ↓r_Par3E, ↓r_AugN, ↓r_AugPut, ↓f_exn, ↓nx_nil, ↓nx_n, ↓nx_v, ↓nx_o, ↓nx_x, ↓r_Isi, ↓r_IsiT, ↓r_Bor, ↓r_BorE, ↓r_noEx, ↓r_wipe0, ↓r_wipe1, ↓r_outs0, ↓r_outs1, ↓r_out1, ↓r_out2, ↓r_mkA0, ↓r_mkA1, ↓r_mkA2, ↓r_wb0, ↓r_wb1, ↓r_wb2, ↓r_Said, ↓r_hide0, ↓r_hide1, ↓r_hideV, ↓r_hideO, ↓r_hideN, ↓r_IsE, ↓r_IsE2, ↓r_iZip3, ↓r_Mt, ↓r_Pre, ↓r_CutO, ↓r_setOwn, ↓r_Copy, ↓r_pick0, ↓r_pick1, ↓r_val0, ↓r_val1, ↓r_Dc, ↓r_Get2, ↓r_IxK, ↓r_IxKO, ↓r_PutK, ↓r_Dic0, ↓r_dstep, ↓r_TryM, ↓r_suX0, ↓r_suX1, ↓r_EnumZip, ↓g0, ↓g1, ↓g2, ↓g3, ↓g4, ↓g5, ↓g6, ↓g7, ↓g8, ↓g9, ↓g10, ↓g11, ↓g12, ↓g13, ↓g14, ↓g15, ↓g16, ↓g17, ↓g18, ↓g19, ↓g20, ↓g21, ↓g22, ↓g23, ↓g24, ↓g25, ↓u0, ↓u1, ↓u2, ↓u3, ↓u4, ↓u5, ↓u6, ↓u7, ↓u8, ↓u9, ↓u10, ↓u11, ↓u12, ↓u13, ↓u14, ↓u15, ↓u16, ↓u17, ↓u18, ↓u19, ↓u20, ↓u21, ↓u22, ↓u23, ↓u24, ↓u25, k_int, v_eqE0, v_neE0, K_nb, K_ni, K_ns, K_nl, K_nt, K_bb, K_bi, K_bs, K_bl, K_bt, K_ib, K_ii, K_is, K_il, K_it, K_sb, K_si, K_ss, K_sl, K_st, K_lb, K_li, K_ls, K_ll, K_lt, K_tb, K_ti, K_ts, K_tl, K_tt, K_db, K_di, K_ds, K_dl, K_dt, t_n, t_d, t_s, r_outO1, r_outO2, r_Ask1, r_Ask2, v_TR, v_add, v_sub, v_neg, v_lt, v_le, v_gt, v_ge, v_eq, v_ne, v_max2, v_min2, v_mod, v_div, v_pow9, v_pow18, v_mulL, v_mulR, v_divmod, v_lenL, v_lenT, v_sum, v_eqL, v_listOf, v_inT2, v_sorted, sortB_f, v_sortL, v_sortT, v_sortDL, v_sortDT, v_sortDP, v_keep, v_tupL, v_tupT, v_sumL, v_sumT, v_app, v_neL, v_pow39, v_pow40, ob_nil, ob_zero, ob_1, ob_2, ob_3, ob_4, ob_5, ob_6, ob_7, ob_8, ll_n, ll_b, ll_i, ll_s, bs_n, bs_v, bs_l, bs_s, llA_ints, List.all_cons, List.all_nil, Bool.and_true, Bool.true_and, Bool.false_and, Bool.and_false, Bool.and_self, v_isN0, v_isNi, v_notN0, v_notNi, v_ixL, v_ixT, v_cutL, v_cutT, k_ii, k_ib, k_bi, k_bb, k_ll, k_lt, k_tl, k_tt, t_i, t_b, t_l, t_t, isR, if_true, true_and, and_true, and_self, if_false, if_pos, Bool.not_true, Bool.not_false, List.length_cons, List.length_nil, List.replicate, List.cons_append, List.nil_append, List.head?_cons, List.tail_cons, List.any_nil, List.any_cons, Bool.false_eq_true, Bool.or_false, Bool.false_or, beq_self_eq_true, Nat.reduceSub, Nat.reduceAdd, Nat.reduceLeDiff, Nat.reduceBEq, Nat.reduceEqDiff, reduceIte, eq_self, reduceCtorEq, bo_rvV, bo_rvL, bo_nil, bo_cons, bo_non, bo_valS, bo_int, bo_bool, bo_own, bo_src, kp_p1, kp_p2, kp_p3, kp_p4, kp_p5, kp_p6, kp_h, kp_d, kp_l1, kp_l2, kp_l3, kp_l4, kp_l5, kp_l6, kp_cups, kp_scoops, kp_rows, kp_looks, kp_held, kp_done, kp_choose, kp_nums, kp_stand, Int.reduceToNat, Int.reduceBEq, Nat.zero_add, Nat.reduceLT, f4, f5, u_w_worst_of_1, e, ↓hm]
def rqD (y : Row × List Int) : D := .tuple [rowD y.1, tpD y.2]
theorem wo_loop (S0 S1 : Sl) (n : Int) (n1 : 1 ≤ n) (n40 : n ≤ 40) : ∀ (l : List (Row × List Int)) (a : List Int) (f : Int) (s4 s5 : Sl), (∀ y ∈ l, (y.2.length : Int) = n) → (a.length : Int) = n → fre (some s4) = true → fre (some s5) = true →
    ∃ (A' : D) (s4' s5' : Sl), forD (bTup 2 (bCons (bName 4) (bCons (bName 5) bNil))) w_worst_of_1 (l.map rqD) [S0, S1, .val (.tuple (a.map .int)), .val (.int f), s4, s5] = .ok (.nx, [S0, S1, .val A', .val (.int (pwI a f l)), s4', s5'])
  | [], a, f, s4, s5, _, _, _, _ => ⟨_, s4, s5, rfl⟩
  | (x, q) :: l, a, f, s4, s5, H, hl, f4, f5 => by
    have lq : (q.length : Int) = n := H (x, q) (List.mem_cons_self ..)
    have gl := goneI_len a x.2
    have al : (addI (goneI a x.2) q).length = (goneI a x.2).length := addI_len (by omega)
    have er := wo_run S0 S1 s4 s5 (.tuple (a.map .int)) (rowD x) (.tuple (q.map .int)) _ f _ f4 f5 (e_pb a q x (by omega) (by omega)) (v_maxAT _ (by omega))
    obtain ⟨A', s4', s5', ih⟩ := wo_loop S0 S1 n n1 n40 l (addI (goneI a x.2) q) (max f (maxI (addI (goneI a x.2) q))) (.val (rowD x)) (.val (.tuple (q.map .int))) (fun y hy => H y (List.mem_cons_of_mem _ hy)) (by omega) rfl rfl
    exact ⟨A', s4', s5', (forD_nx er).trans ih⟩
theorem zip_rq (R : List Row) (P : List (List Int)) : zipD (R.map rowD) (P.map tpD) = (R.zip P).map rqD := by
  unfold zipD
  rw [List.zipWith_map, List.map_zip_eq_zipWith]
  rfl
theorem wo_out (V W A' : D) (q0 Rd : List D) (Pd Z : List D) (m f : Int) (s4 s5 : Sl) (hV : V = .list (.tuple q0 :: Pd) ∨ V = .tuple (.tuple q0 :: Pd)) (hW : W = .list Rd ∨ W = .tuple Rd) (e1 : d_want_pours [.val V] = .ok (.val .none, [.val V])) (e2 : d_want_rows [.val V, .val W] = .ok (.val .none, [.val V, .val W]))
    (hx : pIx V (.int 0) = some (.tuple q0)) (hm : pMaxA [.tuple q0] = some (.int m)) (hz : zipD Rd Pd = Z) (lp : forD (bTup 2 (bCons (bName 4) (bCons (bName 5) bNil))) w_worst_of_1 Z [.val V, .val W, .val (.tuple q0), .val (.int m), .non, .non] = .ok (.nx, [.val V, .val W, .val A', .val (.int f), s4, s5])) :
    d_worst_of [.val V, .val W] = .ok (.val (.int f), [.val V, .val W]) := by
  have hc : ∀ l : List D, cutD (.tuple q0 :: l) (some 1) none = l := fun l => cut_from (α := D) (.tuple q0 :: l) 1
  have z1 : pZip false (.list Rd) (.list Pd) = some Z := by rw [← hz]; rfl
  have z2 : pZip false (.list Rd) (.tuple Pd) = some Z := by rw [← hz]; rfl
  have z3 : pZip false (.tuple Rd) (.list Pd) = some Z := by rw [← hz]; rfl
  have z4 : pZip false (.tuple Rd) (.tuple Pd) = some Z := by rw [← hz]; rfl
  rw [q_worst_of]
  rcases hV with rfl | rfl
  · rcases hW with rfl | rfl
    · simp (maxSteps := 1000000) (disch := first | omega | exact Or.inl rfl | exact Or.inr rfl | exact f_non | exact f_val _ | exact f_own _ | (simp only [List.length_map, List.length_replicate, List.length_append, List.length_cons, List.length_nil, firstI_length, List.length_range, rowsD_length, List.length_drop, List.length_take, sortB_len, rangeI_len]; omega)) only [↓rb, ↓r_ofO, ↓r_den, ↓r_oX1, ↓r_oX2, ↓r_bX1, ↓r_bX2, ↓r_lX1, ↓r_lX2, ↓r_C, ↓r_Var, ↓r_Val, ↓r_Move, ↓r_fz, ↓r_ofD, ↓r_Op, ↓r_eOp, ↓r_Un, ↓r_CB, ↓r_eCB, ↓r_Mul, ↓r_Nil, ↓r_Cons, ↓r_Lst, ↓r_Tup, ↓r_Bl, ↓r_And, ↓r_Or, ↓r_NotM, ↓r_Yes, ↓r_If, ↓r_Chain, ↓r_Next, ↓r_Seq, ↓r_Bk, ↓r_Ct, ↓r_Never, ↓r_Ret, ↓r_RetN, ↓r_Expr, ↓r_sIf, ↓r_Set, ↓r_Asg, ↓r_Par, ↓r_bName, ↓r_bNil, ↓r_bCons, ↓r_bTup, ↓r_bTupL, ↓r_free, ↓f_non, ↓f_val, ↓f_own, ↓f_pin, ↓r_toSl, ↓r_fzR, ↓r_dAnd, ↓r_dOr, ↓r_dNot, ↓r_ixO, ↓r_Put, ↓r_Mut, ↓r_arNil, ↓r_arV, ↓r_arR, ↓r_Call, ↓r_CallK, ↓r_CallKD, ↓r_CallT, ↓r_For, ↓r_Lc, ↓r_iSeq, ↓r_iRng1, ↓r_iRng2, ↓r_iEnum, ↓r_iEnumA, ↓r_iEnumB, ↓r_TR1, ↓r_LenO, ↓r_NeO, ↓r_iZip, ↓r_iZipB, ↓r_LenSet, ↓r_step, ↓r_LR1, ↓r_LR2, ↓r_oNone, ↓r_oSome, ↓r_Cut, ↓r_Rev, ↓r_RevA, ↓r_keep, ↓r_Raise, ↓r_Try, ↓r_endX, ↓r_Exn, ↓r_Fld, ↓r_FldM, ↓r_FldAdd, ↓r_bFld, ↓r_Meth, ↓r_MethT, ↓r_Make, ↓r_Par3, ↓r_Par3E, ↓r_AugN, ↓r_AugPut, ↓f_exn, ↓nx_nil, ↓nx_n, ↓nx_v, ↓nx_o, ↓nx_x, ↓r_Isi, ↓r_IsiT, ↓r_Bor, ↓r_BorE, ↓r_noEx, ↓r_wipe0, ↓r_wipe1, ↓r_outs0, ↓r_outs1, ↓r_out1, ↓r_out2, ↓r_mkA0, ↓r_mkA1, ↓r_mkA2, ↓r_wb0, ↓r_wb1, ↓r_wb2, ↓r_Said, ↓r_hide0, ↓r_hide1, ↓r_hideV, ↓r_hideO, ↓r_hideN, ↓r_IsE, ↓r_IsE2, ↓r_iZip3, ↓r_Mt, ↓r_Pre, ↓r_CutO, ↓r_setOwn, ↓r_Copy, ↓r_pick0, ↓r_pick1, ↓r_val0, ↓r_val1, ↓r_Dc, ↓r_Get2, ↓r_IxK, ↓r_IxKO, ↓r_PutK, ↓r_Dic0, ↓r_dstep, ↓r_TryM, ↓r_suX0, ↓r_suX1, ↓r_EnumZip, ↓g0, ↓g1, ↓g2, ↓g3, ↓g4, ↓g5, ↓g6, ↓g7, ↓g8, ↓g9, ↓g10, ↓g11, ↓g12, ↓g13, ↓g14, ↓g15, ↓g16, ↓g17, ↓g18, ↓g19, ↓g20, ↓g21, ↓g22, ↓g23, ↓g24, ↓g25, ↓u0, ↓u1, ↓u2, ↓u3, ↓u4, ↓u5, ↓u6, ↓u7, ↓u8, ↓u9, ↓u10, ↓u11, ↓u12, ↓u13, ↓u14, ↓u15, ↓u16, ↓u17, ↓u18, ↓u19, ↓u20, ↓u21, ↓u22, ↓u23, ↓u24, ↓u25, k_int, v_eqE0, v_neE0, K_nb, K_ni, K_ns, K_nl, K_nt, K_bb, K_bi, K_bs, K_bl, K_bt, K_ib, K_ii, K_is, K_il, K_it, K_sb, K_si, K_ss, K_sl, K_st, K_lb, K_li, K_ls, K_ll, K_lt, K_tb, K_ti, K_ts, K_tl, K_tt, K_db, K_di, K_ds, K_dl, K_dt, t_n, t_d, t_s, r_outO1, r_outO2, r_Ask1, r_Ask2, v_TR, v_add, v_sub, v_neg, v_lt, v_le, v_gt, v_ge, v_eq, v_ne, v_max2, v_min2, v_mod, v_div, v_pow9, v_pow18, v_mulL, v_mulR, v_divmod, v_lenL, v_lenT, v_sum, v_eqL, v_listOf, v_inT2, v_sorted, sortB_f, v_sortL, v_sortT, v_sortDL, v_sortDT, v_sortDP, v_keep, v_tupL, v_tupT, v_sumL, v_sumT, v_app, v_neL, v_pow39, v_pow40, ob_nil, ob_zero, ob_1, ob_2, ob_3, ob_4, ob_5, ob_6, ob_7, ob_8, ll_n, ll_b, ll_i, ll_s, bs_n, bs_v, bs_l, bs_s, llA_ints, List.all_cons, List.all_nil, Bool.and_true, Bool.true_and, Bool.false_and, Bool.and_false, Bool.and_self, v_isN0, v_isNi, v_notN0, v_notNi, v_ixL, v_ixT, v_cutL, v_cutT, k_ii, k_ib, k_bi, k_bb, k_ll, k_lt, k_tl, k_tt, t_i, t_b, t_l, t_t, isR, if_true, true_and, and_true, and_self, if_false, if_pos, Bool.not_true, Bool.not_false, List.length_cons, List.length_nil, List.replicate, List.cons_append, List.nil_append, List.head?_cons, List.tail_cons, List.any_nil, List.any_cons, Bool.false_eq_true, Bool.or_false, Bool.false_or, beq_self_eq_true, Nat.reduceSub, Nat.reduceAdd, Nat.reduceLeDiff, Nat.reduceBEq, Nat.reduceEqDiff, reduceIte, eq_self, reduceCtorEq, bo_rvV, bo_rvL, bo_nil, bo_cons, bo_non, bo_valS, bo_int, bo_bool, bo_own, bo_src, kp_p1, kp_p2, kp_p3, kp_p4, kp_p5, kp_p6, kp_h, kp_d, kp_l1, kp_l2, kp_l3, kp_l4, kp_l5, kp_l6, kp_cups, kp_scoops, kp_rows, kp_looks, kp_held, kp_done, kp_choose, kp_nums, kp_stand, Int.reduceToNat, Int.reduceBEq, Nat.zero_add, Nat.reduceLT, e1, e2, ↓hx, ↓hm, hc, ↓z1, lp]
    · simp (maxSteps := 1000000) (disch := first | omega | exact Or.inl rfl | exact Or.inr rfl | exact f_non | exact f_val _ | exact f_own _ | (simp only [List.length_map, List.length_replicate, List.length_append, List.length_cons, List.length_nil, firstI_length, List.length_range, rowsD_length, List.length_drop, List.length_take, sortB_len, rangeI_len]; omega)) only [↓rb, ↓r_ofO, ↓r_den, ↓r_oX1, ↓r_oX2, ↓r_bX1, ↓r_bX2, ↓r_lX1, ↓r_lX2, ↓r_C, ↓r_Var, ↓r_Val, ↓r_Move, ↓r_fz, ↓r_ofD, ↓r_Op, ↓r_eOp, ↓r_Un, ↓r_CB, ↓r_eCB, ↓r_Mul, ↓r_Nil, ↓r_Cons, ↓r_Lst, ↓r_Tup, ↓r_Bl, ↓r_And, ↓r_Or, ↓r_NotM, ↓r_Yes, ↓r_If, ↓r_Chain, ↓r_Next, ↓r_Seq, ↓r_Bk, ↓r_Ct, ↓r_Never, ↓r_Ret, ↓r_RetN, ↓r_Expr, ↓r_sIf, ↓r_Set, ↓r_Asg, ↓r_Par, ↓r_bName, ↓r_bNil, ↓r_bCons, ↓r_bTup, ↓r_bTupL, ↓r_free, ↓f_non, ↓f_val, ↓f_own, ↓f_pin, ↓r_toSl, ↓r_fzR, ↓r_dAnd, ↓r_dOr, ↓r_dNot, ↓r_ixO, ↓r_Put, ↓r_Mut, ↓r_arNil, ↓r_arV, ↓r_arR, ↓r_Call, ↓r_CallK, ↓r_CallKD, ↓r_CallT, ↓r_For, ↓r_Lc, ↓r_iSeq, ↓r_iRng1, ↓r_iRng2, ↓r_iEnum, ↓r_iEnumA, ↓r_iEnumB, ↓r_TR1, ↓r_LenO, ↓r_NeO, ↓r_iZip, ↓r_iZipB, ↓r_LenSet, ↓r_step, ↓r_LR1, ↓r_LR2, ↓r_oNone, ↓r_oSome, ↓r_Cut, ↓r_Rev, ↓r_RevA, ↓r_keep, ↓r_Raise, ↓r_Try, ↓r_endX, ↓r_Exn, ↓r_Fld, ↓r_FldM, ↓r_FldAdd, ↓r_bFld, ↓r_Meth, ↓r_MethT, ↓r_Make, ↓r_Par3, ↓r_Par3E, ↓r_AugN, ↓r_AugPut, ↓f_exn, ↓nx_nil, ↓nx_n, ↓nx_v, ↓nx_o, ↓nx_x, ↓r_Isi, ↓r_IsiT, ↓r_Bor, ↓r_BorE, ↓r_noEx, ↓r_wipe0, ↓r_wipe1, ↓r_outs0, ↓r_outs1, ↓r_out1, ↓r_out2, ↓r_mkA0, ↓r_mkA1, ↓r_mkA2, ↓r_wb0, ↓r_wb1, ↓r_wb2, ↓r_Said, ↓r_hide0, ↓r_hide1, ↓r_hideV, ↓r_hideO, ↓r_hideN, ↓r_IsE, ↓r_IsE2, ↓r_iZip3, ↓r_Mt, ↓r_Pre, ↓r_CutO, ↓r_setOwn, ↓r_Copy, ↓r_pick0, ↓r_pick1, ↓r_val0, ↓r_val1, ↓r_Dc, ↓r_Get2, ↓r_IxK, ↓r_IxKO, ↓r_PutK, ↓r_Dic0, ↓r_dstep, ↓r_TryM, ↓r_suX0, ↓r_suX1, ↓r_EnumZip, ↓g0, ↓g1, ↓g2, ↓g3, ↓g4, ↓g5, ↓g6, ↓g7, ↓g8, ↓g9, ↓g10, ↓g11, ↓g12, ↓g13, ↓g14, ↓g15, ↓g16, ↓g17, ↓g18, ↓g19, ↓g20, ↓g21, ↓g22, ↓g23, ↓g24, ↓g25, ↓u0, ↓u1, ↓u2, ↓u3, ↓u4, ↓u5, ↓u6, ↓u7, ↓u8, ↓u9, ↓u10, ↓u11, ↓u12, ↓u13, ↓u14, ↓u15, ↓u16, ↓u17, ↓u18, ↓u19, ↓u20, ↓u21, ↓u22, ↓u23, ↓u24, ↓u25, k_int, v_eqE0, v_neE0, K_nb, K_ni, K_ns, K_nl, K_nt, K_bb, K_bi, K_bs, K_bl, K_bt, K_ib, K_ii, K_is, K_il, K_it, K_sb, K_si, K_ss, K_sl, K_st, K_lb, K_li, K_ls, K_ll, K_lt, K_tb, K_ti, K_ts, K_tl, K_tt, K_db, K_di, K_ds, K_dl, K_dt, t_n, t_d, t_s, r_outO1, r_outO2, r_Ask1, r_Ask2, v_TR, v_add, v_sub, v_neg, v_lt, v_le, v_gt, v_ge, v_eq, v_ne, v_max2, v_min2, v_mod, v_div, v_pow9, v_pow18, v_mulL, v_mulR, v_divmod, v_lenL, v_lenT, v_sum, v_eqL, v_listOf, v_inT2, v_sorted, sortB_f, v_sortL, v_sortT, v_sortDL, v_sortDT, v_sortDP, v_keep, v_tupL, v_tupT, v_sumL, v_sumT, v_app, v_neL, v_pow39, v_pow40, ob_nil, ob_zero, ob_1, ob_2, ob_3, ob_4, ob_5, ob_6, ob_7, ob_8, ll_n, ll_b, ll_i, ll_s, bs_n, bs_v, bs_l, bs_s, llA_ints, List.all_cons, List.all_nil, Bool.and_true, Bool.true_and, Bool.false_and, Bool.and_false, Bool.and_self, v_isN0, v_isNi, v_notN0, v_notNi, v_ixL, v_ixT, v_cutL, v_cutT, k_ii, k_ib, k_bi, k_bb, k_ll, k_lt, k_tl, k_tt, t_i, t_b, t_l, t_t, isR, if_true, true_and, and_true, and_self, if_false, if_pos, Bool.not_true, Bool.not_false, List.length_cons, List.length_nil, List.replicate, List.cons_append, List.nil_append, List.head?_cons, List.tail_cons, List.any_nil, List.any_cons, Bool.false_eq_true, Bool.or_false, Bool.false_or, beq_self_eq_true, Nat.reduceSub, Nat.reduceAdd, Nat.reduceLeDiff, Nat.reduceBEq, Nat.reduceEqDiff, reduceIte, eq_self, reduceCtorEq, bo_rvV, bo_rvL, bo_nil, bo_cons, bo_non, bo_valS, bo_int, bo_bool, bo_own, bo_src, kp_p1, kp_p2, kp_p3, kp_p4, kp_p5, kp_p6, kp_h, kp_d, kp_l1, kp_l2, kp_l3, kp_l4, kp_l5, kp_l6, kp_cups, kp_scoops, kp_rows, kp_looks, kp_held, kp_done, kp_choose, kp_nums, kp_stand, Int.reduceToNat, Int.reduceBEq, Nat.zero_add, Nat.reduceLT, e1, e2, ↓hx, ↓hm, hc, ↓z3, lp]
  · rcases hW with rfl | rfl
    · simp (maxSteps := 1000000) (disch := first | omega | exact Or.inl rfl | exact Or.inr rfl | exact f_non | exact f_val _ | exact f_own _ | (simp only [List.length_map, List.length_replicate, List.length_append, List.length_cons, List.length_nil, firstI_length, List.length_range, rowsD_length, List.length_drop, List.length_take, sortB_len, rangeI_len]; omega)) only [↓rb, ↓r_ofO, ↓r_den, ↓r_oX1, ↓r_oX2, ↓r_bX1, ↓r_bX2, ↓r_lX1, ↓r_lX2, ↓r_C, ↓r_Var, ↓r_Val, ↓r_Move, ↓r_fz, ↓r_ofD, ↓r_Op, ↓r_eOp, ↓r_Un, ↓r_CB, ↓r_eCB, ↓r_Mul, ↓r_Nil, ↓r_Cons, ↓r_Lst, ↓r_Tup, ↓r_Bl, ↓r_And, ↓r_Or, ↓r_NotM, ↓r_Yes, ↓r_If, ↓r_Chain, ↓r_Next, ↓r_Seq, ↓r_Bk, ↓r_Ct, ↓r_Never, ↓r_Ret, ↓r_RetN, ↓r_Expr, ↓r_sIf, ↓r_Set, ↓r_Asg, ↓r_Par, ↓r_bName, ↓r_bNil, ↓r_bCons, ↓r_bTup, ↓r_bTupL, ↓r_free, ↓f_non, ↓f_val, ↓f_own, ↓f_pin, ↓r_toSl, ↓r_fzR, ↓r_dAnd, ↓r_dOr, ↓r_dNot, ↓r_ixO, ↓r_Put, ↓r_Mut, ↓r_arNil, ↓r_arV, ↓r_arR, ↓r_Call, ↓r_CallK, ↓r_CallKD, ↓r_CallT, ↓r_For, ↓r_Lc, ↓r_iSeq, ↓r_iRng1, ↓r_iRng2, ↓r_iEnum, ↓r_iEnumA, ↓r_iEnumB, ↓r_TR1, ↓r_LenO, ↓r_NeO, ↓r_iZip, ↓r_iZipB, ↓r_LenSet, ↓r_step, ↓r_LR1, ↓r_LR2, ↓r_oNone, ↓r_oSome, ↓r_Cut, ↓r_Rev, ↓r_RevA, ↓r_keep, ↓r_Raise, ↓r_Try, ↓r_endX, ↓r_Exn, ↓r_Fld, ↓r_FldM, ↓r_FldAdd, ↓r_bFld, ↓r_Meth, ↓r_MethT, ↓r_Make, ↓r_Par3, ↓r_Par3E, ↓r_AugN, ↓r_AugPut, ↓f_exn, ↓nx_nil, ↓nx_n, ↓nx_v, ↓nx_o, ↓nx_x, ↓r_Isi, ↓r_IsiT, ↓r_Bor, ↓r_BorE, ↓r_noEx, ↓r_wipe0, ↓r_wipe1, ↓r_outs0, ↓r_outs1, ↓r_out1, ↓r_out2, ↓r_mkA0, ↓r_mkA1, ↓r_mkA2, ↓r_wb0, ↓r_wb1, ↓r_wb2, ↓r_Said, ↓r_hide0, ↓r_hide1, ↓r_hideV, ↓r_hideO, ↓r_hideN, ↓r_IsE, ↓r_IsE2, ↓r_iZip3, ↓r_Mt, ↓r_Pre, ↓r_CutO, ↓r_setOwn, ↓r_Copy, ↓r_pick0, ↓r_pick1, ↓r_val0, ↓r_val1, ↓r_Dc, ↓r_Get2, ↓r_IxK, ↓r_IxKO, ↓r_PutK, ↓r_Dic0, ↓r_dstep, ↓r_TryM, ↓r_suX0, ↓r_suX1, ↓r_EnumZip, ↓g0, ↓g1, ↓g2, ↓g3, ↓g4, ↓g5, ↓g6, ↓g7, ↓g8, ↓g9, ↓g10, ↓g11, ↓g12, ↓g13, ↓g14, ↓g15, ↓g16, ↓g17, ↓g18, ↓g19, ↓g20, ↓g21, ↓g22, ↓g23, ↓g24, ↓g25, ↓u0, ↓u1, ↓u2, ↓u3, ↓u4, ↓u5, ↓u6, ↓u7, ↓u8, ↓u9, ↓u10, ↓u11, ↓u12, ↓u13, ↓u14, ↓u15, ↓u16, ↓u17, ↓u18, ↓u19, ↓u20, ↓u21, ↓u22, ↓u23, ↓u24, ↓u25, k_int, v_eqE0, v_neE0, K_nb, K_ni, K_ns, K_nl, K_nt, K_bb, K_bi, K_bs, K_bl, K_bt, K_ib, K_ii, K_is, K_il, K_it, K_sb, K_si, K_ss, K_sl, K_st, K_lb, K_li, K_ls, K_ll, K_lt, K_tb, K_ti, K_ts, K_tl, K_tt, K_db, K_di, K_ds, K_dl, K_dt, t_n, t_d, t_s, r_outO1, r_outO2, r_Ask1, r_Ask2, v_TR, v_add, v_sub, v_neg, v_lt, v_le, v_gt, v_ge, v_eq, v_ne, v_max2, v_min2, v_mod, v_div, v_pow9, v_pow18, v_mulL, v_mulR, v_divmod, v_lenL, v_lenT, v_sum, v_eqL, v_listOf, v_inT2, v_sorted, sortB_f, v_sortL, v_sortT, v_sortDL, v_sortDT, v_sortDP, v_keep, v_tupL, v_tupT, v_sumL, v_sumT, v_app, v_neL, v_pow39, v_pow40, ob_nil, ob_zero, ob_1, ob_2, ob_3, ob_4, ob_5, ob_6, ob_7, ob_8, ll_n, ll_b, ll_i, ll_s, bs_n, bs_v, bs_l, bs_s, llA_ints, List.all_cons, List.all_nil, Bool.and_true, Bool.true_and, Bool.false_and, Bool.and_false, Bool.and_self, v_isN0, v_isNi, v_notN0, v_notNi, v_ixL, v_ixT, v_cutL, v_cutT, k_ii, k_ib, k_bi, k_bb, k_ll, k_lt, k_tl, k_tt, t_i, t_b, t_l, t_t, isR, if_true, true_and, and_true, and_self, if_false, if_pos, Bool.not_true, Bool.not_false, List.length_cons, List.length_nil, List.replicate, List.cons_append, List.nil_append, List.head?_cons, List.tail_cons, List.any_nil, List.any_cons, Bool.false_eq_true, Bool.or_false, Bool.false_or, beq_self_eq_true, Nat.reduceSub, Nat.reduceAdd, Nat.reduceLeDiff, Nat.reduceBEq, Nat.reduceEqDiff, reduceIte, eq_self, reduceCtorEq, bo_rvV, bo_rvL, bo_nil, bo_cons, bo_non, bo_valS, bo_int, bo_bool, bo_own, bo_src, kp_p1, kp_p2, kp_p3, kp_p4, kp_p5, kp_p6, kp_h, kp_d, kp_l1, kp_l2, kp_l3, kp_l4, kp_l5, kp_l6, kp_cups, kp_scoops, kp_rows, kp_looks, kp_held, kp_done, kp_choose, kp_nums, kp_stand, Int.reduceToNat, Int.reduceBEq, Nat.zero_add, Nat.reduceLT, e1, e2, ↓hx, ↓hm, hc, ↓z2, lp]
    · simp (maxSteps := 1000000) (disch := first | omega | exact Or.inl rfl | exact Or.inr rfl | exact f_non | exact f_val _ | exact f_own _ | (simp only [List.length_map, List.length_replicate, List.length_append, List.length_cons, List.length_nil, firstI_length, List.length_range, rowsD_length, List.length_drop, List.length_take, sortB_len, rangeI_len]; omega)) only [↓rb, ↓r_ofO, ↓r_den, ↓r_oX1, ↓r_oX2, ↓r_bX1, ↓r_bX2, ↓r_lX1, ↓r_lX2, ↓r_C, ↓r_Var, ↓r_Val, ↓r_Move, ↓r_fz, ↓r_ofD, ↓r_Op, ↓r_eOp, ↓r_Un, ↓r_CB, ↓r_eCB, ↓r_Mul, ↓r_Nil, ↓r_Cons, ↓r_Lst, ↓r_Tup, ↓r_Bl, ↓r_And, ↓r_Or, ↓r_NotM, ↓r_Yes, ↓r_If, ↓r_Chain, ↓r_Next, ↓r_Seq, ↓r_Bk, ↓r_Ct, ↓r_Never, ↓r_Ret, ↓r_RetN, ↓r_Expr, ↓r_sIf, ↓r_Set, ↓r_Asg, ↓r_Par, ↓r_bName, ↓r_bNil, ↓r_bCons, ↓r_bTup, ↓r_bTupL, ↓r_free, ↓f_non, ↓f_val, ↓f_own, ↓f_pin, ↓r_toSl, ↓r_fzR, ↓r_dAnd, ↓r_dOr, ↓r_dNot, ↓r_ixO, ↓r_Put, ↓r_Mut, ↓r_arNil, ↓r_arV, ↓r_arR, ↓r_Call, ↓r_CallK, ↓r_CallKD, ↓r_CallT, ↓r_For, ↓r_Lc, ↓r_iSeq, ↓r_iRng1, ↓r_iRng2, ↓r_iEnum, ↓r_iEnumA, ↓r_iEnumB, ↓r_TR1, ↓r_LenO, ↓r_NeO, ↓r_iZip, ↓r_iZipB, ↓r_LenSet, ↓r_step, ↓r_LR1, ↓r_LR2, ↓r_oNone, ↓r_oSome, ↓r_Cut, ↓r_Rev, ↓r_RevA, ↓r_keep, ↓r_Raise, ↓r_Try, ↓r_endX, ↓r_Exn, ↓r_Fld, ↓r_FldM, ↓r_FldAdd, ↓r_bFld, ↓r_Meth, ↓r_MethT, ↓r_Make, ↓r_Par3, ↓r_Par3E, ↓r_AugN, ↓r_AugPut, ↓f_exn, ↓nx_nil, ↓nx_n, ↓nx_v, ↓nx_o, ↓nx_x, ↓r_Isi, ↓r_IsiT, ↓r_Bor, ↓r_BorE, ↓r_noEx, ↓r_wipe0, ↓r_wipe1, ↓r_outs0, ↓r_outs1, ↓r_out1, ↓r_out2, ↓r_mkA0, ↓r_mkA1, ↓r_mkA2, ↓r_wb0, ↓r_wb1, ↓r_wb2, ↓r_Said, ↓r_hide0, ↓r_hide1, ↓r_hideV, ↓r_hideO, ↓r_hideN, ↓r_IsE, ↓r_IsE2, ↓r_iZip3, ↓r_Mt, ↓r_Pre, ↓r_CutO, ↓r_setOwn, ↓r_Copy, ↓r_pick0, ↓r_pick1, ↓r_val0, ↓r_val1, ↓r_Dc, ↓r_Get2, ↓r_IxK, ↓r_IxKO, ↓r_PutK, ↓r_Dic0, ↓r_dstep, ↓r_TryM, ↓r_suX0, ↓r_suX1, ↓r_EnumZip, ↓g0, ↓g1, ↓g2, ↓g3, ↓g4, ↓g5, ↓g6, ↓g7, ↓g8, ↓g9, ↓g10, ↓g11, ↓g12, ↓g13, ↓g14, ↓g15, ↓g16, ↓g17, ↓g18, ↓g19, ↓g20, ↓g21, ↓g22, ↓g23, ↓g24, ↓g25, ↓u0, ↓u1, ↓u2, ↓u3, ↓u4, ↓u5, ↓u6, ↓u7, ↓u8, ↓u9, ↓u10, ↓u11, ↓u12, ↓u13, ↓u14, ↓u15, ↓u16, ↓u17, ↓u18, ↓u19, ↓u20, ↓u21, ↓u22, ↓u23, ↓u24, ↓u25, k_int, v_eqE0, v_neE0, K_nb, K_ni, K_ns, K_nl, K_nt, K_bb, K_bi, K_bs, K_bl, K_bt, K_ib, K_ii, K_is, K_il, K_it, K_sb, K_si, K_ss, K_sl, K_st, K_lb, K_li, K_ls, K_ll, K_lt, K_tb, K_ti, K_ts, K_tl, K_tt, K_db, K_di, K_ds, K_dl, K_dt, t_n, t_d, t_s, r_outO1, r_outO2, r_Ask1, r_Ask2, v_TR, v_add, v_sub, v_neg, v_lt, v_le, v_gt, v_ge, v_eq, v_ne, v_max2, v_min2, v_mod, v_div, v_pow9, v_pow18, v_mulL, v_mulR, v_divmod, v_lenL, v_lenT, v_sum, v_eqL, v_listOf, v_inT2, v_sorted, sortB_f, v_sortL, v_sortT, v_sortDL, v_sortDT, v_sortDP, v_keep, v_tupL, v_tupT, v_sumL, v_sumT, v_app, v_neL, v_pow39, v_pow40, ob_nil, ob_zero, ob_1, ob_2, ob_3, ob_4, ob_5, ob_6, ob_7, ob_8, ll_n, ll_b, ll_i, ll_s, bs_n, bs_v, bs_l, bs_s, llA_ints, List.all_cons, List.all_nil, Bool.and_true, Bool.true_and, Bool.false_and, Bool.and_false, Bool.and_self, v_isN0, v_isNi, v_notN0, v_notNi, v_ixL, v_ixT, v_cutL, v_cutT, k_ii, k_ib, k_bi, k_bb, k_ll, k_lt, k_tl, k_tt, t_i, t_b, t_l, t_t, isR, if_true, true_and, and_true, and_self, if_false, if_pos, Bool.not_true, Bool.not_false, List.length_cons, List.length_nil, List.replicate, List.cons_append, List.nil_append, List.head?_cons, List.tail_cons, List.any_nil, List.any_cons, Bool.false_eq_true, Bool.or_false, Bool.false_or, beq_self_eq_true, Nat.reduceSub, Nat.reduceAdd, Nat.reduceLeDiff, Nat.reduceBEq, Nat.reduceEqDiff, reduceIte, eq_self, reduceCtorEq, bo_rvV, bo_rvL, bo_nil, bo_cons, bo_non, bo_valS, bo_int, bo_bool, bo_own, bo_src, kp_p1, kp_p2, kp_p3, kp_p4, kp_p5, kp_p6, kp_h, kp_d, kp_l1, kp_l2, kp_l3, kp_l4, kp_l5, kp_l6, kp_cups, kp_scoops, kp_rows, kp_looks, kp_held, kp_done, kp_choose, kp_nums, kp_stand, Int.reduceToNat, Int.reduceBEq, Nat.zero_add, Nat.reduceLT, e1, e2, ↓hx, ↓hm, hc, ↓z4, lp]
theorem e_worst_of (V W : D) (n : Int) (q0 : List Int) (P : List (List Int)) (R : List Row) (hV : V = .list ((q0 :: P).map tpD) ∨ V = .tuple ((q0 :: P).map tpD)) (hW : W = .list (R.map rowD) ∨ W = .tuple (R.map rowD)) (O : PsOk n (q0 :: P)) (OR : RsOk n R) (hl : R.length = P.length + 1) (h1 : 2 ≤ n) (h2 : n ≤ 40) :
    d_worst_of [.val V, .val W] = .ok (.val (.int (pwI q0 (maxI q0) (R.zip P))), [.val V, .val W]) := by
  have l0 := O.len q0 (List.mem_cons_self ..)
  obtain ⟨A', s4, s5, lp⟩ := wo_loop (.val V) (.val W) n (by omega) h2 (R.zip P) q0 (maxI q0) .non .non (fun y hy => O.len y.2 (List.mem_cons_of_mem _ (List.of_mem_zip hy).2)) l0 rfl rfl
  exact wo_out V W A' (q0.map .int) (R.map rowD) (P.map tpD) _ _ _ s4 s5 hV hW (e_want_pours V n q0 P hV O h1 h2) (e_want_rows V W n q0 P R hV hW O OR hl h1 h2) (ix0 (ds := P.map tpD) hV) (v_maxAT _ (by omega)) (zip_rq R P) lp
/-! the law's own walk -/
theorem lw_c1 (h q : List Int) (hb : h.length ≤ 1000) (S0 S1 S2 S3 S4 S5 S8 : Sl) : lcD [6, 7] (bTup 2 (bCons (bName 6) (bCons (bName 7) bNil))) tYesM x__law_worst_1 ((h.zip q).map pairD) [] [S0, S1, S2, S3, S4, S5, .non, .non, S8] = .ok ((addI h q).map .int, [S0, S1, S2, S3, S4, S5, .non, .non, S8]) := by
  refine (lcD_mapI pairD (fun p => .int (p.1 + p.2)) _ (fun z _ => by simp (maxSteps := 1000000) (disch := first | omega | exact Or.inl rfl | exact Or.inr rfl | exact f_non | exact f_val _ | exact f_own _ | (simp only [List.length_map, List.length_replicate, List.length_append, List.length_cons, List.length_nil, firstI_length, List.length_range, rowsD_length, List.length_drop, List.length_take, sortB_len, rangeI_len]; omega)) only [↓rb, ↓r_ofO, ↓r_den, ↓r_oX1, ↓r_oX2, ↓r_bX1, ↓r_bX2, ↓r_lX1, ↓r_lX2, ↓r_C, ↓r_Var, ↓r_Val, ↓r_Move, ↓r_fz, ↓r_ofD, ↓r_Op, ↓r_eOp, ↓r_Un, ↓r_CB, ↓r_eCB, ↓r_Mul, ↓r_Nil, ↓r_Cons, ↓r_Lst, ↓r_Tup, ↓r_Bl, ↓r_And, ↓r_Or, ↓r_NotM, ↓r_Yes, ↓r_If, ↓r_Chain, ↓r_Next, ↓r_Seq, ↓r_Bk, ↓r_Ct, ↓r_Never, ↓r_Ret, ↓r_RetN, ↓r_Expr, ↓r_sIf, ↓r_Set, ↓r_Asg, ↓r_Par, ↓r_bName, ↓r_bNil, ↓r_bCons, ↓r_bTup, ↓r_bTupL, ↓r_free, ↓f_non, ↓f_val, ↓f_own, ↓f_pin, ↓r_toSl, ↓r_fzR, ↓r_dAnd, ↓r_dOr, ↓r_dNot, ↓r_ixO, ↓r_Put, ↓r_Mut, ↓r_arNil, ↓r_arV, ↓r_arR, ↓r_Call, ↓r_CallK, ↓r_CallKD, ↓r_CallT, ↓r_For, ↓r_Lc, ↓r_iSeq, ↓r_iRng1, ↓r_iRng2, ↓r_iEnum, ↓r_iEnumA, ↓r_iEnumB, ↓r_TR1, ↓r_LenO, ↓r_NeO, ↓r_iZip, ↓r_iZipB, ↓r_LenSet, ↓r_step, ↓r_LR1, ↓r_LR2, ↓r_oNone, ↓r_oSome, ↓r_Cut, ↓r_Rev, ↓r_RevA, ↓r_keep, ↓r_Raise, ↓r_Try, ↓r_endX, ↓r_Exn, ↓r_Fld, ↓r_FldM, ↓r_FldAdd, ↓r_bFld, ↓r_Meth, ↓r_MethT, ↓r_Make, ↓r_Par3, ↓r_Par3E, ↓r_AugN, ↓r_AugPut, ↓f_exn, ↓nx_nil, ↓nx_n, ↓nx_v, ↓nx_o, ↓nx_x, ↓r_Isi, ↓r_IsiT, ↓r_Bor, ↓r_BorE, ↓r_noEx, ↓r_wipe0, ↓r_wipe1, ↓r_outs0, ↓r_outs1, ↓r_out1, ↓r_out2, ↓r_mkA0, ↓r_mkA1, ↓r_mkA2, ↓r_wb0, ↓r_wb1, ↓r_wb2, ↓r_Said, ↓r_hide0, ↓r_hide1, ↓r_hideV, ↓r_hideO, ↓r_hideN, ↓r_IsE, ↓r_IsE2, ↓r_iZip3, ↓r_Mt, ↓r_Pre, ↓r_CutO, ↓r_setOwn, ↓r_Copy, ↓r_pick0, ↓r_pick1, ↓r_val0, ↓r_val1, ↓r_Dc, ↓r_Get2, ↓r_IxK, ↓r_IxKO, ↓r_PutK, ↓r_Dic0, ↓r_dstep, ↓r_TryM, ↓r_suX0, ↓r_suX1, ↓r_EnumZip, ↓g0, ↓g1, ↓g2, ↓g3, ↓g4, ↓g5, ↓g6, ↓g7, ↓g8, ↓g9, ↓g10, ↓g11, ↓g12, ↓g13, ↓g14, ↓g15, ↓g16, ↓g17, ↓g18, ↓g19, ↓g20, ↓g21, ↓g22, ↓g23, ↓g24, ↓g25, ↓u0, ↓u1, ↓u2, ↓u3, ↓u4, ↓u5, ↓u6, ↓u7, ↓u8, ↓u9, ↓u10, ↓u11, ↓u12, ↓u13, ↓u14, ↓u15, ↓u16, ↓u17, ↓u18, ↓u19, ↓u20, ↓u21, ↓u22, ↓u23, ↓u24, ↓u25, k_int, v_eqE0, v_neE0, K_nb, K_ni, K_ns, K_nl, K_nt, K_bb, K_bi, K_bs, K_bl, K_bt, K_ib, K_ii, K_is, K_il, K_it, K_sb, K_si, K_ss, K_sl, K_st, K_lb, K_li, K_ls, K_ll, K_lt, K_tb, K_ti, K_ts, K_tl, K_tt, K_db, K_di, K_ds, K_dl, K_dt, t_n, t_d, t_s, r_outO1, r_outO2, r_Ask1, r_Ask2, v_TR, v_add, v_sub, v_neg, v_lt, v_le, v_gt, v_ge, v_eq, v_ne, v_max2, v_min2, v_mod, v_div, v_pow9, v_pow18, v_mulL, v_mulR, v_divmod, v_lenL, v_lenT, v_sum, v_eqL, v_listOf, v_inT2, v_sorted, sortB_f, v_sortL, v_sortT, v_sortDL, v_sortDT, v_sortDP, v_keep, v_tupL, v_tupT, v_sumL, v_sumT, v_app, v_neL, v_pow39, v_pow40, ob_nil, ob_zero, ob_1, ob_2, ob_3, ob_4, ob_5, ob_6, ob_7, ob_8, ll_n, ll_b, ll_i, ll_s, bs_n, bs_v, bs_l, bs_s, llA_ints, List.all_cons, List.all_nil, Bool.and_true, Bool.true_and, Bool.false_and, Bool.and_false, Bool.and_self, v_isN0, v_isNi, v_notN0, v_notNi, v_ixL, v_ixT, v_cutL, v_cutT, k_ii, k_ib, k_bi, k_bb, k_ll, k_lt, k_tl, k_tt, t_i, t_b, t_l, t_t, isR, if_true, true_and, and_true, and_self, if_false, if_pos, Bool.not_true, Bool.not_false, List.length_cons, List.length_nil, List.replicate, List.cons_append, List.nil_append, List.head?_cons, List.tail_cons, List.any_nil, List.any_cons, Bool.false_eq_true, Bool.or_false, Bool.false_or, beq_self_eq_true, Nat.reduceSub, Nat.reduceAdd, Nat.reduceLeDiff, Nat.reduceBEq, Nat.reduceEqDiff, reduceIte, eq_self, reduceCtorEq, bo_rvV, bo_rvL, bo_nil, bo_cons, bo_non, bo_valS, bo_int, bo_bool, bo_own, bo_src, kp_p1, kp_p2, kp_p3, kp_p4, kp_p5, kp_p6, kp_h, kp_d, kp_l1, kp_l2, kp_l3, kp_l4, kp_l5, kp_l6, kp_cups, kp_scoops, kp_rows, kp_looks, kp_held, kp_done, kp_choose, kp_nums, kp_stand, Int.reduceToNat, Int.reduceBEq, Nat.zero_add, Nat.reduceLT, pairD, u_x__law_worst_1]) (by rw [List.length_zip]; omega)).trans ?_
  unfold addI
  rw [List.map_map]
  rfl
theorem lw_step (S0 S1 S2 S3 S4 S7 : Sl) (X : D) (c v j : Int) (b : Bool) (e : pIn true (.int c) X = some (.bool b)) (hj : (if b = true then (1 : Int) else 0) = j) (j0 : 0 ≤ j) (j1 : j ≤ 1) : lcStep [8, 6] (bTup 2 (bCons (bName 8) (bCons (bName 6) bNil))) tYesM x__law_worst_2 [S0, S1, S2, S3, S4, .val X, .non, S7, .non] (.tuple [.int c, .int v]) = .ok (some (.int (v * j)), [S0, S1, S2, S3, S4, .val X, .non, S7, .non]) := by
  have hm := v_mulR (i := v) (j := j) (by omega) (by omega)
  simp (maxSteps := 1000000) (disch := first | omega | exact Or.inl rfl | exact Or.inr rfl | exact f_non | exact f_val _ | exact f_own _ | (simp only [List.length_map, List.length_replicate, List.length_append, List.length_cons, List.length_nil, firstI_length, List.length_range, rowsD_length, List.length_drop, List.length_take, sortB_len, rangeI_len]; omega)) only [↓rb, ↓r_ofO, ↓r_den, ↓r_oX1, ↓r_oX2, ↓r_bX1, ↓r_bX2, ↓r_lX1, ↓r_lX2, ↓r_C, ↓r_Var, ↓r_Val, ↓r_Move, ↓r_fz, ↓r_ofD, ↓r_Op, ↓r_eOp, ↓r_Un, ↓r_CB, ↓r_eCB, ↓r_Mul, ↓r_Nil, ↓r_Cons, ↓r_Lst, ↓r_Tup, ↓r_Bl, ↓r_And, ↓r_Or, ↓r_NotM, ↓r_Yes, ↓r_If, ↓r_Chain, ↓r_Next, ↓r_Seq, ↓r_Bk, ↓r_Ct, ↓r_Never, ↓r_Ret, ↓r_RetN, ↓r_Expr, ↓r_sIf, ↓r_Set, ↓r_Asg, ↓r_Par, ↓r_bName, ↓r_bNil, ↓r_bCons, ↓r_bTup, ↓r_bTupL, ↓r_free, ↓f_non, ↓f_val, ↓f_own, ↓f_pin, ↓r_toSl, ↓r_fzR, ↓r_dAnd, ↓r_dOr, ↓r_dNot, ↓r_ixO, ↓r_Put, ↓r_Mut, ↓r_arNil, ↓r_arV, ↓r_arR, ↓r_Call, ↓r_CallK, ↓r_CallKD, ↓r_CallT, ↓r_For, ↓r_Lc, ↓r_iSeq, ↓r_iRng1, ↓r_iRng2, ↓r_iEnum, ↓r_iEnumA, ↓r_iEnumB, ↓r_TR1, ↓r_LenO, ↓r_NeO, ↓r_iZip, ↓r_iZipB, ↓r_LenSet, ↓r_step, ↓r_LR1, ↓r_LR2, ↓r_oNone, ↓r_oSome, ↓r_Cut, ↓r_Rev, ↓r_RevA, ↓r_keep, ↓r_Raise, ↓r_Try, ↓r_endX, ↓r_Exn, ↓r_Fld, ↓r_FldM, ↓r_FldAdd, ↓r_bFld, ↓r_Meth, ↓r_MethT, ↓r_Make, ↓r_Par3, ↓r_Par3E, ↓r_AugN, ↓r_AugPut, ↓f_exn, ↓nx_nil, ↓nx_n, ↓nx_v, ↓nx_o, ↓nx_x, ↓r_Isi, ↓r_IsiT, ↓r_Bor, ↓r_BorE, ↓r_noEx, ↓r_wipe0, ↓r_wipe1, ↓r_outs0, ↓r_outs1, ↓r_out1, ↓r_out2, ↓r_mkA0, ↓r_mkA1, ↓r_mkA2, ↓r_wb0, ↓r_wb1, ↓r_wb2, ↓r_Said, ↓r_hide0, ↓r_hide1, ↓r_hideV, ↓r_hideO, ↓r_hideN, ↓r_IsE, ↓r_IsE2, ↓r_iZip3, ↓r_Mt, ↓r_Pre, ↓r_CutO, ↓r_setOwn, ↓r_Copy, ↓r_pick0, ↓r_pick1, ↓r_val0, ↓r_val1, ↓r_Dc, ↓r_Get2, ↓r_IxK, ↓r_IxKO, ↓r_PutK, ↓r_Dic0, ↓r_dstep, ↓r_TryM, ↓r_suX0, ↓r_suX1, ↓r_EnumZip, ↓g0, ↓g1, ↓g2, ↓g3, ↓g4, ↓g5, ↓g6, ↓g7, ↓g8, ↓g9, ↓g10, ↓g11, ↓g12, ↓g13, ↓g14, ↓g15, ↓g16, ↓g17, ↓g18, ↓g19, ↓g20, ↓g21, ↓g22, ↓g23, ↓g24, ↓g25, ↓u0, ↓u1, ↓u2, ↓u3, ↓u4, ↓u5, ↓u6, ↓u7, ↓u8, ↓u9, ↓u10, ↓u11, ↓u12, ↓u13, ↓u14, ↓u15, ↓u16, ↓u17, ↓u18, ↓u19, ↓u20, ↓u21, ↓u22, ↓u23, ↓u24, ↓u25, k_int, v_eqE0, v_neE0, K_nb, K_ni, K_ns, K_nl, K_nt, K_bb, K_bi, K_bs, K_bl, K_bt, K_ib, K_ii, K_is, K_il, K_it, K_sb, K_si, K_ss, K_sl, K_st, K_lb, K_li, K_ls, K_ll, K_lt, K_tb, K_ti, K_ts, K_tl, K_tt, K_db, K_di, K_ds, K_dl, K_dt, t_n, t_d, t_s, r_outO1, r_outO2, r_Ask1, r_Ask2, v_TR, v_add, v_sub, v_neg, v_lt, v_le, v_gt, v_ge, v_eq, v_ne, v_max2, v_min2, v_mod, v_div, v_pow9, v_pow18, v_mulL, v_mulR, v_divmod, v_lenL, v_lenT, v_sum, v_eqL, v_listOf, v_inT2, v_sorted, sortB_f, v_sortL, v_sortT, v_sortDL, v_sortDT, v_sortDP, v_keep, v_tupL, v_tupT, v_sumL, v_sumT, v_app, v_neL, v_pow39, v_pow40, ob_nil, ob_zero, ob_1, ob_2, ob_3, ob_4, ob_5, ob_6, ob_7, ob_8, ll_n, ll_b, ll_i, ll_s, bs_n, bs_v, bs_l, bs_s, llA_ints, List.all_cons, List.all_nil, Bool.and_true, Bool.true_and, Bool.false_and, Bool.and_false, Bool.and_self, v_isN0, v_isNi, v_notN0, v_notNi, v_ixL, v_ixT, v_cutL, v_cutT, k_ii, k_ib, k_bi, k_bb, k_ll, k_lt, k_tl, k_tt, t_i, t_b, t_l, t_t, isR, if_true, true_and, and_true, and_self, if_false, if_pos, Bool.not_true, Bool.not_false, List.length_cons, List.length_nil, List.replicate, List.cons_append, List.nil_append, List.head?_cons, List.tail_cons, List.any_nil, List.any_cons, Bool.false_eq_true, Bool.or_false, Bool.false_or, beq_self_eq_true, Nat.reduceSub, Nat.reduceAdd, Nat.reduceLeDiff, Nat.reduceBEq, Nat.reduceEqDiff, reduceIte, eq_self, reduceCtorEq, bo_rvV, bo_rvL, bo_nil, bo_cons, bo_non, bo_valS, bo_int, bo_bool, bo_own, bo_src, kp_p1, kp_p2, kp_p3, kp_p4, kp_p5, kp_p6, kp_h, kp_d, kp_l1, kp_l2, kp_l3, kp_l4, kp_l5, kp_l6, kp_cups, kp_scoops, kp_rows, kp_looks, kp_held, kp_done, kp_choose, kp_nums, kp_stand, Int.reduceToNat, Int.reduceBEq, Nat.zero_add, Nat.reduceLT, u_x__law_worst_2, e, v_int1b, hj, ↓hm]
theorem lw_c2 (a : List Int) (x : Row) (hb : a.length ≤ 1000) (S0 S1 S2 S3 S4 S7 : Sl) : lcD [8, 6] (bTup 2 (bCons (bName 8) (bCons (bName 6) bNil))) tYesM x__law_worst_2 (enumD 0 (a.map .int)) [] [S0, S1, S2, S3, S4, .val (rowD x), .non, S7, .non] = .ok ((goneI a x.2).map .int, [S0, S1, S2, S3, S4, .val (rowD x), .non, S7, .non]) := by
  rw [enumD_ints]
  refine (lcD_mapI (fun p : Nat × Int => pairD (0 + (p.1 : Nat), p.2)) (fun p => .int (if ((p.1 : Nat) : Int) ∈ x.2 then (0 : Int) else p.2)) _ (fun z _ => by
    have ei := in_row true (0 + ((z.1 : Nat) : Int)) x
    rw [if_pos rfl, Int.zero_add] at ei
    rw [Int.zero_add]
    generalize hj : (if (!decide (((z.1 : Nat) : Int) ∈ x.2)) = true then (1 : Int) else 0) = j
    have := lw_step S0 S1 S2 S3 S4 S7 _ _ z.2 j _ ei hj (by rw [← hj]; split <;> omega) (by rw [← hj]; split <;> omega)
    refine this.trans ?_
    rw [← hj]
    by_cases y : ((z.1 : Nat) : Int) ∈ x.2
    · rw [decide_eq_true y, if_pos y, if_neg (by simp), Int.mul_zero]
    · rw [decide_eq_false y, if_neg y, if_pos (show (!false) = true from rfl), Int.mul_one]) (by rw [List.length_zip, List.length_range]; omega)).trans ?_
  rw [← gone_zip, List.map_map]
  rfl
theorem lw_run (S0 S1 s4 s5 S6 S7 S8 : Sl) (H Q A G : List D) (X : D) (Z : List D) (f m : Int) (f4 : fre (some s4) = true) (f5 : fre (some s5) = true) (f6 : fre (some S6) = true) (f7 : fre (some S7) = true) (f8 : fre (some S8) = true) (hz : pZip false (.list H) (.tuple Q) = some Z)
    (l1 : ∀ S0 S1 S2 S3 S4 S5 S8 : Sl, lcD [6, 7] (bTup 2 (bCons (bName 6) (bCons (bName 7) bNil))) tYesM x__law_worst_1 Z [] [S0, S1, S2, S3, S4, S5, .non, .non, S8] = .ok (A, [S0, S1, S2, S3, S4, S5, .non, .non, S8])) (hm : pMaxA [.list A] = some (.int m))
    (l2 : ∀ S0 S1 S2 S3 S4 S7 : Sl, lcD [8, 6] (bTup 2 (bCons (bName 8) (bCons (bName 6) bNil))) tYesM x__law_worst_2 (enumD 0 A) [] [S0, S1, S2, S3, S4, .val X, .non, S7, .non] = .ok (G, [S0, S1, S2, S3, S4, .val X, .non, S7, .non])) :
    (ofO (bTup 2 (bCons (bName 4) (bCons (bName 5) bNil)) (.tuple [.tuple Q, X]) [S0, S1, .val (.list H), .val (.int f), s4, s5, S6, S7, S8])).bind w__law_worst_1 = .ok (.nx, [S0, S1, .val (.list G), .val (.int (max f m)), .val (.tuple Q), .val X, .non, .non, .non]) := by
  simp (maxSteps := 1000000) (disch := first | omega | exact Or.inl rfl | exact Or.inr rfl | exact f_non | exact f_val _ | exact f_own _ | (simp only [List.length_map, List.length_replicate, List.length_append, List.length_cons, List.length_nil, firstI_length, List.length_range, rowsD_length, List.length_drop, List.length_take, sortB_len, rangeI_len]; omega)) only [↓rb, ↓r_ofO, ↓r_den, ↓r_oX1, ↓r_oX2, ↓r_bX1, ↓r_bX2, ↓r_lX1, ↓r_lX2, ↓r_C, ↓r_Var, ↓r_Val, ↓r_Move, ↓r_fz, ↓r_ofD, ↓r_Op, ↓r_eOp, ↓r_Un, ↓r_CB, ↓r_eCB, ↓r_Mul, ↓r_Nil, ↓r_Cons, ↓r_Lst, ↓r_Tup, ↓r_Bl, ↓r_And, ↓r_Or, ↓r_NotM, ↓r_Yes, ↓r_If, ↓r_Chain, ↓r_Next, ↓r_Seq, ↓r_Bk, ↓r_Ct, ↓r_Never, ↓r_Ret, ↓r_RetN, ↓r_Expr, ↓r_sIf, ↓r_Set, ↓r_Asg, ↓r_Par, ↓r_bName, ↓r_bNil, ↓r_bCons, ↓r_bTup, ↓r_bTupL, ↓r_free, ↓f_non, ↓f_val, ↓f_own, ↓f_pin, ↓r_toSl, ↓r_fzR, ↓r_dAnd, ↓r_dOr, ↓r_dNot, ↓r_ixO, ↓r_Put, ↓r_Mut, ↓r_arNil, ↓r_arV, ↓r_arR, ↓r_Call, ↓r_CallK, ↓r_CallKD, ↓r_CallT, ↓r_For, ↓r_Lc, ↓r_iSeq, ↓r_iRng1, ↓r_iRng2, ↓r_iEnum, ↓r_iEnumA, ↓r_iEnumB, ↓r_TR1, ↓r_LenO, ↓r_NeO, ↓r_iZip, ↓r_iZipB, ↓r_LenSet, ↓r_step, ↓r_LR1, ↓r_LR2, ↓r_oNone, ↓r_oSome, ↓r_Cut, ↓r_Rev, ↓r_RevA, ↓r_keep, ↓r_Raise, ↓r_Try, ↓r_endX, ↓r_Exn, ↓r_Fld, ↓r_FldM, ↓r_FldAdd, ↓r_bFld, ↓r_Meth, ↓r_MethT, ↓r_Make, ↓r_Par3, ↓r_Par3E, ↓r_AugN, ↓r_AugPut, ↓f_exn, ↓nx_nil, ↓nx_n, ↓nx_v, ↓nx_o, ↓nx_x, ↓r_Isi, ↓r_IsiT, ↓r_Bor, ↓r_BorE, ↓r_noEx, ↓r_wipe0, ↓r_wipe1, ↓r_outs0, ↓r_outs1, ↓r_out1, ↓r_out2, ↓r_mkA0, ↓r_mkA1, ↓r_mkA2, ↓r_wb0, ↓r_wb1, ↓r_wb2, ↓r_Said, ↓r_hide0, ↓r_hide1, ↓r_hideV, ↓r_hideO, ↓r_hideN, ↓r_IsE, ↓r_IsE2, ↓r_iZip3, ↓r_Mt, ↓r_Pre, ↓r_CutO, ↓r_setOwn, ↓r_Copy, ↓r_pick0, ↓r_pick1, ↓r_val0, ↓r_val1, ↓r_Dc, ↓r_Get2, ↓r_IxK, ↓r_IxKO, ↓r_PutK, ↓r_Dic0, ↓r_dstep, ↓r_TryM, ↓r_suX0, ↓r_suX1, ↓r_EnumZip, ↓g0, ↓g1, ↓g2, ↓g3, ↓g4, ↓g5, ↓g6, ↓g7, ↓g8, ↓g9, ↓g10, ↓g11, ↓g12, ↓g13, ↓g14, ↓g15, ↓g16, ↓g17, ↓g18, ↓g19, ↓g20, ↓g21, ↓g22, ↓g23, ↓g24, ↓g25, ↓u0, ↓u1, ↓u2, ↓u3, ↓u4, ↓u5, ↓u6, ↓u7, ↓u8, ↓u9, ↓u10, ↓u11, ↓u12, ↓u13, ↓u14, ↓u15, ↓u16, ↓u17, ↓u18, ↓u19, ↓u20, ↓u21, ↓u22, ↓u23, ↓u24, ↓u25, k_int, v_eqE0, v_neE0, K_nb, K_ni, K_ns, K_nl, K_nt, K_bb, K_bi, K_bs, K_bl, K_bt, K_ib, K_ii, K_is, K_il, K_it, K_sb, K_si, K_ss, K_sl, K_st, K_lb, K_li, K_ls, K_ll, K_lt, K_tb, K_ti, K_ts, K_tl, K_tt, K_db, K_di, K_ds, K_dl, K_dt, t_n, t_d, t_s, r_outO1, r_outO2, r_Ask1, r_Ask2, v_TR, v_add, v_sub, v_neg, v_lt, v_le, v_gt, v_ge, v_eq, v_ne, v_max2, v_min2, v_mod, v_div, v_pow9, v_pow18, v_mulL, v_mulR, v_divmod, v_lenL, v_lenT, v_sum, v_eqL, v_listOf, v_inT2, v_sorted, sortB_f, v_sortL, v_sortT, v_sortDL, v_sortDT, v_sortDP, v_keep, v_tupL, v_tupT, v_sumL, v_sumT, v_app, v_neL, v_pow39, v_pow40, ob_nil, ob_zero, ob_1, ob_2, ob_3, ob_4, ob_5, ob_6, ob_7, ob_8, ll_n, ll_b, ll_i, ll_s, bs_n, bs_v, bs_l, bs_s, llA_ints, List.all_cons, List.all_nil, Bool.and_true, Bool.true_and, Bool.false_and, Bool.and_false, Bool.and_self, v_isN0, v_isNi, v_notN0, v_notNi, v_ixL, v_ixT, v_cutL, v_cutT, k_ii, k_ib, k_bi, k_bb, k_ll, k_lt, k_tl, k_tt, t_i, t_b, t_l, t_t, isR, if_true, true_and, and_true, and_self, if_false, if_pos, Bool.not_true, Bool.not_false, List.length_cons, List.length_nil, List.replicate, List.cons_append, List.nil_append, List.head?_cons, List.tail_cons, List.any_nil, List.any_cons, Bool.false_eq_true, Bool.or_false, Bool.false_or, beq_self_eq_true, Nat.reduceSub, Nat.reduceAdd, Nat.reduceLeDiff, Nat.reduceBEq, Nat.reduceEqDiff, reduceIte, eq_self, reduceCtorEq, bo_rvV, bo_rvL, bo_nil, bo_cons, bo_non, bo_valS, bo_int, bo_bool, bo_own, bo_src, kp_p1, kp_p2, kp_p3, kp_p4, kp_p5, kp_p6, kp_h, kp_d, kp_l1, kp_l2, kp_l3, kp_l4, kp_l5, kp_l6, kp_cups, kp_scoops, kp_rows, kp_looks, kp_held, kp_done, kp_choose, kp_nums, kp_stand, Int.reduceToNat, Int.reduceBEq, Nat.zero_add, Nat.reduceLT, f4, f5, f6, f7, f8, u_w__law_worst_1, ↓hz, l1, ↓hm, l2]
def qrD (y : List Int × Row) : D := .tuple [tpD y.1, rowD y.2]
theorem lw_loop (S0 S1 : Sl) (n : Int) (n1 : 1 ≤ n) (n40 : n ≤ 40) : ∀ (l : List (List Int × Row)) (h : List Int) (f : Int) (s4 s5 S6 S7 S8 : Sl), (∀ y ∈ l, (y.1.length : Int) = n) → (h.length : Int) = n → fre (some s4) = true → fre (some s5) = true → fre (some S6) = true → fre (some S7) = true → fre (some S8) = true →
    ∃ (A' : D) (s4' s5' S6' S7' S8' : Sl), forD (bTup 2 (bCons (bName 4) (bCons (bName 5) bNil))) w__law_worst_1 (l.map qrD) [S0, S1, .val (.list (h.map .int)), .val (.int f), s4, s5, S6, S7, S8] = .ok (.nx, [S0, S1, .val A', .val (.int (wlI h f l)), s4', s5', S6', S7', S8'])
  | [], h, f, s4, s5, S6, S7, S8, _, _, _, _, _, _, _ => ⟨_, s4, s5, S6, S7, S8, rfl⟩
  | (q, x) :: l, h, f, s4, s5, S6, S7, S8, H, hl, f4, f5, f6, f7, f8 => by
    have lq : (q.length : Int) = n := H (q, x) (List.mem_cons_self ..)
    have al : (addI h q).length = h.length := addI_len (by omega)
    have hz : pZip false (.list (h.map .int)) (.tuple (q.map .int)) = some ((h.zip q).map pairD) := (v_zipLT false _ _ (by rw [List.length_map, List.length_map]; omega)).trans (by rw [zipD_ints])
    have er := lw_run S0 S1 s4 s5 S6 S7 S8 _ _ _ _ (rowD x) _ f _ f4 f5 f6 f7 f8 hz (fun S0 S1 S2 S3 S4 S5 S8 => lw_c1 h q (by omega) S0 S1 S2 S3 S4 S5 S8) (v_maxAL (addI h q) (by omega)) (fun S0 S1 S2 S3 S4 S7 => lw_c2 (addI h q) x (by omega) S0 S1 S2 S3 S4 S7)
    obtain ⟨A', s4', s5', S6', S7', S8', ih⟩ := lw_loop S0 S1 n n1 n40 l (goneI (addI h q) x.2) (max f (maxI (addI h q))) (.val (.tuple (q.map .int))) (.val (rowD x)) .non .non .non (fun y hy => H y (List.mem_cons_of_mem _ hy)) (by rw [goneI_len]; omega) rfl rfl rfl rfl rfl
    exact ⟨A', s4', s5', S6', S7', S8', (forD_nx er).trans ih⟩
theorem set_of (Zm : M D) (i : Nat) (Z : D) (r : Rho) (zr : Zm r = .ok (Z, r)) (hf : free r i = true) : (sSet i (ofD Zm)) r = .ok (.nx, r.set i (.val Z)) := by
  have e : (ofD Zm) r = .ok (.val Z, r) := by rw [r_ofD, zr]; rfl
  rw [r_Set, e]
  show (if free r i = true then _ else _) = _
  rw [if_pos hf]
  rfl
theorem zeros_of (k : Int) (r : Rho) (Z : List D) (mb : M D) (hb : mb r = .ok (.int k, r)) (hz : pMul (.own (.lst [PyData.int 0])) (.int k) = some (.own (.lst Z))) : (fz (eMul (eLst (dCons (dC (.int 0)) dNil)) mb)) r = .ok (.list Z, r) := by
  have a : (eLst (dCons (dC (.int 0)) dNil)) r = .ok (.own (.lst [.int 0]), r) := by simp (maxSteps := 1000000) (disch := first | omega | exact Or.inl rfl | exact Or.inr rfl | exact f_non | exact f_val _ | exact f_own _ | (simp only [List.length_map, List.length_replicate, List.length_append, List.length_cons, List.length_nil, firstI_length, List.length_range, rowsD_length, List.length_drop, List.length_take, sortB_len, rangeI_len]; omega)) only [↓rb, ↓r_ofO, ↓r_den, ↓r_oX1, ↓r_oX2, ↓r_bX1, ↓r_bX2, ↓r_lX1, ↓r_lX2, ↓r_C, ↓r_Var, ↓r_Val, ↓r_Move, ↓r_fz, ↓r_ofD, ↓r_Op, ↓r_eOp, ↓r_Un, ↓r_CB, ↓r_eCB, ↓r_Mul, ↓r_Nil, ↓r_Cons, ↓r_Lst, ↓r_Tup, ↓r_Bl, ↓r_And, ↓r_Or, ↓r_NotM, ↓r_Yes, ↓r_If, ↓r_Chain, ↓r_Next, ↓r_Seq, ↓r_Bk, ↓r_Ct, ↓r_Never, ↓r_Ret, ↓r_RetN, ↓r_Expr, ↓r_sIf, ↓r_Set, ↓r_Asg, ↓r_Par, ↓r_bName, ↓r_bNil, ↓r_bCons, ↓r_bTup, ↓r_bTupL, ↓r_free, ↓f_non, ↓f_val, ↓f_own, ↓f_pin, ↓r_toSl, ↓r_fzR, ↓r_dAnd, ↓r_dOr, ↓r_dNot, ↓r_ixO, ↓r_Put, ↓r_Mut, ↓r_arNil, ↓r_arV, ↓r_arR, ↓r_Call, ↓r_CallK, ↓r_CallKD, ↓r_CallT, ↓r_For, ↓r_Lc, ↓r_iSeq, ↓r_iRng1, ↓r_iRng2, ↓r_iEnum, ↓r_iEnumA, ↓r_iEnumB, ↓r_TR1, ↓r_LenO, ↓r_NeO, ↓r_iZip, ↓r_iZipB, ↓r_LenSet, ↓r_step, ↓r_LR1, ↓r_LR2, ↓r_oNone, ↓r_oSome, ↓r_Cut, ↓r_Rev, ↓r_RevA, ↓r_keep, ↓r_Raise, ↓r_Try, ↓r_endX, ↓r_Exn, ↓r_Fld, ↓r_FldM, ↓r_FldAdd, ↓r_bFld, ↓r_Meth, ↓r_MethT, ↓r_Make, ↓r_Par3, ↓r_Par3E, ↓r_AugN, ↓r_AugPut, ↓f_exn, ↓nx_nil, ↓nx_n, ↓nx_v, ↓nx_o, ↓nx_x, ↓r_Isi, ↓r_IsiT, ↓r_Bor, ↓r_BorE, ↓r_noEx, ↓r_wipe0, ↓r_wipe1, ↓r_outs0, ↓r_outs1, ↓r_out1, ↓r_out2, ↓r_mkA0, ↓r_mkA1, ↓r_mkA2, ↓r_wb0, ↓r_wb1, ↓r_wb2, ↓r_Said, ↓r_hide0, ↓r_hide1, ↓r_hideV, ↓r_hideO, ↓r_hideN, ↓r_IsE, ↓r_IsE2, ↓r_iZip3, ↓r_Mt, ↓r_Pre, ↓r_CutO, ↓r_setOwn, ↓r_Copy, ↓r_pick0, ↓r_pick1, ↓r_val0, ↓r_val1, ↓r_Dc, ↓r_Get2, ↓r_IxK, ↓r_IxKO, ↓r_PutK, ↓r_Dic0, ↓r_dstep, ↓r_TryM, ↓r_suX0, ↓r_suX1, ↓r_EnumZip, ↓g0, ↓g1, ↓g2, ↓g3, ↓g4, ↓g5, ↓g6, ↓g7, ↓g8, ↓g9, ↓g10, ↓g11, ↓g12, ↓g13, ↓g14, ↓g15, ↓g16, ↓g17, ↓g18, ↓g19, ↓g20, ↓g21, ↓g22, ↓g23, ↓g24, ↓g25, ↓u0, ↓u1, ↓u2, ↓u3, ↓u4, ↓u5, ↓u6, ↓u7, ↓u8, ↓u9, ↓u10, ↓u11, ↓u12, ↓u13, ↓u14, ↓u15, ↓u16, ↓u17, ↓u18, ↓u19, ↓u20, ↓u21, ↓u22, ↓u23, ↓u24, ↓u25, k_int, v_eqE0, v_neE0, K_nb, K_ni, K_ns, K_nl, K_nt, K_bb, K_bi, K_bs, K_bl, K_bt, K_ib, K_ii, K_is, K_il, K_it, K_sb, K_si, K_ss, K_sl, K_st, K_lb, K_li, K_ls, K_ll, K_lt, K_tb, K_ti, K_ts, K_tl, K_tt, K_db, K_di, K_ds, K_dl, K_dt, t_n, t_d, t_s, r_outO1, r_outO2, r_Ask1, r_Ask2, v_TR, v_add, v_sub, v_neg, v_lt, v_le, v_gt, v_ge, v_eq, v_ne, v_max2, v_min2, v_mod, v_div, v_pow9, v_pow18, v_mulL, v_mulR, v_divmod, v_lenL, v_lenT, v_sum, v_eqL, v_listOf, v_inT2, v_sorted, sortB_f, v_sortL, v_sortT, v_sortDL, v_sortDT, v_sortDP, v_keep, v_tupL, v_tupT, v_sumL, v_sumT, v_app, v_neL, v_pow39, v_pow40, ob_nil, ob_zero, ob_1, ob_2, ob_3, ob_4, ob_5, ob_6, ob_7, ob_8, ll_n, ll_b, ll_i, ll_s, bs_n, bs_v, bs_l, bs_s, llA_ints, List.all_cons, List.all_nil, Bool.and_true, Bool.true_and, Bool.false_and, Bool.and_false, Bool.and_self, v_isN0, v_isNi, v_notN0, v_notNi, v_ixL, v_ixT, v_cutL, v_cutT, k_ii, k_ib, k_bi, k_bb, k_ll, k_lt, k_tl, k_tt, t_i, t_b, t_l, t_t, isR, if_true, true_and, and_true, and_self, if_false, if_pos, Bool.not_true, Bool.not_false, List.length_cons, List.length_nil, List.replicate, List.cons_append, List.nil_append, List.head?_cons, List.tail_cons, List.any_nil, List.any_cons, Bool.false_eq_true, Bool.or_false, Bool.false_or, beq_self_eq_true, Nat.reduceSub, Nat.reduceAdd, Nat.reduceLeDiff, Nat.reduceBEq, Nat.reduceEqDiff, reduceIte, eq_self, reduceCtorEq, bo_rvV, bo_rvL, bo_nil, bo_cons, bo_non, bo_valS, bo_int, bo_bool, bo_own, bo_src, kp_p1, kp_p2, kp_p3, kp_p4, kp_p5, kp_p6, kp_h, kp_d, kp_l1, kp_l2, kp_l3, kp_l4, kp_l5, kp_l6, kp_cups, kp_scoops, kp_rows, kp_looks, kp_held, kp_done, kp_choose, kp_nums, kp_stand, Int.reduceToNat, Int.reduceBEq, Nat.zero_add, Nat.reduceLT]
  rw [r_fz, r_Mul]
  generalize pMul = P at hz ⊢
  rw [a]
  simp only [rb, hb, hz, r_ofO, r_fzR]
theorem lw_out (n f : Int) (q0 : List D) (Pd Rd Z Y : List D) (A' : D) (s4 s5 S6 S7 S8 : Sl) (hl : pLen [.tuple q0] = some (.int n)) (hz : pMul (.own (.lst [PyData.int 0])) (.int n) = some (.own (.lst Z))) (hy : pZip false (.list (.tuple q0 :: Pd)) (.list Rd) = some Y)
    (lp : forD (bTup 2 (bCons (bName 4) (bCons (bName 5) bNil))) w__law_worst_1 Y [.val (.list (.tuple q0 :: Pd)), .val (.list Rd), .val (.list Z), .val (.int 0), .non, .non, .non, .non, .non] = .ok (.nx, [.val (.list (.tuple q0 :: Pd)), .val (.list Rd), .val A', .val (.int f), s4, s5, S6, S7, S8])) :
    d__law_worst [.val (.list (.tuple q0 :: Pd)), .val (.list Rd)] = .ok (.val (.int f), [.val (.list (.tuple q0 :: Pd)), .val (.list Rd)]) := by
  have hx : pIx (.list (.tuple q0 :: Pd)) (.int 0) = some (.tuple q0) := ix0 (ds := Pd) (.inl rfl)
  have h1 : (sSet 2 (ofD (fz (eMul (eLst (dCons (dC (.int 0)) dNil)) (dCB pLen (dCons (dOp pIx (dVar 0) (dC (.int 0))) dNil)))))) [.val (.list (.tuple q0 :: Pd)), .val (.list Rd), .non, .non, .non, .non, .non, .non, .non] = .ok (.nx, [.val (.list (.tuple q0 :: Pd)), .val (.list Rd), .val (.list Z), .non, .non, .non, .non, .non, .non]) :=
    set_of _ 2 (.list Z) _ (zeros_of n _ Z _ (by simp (maxSteps := 1000000) (disch := first | omega | exact Or.inl rfl | exact Or.inr rfl | exact f_non | exact f_val _ | exact f_own _ | (simp only [List.length_map, List.length_replicate, List.length_append, List.length_cons, List.length_nil, firstI_length, List.length_range, rowsD_length, List.length_drop, List.length_take, sortB_len, rangeI_len]; omega)) only [↓rb, ↓r_ofO, ↓r_den, ↓r_oX1, ↓r_oX2, ↓r_bX1, ↓r_bX2, ↓r_lX1, ↓r_lX2, ↓r_C, ↓r_Var, ↓r_Val, ↓r_Move, ↓r_fz, ↓r_ofD, ↓r_Op, ↓r_eOp, ↓r_Un, ↓r_CB, ↓r_eCB, ↓r_Mul, ↓r_Nil, ↓r_Cons, ↓r_Lst, ↓r_Tup, ↓r_Bl, ↓r_And, ↓r_Or, ↓r_NotM, ↓r_Yes, ↓r_If, ↓r_Chain, ↓r_Next, ↓r_Seq, ↓r_Bk, ↓r_Ct, ↓r_Never, ↓r_Ret, ↓r_RetN, ↓r_Expr, ↓r_sIf, ↓r_Set, ↓r_Asg, ↓r_Par, ↓r_bName, ↓r_bNil, ↓r_bCons, ↓r_bTup, ↓r_bTupL, ↓r_free, ↓f_non, ↓f_val, ↓f_own, ↓f_pin, ↓r_toSl, ↓r_fzR, ↓r_dAnd, ↓r_dOr, ↓r_dNot, ↓r_ixO, ↓r_Put, ↓r_Mut, ↓r_arNil, ↓r_arV, ↓r_arR, ↓r_Call, ↓r_CallK, ↓r_CallKD, ↓r_CallT, ↓r_For, ↓r_Lc, ↓r_iSeq, ↓r_iRng1, ↓r_iRng2, ↓r_iEnum, ↓r_iEnumA, ↓r_iEnumB, ↓r_TR1, ↓r_LenO, ↓r_NeO, ↓r_iZip, ↓r_iZipB, ↓r_LenSet, ↓r_step, ↓r_LR1, ↓r_LR2, ↓r_oNone, ↓r_oSome, ↓r_Cut, ↓r_Rev, ↓r_RevA, ↓r_keep, ↓r_Raise, ↓r_Try, ↓r_endX, ↓r_Exn, ↓r_Fld, ↓r_FldM, ↓r_FldAdd, ↓r_bFld, ↓r_Meth, ↓r_MethT, ↓r_Make, ↓r_Par3, ↓r_Par3E, ↓r_AugN, ↓r_AugPut, ↓f_exn, ↓nx_nil, ↓nx_n, ↓nx_v, ↓nx_o, ↓nx_x, ↓r_Isi, ↓r_IsiT, ↓r_Bor, ↓r_BorE, ↓r_noEx, ↓r_wipe0, ↓r_wipe1, ↓r_outs0, ↓r_outs1, ↓r_out1, ↓r_out2, ↓r_mkA0, ↓r_mkA1, ↓r_mkA2, ↓r_wb0, ↓r_wb1, ↓r_wb2, ↓r_Said, ↓r_hide0, ↓r_hide1, ↓r_hideV, ↓r_hideO, ↓r_hideN, ↓r_IsE, ↓r_IsE2, ↓r_iZip3, ↓r_Mt, ↓r_Pre, ↓r_CutO, ↓r_setOwn, ↓r_Copy, ↓r_pick0, ↓r_pick1, ↓r_val0, ↓r_val1, ↓r_Dc, ↓r_Get2, ↓r_IxK, ↓r_IxKO, ↓r_PutK, ↓r_Dic0, ↓r_dstep, ↓r_TryM, ↓r_suX0, ↓r_suX1, ↓r_EnumZip, ↓g0, ↓g1, ↓g2, ↓g3, ↓g4, ↓g5, ↓g6, ↓g7, ↓g8, ↓g9, ↓g10, ↓g11, ↓g12, ↓g13, ↓g14, ↓g15, ↓g16, ↓g17, ↓g18, ↓g19, ↓g20, ↓g21, ↓g22, ↓g23, ↓g24, ↓g25, ↓u0, ↓u1, ↓u2, ↓u3, ↓u4, ↓u5, ↓u6, ↓u7, ↓u8, ↓u9, ↓u10, ↓u11, ↓u12, ↓u13, ↓u14, ↓u15, ↓u16, ↓u17, ↓u18, ↓u19, ↓u20, ↓u21, ↓u22, ↓u23, ↓u24, ↓u25, k_int, v_eqE0, v_neE0, K_nb, K_ni, K_ns, K_nl, K_nt, K_bb, K_bi, K_bs, K_bl, K_bt, K_ib, K_ii, K_is, K_il, K_it, K_sb, K_si, K_ss, K_sl, K_st, K_lb, K_li, K_ls, K_ll, K_lt, K_tb, K_ti, K_ts, K_tl, K_tt, K_db, K_di, K_ds, K_dl, K_dt, t_n, t_d, t_s, r_outO1, r_outO2, r_Ask1, r_Ask2, v_TR, v_add, v_sub, v_neg, v_lt, v_le, v_gt, v_ge, v_eq, v_ne, v_max2, v_min2, v_mod, v_div, v_pow9, v_pow18, v_mulL, v_mulR, v_divmod, v_lenL, v_lenT, v_sum, v_eqL, v_listOf, v_inT2, v_sorted, sortB_f, v_sortL, v_sortT, v_sortDL, v_sortDT, v_sortDP, v_keep, v_tupL, v_tupT, v_sumL, v_sumT, v_app, v_neL, v_pow39, v_pow40, ob_nil, ob_zero, ob_1, ob_2, ob_3, ob_4, ob_5, ob_6, ob_7, ob_8, ll_n, ll_b, ll_i, ll_s, bs_n, bs_v, bs_l, bs_s, llA_ints, List.all_cons, List.all_nil, Bool.and_true, Bool.true_and, Bool.false_and, Bool.and_false, Bool.and_self, v_isN0, v_isNi, v_notN0, v_notNi, v_ixL, v_ixT, v_cutL, v_cutT, k_ii, k_ib, k_bi, k_bb, k_ll, k_lt, k_tl, k_tt, t_i, t_b, t_l, t_t, isR, if_true, true_and, and_true, and_self, if_false, if_pos, Bool.not_true, Bool.not_false, List.length_cons, List.length_nil, List.replicate, List.cons_append, List.nil_append, List.head?_cons, List.tail_cons, List.any_nil, List.any_cons, Bool.false_eq_true, Bool.or_false, Bool.false_or, beq_self_eq_true, Nat.reduceSub, Nat.reduceAdd, Nat.reduceLeDiff, Nat.reduceBEq, Nat.reduceEqDiff, reduceIte, eq_self, reduceCtorEq, bo_rvV, bo_rvL, bo_nil, bo_cons, bo_non, bo_valS, bo_int, bo_bool, bo_own, bo_src, kp_p1, kp_p2, kp_p3, kp_p4, kp_p5, kp_p6, kp_h, kp_d, kp_l1, kp_l2, kp_l3, kp_l4, kp_l5, kp_l6, kp_cups, kp_scoops, kp_rows, kp_looks, kp_held, kp_done, kp_choose, kp_nums, kp_stand, Int.reduceToNat, Int.reduceBEq, Nat.zero_add, Nat.reduceLT, ↓hx, ↓hl]) hz) rfl
  rw [q__law_worst]
  generalize (sSet 2 (ofD (fz (eMul (eLst (dCons (dC (.int 0)) dNil)) (dCB pLen (dCons (dOp pIx (dVar 0) (dC (.int 0))) dNil)))))) = T1 at h1 ⊢
  clear hz
  simp (maxSteps := 1000000) (disch := first | omega | exact Or.inl rfl | exact Or.inr rfl | exact f_non | exact f_val _ | exact f_own _ | (simp only [List.length_map, List.length_replicate, List.length_append, List.length_cons, List.length_nil, firstI_length, List.length_range, rowsD_length, List.length_drop, List.length_take, sortB_len, rangeI_len]; omega)) only [↓rb, ↓r_ofO, ↓r_den, ↓r_oX1, ↓r_oX2, ↓r_bX1, ↓r_bX2, ↓r_lX1, ↓r_lX2, ↓r_C, ↓r_Var, ↓r_Val, ↓r_Move, ↓r_fz, ↓r_ofD, ↓r_Op, ↓r_eOp, ↓r_Un, ↓r_CB, ↓r_eCB, ↓r_Mul, ↓r_Nil, ↓r_Cons, ↓r_Lst, ↓r_Tup, ↓r_Bl, ↓r_And, ↓r_Or, ↓r_NotM, ↓r_Yes, ↓r_If, ↓r_Chain, ↓r_Next, ↓r_Seq, ↓r_Bk, ↓r_Ct, ↓r_Never, ↓r_Ret, ↓r_RetN, ↓r_Expr, ↓r_sIf, ↓r_Set, ↓r_Asg, ↓r_Par, ↓r_bName, ↓r_bNil, ↓r_bCons, ↓r_bTup, ↓r_bTupL, ↓r_free, ↓f_non, ↓f_val, ↓f_own, ↓f_pin, ↓r_toSl, ↓r_fzR, ↓r_dAnd, ↓r_dOr, ↓r_dNot, ↓r_ixO, ↓r_Put, ↓r_Mut, ↓r_arNil, ↓r_arV, ↓r_arR, ↓r_Call, ↓r_CallK, ↓r_CallKD, ↓r_CallT, ↓r_For, ↓r_Lc, ↓r_iSeq, ↓r_iRng1, ↓r_iRng2, ↓r_iEnum, ↓r_iEnumA, ↓r_iEnumB, ↓r_TR1, ↓r_LenO, ↓r_NeO, ↓r_iZip, ↓r_iZipB, ↓r_LenSet, ↓r_step, ↓r_LR1, ↓r_LR2, ↓r_oNone, ↓r_oSome, ↓r_Cut, ↓r_Rev, ↓r_RevA, ↓r_keep, ↓r_Raise, ↓r_Try, ↓r_endX, ↓r_Exn, ↓r_Fld, ↓r_FldM, ↓r_FldAdd, ↓r_bFld, ↓r_Meth, ↓r_MethT, ↓r_Make, ↓r_Par3, ↓r_Par3E, ↓r_AugN, ↓r_AugPut, ↓f_exn, ↓nx_nil, ↓nx_n, ↓nx_v, ↓nx_o, ↓nx_x, ↓r_Isi, ↓r_IsiT, ↓r_Bor, ↓r_BorE, ↓r_noEx, ↓r_wipe0, ↓r_wipe1, ↓r_outs0, ↓r_outs1, ↓r_out1, ↓r_out2, ↓r_mkA0, ↓r_mkA1, ↓r_mkA2, ↓r_wb0, ↓r_wb1, ↓r_wb2, ↓r_Said, ↓r_hide0, ↓r_hide1, ↓r_hideV, ↓r_hideO, ↓r_hideN, ↓r_IsE, ↓r_IsE2, ↓r_iZip3, ↓r_Mt, ↓r_Pre, ↓r_CutO, ↓r_setOwn, ↓r_Copy, ↓r_pick0, ↓r_pick1, ↓r_val0, ↓r_val1, ↓r_Dc, ↓r_Get2, ↓r_IxK, ↓r_IxKO, ↓r_PutK, ↓r_Dic0, ↓r_dstep, ↓r_TryM, ↓r_suX0, ↓r_suX1, ↓r_EnumZip, ↓g0, ↓g1, ↓g2, ↓g3, ↓g4, ↓g5, ↓g6, ↓g7, ↓g8, ↓g9, ↓g10, ↓g11, ↓g12, ↓g13, ↓g14, ↓g15, ↓g16, ↓g17, ↓g18, ↓g19, ↓g20, ↓g21, ↓g22, ↓g23, ↓g24, ↓g25, ↓u0, ↓u1, ↓u2, ↓u3, ↓u4, ↓u5, ↓u6, ↓u7, ↓u8, ↓u9, ↓u10, ↓u11, ↓u12, ↓u13, ↓u14, ↓u15, ↓u16, ↓u17, ↓u18, ↓u19, ↓u20, ↓u21, ↓u22, ↓u23, ↓u24, ↓u25, k_int, v_eqE0, v_neE0, K_nb, K_ni, K_ns, K_nl, K_nt, K_bb, K_bi, K_bs, K_bl, K_bt, K_ib, K_ii, K_is, K_il, K_it, K_sb, K_si, K_ss, K_sl, K_st, K_lb, K_li, K_ls, K_ll, K_lt, K_tb, K_ti, K_ts, K_tl, K_tt, K_db, K_di, K_ds, K_dl, K_dt, t_n, t_d, t_s, r_outO1, r_outO2, r_Ask1, r_Ask2, v_TR, v_add, v_sub, v_neg, v_lt, v_le, v_gt, v_ge, v_eq, v_ne, v_max2, v_min2, v_mod, v_div, v_pow9, v_pow18, v_mulL, v_mulR, v_divmod, v_lenL, v_lenT, v_sum, v_eqL, v_listOf, v_inT2, v_sorted, sortB_f, v_sortL, v_sortT, v_sortDL, v_sortDT, v_sortDP, v_keep, v_tupL, v_tupT, v_sumL, v_sumT, v_app, v_neL, v_pow39, v_pow40, ob_nil, ob_zero, ob_1, ob_2, ob_3, ob_4, ob_5, ob_6, ob_7, ob_8, ll_n, ll_b, ll_i, ll_s, bs_n, bs_v, bs_l, bs_s, llA_ints, List.all_cons, List.all_nil, Bool.and_true, Bool.true_and, Bool.false_and, Bool.and_false, Bool.and_self, v_isN0, v_isNi, v_notN0, v_notNi, v_ixL, v_ixT, v_cutL, v_cutT, k_ii, k_ib, k_bi, k_bb, k_ll, k_lt, k_tl, k_tt, t_i, t_b, t_l, t_t, isR, if_true, true_and, and_true, and_self, if_false, if_pos, Bool.not_true, Bool.not_false, List.length_cons, List.length_nil, List.replicate, List.cons_append, List.nil_append, List.head?_cons, List.tail_cons, List.any_nil, List.any_cons, Bool.false_eq_true, Bool.or_false, Bool.false_or, beq_self_eq_true, Nat.reduceSub, Nat.reduceAdd, Nat.reduceLeDiff, Nat.reduceBEq, Nat.reduceEqDiff, reduceIte, eq_self, reduceCtorEq, bo_rvV, bo_rvL, bo_nil, bo_cons, bo_non, bo_valS, bo_int, bo_bool, bo_own, bo_src, kp_p1, kp_p2, kp_p3, kp_p4, kp_p5, kp_p6, kp_h, kp_d, kp_l1, kp_l2, kp_l3, kp_l4, kp_l5, kp_l6, kp_cups, kp_scoops, kp_rows, kp_looks, kp_held, kp_done, kp_choose, kp_nums, kp_stand, Int.reduceToNat, Int.reduceBEq, Nat.zero_add, Nat.reduceLT, h1, ↓hy, lp]
theorem e_worst (n : Int) (q0 : List Int) (P : List (List Int)) (R : List Row) (O : PsOk n (q0 :: P)) (hl : R.length = P.length + 1) (h1 : 2 ≤ n) (h2 : n ≤ 40) :
    d__law_worst [.val (.list ((q0 :: P).map tpD)), .val (.list (R.map rowD))] = .ok (.val (.int (wlI (zeroI n) 0 ((q0 :: P).zip R))), [.val (.list ((q0 :: P).map tpD)), .val (.list (R.map rowD))]) := by
  have l0 := O.len q0 (List.mem_cons_self ..)
  have Z := zero_ok (n := n) (by omega)
  obtain ⟨A', s4, s5, S6, S7, S8, lp⟩ := lw_loop (.val (.list ((q0 :: P).map tpD))) (.val (.list (R.map rowD))) n (by omega) h2 ((q0 :: P).zip R) (zeroI n) 0 .non .non .non .non .non (fun y hy => O.len y.1 (List.of_mem_zip hy).1) Z.len rfl rfl rfl rfl rfl
  have hz : pMul (.own (.lst [PyData.int 0])) (.int n) = some (.own (.lst ((zeroI n).map .int))) := by
    unfold zeroI
    rw [List.map_replicate]
    exact v_rep1 (j := n) _ (by omega) (by omega)
  exact lw_out n _ (q0.map .int) (P.map tpD) (R.map rowD) _ _ A' s4 s5 S6 S7 S8 (by rw [v_lenT, List.length_map, l0]) hz ((v_zipLL false ((q0 :: P).map tpD) (R.map rowD) (by rw [List.length_map, List.length_map, List.length_cons, hl])).trans (by unfold zipD; rw [List.zipWith_map, List.map_zip_eq_zipWith]; rfl)) lp
theorem worst_same (n : Int) (q0 : List Int) (P : List (List Int)) (R : List Row) (l0 : (q0.length : Int) = n) (h1 : 2 ≤ n) (nn : ∀ z ∈ q0, 0 ≤ z) (hl : R.length = P.length + 1) : wlI (zeroI n) 0 ((q0 :: P).zip R) = pwI q0 (maxI q0) (R.zip P) := by
  cases R with
  | nil => cases hl
  | cons x R =>
    show wlI (goneI (addI (zeroI n) q0) x.2) (max 0 (maxI (addI (zeroI n) q0))) (P.zip R) = _
    rw [add_zero l0 (by omega)]
    have hm := maxI_mem (l := q0) (by intro z; rw [z] at l0; simp at l0; omega)
    have := nn _ hm.1
    rw [show max 0 (maxI q0) = maxI q0 by omega]
    exact walks_one P R q0 (maxI q0) x (by simpa using hl.symm)
/-! drawn pours, drawn rows -/
theorem gr_step (s s1 : Src) (i m x y : Int) (s3 : Sl) (f3 : fre (some s3) = true) (e : d__law_take [.own true (srcO s), .val (.int 1000000000)] = .ok (.val (.int y), [.own true (srcO s1), .val (.int 1000000000)])) :
    (ofO (bName 3 (.int i) [.own true (srcO s), .val (.int m), .val (.int x), s3])).bind w__law_great_1 = .ok (.nx, [.own true (srcO s1), .val (.int m), .val (.int (x * 1000000000 + y)), .val (.int i)]) := by
  have hm := v_mulR (i := x) (j := 1000000000) (by omega) (by omega)
  simp (maxSteps := 1000000) (disch := first | omega | exact Or.inl rfl | exact Or.inr rfl | exact f_non | exact f_val _ | exact f_own _ | (simp only [List.length_map, List.length_replicate, List.length_append, List.length_cons, List.length_nil, firstI_length, List.length_range, rowsD_length, List.length_drop, List.length_take, sortB_len, rangeI_len]; omega)) only [↓rb, ↓r_ofO, ↓r_den, ↓r_oX1, ↓r_oX2, ↓r_bX1, ↓r_bX2, ↓r_lX1, ↓r_lX2, ↓r_C, ↓r_Var, ↓r_Val, ↓r_Move, ↓r_fz, ↓r_ofD, ↓r_Op, ↓r_eOp, ↓r_Un, ↓r_CB, ↓r_eCB, ↓r_Mul, ↓r_Nil, ↓r_Cons, ↓r_Lst, ↓r_Tup, ↓r_Bl, ↓r_And, ↓r_Or, ↓r_NotM, ↓r_Yes, ↓r_If, ↓r_Chain, ↓r_Next, ↓r_Seq, ↓r_Bk, ↓r_Ct, ↓r_Never, ↓r_Ret, ↓r_RetN, ↓r_Expr, ↓r_sIf, ↓r_Set, ↓r_Asg, ↓r_Par, ↓r_bName, ↓r_bNil, ↓r_bCons, ↓r_bTup, ↓r_bTupL, ↓r_free, ↓f_non, ↓f_val, ↓f_own, ↓f_pin, ↓r_toSl, ↓r_fzR, ↓r_dAnd, ↓r_dOr, ↓r_dNot, ↓r_ixO, ↓r_Put, ↓r_Mut, ↓r_arNil, ↓r_arV, ↓r_arR, ↓r_Call, ↓r_CallK, ↓r_CallKD, ↓r_CallT, ↓r_For, ↓r_Lc, ↓r_iSeq, ↓r_iRng1, ↓r_iRng2, ↓r_iEnum, ↓r_iEnumA, ↓r_iEnumB, ↓r_TR1, ↓r_LenO, ↓r_NeO, ↓r_iZip, ↓r_iZipB, ↓r_LenSet, ↓r_step, ↓r_LR1, ↓r_LR2, ↓r_oNone, ↓r_oSome, ↓r_Cut, ↓r_Rev, ↓r_RevA, ↓r_keep, ↓r_Raise, ↓r_Try, ↓r_endX, ↓r_Exn, ↓r_Fld, ↓r_FldM, ↓r_FldAdd, ↓r_bFld, ↓r_Meth, ↓r_MethT, ↓r_Make, ↓r_Par3, ↓r_Par3E, ↓r_AugN, ↓r_AugPut, ↓f_exn, ↓nx_nil, ↓nx_n, ↓nx_v, ↓nx_o, ↓nx_x, ↓r_Isi, ↓r_IsiT, ↓r_Bor, ↓r_BorE, ↓r_noEx, ↓r_wipe0, ↓r_wipe1, ↓r_outs0, ↓r_outs1, ↓r_out1, ↓r_out2, ↓r_mkA0, ↓r_mkA1, ↓r_mkA2, ↓r_wb0, ↓r_wb1, ↓r_wb2, ↓r_Said, ↓r_hide0, ↓r_hide1, ↓r_hideV, ↓r_hideO, ↓r_hideN, ↓r_IsE, ↓r_IsE2, ↓r_iZip3, ↓r_Mt, ↓r_Pre, ↓r_CutO, ↓r_setOwn, ↓r_Copy, ↓r_pick0, ↓r_pick1, ↓r_val0, ↓r_val1, ↓r_Dc, ↓r_Get2, ↓r_IxK, ↓r_IxKO, ↓r_PutK, ↓r_Dic0, ↓r_dstep, ↓r_TryM, ↓r_suX0, ↓r_suX1, ↓r_EnumZip, ↓g0, ↓g1, ↓g2, ↓g3, ↓g4, ↓g5, ↓g6, ↓g7, ↓g8, ↓g9, ↓g10, ↓g11, ↓g12, ↓g13, ↓g14, ↓g15, ↓g16, ↓g17, ↓g18, ↓g19, ↓g20, ↓g21, ↓g22, ↓g23, ↓g24, ↓g25, ↓u0, ↓u1, ↓u2, ↓u3, ↓u4, ↓u5, ↓u6, ↓u7, ↓u8, ↓u9, ↓u10, ↓u11, ↓u12, ↓u13, ↓u14, ↓u15, ↓u16, ↓u17, ↓u18, ↓u19, ↓u20, ↓u21, ↓u22, ↓u23, ↓u24, ↓u25, k_int, v_eqE0, v_neE0, K_nb, K_ni, K_ns, K_nl, K_nt, K_bb, K_bi, K_bs, K_bl, K_bt, K_ib, K_ii, K_is, K_il, K_it, K_sb, K_si, K_ss, K_sl, K_st, K_lb, K_li, K_ls, K_ll, K_lt, K_tb, K_ti, K_ts, K_tl, K_tt, K_db, K_di, K_ds, K_dl, K_dt, t_n, t_d, t_s, r_outO1, r_outO2, r_Ask1, r_Ask2, v_TR, v_add, v_sub, v_neg, v_lt, v_le, v_gt, v_ge, v_eq, v_ne, v_max2, v_min2, v_mod, v_div, v_pow9, v_pow18, v_mulL, v_mulR, v_divmod, v_lenL, v_lenT, v_sum, v_eqL, v_listOf, v_inT2, v_sorted, sortB_f, v_sortL, v_sortT, v_sortDL, v_sortDT, v_sortDP, v_keep, v_tupL, v_tupT, v_sumL, v_sumT, v_app, v_neL, v_pow39, v_pow40, ob_nil, ob_zero, ob_1, ob_2, ob_3, ob_4, ob_5, ob_6, ob_7, ob_8, ll_n, ll_b, ll_i, ll_s, bs_n, bs_v, bs_l, bs_s, llA_ints, List.all_cons, List.all_nil, Bool.and_true, Bool.true_and, Bool.false_and, Bool.and_false, Bool.and_self, v_isN0, v_isNi, v_notN0, v_notNi, v_ixL, v_ixT, v_cutL, v_cutT, k_ii, k_ib, k_bi, k_bb, k_ll, k_lt, k_tl, k_tt, t_i, t_b, t_l, t_t, isR, if_true, true_and, and_true, and_self, if_false, if_pos, Bool.not_true, Bool.not_false, List.length_cons, List.length_nil, List.replicate, List.cons_append, List.nil_append, List.head?_cons, List.tail_cons, List.any_nil, List.any_cons, Bool.false_eq_true, Bool.or_false, Bool.false_or, beq_self_eq_true, Nat.reduceSub, Nat.reduceAdd, Nat.reduceLeDiff, Nat.reduceBEq, Nat.reduceEqDiff, reduceIte, eq_self, reduceCtorEq, bo_rvV, bo_rvL, bo_nil, bo_cons, bo_non, bo_valS, bo_int, bo_bool, bo_own, bo_src, kp_p1, kp_p2, kp_p3, kp_p4, kp_p5, kp_p6, kp_h, kp_d, kp_l1, kp_l2, kp_l3, kp_l4, kp_l5, kp_l6, kp_cups, kp_scoops, kp_rows, kp_looks, kp_held, kp_done, kp_choose, kp_nums, kp_stand, Int.reduceToNat, Int.reduceBEq, Nat.zero_add, Nat.reduceLT, f3, u_w__law_great_1, v_pow9, ↓hm, e]
theorem gr_out (s s1 : Src) (m x : Int) (m0 : 0 < m) (s3 : Sl) (lp : forD (bName 3) w__law_great_1 (rangeD 0 5) [.own true (srcO s), .val (.int m), .val (.int 0), .non] = .ok (.nx, [.own true (srcO s1), .val (.int m), .val (.int x), s3])) : d__law_great [.own true (srcO s), .val (.int m)] = .ok (.val (.int (x % m)), [.own true (srcO s1), .val (.int m)]) := by
  rw [q__law_great]
  simp (maxSteps := 1000000) (disch := first | omega | exact Or.inl rfl | exact Or.inr rfl | exact f_non | exact f_val _ | exact f_own _ | (simp only [List.length_map, List.length_replicate, List.length_append, List.length_cons, List.length_nil, firstI_length, List.length_range, rowsD_length, List.length_drop, List.length_take, sortB_len, rangeI_len]; omega)) only [↓rb, ↓r_ofO, ↓r_den, ↓r_oX1, ↓r_oX2, ↓r_bX1, ↓r_bX2, ↓r_lX1, ↓r_lX2, ↓r_C, ↓r_Var, ↓r_Val, ↓r_Move, ↓r_fz, ↓r_ofD, ↓r_Op, ↓r_eOp, ↓r_Un, ↓r_CB, ↓r_eCB, ↓r_Mul, ↓r_Nil, ↓r_Cons, ↓r_Lst, ↓r_Tup, ↓r_Bl, ↓r_And, ↓r_Or, ↓r_NotM, ↓r_Yes, ↓r_If, ↓r_Chain, ↓r_Next, ↓r_Seq, ↓r_Bk, ↓r_Ct, ↓r_Never, ↓r_Ret, ↓r_RetN, ↓r_Expr, ↓r_sIf, ↓r_Set, ↓r_Asg, ↓r_Par, ↓r_bName, ↓r_bNil, ↓r_bCons, ↓r_bTup, ↓r_bTupL, ↓r_free, ↓f_non, ↓f_val, ↓f_own, ↓f_pin, ↓r_toSl, ↓r_fzR, ↓r_dAnd, ↓r_dOr, ↓r_dNot, ↓r_ixO, ↓r_Put, ↓r_Mut, ↓r_arNil, ↓r_arV, ↓r_arR, ↓r_Call, ↓r_CallK, ↓r_CallKD, ↓r_CallT, ↓r_For, ↓r_Lc, ↓r_iSeq, ↓r_iRng1, ↓r_iRng2, ↓r_iEnum, ↓r_iEnumA, ↓r_iEnumB, ↓r_TR1, ↓r_LenO, ↓r_NeO, ↓r_iZip, ↓r_iZipB, ↓r_LenSet, ↓r_step, ↓r_LR1, ↓r_LR2, ↓r_oNone, ↓r_oSome, ↓r_Cut, ↓r_Rev, ↓r_RevA, ↓r_keep, ↓r_Raise, ↓r_Try, ↓r_endX, ↓r_Exn, ↓r_Fld, ↓r_FldM, ↓r_FldAdd, ↓r_bFld, ↓r_Meth, ↓r_MethT, ↓r_Make, ↓r_Par3, ↓r_Par3E, ↓r_AugN, ↓r_AugPut, ↓f_exn, ↓nx_nil, ↓nx_n, ↓nx_v, ↓nx_o, ↓nx_x, ↓r_Isi, ↓r_IsiT, ↓r_Bor, ↓r_BorE, ↓r_noEx, ↓r_wipe0, ↓r_wipe1, ↓r_outs0, ↓r_outs1, ↓r_out1, ↓r_out2, ↓r_mkA0, ↓r_mkA1, ↓r_mkA2, ↓r_wb0, ↓r_wb1, ↓r_wb2, ↓r_Said, ↓r_hide0, ↓r_hide1, ↓r_hideV, ↓r_hideO, ↓r_hideN, ↓r_IsE, ↓r_IsE2, ↓r_iZip3, ↓r_Mt, ↓r_Pre, ↓r_CutO, ↓r_setOwn, ↓r_Copy, ↓r_pick0, ↓r_pick1, ↓r_val0, ↓r_val1, ↓r_Dc, ↓r_Get2, ↓r_IxK, ↓r_IxKO, ↓r_PutK, ↓r_Dic0, ↓r_dstep, ↓r_TryM, ↓r_suX0, ↓r_suX1, ↓r_EnumZip, ↓g0, ↓g1, ↓g2, ↓g3, ↓g4, ↓g5, ↓g6, ↓g7, ↓g8, ↓g9, ↓g10, ↓g11, ↓g12, ↓g13, ↓g14, ↓g15, ↓g16, ↓g17, ↓g18, ↓g19, ↓g20, ↓g21, ↓g22, ↓g23, ↓g24, ↓g25, ↓u0, ↓u1, ↓u2, ↓u3, ↓u4, ↓u5, ↓u6, ↓u7, ↓u8, ↓u9, ↓u10, ↓u11, ↓u12, ↓u13, ↓u14, ↓u15, ↓u16, ↓u17, ↓u18, ↓u19, ↓u20, ↓u21, ↓u22, ↓u23, ↓u24, ↓u25, k_int, v_eqE0, v_neE0, K_nb, K_ni, K_ns, K_nl, K_nt, K_bb, K_bi, K_bs, K_bl, K_bt, K_ib, K_ii, K_is, K_il, K_it, K_sb, K_si, K_ss, K_sl, K_st, K_lb, K_li, K_ls, K_ll, K_lt, K_tb, K_ti, K_ts, K_tl, K_tt, K_db, K_di, K_ds, K_dl, K_dt, t_n, t_d, t_s, r_outO1, r_outO2, r_Ask1, r_Ask2, v_TR, v_add, v_sub, v_neg, v_lt, v_le, v_gt, v_ge, v_eq, v_ne, v_max2, v_min2, v_mod, v_div, v_pow9, v_pow18, v_mulL, v_mulR, v_divmod, v_lenL, v_lenT, v_sum, v_eqL, v_listOf, v_inT2, v_sorted, sortB_f, v_sortL, v_sortT, v_sortDL, v_sortDT, v_sortDP, v_keep, v_tupL, v_tupT, v_sumL, v_sumT, v_app, v_neL, v_pow39, v_pow40, ob_nil, ob_zero, ob_1, ob_2, ob_3, ob_4, ob_5, ob_6, ob_7, ob_8, ll_n, ll_b, ll_i, ll_s, bs_n, bs_v, bs_l, bs_s, llA_ints, List.all_cons, List.all_nil, Bool.and_true, Bool.true_and, Bool.false_and, Bool.and_false, Bool.and_self, v_isN0, v_isNi, v_notN0, v_notNi, v_ixL, v_ixT, v_cutL, v_cutT, k_ii, k_ib, k_bi, k_bb, k_ll, k_lt, k_tl, k_tt, t_i, t_b, t_l, t_t, isR, if_true, true_and, and_true, and_self, if_false, if_pos, Bool.not_true, Bool.not_false, List.length_cons, List.length_nil, List.replicate, List.cons_append, List.nil_append, List.head?_cons, List.tail_cons, List.any_nil, List.any_cons, Bool.false_eq_true, Bool.or_false, Bool.false_or, beq_self_eq_true, Nat.reduceSub, Nat.reduceAdd, Nat.reduceLeDiff, Nat.reduceBEq, Nat.reduceEqDiff, reduceIte, eq_self, reduceCtorEq, bo_rvV, bo_rvL, bo_nil, bo_cons, bo_non, bo_valS, bo_int, bo_bool, bo_own, bo_src, kp_p1, kp_p2, kp_p3, kp_p4, kp_p5, kp_p6, kp_h, kp_d, kp_l1, kp_l2, kp_l3, kp_l4, kp_l5, kp_l6, kp_cups, kp_scoops, kp_rows, kp_looks, kp_held, kp_done, kp_choose, kp_nums, kp_stand, Int.reduceToNat, Int.reduceBEq, Nat.zero_add, Nat.reduceLT, lp, v_mod]
theorem e_great (s : Src) (m : Int) (m0 : 0 < m) : ∃ (s' : Src) (v : Int), d__law_great [.own true (srcO s), .val (.int m)] = .ok (.val (.int v), [.own true (srcO s'), .val (.int m)]) ∧ 0 ≤ v ∧ v < m := by
  obtain ⟨r', lp, s1, x, s3, f3, rfl⟩ := forD_inv (b := bName 3) (body := w__law_great_1) (fun _ r => ∃ (s : Src) (x : Int) (s3 : Sl), fre (some s3) = true ∧ r = [.own true (srcO s), .val (.int m), .val (.int x), s3]) (rangeD 0 5) [.own true (srcO s), .val (.int m), .val (.int 0), .non] ⟨s, 0, .non, rfl, rfl⟩ (fun i d hd r ⟨s, x, s3, f3, hr⟩ => by
    subst hr
    obtain ⟨hi, rfl⟩ := rangeD_at hd
    have e := e_take s 1000000000 (by omega) (by omega)
    exact ⟨_, .inl (gr_step s _ _ m x _ s3 f3 e), _, _, _, rfl, rfl⟩)
  exact ⟨s1, x % m, gr_out s s1 m x m0 s3 lp, Int.emod_nonneg _ (by omega), Int.emod_lt_of_pos _ m0⟩
theorem gr_lc (S1 S2 S3 S5 S6 : Sl) (m : Int) (m0 : 0 < m) : ∀ (ds : List D) (acc : List D) (s : Src), (∀ d ∈ ds, ∃ i : Int, d = .int i) → acc.length + ds.length ≤ 1000 →
    ∃ (s' : Src) (q : List Int), q.length = ds.length ∧ (∀ z ∈ q, 0 ≤ z ∧ z < m) ∧ lcD [7] (bName 7) tYesM x__law_pours_1 ds acc [.own true (srcO s), S1, S2, S3, .val (.int m), S5, S6, .non] = .ok (acc ++ q.map .int, [.own true (srcO s'), S1, S2, S3, .val (.int m), S5, S6, .non])
  | [], acc, s, _, _ => ⟨s, [], rfl, (fun _ h => nomatch h), by rw [List.map_nil, List.append_nil]; rfl⟩
  | d :: ds, acc, s, H, hb => by
    rw [List.length_cons] at hb
    obtain ⟨i, rfl⟩ := H d (List.mem_cons_self ..)
    obtain ⟨s1, v, e, a1, a2⟩ := e_great s m m0
    have st : lcStep [7] (bName 7) tYesM x__law_pours_1 [.own true (srcO s), S1, S2, S3, .val (.int m), S5, S6, .non] (.int i) = .ok (some (.int v), [.own true (srcO s1), S1, S2, S3, .val (.int m), S5, S6, .non]) := by
      simp (maxSteps := 1000000) (disch := first | omega | exact Or.inl rfl | exact Or.inr rfl | exact f_non | exact f_val _ | exact f_own _ | (simp only [List.length_map, List.length_replicate, List.length_append, List.length_cons, List.length_nil, firstI_length, List.length_range, rowsD_length, List.length_drop, List.length_take, sortB_len, rangeI_len]; omega)) only [↓rb, ↓r_ofO, ↓r_den, ↓r_oX1, ↓r_oX2, ↓r_bX1, ↓r_bX2, ↓r_lX1, ↓r_lX2, ↓r_C, ↓r_Var, ↓r_Val, ↓r_Move, ↓r_fz, ↓r_ofD, ↓r_Op, ↓r_eOp, ↓r_Un, ↓r_CB, ↓r_eCB, ↓r_Mul, ↓r_Nil, ↓r_Cons, ↓r_Lst, ↓r_Tup, ↓r_Bl, ↓r_And, ↓r_Or, ↓r_NotM, ↓r_Yes, ↓r_If, ↓r_Chain, ↓r_Next, ↓r_Seq, ↓r_Bk, ↓r_Ct, ↓r_Never, ↓r_Ret, ↓r_RetN, ↓r_Expr, ↓r_sIf, ↓r_Set, ↓r_Asg, ↓r_Par, ↓r_bName, ↓r_bNil, ↓r_bCons, ↓r_bTup, ↓r_bTupL, ↓r_free, ↓f_non, ↓f_val, ↓f_own, ↓f_pin, ↓r_toSl, ↓r_fzR, ↓r_dAnd, ↓r_dOr, ↓r_dNot, ↓r_ixO, ↓r_Put, ↓r_Mut, ↓r_arNil, ↓r_arV, ↓r_arR, ↓r_Call, ↓r_CallK, ↓r_CallKD, ↓r_CallT, ↓r_For, ↓r_Lc, ↓r_iSeq, ↓r_iRng1, ↓r_iRng2, ↓r_iEnum, ↓r_iEnumA, ↓r_iEnumB, ↓r_TR1, ↓r_LenO, ↓r_NeO, ↓r_iZip, ↓r_iZipB, ↓r_LenSet, ↓r_step, ↓r_LR1, ↓r_LR2, ↓r_oNone, ↓r_oSome, ↓r_Cut, ↓r_Rev, ↓r_RevA, ↓r_keep, ↓r_Raise, ↓r_Try, ↓r_endX, ↓r_Exn, ↓r_Fld, ↓r_FldM, ↓r_FldAdd, ↓r_bFld, ↓r_Meth, ↓r_MethT, ↓r_Make, ↓r_Par3, ↓r_Par3E, ↓r_AugN, ↓r_AugPut, ↓f_exn, ↓nx_nil, ↓nx_n, ↓nx_v, ↓nx_o, ↓nx_x, ↓r_Isi, ↓r_IsiT, ↓r_Bor, ↓r_BorE, ↓r_noEx, ↓r_wipe0, ↓r_wipe1, ↓r_outs0, ↓r_outs1, ↓r_out1, ↓r_out2, ↓r_mkA0, ↓r_mkA1, ↓r_mkA2, ↓r_wb0, ↓r_wb1, ↓r_wb2, ↓r_Said, ↓r_hide0, ↓r_hide1, ↓r_hideV, ↓r_hideO, ↓r_hideN, ↓r_IsE, ↓r_IsE2, ↓r_iZip3, ↓r_Mt, ↓r_Pre, ↓r_CutO, ↓r_setOwn, ↓r_Copy, ↓r_pick0, ↓r_pick1, ↓r_val0, ↓r_val1, ↓r_Dc, ↓r_Get2, ↓r_IxK, ↓r_IxKO, ↓r_PutK, ↓r_Dic0, ↓r_dstep, ↓r_TryM, ↓r_suX0, ↓r_suX1, ↓r_EnumZip, ↓g0, ↓g1, ↓g2, ↓g3, ↓g4, ↓g5, ↓g6, ↓g7, ↓g8, ↓g9, ↓g10, ↓g11, ↓g12, ↓g13, ↓g14, ↓g15, ↓g16, ↓g17, ↓g18, ↓g19, ↓g20, ↓g21, ↓g22, ↓g23, ↓g24, ↓g25, ↓u0, ↓u1, ↓u2, ↓u3, ↓u4, ↓u5, ↓u6, ↓u7, ↓u8, ↓u9, ↓u10, ↓u11, ↓u12, ↓u13, ↓u14, ↓u15, ↓u16, ↓u17, ↓u18, ↓u19, ↓u20, ↓u21, ↓u22, ↓u23, ↓u24, ↓u25, k_int, v_eqE0, v_neE0, K_nb, K_ni, K_ns, K_nl, K_nt, K_bb, K_bi, K_bs, K_bl, K_bt, K_ib, K_ii, K_is, K_il, K_it, K_sb, K_si, K_ss, K_sl, K_st, K_lb, K_li, K_ls, K_ll, K_lt, K_tb, K_ti, K_ts, K_tl, K_tt, K_db, K_di, K_ds, K_dl, K_dt, t_n, t_d, t_s, r_outO1, r_outO2, r_Ask1, r_Ask2, v_TR, v_add, v_sub, v_neg, v_lt, v_le, v_gt, v_ge, v_eq, v_ne, v_max2, v_min2, v_mod, v_div, v_pow9, v_pow18, v_mulL, v_mulR, v_divmod, v_lenL, v_lenT, v_sum, v_eqL, v_listOf, v_inT2, v_sorted, sortB_f, v_sortL, v_sortT, v_sortDL, v_sortDT, v_sortDP, v_keep, v_tupL, v_tupT, v_sumL, v_sumT, v_app, v_neL, v_pow39, v_pow40, ob_nil, ob_zero, ob_1, ob_2, ob_3, ob_4, ob_5, ob_6, ob_7, ob_8, ll_n, ll_b, ll_i, ll_s, bs_n, bs_v, bs_l, bs_s, llA_ints, List.all_cons, List.all_nil, Bool.and_true, Bool.true_and, Bool.false_and, Bool.and_false, Bool.and_self, v_isN0, v_isNi, v_notN0, v_notNi, v_ixL, v_ixT, v_cutL, v_cutT, k_ii, k_ib, k_bi, k_bb, k_ll, k_lt, k_tl, k_tt, t_i, t_b, t_l, t_t, isR, if_true, true_and, and_true, and_self, if_false, if_pos, Bool.not_true, Bool.not_false, List.length_cons, List.length_nil, List.replicate, List.cons_append, List.nil_append, List.head?_cons, List.tail_cons, List.any_nil, List.any_cons, Bool.false_eq_true, Bool.or_false, Bool.false_or, beq_self_eq_true, Nat.reduceSub, Nat.reduceAdd, Nat.reduceLeDiff, Nat.reduceBEq, Nat.reduceEqDiff, reduceIte, eq_self, reduceCtorEq, bo_rvV, bo_rvL, bo_nil, bo_cons, bo_non, bo_valS, bo_int, bo_bool, bo_own, bo_src, kp_p1, kp_p2, kp_p3, kp_p4, kp_p5, kp_p6, kp_h, kp_d, kp_l1, kp_l2, kp_l3, kp_l4, kp_l5, kp_l6, kp_cups, kp_scoops, kp_rows, kp_looks, kp_held, kp_done, kp_choose, kp_nums, kp_stand, Int.reduceToNat, Int.reduceBEq, Nat.zero_add, Nat.reduceLT, u_x__law_pours_1, e]
    obtain ⟨s', q, l, hq, ih⟩ := gr_lc S1 S2 S3 S5 S6 m m0 ds (acc ++ [.int v]) s1 (fun d hd => H d (List.mem_cons_of_mem _ hd)) (by rw [List.length_append]; simp; omega)
    refine ⟨s', v :: q, by rw [List.length_cons, List.length_cons, l], fun y hy => ?_, ?_⟩
    · rcases List.mem_cons.mp hy with rfl | hy
      · exact ⟨a1, a2⟩
      · exact hq y hy
    · rw [lcD_cons_some st (by omega), ih, List.append_assoc]
      rfl
theorem sh_step (s s1 : Src) (S1 S2 S3 s5 s6 : Sl) (n i a v : Int) (A : List D) (j : Nat) (f5 : fre (some s5) = true) (f6 : fre (some s6) = true) (hS : S1 = .val (.int n)) (e : d__law_take [.own true (srcO s), .val (.int n)] = .ok (.val (.int a), [.own true (srcO s1), .val (.int n)])) (e1 : atI A a = some (.int v)) (e3 : ixD A.length a = some j) :
    (ofO (bName 5 (.int i) [.own true (srcO s), S1, S2, S3, .own false (.lst A), s5, s6])).bind w__law_shared_1 = .ok (.nx, [.own true (srcO s1), S1, S2, S3, .own false (.lst (A.set j (.int (v + 1)))), .val (.int i), .val (.int a)]) := by
  subst hS
  simp (maxSteps := 1000000) (disch := first | omega | exact Or.inl rfl | exact Or.inr rfl | exact f_non | exact f_val _ | exact f_own _ | (simp only [List.length_map, List.length_replicate, List.length_append, List.length_cons, List.length_nil, firstI_length, List.length_range, rowsD_length, List.length_drop, List.length_take, sortB_len, rangeI_len]; omega)) only [↓rb, ↓r_ofO, ↓r_den, ↓r_oX1, ↓r_oX2, ↓r_bX1, ↓r_bX2, ↓r_lX1, ↓r_lX2, ↓r_C, ↓r_Var, ↓r_Val, ↓r_Move, ↓r_fz, ↓r_ofD, ↓r_Op, ↓r_eOp, ↓r_Un, ↓r_CB, ↓r_eCB, ↓r_Mul, ↓r_Nil, ↓r_Cons, ↓r_Lst, ↓r_Tup, ↓r_Bl, ↓r_And, ↓r_Or, ↓r_NotM, ↓r_Yes, ↓r_If, ↓r_Chain, ↓r_Next, ↓r_Seq, ↓r_Bk, ↓r_Ct, ↓r_Never, ↓r_Ret, ↓r_RetN, ↓r_Expr, ↓r_sIf, ↓r_Set, ↓r_Asg, ↓r_Par, ↓r_bName, ↓r_bNil, ↓r_bCons, ↓r_bTup, ↓r_bTupL, ↓r_free, ↓f_non, ↓f_val, ↓f_own, ↓f_pin, ↓r_toSl, ↓r_fzR, ↓r_dAnd, ↓r_dOr, ↓r_dNot, ↓r_ixO, ↓r_Put, ↓r_Mut, ↓r_arNil, ↓r_arV, ↓r_arR, ↓r_Call, ↓r_CallK, ↓r_CallKD, ↓r_CallT, ↓r_For, ↓r_Lc, ↓r_iSeq, ↓r_iRng1, ↓r_iRng2, ↓r_iEnum, ↓r_iEnumA, ↓r_iEnumB, ↓r_TR1, ↓r_LenO, ↓r_NeO, ↓r_iZip, ↓r_iZipB, ↓r_LenSet, ↓r_step, ↓r_LR1, ↓r_LR2, ↓r_oNone, ↓r_oSome, ↓r_Cut, ↓r_Rev, ↓r_RevA, ↓r_keep, ↓r_Raise, ↓r_Try, ↓r_endX, ↓r_Exn, ↓r_Fld, ↓r_FldM, ↓r_FldAdd, ↓r_bFld, ↓r_Meth, ↓r_MethT, ↓r_Make, ↓r_Par3, ↓r_Par3E, ↓r_AugN, ↓r_AugPut, ↓f_exn, ↓nx_nil, ↓nx_n, ↓nx_v, ↓nx_o, ↓nx_x, ↓r_Isi, ↓r_IsiT, ↓r_Bor, ↓r_BorE, ↓r_noEx, ↓r_wipe0, ↓r_wipe1, ↓r_outs0, ↓r_outs1, ↓r_out1, ↓r_out2, ↓r_mkA0, ↓r_mkA1, ↓r_mkA2, ↓r_wb0, ↓r_wb1, ↓r_wb2, ↓r_Said, ↓r_hide0, ↓r_hide1, ↓r_hideV, ↓r_hideO, ↓r_hideN, ↓r_IsE, ↓r_IsE2, ↓r_iZip3, ↓r_Mt, ↓r_Pre, ↓r_CutO, ↓r_setOwn, ↓r_Copy, ↓r_pick0, ↓r_pick1, ↓r_val0, ↓r_val1, ↓r_Dc, ↓r_Get2, ↓r_IxK, ↓r_IxKO, ↓r_PutK, ↓r_Dic0, ↓r_dstep, ↓r_TryM, ↓r_suX0, ↓r_suX1, ↓r_EnumZip, ↓g0, ↓g1, ↓g2, ↓g3, ↓g4, ↓g5, ↓g6, ↓g7, ↓g8, ↓g9, ↓g10, ↓g11, ↓g12, ↓g13, ↓g14, ↓g15, ↓g16, ↓g17, ↓g18, ↓g19, ↓g20, ↓g21, ↓g22, ↓g23, ↓g24, ↓g25, ↓u0, ↓u1, ↓u2, ↓u3, ↓u4, ↓u5, ↓u6, ↓u7, ↓u8, ↓u9, ↓u10, ↓u11, ↓u12, ↓u13, ↓u14, ↓u15, ↓u16, ↓u17, ↓u18, ↓u19, ↓u20, ↓u21, ↓u22, ↓u23, ↓u24, ↓u25, k_int, v_eqE0, v_neE0, K_nb, K_ni, K_ns, K_nl, K_nt, K_bb, K_bi, K_bs, K_bl, K_bt, K_ib, K_ii, K_is, K_il, K_it, K_sb, K_si, K_ss, K_sl, K_st, K_lb, K_li, K_ls, K_ll, K_lt, K_tb, K_ti, K_ts, K_tl, K_tt, K_db, K_di, K_ds, K_dl, K_dt, t_n, t_d, t_s, r_outO1, r_outO2, r_Ask1, r_Ask2, v_TR, v_add, v_sub, v_neg, v_lt, v_le, v_gt, v_ge, v_eq, v_ne, v_max2, v_min2, v_mod, v_div, v_pow9, v_pow18, v_mulL, v_mulR, v_divmod, v_lenL, v_lenT, v_sum, v_eqL, v_listOf, v_inT2, v_sorted, sortB_f, v_sortL, v_sortT, v_sortDL, v_sortDT, v_sortDP, v_keep, v_tupL, v_tupT, v_sumL, v_sumT, v_app, v_neL, v_pow39, v_pow40, ob_nil, ob_zero, ob_1, ob_2, ob_3, ob_4, ob_5, ob_6, ob_7, ob_8, ll_n, ll_b, ll_i, ll_s, bs_n, bs_v, bs_l, bs_s, llA_ints, List.all_cons, List.all_nil, Bool.and_true, Bool.true_and, Bool.false_and, Bool.and_false, Bool.and_self, v_isN0, v_isNi, v_notN0, v_notNi, v_ixL, v_ixT, v_cutL, v_cutT, k_ii, k_ib, k_bi, k_bb, k_ll, k_lt, k_tl, k_tt, t_i, t_b, t_l, t_t, isR, if_true, true_and, and_true, and_self, if_false, if_pos, Bool.not_true, Bool.not_false, List.length_cons, List.length_nil, List.replicate, List.cons_append, List.nil_append, List.head?_cons, List.tail_cons, List.any_nil, List.any_cons, Bool.false_eq_true, Bool.or_false, Bool.false_or, beq_self_eq_true, Nat.reduceSub, Nat.reduceAdd, Nat.reduceLeDiff, Nat.reduceBEq, Nat.reduceEqDiff, reduceIte, eq_self, reduceCtorEq, bo_rvV, bo_rvL, bo_nil, bo_cons, bo_non, bo_valS, bo_int, bo_bool, bo_own, bo_src, kp_p1, kp_p2, kp_p3, kp_p4, kp_p5, kp_p6, kp_h, kp_d, kp_l1, kp_l2, kp_l3, kp_l4, kp_l5, kp_l6, kp_cups, kp_scoops, kp_rows, kp_looks, kp_held, kp_done, kp_choose, kp_nums, kp_stand, Int.reduceToNat, Int.reduceBEq, Nat.zero_add, Nat.reduceLT, f5, f6, u_w__law_shared_1, e, e1, e3]
theorem sh_loop (S2 S3 : Sl) (n : Int) (n1 : 1 ≤ n) (n40 : n ≤ 40) : ∀ (L : List Int) (s : Src) (A : List Int) (B : Int) (s5 s6 : Sl), (A.length : Int) = n → (∀ z ∈ A, 0 ≤ z ∧ z ≤ B) → fre (some s5) = true → fre (some s6) = true →
    ∃ (s' : Src) (A' : List Int) (s5' s6' : Sl), (A'.length : Int) = n ∧ (∀ z ∈ A', 0 ≤ z ∧ z ≤ B + L.length) ∧ forD (bName 5) w__law_shared_1 (L.map .int) [.own true (srcO s), .val (.int n), S2, S3, .own false (.lst (A.map .int)), s5, s6] = .ok (.nx, [.own true (srcO s'), .val (.int n), S2, S3, .own false (.lst (A'.map .int)), s5', s6'])
  | [], s, A, B, s5, s6, hl, hA, f5, f6 => ⟨s, A, s5, s6, hl, fun z hz => by have := hA z hz; simp; omega, rfl⟩
  | i :: L, s, A, B, s5, s6, hl, hA, f5, f6 => by
    have e := e_take s n (by omega) (by omega)
    have a0 := tkV_nn s (m := n) (by omega)
    have a1 := tkV_lt s (m := n) (by omega)
    generalize tkV s n = a at *
    generalize tkS s n = s1 at *
    have e1 := v_atG A a a0 (by omega)
    have er := sh_step s s1 _ S2 S3 s5 s6 n i a _ (A.map .int) a.toNat f5 f6 rfl e e1 (by rw [List.length_map, v_ixD0 _ _ a0 (by omega)])
    have hv : 0 ≤ A.getD a.toNat 0 ∧ A.getD a.toNat 0 ≤ B := by
      rw [List.getD_eq_getElem?_getD, List.getElem?_eq_getElem (by omega)]
      exact hA _ (List.getElem_mem _)
    generalize A.getD a.toNat 0 = v at *
    obtain ⟨s', A', s5', s6', l', h', ih⟩ := sh_loop S2 S3 n n1 n40 L s1 (A.set a.toNat (v + 1)) (B + 1) (.val (.int i)) (.val (.int a)) (by rw [List.length_set]; exact hl) (fun z hz => by
      rcases List.mem_or_eq_of_mem_set hz with hz | rfl
      · have := hA z hz; omega
      · omega) rfl rfl
    refine ⟨s', A', s5', s6', l', fun z hz => by have := h' z hz; rw [List.length_cons]; omega, ?_⟩
    rw [List.map_cons]
    refine (forD_nx er).trans ?_
    rw [← List.map_set]
    exact ih
theorem sh_out (s s1 : Src) (n t : Int) (Z A : List D) (s5 s6 : Sl) (k1 : pMul (.own (.lst [PyData.int 0])) (.int n) = some (.own (.lst Z))) (t0 : 0 ≤ t) (t9 : t ≤ 9)
    (lp : forD (bName 5) w__law_shared_1 (rangeD 0 t.toNat) [.own true (srcO s), .val (.int n), .val (.int t), .val (.bool false), .own false (.lst Z), .non, .non] = .ok (.nx, [.own true (srcO s1), .val (.int n), .val (.int t), .val (.bool false), .own false (.lst A), s5, s6])) :
    d__law_shared [.own true (srcO s), .val (.int n), .val (.int t), .val (.bool false)] = .ok (.val (.tuple A), [.own true (srcO s1), .val (.int n), .val (.int t), .val (.bool false)]) := by
  rw [q__law_shared]
  simp (maxSteps := 1000000) (disch := first | omega | exact Or.inl rfl | exact Or.inr rfl | exact f_non | exact f_val _ | exact f_own _ | (simp only [List.length_map, List.length_replicate, List.length_append, List.length_cons, List.length_nil, firstI_length, List.length_range, rowsD_length, List.length_drop, List.length_take, sortB_len, rangeI_len]; omega)) only [↓rb, ↓r_ofO, ↓r_den, ↓r_oX1, ↓r_oX2, ↓r_bX1, ↓r_bX2, ↓r_lX1, ↓r_lX2, ↓r_C, ↓r_Var, ↓r_Val, ↓r_Move, ↓r_fz, ↓r_ofD, ↓r_Op, ↓r_eOp, ↓r_Un, ↓r_CB, ↓r_eCB, ↓r_Mul, ↓r_Nil, ↓r_Cons, ↓r_Lst, ↓r_Tup, ↓r_Bl, ↓r_And, ↓r_Or, ↓r_NotM, ↓r_Yes, ↓r_If, ↓r_Chain, ↓r_Next, ↓r_Seq, ↓r_Bk, ↓r_Ct, ↓r_Never, ↓r_Ret, ↓r_RetN, ↓r_Expr, ↓r_sIf, ↓r_Set, ↓r_Asg, ↓r_Par, ↓r_bName, ↓r_bNil, ↓r_bCons, ↓r_bTup, ↓r_bTupL, ↓r_free, ↓f_non, ↓f_val, ↓f_own, ↓f_pin, ↓r_toSl, ↓r_fzR, ↓r_dAnd, ↓r_dOr, ↓r_dNot, ↓r_ixO, ↓r_Put, ↓r_Mut, ↓r_arNil, ↓r_arV, ↓r_arR, ↓r_Call, ↓r_CallK, ↓r_CallKD, ↓r_CallT, ↓r_For, ↓r_Lc, ↓r_iSeq, ↓r_iRng1, ↓r_iRng2, ↓r_iEnum, ↓r_iEnumA, ↓r_iEnumB, ↓r_TR1, ↓r_LenO, ↓r_NeO, ↓r_iZip, ↓r_iZipB, ↓r_LenSet, ↓r_step, ↓r_LR1, ↓r_LR2, ↓r_oNone, ↓r_oSome, ↓r_Cut, ↓r_Rev, ↓r_RevA, ↓r_keep, ↓r_Raise, ↓r_Try, ↓r_endX, ↓r_Exn, ↓r_Fld, ↓r_FldM, ↓r_FldAdd, ↓r_bFld, ↓r_Meth, ↓r_MethT, ↓r_Make, ↓r_Par3, ↓r_Par3E, ↓r_AugN, ↓r_AugPut, ↓f_exn, ↓nx_nil, ↓nx_n, ↓nx_v, ↓nx_o, ↓nx_x, ↓r_Isi, ↓r_IsiT, ↓r_Bor, ↓r_BorE, ↓r_noEx, ↓r_wipe0, ↓r_wipe1, ↓r_outs0, ↓r_outs1, ↓r_out1, ↓r_out2, ↓r_mkA0, ↓r_mkA1, ↓r_mkA2, ↓r_wb0, ↓r_wb1, ↓r_wb2, ↓r_Said, ↓r_hide0, ↓r_hide1, ↓r_hideV, ↓r_hideO, ↓r_hideN, ↓r_IsE, ↓r_IsE2, ↓r_iZip3, ↓r_Mt, ↓r_Pre, ↓r_CutO, ↓r_setOwn, ↓r_Copy, ↓r_pick0, ↓r_pick1, ↓r_val0, ↓r_val1, ↓r_Dc, ↓r_Get2, ↓r_IxK, ↓r_IxKO, ↓r_PutK, ↓r_Dic0, ↓r_dstep, ↓r_TryM, ↓r_suX0, ↓r_suX1, ↓r_EnumZip, ↓g0, ↓g1, ↓g2, ↓g3, ↓g4, ↓g5, ↓g6, ↓g7, ↓g8, ↓g9, ↓g10, ↓g11, ↓g12, ↓g13, ↓g14, ↓g15, ↓g16, ↓g17, ↓g18, ↓g19, ↓g20, ↓g21, ↓g22, ↓g23, ↓g24, ↓g25, ↓u0, ↓u1, ↓u2, ↓u3, ↓u4, ↓u5, ↓u6, ↓u7, ↓u8, ↓u9, ↓u10, ↓u11, ↓u12, ↓u13, ↓u14, ↓u15, ↓u16, ↓u17, ↓u18, ↓u19, ↓u20, ↓u21, ↓u22, ↓u23, ↓u24, ↓u25, k_int, v_eqE0, v_neE0, K_nb, K_ni, K_ns, K_nl, K_nt, K_bb, K_bi, K_bs, K_bl, K_bt, K_ib, K_ii, K_is, K_il, K_it, K_sb, K_si, K_ss, K_sl, K_st, K_lb, K_li, K_ls, K_ll, K_lt, K_tb, K_ti, K_ts, K_tl, K_tt, K_db, K_di, K_ds, K_dl, K_dt, t_n, t_d, t_s, r_outO1, r_outO2, r_Ask1, r_Ask2, v_TR, v_add, v_sub, v_neg, v_lt, v_le, v_gt, v_ge, v_eq, v_ne, v_max2, v_min2, v_mod, v_div, v_pow9, v_pow18, v_mulL, v_mulR, v_divmod, v_lenL, v_lenT, v_sum, v_eqL, v_listOf, v_inT2, v_sorted, sortB_f, v_sortL, v_sortT, v_sortDL, v_sortDT, v_sortDP, v_keep, v_tupL, v_tupT, v_sumL, v_sumT, v_app, v_neL, v_pow39, v_pow40, ob_nil, ob_zero, ob_1, ob_2, ob_3, ob_4, ob_5, ob_6, ob_7, ob_8, ll_n, ll_b, ll_i, ll_s, bs_n, bs_v, bs_l, bs_s, llA_ints, List.all_cons, List.all_nil, Bool.and_true, Bool.true_and, Bool.false_and, Bool.and_false, Bool.and_self, v_isN0, v_isNi, v_notN0, v_notNi, v_ixL, v_ixT, v_cutL, v_cutT, k_ii, k_ib, k_bi, k_bb, k_ll, k_lt, k_tl, k_tt, t_i, t_b, t_l, t_t, isR, if_true, true_and, and_true, and_self, if_false, if_pos, Bool.not_true, Bool.not_false, List.length_cons, List.length_nil, List.replicate, List.cons_append, List.nil_append, List.head?_cons, List.tail_cons, List.any_nil, List.any_cons, Bool.false_eq_true, Bool.or_false, Bool.false_or, beq_self_eq_true, Nat.reduceSub, Nat.reduceAdd, Nat.reduceLeDiff, Nat.reduceBEq, Nat.reduceEqDiff, reduceIte, eq_self, reduceCtorEq, bo_rvV, bo_rvL, bo_nil, bo_cons, bo_non, bo_valS, bo_int, bo_bool, bo_own, bo_src, kp_p1, kp_p2, kp_p3, kp_p4, kp_p5, kp_p6, kp_h, kp_d, kp_l1, kp_l2, kp_l3, kp_l4, kp_l5, kp_l6, kp_cups, kp_scoops, kp_rows, kp_looks, kp_held, kp_done, kp_choose, kp_nums, kp_stand, Int.reduceToNat, Int.reduceBEq, Nat.zero_add, Nat.reduceLT, ↓k1, lp]
theorem sh_outH (s s1 s2 : Src) (n t a : Int) (Z A : List D) (j : Nat) (s5 s6 : Sl) (k1 : pMul (.own (.lst [PyData.int 0])) (.int n) = some (.own (.lst Z))) (e : d__law_take [.own true (srcO s), .val (.int n)] = .ok (.val (.int a), [.own true (srcO s1), .val (.int n)])) (e3 : ixD Z.length a = some j)
    (lp : forD (bName 5) w__law_shared_1 (rangeD 0 2) [.own true (srcO s1), .val (.int n), .val (.int 2), .val (.bool true), .own false (.lst (Z.set j (.int (t - 2)))), .non, .non] = .ok (.nx, [.own true (srcO s2), .val (.int n), .val (.int 2), .val (.bool true), .own false (.lst A), s5, s6])) :
    d__law_shared [.own true (srcO s), .val (.int n), .val (.int t), .val (.bool true)] = .ok (.val (.tuple A), [.own true (srcO s2), .val (.int n), .val (.int t), .val (.bool true)]) := by
  rw [q__law_shared]
  simp (maxSteps := 1000000) (disch := first | omega | exact Or.inl rfl | exact Or.inr rfl | exact f_non | exact f_val _ | exact f_own _ | (simp only [List.length_map, List.length_replicate, List.length_append, List.length_cons, List.length_nil, firstI_length, List.length_range, rowsD_length, List.length_drop, List.length_take, sortB_len, rangeI_len]; omega)) only [↓rb, ↓r_ofO, ↓r_den, ↓r_oX1, ↓r_oX2, ↓r_bX1, ↓r_bX2, ↓r_lX1, ↓r_lX2, ↓r_C, ↓r_Var, ↓r_Val, ↓r_Move, ↓r_fz, ↓r_ofD, ↓r_Op, ↓r_eOp, ↓r_Un, ↓r_CB, ↓r_eCB, ↓r_Mul, ↓r_Nil, ↓r_Cons, ↓r_Lst, ↓r_Tup, ↓r_Bl, ↓r_And, ↓r_Or, ↓r_NotM, ↓r_Yes, ↓r_If, ↓r_Chain, ↓r_Next, ↓r_Seq, ↓r_Bk, ↓r_Ct, ↓r_Never, ↓r_Ret, ↓r_RetN, ↓r_Expr, ↓r_sIf, ↓r_Set, ↓r_Asg, ↓r_Par, ↓r_bName, ↓r_bNil, ↓r_bCons, ↓r_bTup, ↓r_bTupL, ↓r_free, ↓f_non, ↓f_val, ↓f_own, ↓f_pin, ↓r_toSl, ↓r_fzR, ↓r_dAnd, ↓r_dOr, ↓r_dNot, ↓r_ixO, ↓r_Put, ↓r_Mut, ↓r_arNil, ↓r_arV, ↓r_arR, ↓r_Call, ↓r_CallK, ↓r_CallKD, ↓r_CallT, ↓r_For, ↓r_Lc, ↓r_iSeq, ↓r_iRng1, ↓r_iRng2, ↓r_iEnum, ↓r_iEnumA, ↓r_iEnumB, ↓r_TR1, ↓r_LenO, ↓r_NeO, ↓r_iZip, ↓r_iZipB, ↓r_LenSet, ↓r_step, ↓r_LR1, ↓r_LR2, ↓r_oNone, ↓r_oSome, ↓r_Cut, ↓r_Rev, ↓r_RevA, ↓r_keep, ↓r_Raise, ↓r_Try, ↓r_endX, ↓r_Exn, ↓r_Fld, ↓r_FldM, ↓r_FldAdd, ↓r_bFld, ↓r_Meth, ↓r_MethT, ↓r_Make, ↓r_Par3, ↓r_Par3E, ↓r_AugN, ↓r_AugPut, ↓f_exn, ↓nx_nil, ↓nx_n, ↓nx_v, ↓nx_o, ↓nx_x, ↓r_Isi, ↓r_IsiT, ↓r_Bor, ↓r_BorE, ↓r_noEx, ↓r_wipe0, ↓r_wipe1, ↓r_outs0, ↓r_outs1, ↓r_out1, ↓r_out2, ↓r_mkA0, ↓r_mkA1, ↓r_mkA2, ↓r_wb0, ↓r_wb1, ↓r_wb2, ↓r_Said, ↓r_hide0, ↓r_hide1, ↓r_hideV, ↓r_hideO, ↓r_hideN, ↓r_IsE, ↓r_IsE2, ↓r_iZip3, ↓r_Mt, ↓r_Pre, ↓r_CutO, ↓r_setOwn, ↓r_Copy, ↓r_pick0, ↓r_pick1, ↓r_val0, ↓r_val1, ↓r_Dc, ↓r_Get2, ↓r_IxK, ↓r_IxKO, ↓r_PutK, ↓r_Dic0, ↓r_dstep, ↓r_TryM, ↓r_suX0, ↓r_suX1, ↓r_EnumZip, ↓g0, ↓g1, ↓g2, ↓g3, ↓g4, ↓g5, ↓g6, ↓g7, ↓g8, ↓g9, ↓g10, ↓g11, ↓g12, ↓g13, ↓g14, ↓g15, ↓g16, ↓g17, ↓g18, ↓g19, ↓g20, ↓g21, ↓g22, ↓g23, ↓g24, ↓g25, ↓u0, ↓u1, ↓u2, ↓u3, ↓u4, ↓u5, ↓u6, ↓u7, ↓u8, ↓u9, ↓u10, ↓u11, ↓u12, ↓u13, ↓u14, ↓u15, ↓u16, ↓u17, ↓u18, ↓u19, ↓u20, ↓u21, ↓u22, ↓u23, ↓u24, ↓u25, k_int, v_eqE0, v_neE0, K_nb, K_ni, K_ns, K_nl, K_nt, K_bb, K_bi, K_bs, K_bl, K_bt, K_ib, K_ii, K_is, K_il, K_it, K_sb, K_si, K_ss, K_sl, K_st, K_lb, K_li, K_ls, K_ll, K_lt, K_tb, K_ti, K_ts, K_tl, K_tt, K_db, K_di, K_ds, K_dl, K_dt, t_n, t_d, t_s, r_outO1, r_outO2, r_Ask1, r_Ask2, v_TR, v_add, v_sub, v_neg, v_lt, v_le, v_gt, v_ge, v_eq, v_ne, v_max2, v_min2, v_mod, v_div, v_pow9, v_pow18, v_mulL, v_mulR, v_divmod, v_lenL, v_lenT, v_sum, v_eqL, v_listOf, v_inT2, v_sorted, sortB_f, v_sortL, v_sortT, v_sortDL, v_sortDT, v_sortDP, v_keep, v_tupL, v_tupT, v_sumL, v_sumT, v_app, v_neL, v_pow39, v_pow40, ob_nil, ob_zero, ob_1, ob_2, ob_3, ob_4, ob_5, ob_6, ob_7, ob_8, ll_n, ll_b, ll_i, ll_s, bs_n, bs_v, bs_l, bs_s, llA_ints, List.all_cons, List.all_nil, Bool.and_true, Bool.true_and, Bool.false_and, Bool.and_false, Bool.and_self, v_isN0, v_isNi, v_notN0, v_notNi, v_ixL, v_ixT, v_cutL, v_cutT, k_ii, k_ib, k_bi, k_bb, k_ll, k_lt, k_tl, k_tt, t_i, t_b, t_l, t_t, isR, if_true, true_and, and_true, and_self, if_false, if_pos, Bool.not_true, Bool.not_false, List.length_cons, List.length_nil, List.replicate, List.cons_append, List.nil_append, List.head?_cons, List.tail_cons, List.any_nil, List.any_cons, Bool.false_eq_true, Bool.or_false, Bool.false_or, beq_self_eq_true, Nat.reduceSub, Nat.reduceAdd, Nat.reduceLeDiff, Nat.reduceBEq, Nat.reduceEqDiff, reduceIte, eq_self, reduceCtorEq, bo_rvV, bo_rvL, bo_nil, bo_cons, bo_non, bo_valS, bo_int, bo_bool, bo_own, bo_src, kp_p1, kp_p2, kp_p3, kp_p4, kp_p5, kp_p6, kp_h, kp_d, kp_l1, kp_l2, kp_l3, kp_l4, kp_l5, kp_l6, kp_cups, kp_scoops, kp_rows, kp_looks, kp_held, kp_done, kp_choose, kp_nums, kp_stand, Int.reduceToNat, Int.reduceBEq, Nat.zero_add, Nat.reduceLT, ↓k1, e, e3, lp]
theorem e_shared (s : Src) (n t : Int) (b : Bool) (n1 : 1 ≤ n) (n40 : n ≤ 40) (t2 : 2 ≤ t) (t9 : t ≤ 9) : ∃ (s' : Src) (q : List Int), d__law_shared [.own true (srcO s), .val (.int n), .val (.int t), .val (.bool b)] = .ok (.val (.tuple (q.map .int)), [.own true (srcO s'), .val (.int n), .val (.int t), .val (.bool b)]) ∧ (q.length : Int) = n ∧ ∀ z ∈ q, 0 ≤ z ∧ z ≤ 100 := by
  have Z := zero_ok (n := n) (by omega)
  have k1 : pMul (.own (.lst [PyData.int 0])) (.int n) = some (.own (.lst ((zeroI n).map .int))) := by
    unfold zeroI
    rw [List.map_replicate]
    exact v_rep1 (j := n) _ (by omega) (by omega)
  have z0 : ∀ z ∈ zeroI n, z = 0 := fun z hz => by unfold zeroI at hz; exact (List.mem_replicate.mp hz).2
  cases b with
  | false =>
    obtain ⟨s1, A, s5, s6, l, h, lp⟩ := sh_loop (.val (.int t)) (.val (.bool false)) n n1 n40 (rangeI 0 t.toNat) s (zeroI n) 0 .non .non Z.len (fun z hz => by have := z0 z hz; omega) rfl rfl
    rw [rangeI_len] at h
    exact ⟨s1, A, sh_out s s1 n t _ _ s5 s6 k1 (by omega) t9 (by rw [rangeD_I]; exact lp), l, fun z hz => by have := h z hz; omega⟩
  | true =>
    have e := e_take s n (by omega) (by omega)
    have a0 := tkV_nn s (m := n) (by omega)
    have a1 := tkV_lt s (m := n) (by omega)
    generalize tkV s n = a at *
    generalize tkS s n = s1 at *
    have zl := Z.len
    obtain ⟨s2, A, s5, s6, l, h, lp⟩ := sh_loop (.val (.int 2)) (.val (.bool true)) n n1 n40 (rangeI 0 2) s1 ((zeroI n).set a.toNat (t - 2)) 7 .non .non (by rw [List.length_set]; exact zl) (fun z hz => by
      rcases List.mem_or_eq_of_mem_set hz with hz | rfl
      · have := z0 z hz; omega
      · omega) rfl rfl
    rw [rangeI_len] at h
    exact ⟨s2, A, sh_outH s s1 s2 n t a _ _ a.toNat s5 s6 k1 e (by rw [List.length_map, v_ixD0 _ _ a0 (by omega)]) (by rw [rangeD_I, ← List.map_set]; exact lp), l, fun z hz => by have := h z hz; omega⟩
theorem pr_great (s s1 : Src) (n S2 : Sl) (w m i nn : Int) (F Q : List D) (s6 : Sl) (f6 : fre (some s6) = true) (hn : n = .val (.int nn)) (n0 : 0 ≤ nn) (n40 : nn ≤ 40) (hw : decide (w < 3) = true) (hF : F.length ≤ 1000)
    (lc : lcD [7] (bName 7) tYesM x__law_pours_1 (rangeD 0 nn.toNat) [] [.own true (srcO s), n, S2, .val (.int w), .val (.int m), .own false (.lst F), .val (.int i), .non] = .ok (Q, [.own true (srcO s1), n, S2, .val (.int w), .val (.int m), .own false (.lst F), .val (.int i), .non])) :
    (ofO (bName 6 (.int i) [.own true (srcO s), n, S2, .val (.int w), .val (.int m), .own false (.lst F), s6, .non])).bind w__law_pours_1 = .ok (.nx, [.own true (srcO s1), n, S2, .val (.int w), .val (.int m), .own false (.lst (F ++ [.tuple Q])), .val (.int i), .non]) := by
  subst hn
  simp (maxSteps := 1000000) (disch := first | omega | exact Or.inl rfl | exact Or.inr rfl | exact f_non | exact f_val _ | exact f_own _ | (simp only [List.length_map, List.length_replicate, List.length_append, List.length_cons, List.length_nil, firstI_length, List.length_range, rowsD_length, List.length_drop, List.length_take, sortB_len, rangeI_len]; omega)) only [↓rb, ↓r_ofO, ↓r_den, ↓r_oX1, ↓r_oX2, ↓r_bX1, ↓r_bX2, ↓r_lX1, ↓r_lX2, ↓r_C, ↓r_Var, ↓r_Val, ↓r_Move, ↓r_fz, ↓r_ofD, ↓r_Op, ↓r_eOp, ↓r_Un, ↓r_CB, ↓r_eCB, ↓r_Mul, ↓r_Nil, ↓r_Cons, ↓r_Lst, ↓r_Tup, ↓r_Bl, ↓r_And, ↓r_Or, ↓r_NotM, ↓r_Yes, ↓r_If, ↓r_Chain, ↓r_Next, ↓r_Seq, ↓r_Bk, ↓r_Ct, ↓r_Never, ↓r_Ret, ↓r_RetN, ↓r_Expr, ↓r_sIf, ↓r_Set, ↓r_Asg, ↓r_Par, ↓r_bName, ↓r_bNil, ↓r_bCons, ↓r_bTup, ↓r_bTupL, ↓r_free, ↓f_non, ↓f_val, ↓f_own, ↓f_pin, ↓r_toSl, ↓r_fzR, ↓r_dAnd, ↓r_dOr, ↓r_dNot, ↓r_ixO, ↓r_Put, ↓r_Mut, ↓r_arNil, ↓r_arV, ↓r_arR, ↓r_Call, ↓r_CallK, ↓r_CallKD, ↓r_CallT, ↓r_For, ↓r_Lc, ↓r_iSeq, ↓r_iRng1, ↓r_iRng2, ↓r_iEnum, ↓r_iEnumA, ↓r_iEnumB, ↓r_TR1, ↓r_LenO, ↓r_NeO, ↓r_iZip, ↓r_iZipB, ↓r_LenSet, ↓r_step, ↓r_LR1, ↓r_LR2, ↓r_oNone, ↓r_oSome, ↓r_Cut, ↓r_Rev, ↓r_RevA, ↓r_keep, ↓r_Raise, ↓r_Try, ↓r_endX, ↓r_Exn, ↓r_Fld, ↓r_FldM, ↓r_FldAdd, ↓r_bFld, ↓r_Meth, ↓r_MethT, ↓r_Make, ↓r_Par3, ↓r_Par3E, ↓r_AugN, ↓r_AugPut, ↓f_exn, ↓nx_nil, ↓nx_n, ↓nx_v, ↓nx_o, ↓nx_x, ↓r_Isi, ↓r_IsiT, ↓r_Bor, ↓r_BorE, ↓r_noEx, ↓r_wipe0, ↓r_wipe1, ↓r_outs0, ↓r_outs1, ↓r_out1, ↓r_out2, ↓r_mkA0, ↓r_mkA1, ↓r_mkA2, ↓r_wb0, ↓r_wb1, ↓r_wb2, ↓r_Said, ↓r_hide0, ↓r_hide1, ↓r_hideV, ↓r_hideO, ↓r_hideN, ↓r_IsE, ↓r_IsE2, ↓r_iZip3, ↓r_Mt, ↓r_Pre, ↓r_CutO, ↓r_setOwn, ↓r_Copy, ↓r_pick0, ↓r_pick1, ↓r_val0, ↓r_val1, ↓r_Dc, ↓r_Get2, ↓r_IxK, ↓r_IxKO, ↓r_PutK, ↓r_Dic0, ↓r_dstep, ↓r_TryM, ↓r_suX0, ↓r_suX1, ↓r_EnumZip, ↓g0, ↓g1, ↓g2, ↓g3, ↓g4, ↓g5, ↓g6, ↓g7, ↓g8, ↓g9, ↓g10, ↓g11, ↓g12, ↓g13, ↓g14, ↓g15, ↓g16, ↓g17, ↓g18, ↓g19, ↓g20, ↓g21, ↓g22, ↓g23, ↓g24, ↓g25, ↓u0, ↓u1, ↓u2, ↓u3, ↓u4, ↓u5, ↓u6, ↓u7, ↓u8, ↓u9, ↓u10, ↓u11, ↓u12, ↓u13, ↓u14, ↓u15, ↓u16, ↓u17, ↓u18, ↓u19, ↓u20, ↓u21, ↓u22, ↓u23, ↓u24, ↓u25, k_int, v_eqE0, v_neE0, K_nb, K_ni, K_ns, K_nl, K_nt, K_bb, K_bi, K_bs, K_bl, K_bt, K_ib, K_ii, K_is, K_il, K_it, K_sb, K_si, K_ss, K_sl, K_st, K_lb, K_li, K_ls, K_ll, K_lt, K_tb, K_ti, K_ts, K_tl, K_tt, K_db, K_di, K_ds, K_dl, K_dt, t_n, t_d, t_s, r_outO1, r_outO2, r_Ask1, r_Ask2, v_TR, v_add, v_sub, v_neg, v_lt, v_le, v_gt, v_ge, v_eq, v_ne, v_max2, v_min2, v_mod, v_div, v_pow9, v_pow18, v_mulL, v_mulR, v_divmod, v_lenL, v_lenT, v_sum, v_eqL, v_listOf, v_inT2, v_sorted, sortB_f, v_sortL, v_sortT, v_sortDL, v_sortDT, v_sortDP, v_keep, v_tupL, v_tupT, v_sumL, v_sumT, v_app, v_neL, v_pow39, v_pow40, ob_nil, ob_zero, ob_1, ob_2, ob_3, ob_4, ob_5, ob_6, ob_7, ob_8, ll_n, ll_b, ll_i, ll_s, bs_n, bs_v, bs_l, bs_s, llA_ints, List.all_cons, List.all_nil, Bool.and_true, Bool.true_and, Bool.false_and, Bool.and_false, Bool.and_self, v_isN0, v_isNi, v_notN0, v_notNi, v_ixL, v_ixT, v_cutL, v_cutT, k_ii, k_ib, k_bi, k_bb, k_ll, k_lt, k_tl, k_tt, t_i, t_b, t_l, t_t, isR, if_true, true_and, and_true, and_self, if_false, if_pos, Bool.not_true, Bool.not_false, List.length_cons, List.length_nil, List.replicate, List.cons_append, List.nil_append, List.head?_cons, List.tail_cons, List.any_nil, List.any_cons, Bool.false_eq_true, Bool.or_false, Bool.false_or, beq_self_eq_true, Nat.reduceSub, Nat.reduceAdd, Nat.reduceLeDiff, Nat.reduceBEq, Nat.reduceEqDiff, reduceIte, eq_self, reduceCtorEq, bo_rvV, bo_rvL, bo_nil, bo_cons, bo_non, bo_valS, bo_int, bo_bool, bo_own, bo_src, kp_p1, kp_p2, kp_p3, kp_p4, kp_p5, kp_p6, kp_h, kp_d, kp_l1, kp_l2, kp_l3, kp_l4, kp_l5, kp_l6, kp_cups, kp_scoops, kp_rows, kp_looks, kp_held, kp_done, kp_choose, kp_nums, kp_stand, Int.reduceToNat, Int.reduceBEq, Nat.zero_add, Nat.reduceLT, f6, u_w__law_pours_1, hw, lc]
theorem pr_shared (s s1 : Src) (S2 : Sl) (w m i nn : Int) (b : Bool) (F Q : List D) (s6 : Sl) (f6 : fre (some s6) = true) (hw : decide (w < 3) = false) (hb : (w == 4) = b) (hF : F.length ≤ 1000)
    (e : d__law_shared [.own true (srcO s), .val (.int nn), .val (.int m), .val (.bool b)] = .ok (.val (.tuple Q), [.own true (srcO s1), .val (.int nn), .val (.int m), .val (.bool b)])) :
    (ofO (bName 6 (.int i) [.own true (srcO s), .val (.int nn), S2, .val (.int w), .val (.int m), .own false (.lst F), s6, .non])).bind w__law_pours_1 = .ok (.nx, [.own true (srcO s1), .val (.int nn), S2, .val (.int w), .val (.int m), .own false (.lst (F ++ [.tuple Q])), .val (.int i), .non]) := by
  simp (maxSteps := 1000000) (disch := first | omega | exact Or.inl rfl | exact Or.inr rfl | exact f_non | exact f_val _ | exact f_own _ | (simp only [List.length_map, List.length_replicate, List.length_append, List.length_cons, List.length_nil, firstI_length, List.length_range, rowsD_length, List.length_drop, List.length_take, sortB_len, rangeI_len]; omega)) only [↓rb, ↓r_ofO, ↓r_den, ↓r_oX1, ↓r_oX2, ↓r_bX1, ↓r_bX2, ↓r_lX1, ↓r_lX2, ↓r_C, ↓r_Var, ↓r_Val, ↓r_Move, ↓r_fz, ↓r_ofD, ↓r_Op, ↓r_eOp, ↓r_Un, ↓r_CB, ↓r_eCB, ↓r_Mul, ↓r_Nil, ↓r_Cons, ↓r_Lst, ↓r_Tup, ↓r_Bl, ↓r_And, ↓r_Or, ↓r_NotM, ↓r_Yes, ↓r_If, ↓r_Chain, ↓r_Next, ↓r_Seq, ↓r_Bk, ↓r_Ct, ↓r_Never, ↓r_Ret, ↓r_RetN, ↓r_Expr, ↓r_sIf, ↓r_Set, ↓r_Asg, ↓r_Par, ↓r_bName, ↓r_bNil, ↓r_bCons, ↓r_bTup, ↓r_bTupL, ↓r_free, ↓f_non, ↓f_val, ↓f_own, ↓f_pin, ↓r_toSl, ↓r_fzR, ↓r_dAnd, ↓r_dOr, ↓r_dNot, ↓r_ixO, ↓r_Put, ↓r_Mut, ↓r_arNil, ↓r_arV, ↓r_arR, ↓r_Call, ↓r_CallK, ↓r_CallKD, ↓r_CallT, ↓r_For, ↓r_Lc, ↓r_iSeq, ↓r_iRng1, ↓r_iRng2, ↓r_iEnum, ↓r_iEnumA, ↓r_iEnumB, ↓r_TR1, ↓r_LenO, ↓r_NeO, ↓r_iZip, ↓r_iZipB, ↓r_LenSet, ↓r_step, ↓r_LR1, ↓r_LR2, ↓r_oNone, ↓r_oSome, ↓r_Cut, ↓r_Rev, ↓r_RevA, ↓r_keep, ↓r_Raise, ↓r_Try, ↓r_endX, ↓r_Exn, ↓r_Fld, ↓r_FldM, ↓r_FldAdd, ↓r_bFld, ↓r_Meth, ↓r_MethT, ↓r_Make, ↓r_Par3, ↓r_Par3E, ↓r_AugN, ↓r_AugPut, ↓f_exn, ↓nx_nil, ↓nx_n, ↓nx_v, ↓nx_o, ↓nx_x, ↓r_Isi, ↓r_IsiT, ↓r_Bor, ↓r_BorE, ↓r_noEx, ↓r_wipe0, ↓r_wipe1, ↓r_outs0, ↓r_outs1, ↓r_out1, ↓r_out2, ↓r_mkA0, ↓r_mkA1, ↓r_mkA2, ↓r_wb0, ↓r_wb1, ↓r_wb2, ↓r_Said, ↓r_hide0, ↓r_hide1, ↓r_hideV, ↓r_hideO, ↓r_hideN, ↓r_IsE, ↓r_IsE2, ↓r_iZip3, ↓r_Mt, ↓r_Pre, ↓r_CutO, ↓r_setOwn, ↓r_Copy, ↓r_pick0, ↓r_pick1, ↓r_val0, ↓r_val1, ↓r_Dc, ↓r_Get2, ↓r_IxK, ↓r_IxKO, ↓r_PutK, ↓r_Dic0, ↓r_dstep, ↓r_TryM, ↓r_suX0, ↓r_suX1, ↓r_EnumZip, ↓g0, ↓g1, ↓g2, ↓g3, ↓g4, ↓g5, ↓g6, ↓g7, ↓g8, ↓g9, ↓g10, ↓g11, ↓g12, ↓g13, ↓g14, ↓g15, ↓g16, ↓g17, ↓g18, ↓g19, ↓g20, ↓g21, ↓g22, ↓g23, ↓g24, ↓g25, ↓u0, ↓u1, ↓u2, ↓u3, ↓u4, ↓u5, ↓u6, ↓u7, ↓u8, ↓u9, ↓u10, ↓u11, ↓u12, ↓u13, ↓u14, ↓u15, ↓u16, ↓u17, ↓u18, ↓u19, ↓u20, ↓u21, ↓u22, ↓u23, ↓u24, ↓u25, k_int, v_eqE0, v_neE0, K_nb, K_ni, K_ns, K_nl, K_nt, K_bb, K_bi, K_bs, K_bl, K_bt, K_ib, K_ii, K_is, K_il, K_it, K_sb, K_si, K_ss, K_sl, K_st, K_lb, K_li, K_ls, K_ll, K_lt, K_tb, K_ti, K_ts, K_tl, K_tt, K_db, K_di, K_ds, K_dl, K_dt, t_n, t_d, t_s, r_outO1, r_outO2, r_Ask1, r_Ask2, v_TR, v_add, v_sub, v_neg, v_lt, v_le, v_gt, v_ge, v_eq, v_ne, v_max2, v_min2, v_mod, v_div, v_pow9, v_pow18, v_mulL, v_mulR, v_divmod, v_lenL, v_lenT, v_sum, v_eqL, v_listOf, v_inT2, v_sorted, sortB_f, v_sortL, v_sortT, v_sortDL, v_sortDT, v_sortDP, v_keep, v_tupL, v_tupT, v_sumL, v_sumT, v_app, v_neL, v_pow39, v_pow40, ob_nil, ob_zero, ob_1, ob_2, ob_3, ob_4, ob_5, ob_6, ob_7, ob_8, ll_n, ll_b, ll_i, ll_s, bs_n, bs_v, bs_l, bs_s, llA_ints, List.all_cons, List.all_nil, Bool.and_true, Bool.true_and, Bool.false_and, Bool.and_false, Bool.and_self, v_isN0, v_isNi, v_notN0, v_notNi, v_ixL, v_ixT, v_cutL, v_cutT, k_ii, k_ib, k_bi, k_bb, k_ll, k_lt, k_tl, k_tt, t_i, t_b, t_l, t_t, isR, if_true, true_and, and_true, and_self, if_false, if_pos, Bool.not_true, Bool.not_false, List.length_cons, List.length_nil, List.replicate, List.cons_append, List.nil_append, List.head?_cons, List.tail_cons, List.any_nil, List.any_cons, Bool.false_eq_true, Bool.or_false, Bool.false_or, beq_self_eq_true, Nat.reduceSub, Nat.reduceAdd, Nat.reduceLeDiff, Nat.reduceBEq, Nat.reduceEqDiff, reduceIte, eq_self, reduceCtorEq, bo_rvV, bo_rvL, bo_nil, bo_cons, bo_non, bo_valS, bo_int, bo_bool, bo_own, bo_src, kp_p1, kp_p2, kp_p3, kp_p4, kp_p5, kp_p6, kp_h, kp_d, kp_l1, kp_l2, kp_l3, kp_l4, kp_l5, kp_l6, kp_cups, kp_scoops, kp_rows, kp_looks, kp_held, kp_done, kp_choose, kp_nums, kp_stand, Int.reduceToNat, Int.reduceBEq, Nat.zero_add, Nat.reduceLT, f6, u_w__law_pours_1, hw, hb, e]
theorem pr_loop (S2 : Sl) (n w m : Int) (n1 : 1 ≤ n) (n40 : n ≤ 40) (hw : w < 3 ∧ 0 < m ∧ m ≤ 1000000000000000000000000000000 ∨ 3 ≤ w ∧ 2 ≤ m ∧ m ≤ 9) : ∀ (L : List Int) (s : Src) (P : List (List Int)) (s6 : Sl), PsOk n P → (∀ q ∈ P, ∀ z ∈ q, z < 1000000000000000000000000000000) → P.length + L.length ≤ 1000 → fre (some s6) = true →
    ∃ (s' : Src) (P' : List (List Int)) (s6' : Sl), PsOk n P' ∧ (∀ q ∈ P', ∀ z ∈ q, z < 1000000000000000000000000000000) ∧ P'.length = P.length + L.length ∧ forD (bName 6) w__law_pours_1 (L.map .int) [.own true (srcO s), .val (.int n), S2, .val (.int w), .val (.int m), .own false (.lst (P.map tpD)), s6, .non] = .ok (.nx, [.own true (srcO s'), .val (.int n), S2, .val (.int w), .val (.int m), .own false (.lst (P'.map tpD)), s6', .non])
  | [], s, P, s6, O, hz, _, f6 => ⟨s, P, s6, O, hz, rfl, rfl⟩
  | i :: L, s, P, s6, O, hz, hb, f6 => by
    rw [List.length_cons] at hb
    obtain ⟨s1, q, lq, hq, er⟩ : ∃ (s1 : Src) (q : List Int), (q.length : Int) = n ∧ (∀ z ∈ q, 0 ≤ z ∧ z < 1000000000000000000000000000000) ∧ (ofO (bName 6 (.int i) [.own true (srcO s), .val (.int n), S2, .val (.int w), .val (.int m), .own false (.lst (P.map tpD)), s6, .non])).bind w__law_pours_1 = .ok (.nx, [.own true (srcO s1), .val (.int n), S2, .val (.int w), .val (.int m), .own false (.lst (P.map tpD ++ [.tuple (q.map .int)])), .val (.int i), .non]) := by
      rcases hw with ⟨w3, m0, m1⟩ | ⟨w3, m0, m1⟩
      · obtain ⟨s1, q, l, h, lc⟩ := gr_lc (.val (.int n)) S2 (.val (.int w)) (.own false (.lst (P.map tpD))) (.val (.int i)) m m0 (rangeD 0 n.toNat) [] s (fun d hd => by
          rw [rangeD_I] at hd
          obtain ⟨z, _, rfl⟩ := List.mem_map.mp hd
          exact ⟨z, rfl⟩) (by rw [rangeD_length]; simp; omega)
        rw [rangeD_length] at l
        rw [List.nil_append] at lc
        exact ⟨s1, q, by omega, fun z hz => by have := h z hz; omega, pr_great s s1 _ S2 w m i n _ _ s6 f6 rfl (by omega) n40 (decide_eq_true w3) (by rw [List.length_map]; omega) lc⟩
      · obtain ⟨s1, q, e, l, h⟩ := e_shared s n m (w == 4) n1 n40 m0 m1
        exact ⟨s1, q, l, fun z hz => by have := h z hz; omega, pr_shared s s1 S2 w m i n _ _ _ s6 f6 (decide_eq_false (by omega)) rfl (by rw [List.length_map]; omega) e⟩
    obtain ⟨s', P', s6', O', h', l', ih⟩ := pr_loop S2 n w m n1 n40 hw L s1 (P ++ [q]) (.val (.int i)) ⟨fun y hy => by
      rcases List.mem_append.mp hy with hy | hy
      · exact O.len y hy
      · have : y = q := by simpa using hy
        rw [this]; exact lq, fun y hy => by
      rcases List.mem_append.mp hy with hy | hy
      · exact O.nn y hy
      · have : y = q := by simpa using hy
        rw [this]; exact fun z hz => (hq z hz).1⟩ (fun y hy => by
      rcases List.mem_append.mp hy with hy | hy
      · exact hz y hy
      · have : y = q := by simpa using hy
        rw [this]; exact fun z hz => (hq z hz).2) (by rw [List.length_append]; simp; omega) rfl
    refine ⟨s', P', s6', O', h', by rw [l', List.length_append, List.length_cons]; simp; omega, ?_⟩
    rw [List.map_cons]
    refine (forD_nx er).trans ?_
    rw [List.map_append] at ih
    exact ih
theorem pr_out (s s1 s2 : Src) (n t w m : Int) (P : List D) (s6 : Sl) (t0 : 0 ≤ t) (t12 : t ≤ 12) (e : d__law_take [.own true (srcO s), .val (.int 5)] = .ok (.val (.int w), [.own true (srcO s1), .val (.int 5)])) (hx : atI [PyData.int 4, .int 2, .int 1000000000000000000000000000000, .int 6, .int 9] w = some (.int m))
    (lp : forD (bName 6) w__law_pours_1 (rangeD 0 t.toNat) [.own true (srcO s1), .val (.int n), .val (.int t), .val (.int w), .val (.int m), .own false (.lst []), .non, .non] = .ok (.nx, [.own true (srcO s2), .val (.int n), .val (.int t), .val (.int w), .val (.int m), .own false (.lst P), s6, .non])) :
    d__law_pours [.own true (srcO s), .val (.int n), .val (.int t)] = .ok (.own (.lst P), [.own true (srcO s2), .val (.int n), .val (.int t)]) := by
  rw [q__law_pours]
  simp (maxSteps := 1000000) (disch := first | omega | exact Or.inl rfl | exact Or.inr rfl | exact f_non | exact f_val _ | exact f_own _ | (simp only [List.length_map, List.length_replicate, List.length_append, List.length_cons, List.length_nil, firstI_length, List.length_range, rowsD_length, List.length_drop, List.length_take, sortB_len, rangeI_len]; omega)) only [↓rb, ↓r_ofO, ↓r_den, ↓r_oX1, ↓r_oX2, ↓r_bX1, ↓r_bX2, ↓r_lX1, ↓r_lX2, ↓r_C, ↓r_Var, ↓r_Val, ↓r_Move, ↓r_fz, ↓r_ofD, ↓r_Op, ↓r_eOp, ↓r_Un, ↓r_CB, ↓r_eCB, ↓r_Mul, ↓r_Nil, ↓r_Cons, ↓r_Lst, ↓r_Tup, ↓r_Bl, ↓r_And, ↓r_Or, ↓r_NotM, ↓r_Yes, ↓r_If, ↓r_Chain, ↓r_Next, ↓r_Seq, ↓r_Bk, ↓r_Ct, ↓r_Never, ↓r_Ret, ↓r_RetN, ↓r_Expr, ↓r_sIf, ↓r_Set, ↓r_Asg, ↓r_Par, ↓r_bName, ↓r_bNil, ↓r_bCons, ↓r_bTup, ↓r_bTupL, ↓r_free, ↓f_non, ↓f_val, ↓f_own, ↓f_pin, ↓r_toSl, ↓r_fzR, ↓r_dAnd, ↓r_dOr, ↓r_dNot, ↓r_ixO, ↓r_Put, ↓r_Mut, ↓r_arNil, ↓r_arV, ↓r_arR, ↓r_Call, ↓r_CallK, ↓r_CallKD, ↓r_CallT, ↓r_For, ↓r_Lc, ↓r_iSeq, ↓r_iRng1, ↓r_iRng2, ↓r_iEnum, ↓r_iEnumA, ↓r_iEnumB, ↓r_TR1, ↓r_LenO, ↓r_NeO, ↓r_iZip, ↓r_iZipB, ↓r_LenSet, ↓r_step, ↓r_LR1, ↓r_LR2, ↓r_oNone, ↓r_oSome, ↓r_Cut, ↓r_Rev, ↓r_RevA, ↓r_keep, ↓r_Raise, ↓r_Try, ↓r_endX, ↓r_Exn, ↓r_Fld, ↓r_FldM, ↓r_FldAdd, ↓r_bFld, ↓r_Meth, ↓r_MethT, ↓r_Make, ↓r_Par3, ↓r_Par3E, ↓r_AugN, ↓r_AugPut, ↓f_exn, ↓nx_nil, ↓nx_n, ↓nx_v, ↓nx_o, ↓nx_x, ↓r_Isi, ↓r_IsiT, ↓r_Bor, ↓r_BorE, ↓r_noEx, ↓r_wipe0, ↓r_wipe1, ↓r_outs0, ↓r_outs1, ↓r_out1, ↓r_out2, ↓r_mkA0, ↓r_mkA1, ↓r_mkA2, ↓r_wb0, ↓r_wb1, ↓r_wb2, ↓r_Said, ↓r_hide0, ↓r_hide1, ↓r_hideV, ↓r_hideO, ↓r_hideN, ↓r_IsE, ↓r_IsE2, ↓r_iZip3, ↓r_Mt, ↓r_Pre, ↓r_CutO, ↓r_setOwn, ↓r_Copy, ↓r_pick0, ↓r_pick1, ↓r_val0, ↓r_val1, ↓r_Dc, ↓r_Get2, ↓r_IxK, ↓r_IxKO, ↓r_PutK, ↓r_Dic0, ↓r_dstep, ↓r_TryM, ↓r_suX0, ↓r_suX1, ↓r_EnumZip, ↓g0, ↓g1, ↓g2, ↓g3, ↓g4, ↓g5, ↓g6, ↓g7, ↓g8, ↓g9, ↓g10, ↓g11, ↓g12, ↓g13, ↓g14, ↓g15, ↓g16, ↓g17, ↓g18, ↓g19, ↓g20, ↓g21, ↓g22, ↓g23, ↓g24, ↓g25, ↓u0, ↓u1, ↓u2, ↓u3, ↓u4, ↓u5, ↓u6, ↓u7, ↓u8, ↓u9, ↓u10, ↓u11, ↓u12, ↓u13, ↓u14, ↓u15, ↓u16, ↓u17, ↓u18, ↓u19, ↓u20, ↓u21, ↓u22, ↓u23, ↓u24, ↓u25, k_int, v_eqE0, v_neE0, K_nb, K_ni, K_ns, K_nl, K_nt, K_bb, K_bi, K_bs, K_bl, K_bt, K_ib, K_ii, K_is, K_il, K_it, K_sb, K_si, K_ss, K_sl, K_st, K_lb, K_li, K_ls, K_ll, K_lt, K_tb, K_ti, K_ts, K_tl, K_tt, K_db, K_di, K_ds, K_dl, K_dt, t_n, t_d, t_s, r_outO1, r_outO2, r_Ask1, r_Ask2, v_TR, v_add, v_sub, v_neg, v_lt, v_le, v_gt, v_ge, v_eq, v_ne, v_max2, v_min2, v_mod, v_div, v_pow9, v_pow18, v_mulL, v_mulR, v_divmod, v_lenL, v_lenT, v_sum, v_eqL, v_listOf, v_inT2, v_sorted, sortB_f, v_sortL, v_sortT, v_sortDL, v_sortDT, v_sortDP, v_keep, v_tupL, v_tupT, v_sumL, v_sumT, v_app, v_neL, v_pow39, v_pow40, ob_nil, ob_zero, ob_1, ob_2, ob_3, ob_4, ob_5, ob_6, ob_7, ob_8, ll_n, ll_b, ll_i, ll_s, bs_n, bs_v, bs_l, bs_s, llA_ints, List.all_cons, List.all_nil, Bool.and_true, Bool.true_and, Bool.false_and, Bool.and_false, Bool.and_self, v_isN0, v_isNi, v_notN0, v_notNi, v_ixL, v_ixT, v_cutL, v_cutT, k_ii, k_ib, k_bi, k_bb, k_ll, k_lt, k_tl, k_tt, t_i, t_b, t_l, t_t, isR, if_true, true_and, and_true, and_self, if_false, if_pos, Bool.not_true, Bool.not_false, List.length_cons, List.length_nil, List.replicate, List.cons_append, List.nil_append, List.head?_cons, List.tail_cons, List.any_nil, List.any_cons, Bool.false_eq_true, Bool.or_false, Bool.false_or, beq_self_eq_true, Nat.reduceSub, Nat.reduceAdd, Nat.reduceLeDiff, Nat.reduceBEq, Nat.reduceEqDiff, reduceIte, eq_self, reduceCtorEq, bo_rvV, bo_rvL, bo_nil, bo_cons, bo_non, bo_valS, bo_int, bo_bool, bo_own, bo_src, kp_p1, kp_p2, kp_p3, kp_p4, kp_p5, kp_p6, kp_h, kp_d, kp_l1, kp_l2, kp_l3, kp_l4, kp_l5, kp_l6, kp_cups, kp_scoops, kp_rows, kp_looks, kp_held, kp_done, kp_choose, kp_nums, kp_stand, Int.reduceToNat, Int.reduceBEq, Nat.zero_add, Nat.reduceLT, e, v_pow30, hx, lp]
theorem e_pours (s : Src) (n t : Int) (n1 : 1 ≤ n) (n40 : n ≤ 40) (t0 : 0 ≤ t) (t12 : t ≤ 12) : ∃ (s' : Src) (P : List (List Int)), d__law_pours [.own true (srcO s), .val (.int n), .val (.int t)] = .ok (.own (.lst (P.map tpD)), [.own true (srcO s'), .val (.int n), .val (.int t)]) ∧ PsOk n P ∧ (∀ q ∈ P, ∀ z ∈ q, z < 1000000000000000000000000000000) ∧ (P.length : Int) = t := by
  have e := e_take s 5 (by omega) (by omega)
  have a0 := tkV_nn s (m := 5) (by omega)
  have a1 := tkV_lt s (m := 5) (by omega)
  generalize tkV s 5 = w at *
  generalize tkS s 5 = s1 at *
  obtain ⟨m, hx, hw⟩ : ∃ m : Int, atI [PyData.int 4, .int 2, .int 1000000000000000000000000000000, .int 6, .int 9] w = some (.int m) ∧ (w < 3 ∧ 0 < m ∧ m ≤ 1000000000000000000000000000000 ∨ 3 ≤ w ∧ 2 ≤ m ∧ m ≤ 9) := by
    have hw : w = 0 ∨ w = 1 ∨ w = 2 ∨ w = 3 ∨ w = 4 := by omega
    rcases hw with rfl | rfl | rfl | rfl | rfl
    · exact ⟨4, rfl, by omega⟩
    · exact ⟨2, rfl, by omega⟩
    · exact ⟨1000000000000000000000000000000, rfl, by omega⟩
    · exact ⟨6, rfl, by omega⟩
    · exact ⟨9, rfl, by omega⟩
  obtain ⟨s2, P, s6, O, hz, l, lp⟩ := pr_loop (.val (.int t)) n w m n1 n40 hw (rangeI 0 t.toNat) s1 [] .non ⟨fun _ h => (nomatch h), fun _ h => (nomatch h)⟩ (fun _ h => nomatch h) (by rw [rangeI_len]; simp; omega) rfl
  rw [rangeI_len, List.length_nil] at l
  exact ⟨s2, P, pr_out s s1 s2 n t w m _ s6 t0 t12 e hx (by rw [rangeD_I]; exact lp), O, hz, by omega⟩
theorem ro_step (s s1 s2 s3 : Src) (S2 s5 s4 : Sl) (n i k b : Int) (F M L : List D) (X : D) (f4 : fre (some s4) = true) (f5 : fre (some s5) = true) (n0 : 0 ≤ n) (n40 : n ≤ 40) (hF : F.length ≤ 1000)
    (e1 : d__law_shuffled [.own true (srcO s), .val (.list ((rangeI 0 n.toNat).map .int))] = .ok (.own (.lst M), [.own true (srcO s1), .val (.list ((rangeI 0 n.toNat).map .int))])) (e2 : d__law_take [.own true (srcO s1), .val (.int (n + 1))] = .ok (.val (.int k), [.own true (srcO s2), .val (.int (n + 1))])) (hc : cutD M none (some k) = L)
    (e3 : d__law_take [.own true (srcO s2), .val (.int 2)] = .ok (.val (.int b), [.own true (srcO s3), .val (.int 2)])) (hx : atI [PyData.list L, .tuple L] b = some X) :
    (ofO (bName 4 (.int i) [.own true (srcO s), .val (.int n), S2, .own false (.lst F), s4, s5])).bind w__law_rows_1 = .ok (.nx, [.own true (srcO s3), .val (.int n), S2, .own false (.lst (F ++ [X])), .val (.int i), .val (.list L)]) := by
  simp (maxSteps := 1000000) (disch := first | omega | exact Or.inl rfl | exact Or.inr rfl | exact f_non | exact f_val _ | exact f_own _ | (simp only [List.length_map, List.length_replicate, List.length_append, List.length_cons, List.length_nil, firstI_length, List.length_range, rowsD_length, List.length_drop, List.length_take, sortB_len, rangeI_len]; omega)) only [↓rb, ↓r_ofO, ↓r_den, ↓r_oX1, ↓r_oX2, ↓r_bX1, ↓r_bX2, ↓r_lX1, ↓r_lX2, ↓r_C, ↓r_Var, ↓r_Val, ↓r_Move, ↓r_fz, ↓r_ofD, ↓r_Op, ↓r_eOp, ↓r_Un, ↓r_CB, ↓r_eCB, ↓r_Mul, ↓r_Nil, ↓r_Cons, ↓r_Lst, ↓r_Tup, ↓r_Bl, ↓r_And, ↓r_Or, ↓r_NotM, ↓r_Yes, ↓r_If, ↓r_Chain, ↓r_Next, ↓r_Seq, ↓r_Bk, ↓r_Ct, ↓r_Never, ↓r_Ret, ↓r_RetN, ↓r_Expr, ↓r_sIf, ↓r_Set, ↓r_Asg, ↓r_Par, ↓r_bName, ↓r_bNil, ↓r_bCons, ↓r_bTup, ↓r_bTupL, ↓r_free, ↓f_non, ↓f_val, ↓f_own, ↓f_pin, ↓r_toSl, ↓r_fzR, ↓r_dAnd, ↓r_dOr, ↓r_dNot, ↓r_ixO, ↓r_Put, ↓r_Mut, ↓r_arNil, ↓r_arV, ↓r_arR, ↓r_Call, ↓r_CallK, ↓r_CallKD, ↓r_CallT, ↓r_For, ↓r_Lc, ↓r_iSeq, ↓r_iRng1, ↓r_iRng2, ↓r_iEnum, ↓r_iEnumA, ↓r_iEnumB, ↓r_TR1, ↓r_LenO, ↓r_NeO, ↓r_iZip, ↓r_iZipB, ↓r_LenSet, ↓r_step, ↓r_LR1, ↓r_LR2, ↓r_oNone, ↓r_oSome, ↓r_Cut, ↓r_Rev, ↓r_RevA, ↓r_keep, ↓r_Raise, ↓r_Try, ↓r_endX, ↓r_Exn, ↓r_Fld, ↓r_FldM, ↓r_FldAdd, ↓r_bFld, ↓r_Meth, ↓r_MethT, ↓r_Make, ↓r_Par3, ↓r_Par3E, ↓r_AugN, ↓r_AugPut, ↓f_exn, ↓nx_nil, ↓nx_n, ↓nx_v, ↓nx_o, ↓nx_x, ↓r_Isi, ↓r_IsiT, ↓r_Bor, ↓r_BorE, ↓r_noEx, ↓r_wipe0, ↓r_wipe1, ↓r_outs0, ↓r_outs1, ↓r_out1, ↓r_out2, ↓r_mkA0, ↓r_mkA1, ↓r_mkA2, ↓r_wb0, ↓r_wb1, ↓r_wb2, ↓r_Said, ↓r_hide0, ↓r_hide1, ↓r_hideV, ↓r_hideO, ↓r_hideN, ↓r_IsE, ↓r_IsE2, ↓r_iZip3, ↓r_Mt, ↓r_Pre, ↓r_CutO, ↓r_setOwn, ↓r_Copy, ↓r_pick0, ↓r_pick1, ↓r_val0, ↓r_val1, ↓r_Dc, ↓r_Get2, ↓r_IxK, ↓r_IxKO, ↓r_PutK, ↓r_Dic0, ↓r_dstep, ↓r_TryM, ↓r_suX0, ↓r_suX1, ↓r_EnumZip, ↓g0, ↓g1, ↓g2, ↓g3, ↓g4, ↓g5, ↓g6, ↓g7, ↓g8, ↓g9, ↓g10, ↓g11, ↓g12, ↓g13, ↓g14, ↓g15, ↓g16, ↓g17, ↓g18, ↓g19, ↓g20, ↓g21, ↓g22, ↓g23, ↓g24, ↓g25, ↓u0, ↓u1, ↓u2, ↓u3, ↓u4, ↓u5, ↓u6, ↓u7, ↓u8, ↓u9, ↓u10, ↓u11, ↓u12, ↓u13, ↓u14, ↓u15, ↓u16, ↓u17, ↓u18, ↓u19, ↓u20, ↓u21, ↓u22, ↓u23, ↓u24, ↓u25, k_int, v_eqE0, v_neE0, K_nb, K_ni, K_ns, K_nl, K_nt, K_bb, K_bi, K_bs, K_bl, K_bt, K_ib, K_ii, K_is, K_il, K_it, K_sb, K_si, K_ss, K_sl, K_st, K_lb, K_li, K_ls, K_ll, K_lt, K_tb, K_ti, K_ts, K_tl, K_tt, K_db, K_di, K_ds, K_dl, K_dt, t_n, t_d, t_s, r_outO1, r_outO2, r_Ask1, r_Ask2, v_TR, v_add, v_sub, v_neg, v_lt, v_le, v_gt, v_ge, v_eq, v_ne, v_max2, v_min2, v_mod, v_div, v_pow9, v_pow18, v_mulL, v_mulR, v_divmod, v_lenL, v_lenT, v_sum, v_eqL, v_listOf, v_inT2, v_sorted, sortB_f, v_sortL, v_sortT, v_sortDL, v_sortDT, v_sortDP, v_keep, v_tupL, v_tupT, v_sumL, v_sumT, v_app, v_neL, v_pow39, v_pow40, ob_nil, ob_zero, ob_1, ob_2, ob_3, ob_4, ob_5, ob_6, ob_7, ob_8, ll_n, ll_b, ll_i, ll_s, bs_n, bs_v, bs_l, bs_s, llA_ints, List.all_cons, List.all_nil, Bool.and_true, Bool.true_and, Bool.false_and, Bool.and_false, Bool.and_self, v_isN0, v_isNi, v_notN0, v_notNi, v_ixL, v_ixT, v_cutL, v_cutT, k_ii, k_ib, k_bi, k_bb, k_ll, k_lt, k_tl, k_tt, t_i, t_b, t_l, t_t, isR, if_true, true_and, and_true, and_self, if_false, if_pos, Bool.not_true, Bool.not_false, List.length_cons, List.length_nil, List.replicate, List.cons_append, List.nil_append, List.head?_cons, List.tail_cons, List.any_nil, List.any_cons, Bool.false_eq_true, Bool.or_false, Bool.false_or, beq_self_eq_true, Nat.reduceSub, Nat.reduceAdd, Nat.reduceLeDiff, Nat.reduceBEq, Nat.reduceEqDiff, reduceIte, eq_self, reduceCtorEq, bo_rvV, bo_rvL, bo_nil, bo_cons, bo_non, bo_valS, bo_int, bo_bool, bo_own, bo_src, kp_p1, kp_p2, kp_p3, kp_p4, kp_p5, kp_p6, kp_h, kp_d, kp_l1, kp_l2, kp_l3, kp_l4, kp_l5, kp_l6, kp_cups, kp_scoops, kp_rows, kp_looks, kp_held, kp_done, kp_choose, kp_nums, kp_stand, Int.reduceToNat, Int.reduceBEq, Nat.zero_add, Nat.reduceLT, f4, f5, u_w__law_rows_1, v_lrK0, e1, e2, hc, e3, hx]
theorem ro_loop (S2 : Sl) (n : Int) (n1 : 1 ≤ n) (n40 : n ≤ 40) : ∀ (L : List Int) (s : Src) (R : List Row) (s4 s5 : Sl), RsOk n R → R.length + L.length ≤ 1000 → fre (some s4) = true → fre (some s5) = true →
    ∃ (s' : Src) (R' : List Row) (s4' s5' : Sl), RsOk n R' ∧ R'.length = R.length + L.length ∧ forD (bName 4) w__law_rows_1 (L.map .int) [.own true (srcO s), .val (.int n), S2, .own false (.lst (R.map rowD)), s4, s5] = .ok (.nx, [.own true (srcO s'), .val (.int n), S2, .own false (.lst (R'.map rowD)), s4', s5'])
  | [], s, R, s4, s5, O, _, f4, f5 => ⟨s, R, s4, s5, O, rfl, rfl⟩
  | i :: L, s, R, s4, s5, O, hb, f4, f5 => by
    rw [List.length_cons] at hb
    obtain ⟨s1, M, e1, pM⟩ := e_shuffled s (rangeI 0 n.toNat) (by rw [rangeI_len]; omega) (.list ((rangeI 0 n.toNat).map .int)) rfl
    have e2 := e_take s1 (n + 1) (by omega) (by omega)
    have k0 := tkV_nn s1 (m := n + 1) (by omega)
    generalize tkV s1 (n + 1) = k at *
    generalize tkS s1 (n + 1) = s2 at *
    have e3 := e_take s2 2 (by omega) (by omega)
    have b0 := tkV_nn s2 (m := 2) (by omega)
    have b1 := tkV_lt s2 (m := 2) (by omega)
    generalize tkV s2 2 = b at *
    generalize tkS s2 2 = s3 at *
    obtain ⟨x, hx, h2⟩ : ∃ x : Row, atI [PyData.list ((M.take k.toNat).map .int), .tuple ((M.take k.toNat).map .int)] b = some (rowD x) ∧ x.2 = M.take k.toNat := by
      have hb : b = 0 ∨ b = 1 := by omega
      rcases hb with rfl | rfl
      · exact ⟨(false, M.take k.toNat), rfl, rfl⟩
      · exact ⟨(true, M.take k.toNat), rfl, rfl⟩
    have er := ro_step s s1 s2 s3 S2 s5 s4 n i k b (R.map rowD) _ _ (rowD x) f4 f5 (by omega) n40 (by rw [List.length_map]; omega) e1 e2 (cut_ints_to M k k0) e3 hx
    have xm : ∀ z ∈ x.2, 0 ≤ z ∧ z < n := fun z hz => by
      rw [h2] at hz
      have := mem_rangeI.mp (pM.mem_iff.mp (List.mem_of_mem_take hz))
      omega
    have xn : x.2.Nodup := by
      rw [h2]
      exact (pM.nodup_iff.mpr ((rangeI_up n.toNat).imp fun h => Int.ne_of_lt h)).sublist (List.take_sublist _ _)
    obtain ⟨s', R', s4', s5', O', l', ih⟩ := ro_loop S2 n n1 n40 L s3 (R ++ [x]) (.val (.int i)) (.val (.list ((M.take k.toNat).map .int))) ⟨fun y hy => by
      rcases List.mem_append.mp hy with hy | hy
      · exact O.mem y hy
      · have : y = x := by simpa using hy
        rw [this]; exact xm, fun y hy => by
      rcases List.mem_append.mp hy with hy | hy
      · exact O.nd y hy
      · have : y = x := by simpa using hy
        rw [this]; exact xn⟩ (by rw [List.length_append]; simp; omega) rfl rfl
    refine ⟨s', R', s4', s5', O', by rw [l', List.length_append, List.length_cons]; simp; omega, ?_⟩
    rw [List.map_cons]
    refine (forD_nx er).trans ?_
    rw [List.map_append] at ih
    exact ih
theorem ro_out (s s1 : Src) (n t : Int) (R : List D) (s4 s5 : Sl) (t0 : 0 ≤ t) (t12 : t ≤ 12)
    (lp : forD (bName 4) w__law_rows_1 (rangeD 0 t.toNat) [.own true (srcO s), .val (.int n), .val (.int t), .own false (.lst []), .non, .non] = .ok (.nx, [.own true (srcO s1), .val (.int n), .val (.int t), .own false (.lst R), s4, s5])) :
    d__law_rows [.own true (srcO s), .val (.int n), .val (.int t)] = .ok (.own (.lst R), [.own true (srcO s1), .val (.int n), .val (.int t)]) := by
  rw [q__law_rows]
  simp (maxSteps := 1000000) (disch := first | omega | exact Or.inl rfl | exact Or.inr rfl | exact f_non | exact f_val _ | exact f_own _ | (simp only [List.length_map, List.length_replicate, List.length_append, List.length_cons, List.length_nil, firstI_length, List.length_range, rowsD_length, List.length_drop, List.length_take, sortB_len, rangeI_len]; omega)) only [↓rb, ↓r_ofO, ↓r_den, ↓r_oX1, ↓r_oX2, ↓r_bX1, ↓r_bX2, ↓r_lX1, ↓r_lX2, ↓r_C, ↓r_Var, ↓r_Val, ↓r_Move, ↓r_fz, ↓r_ofD, ↓r_Op, ↓r_eOp, ↓r_Un, ↓r_CB, ↓r_eCB, ↓r_Mul, ↓r_Nil, ↓r_Cons, ↓r_Lst, ↓r_Tup, ↓r_Bl, ↓r_And, ↓r_Or, ↓r_NotM, ↓r_Yes, ↓r_If, ↓r_Chain, ↓r_Next, ↓r_Seq, ↓r_Bk, ↓r_Ct, ↓r_Never, ↓r_Ret, ↓r_RetN, ↓r_Expr, ↓r_sIf, ↓r_Set, ↓r_Asg, ↓r_Par, ↓r_bName, ↓r_bNil, ↓r_bCons, ↓r_bTup, ↓r_bTupL, ↓r_free, ↓f_non, ↓f_val, ↓f_own, ↓f_pin, ↓r_toSl, ↓r_fzR, ↓r_dAnd, ↓r_dOr, ↓r_dNot, ↓r_ixO, ↓r_Put, ↓r_Mut, ↓r_arNil, ↓r_arV, ↓r_arR, ↓r_Call, ↓r_CallK, ↓r_CallKD, ↓r_CallT, ↓r_For, ↓r_Lc, ↓r_iSeq, ↓r_iRng1, ↓r_iRng2, ↓r_iEnum, ↓r_iEnumA, ↓r_iEnumB, ↓r_TR1, ↓r_LenO, ↓r_NeO, ↓r_iZip, ↓r_iZipB, ↓r_LenSet, ↓r_step, ↓r_LR1, ↓r_LR2, ↓r_oNone, ↓r_oSome, ↓r_Cut, ↓r_Rev, ↓r_RevA, ↓r_keep, ↓r_Raise, ↓r_Try, ↓r_endX, ↓r_Exn, ↓r_Fld, ↓r_FldM, ↓r_FldAdd, ↓r_bFld, ↓r_Meth, ↓r_MethT, ↓r_Make, ↓r_Par3, ↓r_Par3E, ↓r_AugN, ↓r_AugPut, ↓f_exn, ↓nx_nil, ↓nx_n, ↓nx_v, ↓nx_o, ↓nx_x, ↓r_Isi, ↓r_IsiT, ↓r_Bor, ↓r_BorE, ↓r_noEx, ↓r_wipe0, ↓r_wipe1, ↓r_outs0, ↓r_outs1, ↓r_out1, ↓r_out2, ↓r_mkA0, ↓r_mkA1, ↓r_mkA2, ↓r_wb0, ↓r_wb1, ↓r_wb2, ↓r_Said, ↓r_hide0, ↓r_hide1, ↓r_hideV, ↓r_hideO, ↓r_hideN, ↓r_IsE, ↓r_IsE2, ↓r_iZip3, ↓r_Mt, ↓r_Pre, ↓r_CutO, ↓r_setOwn, ↓r_Copy, ↓r_pick0, ↓r_pick1, ↓r_val0, ↓r_val1, ↓r_Dc, ↓r_Get2, ↓r_IxK, ↓r_IxKO, ↓r_PutK, ↓r_Dic0, ↓r_dstep, ↓r_TryM, ↓r_suX0, ↓r_suX1, ↓r_EnumZip, ↓g0, ↓g1, ↓g2, ↓g3, ↓g4, ↓g5, ↓g6, ↓g7, ↓g8, ↓g9, ↓g10, ↓g11, ↓g12, ↓g13, ↓g14, ↓g15, ↓g16, ↓g17, ↓g18, ↓g19, ↓g20, ↓g21, ↓g22, ↓g23, ↓g24, ↓g25, ↓u0, ↓u1, ↓u2, ↓u3, ↓u4, ↓u5, ↓u6, ↓u7, ↓u8, ↓u9, ↓u10, ↓u11, ↓u12, ↓u13, ↓u14, ↓u15, ↓u16, ↓u17, ↓u18, ↓u19, ↓u20, ↓u21, ↓u22, ↓u23, ↓u24, ↓u25, k_int, v_eqE0, v_neE0, K_nb, K_ni, K_ns, K_nl, K_nt, K_bb, K_bi, K_bs, K_bl, K_bt, K_ib, K_ii, K_is, K_il, K_it, K_sb, K_si, K_ss, K_sl, K_st, K_lb, K_li, K_ls, K_ll, K_lt, K_tb, K_ti, K_ts, K_tl, K_tt, K_db, K_di, K_ds, K_dl, K_dt, t_n, t_d, t_s, r_outO1, r_outO2, r_Ask1, r_Ask2, v_TR, v_add, v_sub, v_neg, v_lt, v_le, v_gt, v_ge, v_eq, v_ne, v_max2, v_min2, v_mod, v_div, v_pow9, v_pow18, v_mulL, v_mulR, v_divmod, v_lenL, v_lenT, v_sum, v_eqL, v_listOf, v_inT2, v_sorted, sortB_f, v_sortL, v_sortT, v_sortDL, v_sortDT, v_sortDP, v_keep, v_tupL, v_tupT, v_sumL, v_sumT, v_app, v_neL, v_pow39, v_pow40, ob_nil, ob_zero, ob_1, ob_2, ob_3, ob_4, ob_5, ob_6, ob_7, ob_8, ll_n, ll_b, ll_i, ll_s, bs_n, bs_v, bs_l, bs_s, llA_ints, List.all_cons, List.all_nil, Bool.and_true, Bool.true_and, Bool.false_and, Bool.and_false, Bool.and_self, v_isN0, v_isNi, v_notN0, v_notNi, v_ixL, v_ixT, v_cutL, v_cutT, k_ii, k_ib, k_bi, k_bb, k_ll, k_lt, k_tl, k_tt, t_i, t_b, t_l, t_t, isR, if_true, true_and, and_true, and_self, if_false, if_pos, Bool.not_true, Bool.not_false, List.length_cons, List.length_nil, List.replicate, List.cons_append, List.nil_append, List.head?_cons, List.tail_cons, List.any_nil, List.any_cons, Bool.false_eq_true, Bool.or_false, Bool.false_or, beq_self_eq_true, Nat.reduceSub, Nat.reduceAdd, Nat.reduceLeDiff, Nat.reduceBEq, Nat.reduceEqDiff, reduceIte, eq_self, reduceCtorEq, bo_rvV, bo_rvL, bo_nil, bo_cons, bo_non, bo_valS, bo_int, bo_bool, bo_own, bo_src, kp_p1, kp_p2, kp_p3, kp_p4, kp_p5, kp_p6, kp_h, kp_d, kp_l1, kp_l2, kp_l3, kp_l4, kp_l5, kp_l6, kp_cups, kp_scoops, kp_rows, kp_looks, kp_held, kp_done, kp_choose, kp_nums, kp_stand, Int.reduceToNat, Int.reduceBEq, Nat.zero_add, Nat.reduceLT, lp]
theorem e_rows (s : Src) (n t : Int) (n1 : 1 ≤ n) (n40 : n ≤ 40) (t0 : 0 ≤ t) (t12 : t ≤ 12) : ∃ (s' : Src) (R : List Row), d__law_rows [.own true (srcO s), .val (.int n), .val (.int t)] = .ok (.own (.lst (R.map rowD)), [.own true (srcO s'), .val (.int n), .val (.int t)]) ∧ RsOk n R ∧ (R.length : Int) = t := by
  obtain ⟨s1, R, s4, s5, O, l, lp⟩ := ro_loop (.val (.int t)) n n1 n40 (rangeI 0 t.toNat) s [] .non .non ⟨fun _ h => (nomatch h), fun _ h => (nomatch h)⟩ (by rw [rangeI_len]; simp; omega) rfl rfl
  rw [rangeI_len, List.length_nil] at l
  exact ⟨s1, R, ro_out s s1 n t _ s4 s5 t0 t12 (by rw [rangeD_I]; exact lp), O, by omega⟩
/-! the texts -/
theorem Sm_int100 {z : Int} (h0 : 0 ≤ z) (h3 : z < 1000000000000000000000000000000) : Sm 100 0 (.int z) := by
  have h : z.natAbs < 2 ^ 100 := by
    have : (2 : Nat) ^ 100 = 1267650600228229401496703205376 := by decide
    omega
  have h1 : z.natAbs.log2 < 100 := by
    by_cases q : z.natAbs = 0
    · rw [q]; decide
    · exact (Nat.log2_lt q).mpr h
  have h2 := PySem.int_text_length_le10 (a := z) (k := 31) (by decide) (by omega)
  refine ⟨decide_eq_true (show z.natAbs.log2 < 1920 by omega), ?_, ?_, Nat.le_refl _, rfl⟩
  · show decide ((PyData.shown (.int z)).length ≤ 100) = true
    refine decide_eq_true ?_
    show (Str.ofString (toString z)).length ≤ 100
    rw [PySem.ofString_length]; omega
  · simp only [PyData.weight]
    split <;> omega
theorem Sm_ints {l : List Int} (h : ∀ z ∈ l, 0 ≤ z ∧ z < 1000000000000000000000000000000) : ∀ d ∈ l.map PyData.int, Sm 100 0 d := fun d hd => by
  obtain ⟨z, hz, rfl⟩ := List.mem_map.mp hd
  exact Sm_int100 (h z hz).1 (h z hz).2
theorem Sm_tp {q : List Int} (h : ∀ z ∈ q, 0 ≤ z ∧ z < 1000000000000000000000000000000) (hl : q.length ≤ 40) : Sm 4040 1 (tpD q) := Sm.tuple (w := 100) (k := 0) (m := 40) (Sm_ints h) (by rw [List.length_map]; exact hl)
theorem Sm_row {x : Row} (h : ∀ z ∈ x.2, 0 ≤ z ∧ z < 1000000000000000000000000000000) (hl : x.2.length ≤ 40) : Sm 4040 1 (rowD x) := by
  obtain ⟨b, l⟩ := x
  cases b with
  | true => exact Sm.tuple (w := 100) (k := 0) (m := 40) (Sm_ints h) (by rw [List.length_map]; exact hl)
  | false => exact Sm.list (w := 100) (k := 0) (m := 40) (Sm_ints h) (by rw [List.length_map]; exact hl)
theorem okR_both {n : Int} {P : List (List Int)} {R : List Row} (n0 : 0 ≤ n) (n40 : n ≤ 40) (O : PsOk n P) (hz : ∀ q ∈ P, ∀ z ∈ q, z < 1000000000000000000000000000000) (OR : RsOk n R) (hp : P.length ≤ 12) (hr : R.length ≤ 12) : okR (.tuple [.list (P.map tpD), .list (R.map rowD)]) = true := by
  have a : Sm 48492 2 (.list (P.map tpD)) := Sm.list (w := 4040) (k := 1) (m := 12) (fun d hd => by
    obtain ⟨q, hq, rfl⟩ := List.mem_map.mp hd
    have := O.len q hq
    exact Sm_tp (fun z hz' => ⟨O.nn q hq z hz', hz q hq z hz'⟩) (by omega)) (by rw [List.length_map]; exact hp)
  have b : Sm 48492 2 (.list (R.map rowD)) := Sm.list (w := 4040) (k := 1) (m := 12) (fun d hd => by
    obtain ⟨x, hx, rfl⟩ := List.mem_map.mp hd
    have := row_short n0 (OR.mem x hx) (OR.nd x hx)
    exact Sm_row (fun z hz' => ⟨(OR.mem x hx z hz').1, by have := OR.mem x hx z hz'; omega⟩) (by omega)) (by rw [List.length_map]; exact hr)
  have c : Sm (2 * 48493) 3 (.tuple [.list (P.map tpD), .list (R.map rowD)]) := Sm.tuple (w := 48492) (k := 2) (m := 2) (fun d hd => by
    rcases List.mem_cons.mp hd with rfl | hd
    · exact a
    · have : d = .list (R.map rowD) := by simpa using hd
      rw [this]; exact b) (by simp)
  exact c.ok (by omega) (by omega)
/-! the law -/
theorem cut_m1 {α : Type} (l : List α) : cutD l none (some (-1)) = l.take (l.length - 1) := by
  have e : HT.sIx l.length l.length (some (-1)) = l.length - 1 := by
    unfold HT.sIx
    simp only []
    rw [if_pos (by omega)]
    omega
  unfold cutD
  rw [HT.sIx_none, e, List.drop_zero, Nat.sub_zero]
theorem tu_run (z : Int) (s s0 s1 s2 s3 : Src) (N s1' s2' s3' s4' s5' s6' s7' s8' : Sl) (n b t d : Int) (ht : 1 + b = t) (Pd Rd C : List D) (w : Str) (f1 : fre (some s1') = true) (f2 : fre (some s2') = true) (f3 : fre (some s3') = true) (f4 : fre (some s4') = true) (f5 : fre (some s5') = true) (f6 : fre (some s6') = true) (f7 : fre (some s7') = true) (f8 : fre (some s8') = true) (n0 : 0 ≤ n) (n40 : n ≤ 40)
    (e0 : d__law_source [.val (.int z)] = .ok (.own (srcO s), [.val (.int z)])) (e1 : d__law_one [.own true (srcO s), .val (.list [PyData.int 2, .int 3, .int 4, .int 5, .int 6, .int 7, .int 3, .int 40])] = .ok (.val (.int n), [.own true (srcO s0), .val (.list [PyData.int 2, .int 3, .int 4, .int 5, .int 6, .int 7, .int 3, .int 40])]))
    (e2 : d__law_take [.own true (srcO s0), .val (.int 12)] = .ok (.val (.int b), [.own true (srcO s1), .val (.int 12)])) (e3 : d__law_pours [.own true (srcO s1), .val (.int n), .val (.int t)] = .ok (.own (.lst Pd), [.own true (srcO s2), .val (.int n), .val (.int t)])) (e4 : d__law_rows [.own true (srcO s2), .val (.int n), .val (.int t)] = .ok (.own (.lst Rd), [.own true (srcO s3), .val (.int n), .val (.int t)]))
    (hr : pRepr [.tuple [.list Pd, .list Rd]] = some (.str w)) (e5 : d__law_worst [.val (.list Pd), .val (.list Rd)] = .ok (.val (.int d), [.val (.list Pd), .val (.list Rd)])) (e6 : d_worst_of [.val (.list Pd), .val (.list Rd)] = .ok (.val (.int d), [.val (.list Pd), .val (.list Rd)])) (e7 : d_worst_of [.val (.tuple Pd), .val (.tuple Rd)] = .ok (.val (.int d), [.val (.tuple Pd), .val (.tuple Rd)]))
    (hc : cutD Rd none (some (-1)) = C) (hC : C.length ≤ 1000) (e8 : d_worst_of [.val (.list Pd), .val (.list (C ++ [.list []]))] = .ok (.val (.int d), [.val (.list Pd), .val (.list (C ++ [.list []]))])) (e9 : d_worst_of [.val (.list Pd), .val (.list (C ++ [.list ((rangeI 0 n.toNat).map .int)]))] = .ok (.val (.int d), [.val (.list Pd), .val (.list (C ++ [.list ((rangeI 0 n.toNat).map .int)]))]))
    (hd : pNe (.int d) (.int d) = some (.bool false)) (hw : pNe (.str w) (.str w) = some (.bool false)) :
    (ofO (bName 1 (.int z) [N, s1', s2', s3', s4', s5', s6', s7', s8'])).bind w_law_1 = .ok (.nx, [N, .val (.int z), .own false (srcO s3), .val (.int n), .val (.int t), .val (.list Pd), .val (.list Rd), .val (.str w), .val (.int d)]) := by
  have q8 := v_catL C [PyData.list []] (by simp only [List.length_cons, List.length_nil]; omega)
  have q9 := v_catL C [PyData.list ((rangeI 0 n.toNat).map .int)] (by simp only [List.length_cons, List.length_nil]; omega)
  simp (maxSteps := 1000000) (disch := first | omega | exact Or.inl rfl | exact Or.inr rfl | exact f_non | exact f_val _ | exact f_own _ | (simp only [List.length_map, List.length_replicate, List.length_append, List.length_cons, List.length_nil, firstI_length, List.length_range, rowsD_length, List.length_drop, List.length_take, sortB_len, rangeI_len]; omega)) only [↓rb, ↓r_ofO, ↓r_den, ↓r_oX1, ↓r_oX2, ↓r_bX1, ↓r_bX2, ↓r_lX1, ↓r_lX2, ↓r_C, ↓r_Var, ↓r_Val, ↓r_Move, ↓r_fz, ↓r_ofD, ↓r_Op, ↓r_eOp, ↓r_Un, ↓r_CB, ↓r_eCB, ↓r_Mul, ↓r_Nil, ↓r_Cons, ↓r_Lst, ↓r_Tup, ↓r_Bl, ↓r_And, ↓r_Or, ↓r_NotM, ↓r_Yes, ↓r_If, ↓r_Chain, ↓r_Next, ↓r_Seq, ↓r_Bk, ↓r_Ct, ↓r_Never, ↓r_Ret, ↓r_RetN, ↓r_Expr, ↓r_sIf, ↓r_Set, ↓r_Asg, ↓r_Par, ↓r_bName, ↓r_bNil, ↓r_bCons, ↓r_bTup, ↓r_bTupL, ↓r_free, ↓f_non, ↓f_val, ↓f_own, ↓f_pin, ↓r_toSl, ↓r_fzR, ↓r_dAnd, ↓r_dOr, ↓r_dNot, ↓r_ixO, ↓r_Put, ↓r_Mut, ↓r_arNil, ↓r_arV, ↓r_arR, ↓r_Call, ↓r_CallK, ↓r_CallKD, ↓r_CallT, ↓r_For, ↓r_Lc, ↓r_iSeq, ↓r_iRng1, ↓r_iRng2, ↓r_iEnum, ↓r_iEnumA, ↓r_iEnumB, ↓r_TR1, ↓r_LenO, ↓r_NeO, ↓r_iZip, ↓r_iZipB, ↓r_LenSet, ↓r_step, ↓r_LR1, ↓r_LR2, ↓r_oNone, ↓r_oSome, ↓r_Cut, ↓r_Rev, ↓r_RevA, ↓r_keep, ↓r_Raise, ↓r_Try, ↓r_endX, ↓r_Exn, ↓r_Fld, ↓r_FldM, ↓r_FldAdd, ↓r_bFld, ↓r_Meth, ↓r_MethT, ↓r_Make, ↓r_Par3, ↓r_Par3E, ↓r_AugN, ↓r_AugPut, ↓f_exn, ↓nx_nil, ↓nx_n, ↓nx_v, ↓nx_o, ↓nx_x, ↓r_Isi, ↓r_IsiT, ↓r_Bor, ↓r_BorE, ↓r_noEx, ↓r_wipe0, ↓r_wipe1, ↓r_outs0, ↓r_outs1, ↓r_out1, ↓r_out2, ↓r_mkA0, ↓r_mkA1, ↓r_mkA2, ↓r_wb0, ↓r_wb1, ↓r_wb2, ↓r_Said, ↓r_hide0, ↓r_hide1, ↓r_hideV, ↓r_hideO, ↓r_hideN, ↓r_IsE, ↓r_IsE2, ↓r_iZip3, ↓r_Mt, ↓r_Pre, ↓r_CutO, ↓r_setOwn, ↓r_Copy, ↓r_pick0, ↓r_pick1, ↓r_val0, ↓r_val1, ↓r_Dc, ↓r_Get2, ↓r_IxK, ↓r_IxKO, ↓r_PutK, ↓r_Dic0, ↓r_dstep, ↓r_TryM, ↓r_suX0, ↓r_suX1, ↓r_EnumZip, ↓g0, ↓g1, ↓g2, ↓g3, ↓g4, ↓g5, ↓g6, ↓g7, ↓g8, ↓g9, ↓g10, ↓g11, ↓g12, ↓g13, ↓g14, ↓g15, ↓g16, ↓g17, ↓g18, ↓g19, ↓g20, ↓g21, ↓g22, ↓g23, ↓g24, ↓g25, ↓u0, ↓u1, ↓u2, ↓u3, ↓u4, ↓u5, ↓u6, ↓u7, ↓u8, ↓u9, ↓u10, ↓u11, ↓u12, ↓u13, ↓u14, ↓u15, ↓u16, ↓u17, ↓u18, ↓u19, ↓u20, ↓u21, ↓u22, ↓u23, ↓u24, ↓u25, k_int, v_eqE0, v_neE0, K_nb, K_ni, K_ns, K_nl, K_nt, K_bb, K_bi, K_bs, K_bl, K_bt, K_ib, K_ii, K_is, K_il, K_it, K_sb, K_si, K_ss, K_sl, K_st, K_lb, K_li, K_ls, K_ll, K_lt, K_tb, K_ti, K_ts, K_tl, K_tt, K_db, K_di, K_ds, K_dl, K_dt, t_n, t_d, t_s, r_outO1, r_outO2, r_Ask1, r_Ask2, v_TR, v_add, v_sub, v_neg, v_lt, v_le, v_gt, v_ge, v_eq, v_ne, v_max2, v_min2, v_mod, v_div, v_pow9, v_pow18, v_mulL, v_mulR, v_divmod, v_lenL, v_lenT, v_sum, v_eqL, v_listOf, v_inT2, v_sorted, sortB_f, v_sortL, v_sortT, v_sortDL, v_sortDT, v_sortDP, v_keep, v_tupL, v_tupT, v_sumL, v_sumT, v_app, v_neL, v_pow39, v_pow40, ob_nil, ob_zero, ob_1, ob_2, ob_3, ob_4, ob_5, ob_6, ob_7, ob_8, ll_n, ll_b, ll_i, ll_s, bs_n, bs_v, bs_l, bs_s, llA_ints, List.all_cons, List.all_nil, Bool.and_true, Bool.true_and, Bool.false_and, Bool.and_false, Bool.and_self, v_isN0, v_isNi, v_notN0, v_notNi, v_ixL, v_ixT, v_cutL, v_cutT, k_ii, k_ib, k_bi, k_bb, k_ll, k_lt, k_tl, k_tt, t_i, t_b, t_l, t_t, isR, if_true, true_and, and_true, and_self, if_false, if_pos, Bool.not_true, Bool.not_false, List.length_cons, List.length_nil, List.replicate, List.cons_append, List.nil_append, List.head?_cons, List.tail_cons, List.any_nil, List.any_cons, Bool.false_eq_true, Bool.or_false, Bool.false_or, beq_self_eq_true, Nat.reduceSub, Nat.reduceAdd, Nat.reduceLeDiff, Nat.reduceBEq, Nat.reduceEqDiff, reduceIte, eq_self, reduceCtorEq, bo_rvV, bo_rvL, bo_nil, bo_cons, bo_non, bo_valS, bo_int, bo_bool, bo_own, bo_src, kp_p1, kp_p2, kp_p3, kp_p4, kp_p5, kp_p6, kp_h, kp_d, kp_l1, kp_l2, kp_l3, kp_l4, kp_l5, kp_l6, kp_cups, kp_scoops, kp_rows, kp_looks, kp_held, kp_done, kp_choose, kp_nums, kp_stand, Int.reduceToNat, Int.reduceBEq, Nat.zero_add, Nat.reduceLT, f1, f2, f3, f4, f5, f6, f7, f8, u_w_law_1, ↓q8, ↓q9, e0, e1, e2, ht, e3, e4, ↓hr, e5, e6, e7, hc, e8, v_lrK0, e9, ↓hd, ↓hw]
theorem e_turn (z : Int) (N s1' s2' s3' s4' s5' s6' s7' s8' : Sl) (f1 : fre (some s1') = true) (f2 : fre (some s2') = true) (f3 : fre (some s3') = true) (f4 : fre (some s4') = true) (f5 : fre (some s5') = true) (f6 : fre (some s6') = true) (f7 : fre (some s7') = true) (f8 : fre (some s8') = true) :
    ∃ t1 t2 t3 t4 t5 t6 t7 t8 : Sl, (fre (some t1) = true ∧ fre (some t2) = true ∧ fre (some t3) = true ∧ fre (some t4) = true ∧ fre (some t5) = true ∧ fre (some t6) = true ∧ fre (some t7) = true ∧ fre (some t8) = true) ∧ (ofO (bName 1 (.int z) [N, s1', s2', s3', s4', s5', s6', s7', s8'])).bind w_law_1 = .ok (.nx, [N, t1, t2, t3, t4, t5, t6, t7, t8]) := by
  obtain ⟨s0, dn, hn, e1⟩ := e_one (z, z, 0) [PyData.int 2, .int 3, .int 4, .int 5, .int 6, .int 7, .int 3, .int 40] (by decide) (by decide)
  obtain ⟨n, rfl, n2, n40⟩ : ∃ n : Int, dn = .int n ∧ 2 ≤ n ∧ n ≤ 40 := by
    simp only [List.mem_cons, List.not_mem_nil, or_false] at hn
    rcases hn with rfl | rfl | rfl | rfl | rfl | rfl | rfl | rfl <;> exact ⟨_, rfl, by omega, by omega⟩
  have e2 := e_take s0 12 (by omega) (by omega)
  have b0 := tkV_nn s0 (m := 12) (by omega)
  have b1 := tkV_lt s0 (m := 12) (by omega)
  generalize tkV s0 12 = b at *
  generalize tkS s0 12 = s1 at *
  obtain ⟨s2, P, e3, O, hz, hp⟩ := e_pours s1 n (1 + b) (by omega) n40 (by omega) (by omega)
  obtain ⟨s3, R, e4, OR, hr⟩ := e_rows s2 n (1 + b) (by omega) n40 (by omega) (by omega)
  cases P with
  | nil => simp at hp; omega
  | cons q0 P =>
    rw [List.length_cons] at hp
    have hl : R.length = P.length + 1 := by omega
    have ok := okR_both (P := q0 :: P) (by omega) n40 O hz OR (by rw [List.length_cons]; omega) (by omega)
    have hd : ∀ d : Int, pNe (.int d) (.int d) = some (.bool false) := fun d => v_neSelf rfl
    have ew := e_worst n q0 P R O hl n2 n40
    rw [worst_same n q0 P R (O.len q0 (List.mem_cons_self ..)) n2 (O.nn q0 (List.mem_cons_self ..)) hl] at ew
    have cr : cutD (R.map rowD) none (some (-1)) = (R.take P.length).map rowD := by
      rw [cut_m1, List.length_map, hl, Nat.add_sub_cancel, List.map_take]
    have other : ∀ x : Row, (∀ z ∈ x.2, 0 ≤ z ∧ z < n) → x.2.Nodup → d_worst_of [.val (.list ((q0 :: P).map tpD)), .val (.list ((R.take P.length).map rowD ++ [rowD x]))] = .ok (.val (.int (pwI q0 (maxI q0) (R.zip P))), [.val (.list ((q0 :: P).map tpD)), .val (.list ((R.take P.length).map rowD ++ [rowD x]))]) := fun x xm xn => by
      have lt : (R.take P.length).length = P.length := by rw [List.length_take]; omega
      have e := e_worst_of (.list ((q0 :: P).map tpD)) (.list ((R.take P.length ++ [x]).map rowD)) n q0 P (R.take P.length ++ [x]) (.inl rfl) (.inl rfl) O ⟨fun y hy => by
        rcases List.mem_append.mp hy with hy | hy
        · exact OR.mem y (List.mem_of_mem_take hy)
        · have : y = x := by simpa using hy
          rw [this]; exact xm, fun y hy => by
        rcases List.mem_append.mp hy with hy | hy
        · exact OR.nd y (List.mem_of_mem_take hy)
        · have : y = x := by simpa using hy
          rw [this]; exact xn⟩ (by rw [List.length_append, lt]; rfl) n2 n40
      rw [zip_last (R.take P.length ++ [x]) R P (by rw [List.take_append_of_le_length (by omega), List.take_take, Nat.min_self]), List.map_append] at e
      exact e
    refine ⟨_, _, _, _, _, _, _, _, ⟨rfl, rfl, rfl, rfl, rfl, rfl, rfl, rfl⟩, tu_run z (z, z, 0) s0 s1 s2 s3 N s1' s2' s3' s4' s5' s6' s7' s8' n b (1 + b) _ rfl _ _ _ _ f1 f2 f3 f4 f5 f6 f7 f8 (by omega) n40 (e_source z) e1 e2 e3 e4 (v_repr ok) ew
      (e_worst_of _ _ n q0 P R (.inl rfl) (.inl rfl) O OR hl n2 n40) (e_worst_of _ _ n q0 P R (.inr rfl) (.inr rfl) O OR hl n2 n40) cr (by rw [List.length_map, List.length_take]; omega) (other (false, []) (fun _ h => nomatch h) List.nodup_nil) (other (false, rangeI 0 n.toNat) (fun z hz => by have := mem_rangeI.mp hz; omega) ((rangeI_up n.toNat).imp fun h => Int.ne_of_lt h)) (hd _) (v_neSelf (shp_shown ok))⟩
theorem law_true (ns : List Int) (hn : ns.length ≤ 63) (_ : ∀ z ∈ ns, Builtin.Int.intBits z ≤ 1048576) : ∃ r', d_law [.val (.list (ns.map .int))] = .ok (.val (.bool true), r') := by
  have hc := cut_ints_to ns 8 (by omega)
  have lc : (ns.take (8 : Int).toNat).length ≤ 63 := by rw [List.length_take]; omega
  generalize ns.take (8 : Int).toNat = cs at *
  have q1 := v_catL (cs.map PyData.int) [PyData.int 0] (by simp only [List.length_cons, List.length_nil, List.length_map]; omega)
  have q2 : cs.map PyData.int ++ [PyData.int 0] = (cs ++ [0]).map .int := by rw [List.map_append]; rfl
  rw [q2] at q1
  obtain ⟨r', e, s1, s2, s3, s4, s5, s6, s7, s8, ⟨f1, f2, f3, f4, f5, f6, f7, f8⟩, rfl⟩ := forD_inv (b := bName 1) (body := w_law_1) (fun _ r => ∃ s1 s2 s3 s4 s5 s6 s7 s8 : Sl, (fre (some s1) = true ∧ fre (some s2) = true ∧ fre (some s3) = true ∧ fre (some s4) = true ∧ fre (some s5) = true ∧ fre (some s6) = true ∧ fre (some s7) = true ∧ fre (some s8) = true) ∧ r = [.val (.list (ns.map .int)), s1, s2, s3, s4, s5, s6, s7, s8]) ((cs ++ [0]).map PyData.int)
    [.val (.list (ns.map .int)), .non, .non, .non, .non, .non, .non, .non, .non] ⟨.non, .non, .non, .non, .non, .non, .non, .non, ⟨rfl, rfl, rfl, rfl, rfl, rfl, rfl, rfl⟩, rfl⟩ (fun i d hd r ⟨s1, s2, s3, s4, s5, s6, s7, s8, ⟨f1, f2, f3, f4, f5, f6, f7, f8⟩, hr⟩ => by
      subst hr
      obtain ⟨z, _, rfl⟩ := ints_at hd
      obtain ⟨t1, t2, t3, t4, t5, t6, t7, t8, ft, er⟩ := e_turn z (.val (.list (ns.map .int))) s1 s2 s3 s4 s5 s6 s7 s8 f1 f2 f3 f4 f5 f6 f7 f8
      exact ⟨_, .inl er, t1, t2, t3, t4, t5, t6, t7, t8, ft, rfl⟩)
  rw [q_law]
  simp (maxSteps := 1000000) (disch := first | omega | exact Or.inl rfl | exact Or.inr rfl | exact f_non | exact f_val _ | exact f_own _ | (simp only [List.length_map, List.length_replicate, List.length_append, List.length_cons, List.length_nil, firstI_length, List.length_range, rowsD_length, List.length_drop, List.length_take, sortB_len, rangeI_len]; omega)) only [↓rb, ↓r_ofO, ↓r_den, ↓r_oX1, ↓r_oX2, ↓r_bX1, ↓r_bX2, ↓r_lX1, ↓r_lX2, ↓r_C, ↓r_Var, ↓r_Val, ↓r_Move, ↓r_fz, ↓r_ofD, ↓r_Op, ↓r_eOp, ↓r_Un, ↓r_CB, ↓r_eCB, ↓r_Mul, ↓r_Nil, ↓r_Cons, ↓r_Lst, ↓r_Tup, ↓r_Bl, ↓r_And, ↓r_Or, ↓r_NotM, ↓r_Yes, ↓r_If, ↓r_Chain, ↓r_Next, ↓r_Seq, ↓r_Bk, ↓r_Ct, ↓r_Never, ↓r_Ret, ↓r_RetN, ↓r_Expr, ↓r_sIf, ↓r_Set, ↓r_Asg, ↓r_Par, ↓r_bName, ↓r_bNil, ↓r_bCons, ↓r_bTup, ↓r_bTupL, ↓r_free, ↓f_non, ↓f_val, ↓f_own, ↓f_pin, ↓r_toSl, ↓r_fzR, ↓r_dAnd, ↓r_dOr, ↓r_dNot, ↓r_ixO, ↓r_Put, ↓r_Mut, ↓r_arNil, ↓r_arV, ↓r_arR, ↓r_Call, ↓r_CallK, ↓r_CallKD, ↓r_CallT, ↓r_For, ↓r_Lc, ↓r_iSeq, ↓r_iRng1, ↓r_iRng2, ↓r_iEnum, ↓r_iEnumA, ↓r_iEnumB, ↓r_TR1, ↓r_LenO, ↓r_NeO, ↓r_iZip, ↓r_iZipB, ↓r_LenSet, ↓r_step, ↓r_LR1, ↓r_LR2, ↓r_oNone, ↓r_oSome, ↓r_Cut, ↓r_Rev, ↓r_RevA, ↓r_keep, ↓r_Raise, ↓r_Try, ↓r_endX, ↓r_Exn, ↓r_Fld, ↓r_FldM, ↓r_FldAdd, ↓r_bFld, ↓r_Meth, ↓r_MethT, ↓r_Make, ↓r_Par3, ↓r_Par3E, ↓r_AugN, ↓r_AugPut, ↓f_exn, ↓nx_nil, ↓nx_n, ↓nx_v, ↓nx_o, ↓nx_x, ↓r_Isi, ↓r_IsiT, ↓r_Bor, ↓r_BorE, ↓r_noEx, ↓r_wipe0, ↓r_wipe1, ↓r_outs0, ↓r_outs1, ↓r_out1, ↓r_out2, ↓r_mkA0, ↓r_mkA1, ↓r_mkA2, ↓r_wb0, ↓r_wb1, ↓r_wb2, ↓r_Said, ↓r_hide0, ↓r_hide1, ↓r_hideV, ↓r_hideO, ↓r_hideN, ↓r_IsE, ↓r_IsE2, ↓r_iZip3, ↓r_Mt, ↓r_Pre, ↓r_CutO, ↓r_setOwn, ↓r_Copy, ↓r_pick0, ↓r_pick1, ↓r_val0, ↓r_val1, ↓r_Dc, ↓r_Get2, ↓r_IxK, ↓r_IxKO, ↓r_PutK, ↓r_Dic0, ↓r_dstep, ↓r_TryM, ↓r_suX0, ↓r_suX1, ↓r_EnumZip, ↓g0, ↓g1, ↓g2, ↓g3, ↓g4, ↓g5, ↓g6, ↓g7, ↓g8, ↓g9, ↓g10, ↓g11, ↓g12, ↓g13, ↓g14, ↓g15, ↓g16, ↓g17, ↓g18, ↓g19, ↓g20, ↓g21, ↓g22, ↓g23, ↓g24, ↓g25, ↓u0, ↓u1, ↓u2, ↓u3, ↓u4, ↓u5, ↓u6, ↓u7, ↓u8, ↓u9, ↓u10, ↓u11, ↓u12, ↓u13, ↓u14, ↓u15, ↓u16, ↓u17, ↓u18, ↓u19, ↓u20, ↓u21, ↓u22, ↓u23, ↓u24, ↓u25, k_int, v_eqE0, v_neE0, K_nb, K_ni, K_ns, K_nl, K_nt, K_bb, K_bi, K_bs, K_bl, K_bt, K_ib, K_ii, K_is, K_il, K_it, K_sb, K_si, K_ss, K_sl, K_st, K_lb, K_li, K_ls, K_ll, K_lt, K_tb, K_ti, K_ts, K_tl, K_tt, K_db, K_di, K_ds, K_dl, K_dt, t_n, t_d, t_s, r_outO1, r_outO2, r_Ask1, r_Ask2, v_TR, v_add, v_sub, v_neg, v_lt, v_le, v_gt, v_ge, v_eq, v_ne, v_max2, v_min2, v_mod, v_div, v_pow9, v_pow18, v_mulL, v_mulR, v_divmod, v_lenL, v_lenT, v_sum, v_eqL, v_listOf, v_inT2, v_sorted, sortB_f, v_sortL, v_sortT, v_sortDL, v_sortDT, v_sortDP, v_keep, v_tupL, v_tupT, v_sumL, v_sumT, v_app, v_neL, v_pow39, v_pow40, ob_nil, ob_zero, ob_1, ob_2, ob_3, ob_4, ob_5, ob_6, ob_7, ob_8, ll_n, ll_b, ll_i, ll_s, bs_n, bs_v, bs_l, bs_s, llA_ints, List.all_cons, List.all_nil, Bool.and_true, Bool.true_and, Bool.false_and, Bool.and_false, Bool.and_self, v_isN0, v_isNi, v_notN0, v_notNi, v_ixL, v_ixT, v_cutL, v_cutT, k_ii, k_ib, k_bi, k_bb, k_ll, k_lt, k_tl, k_tt, t_i, t_b, t_l, t_t, isR, if_true, true_and, and_true, and_self, if_false, if_pos, Bool.not_true, Bool.not_false, List.length_cons, List.length_nil, List.replicate, List.cons_append, List.nil_append, List.head?_cons, List.tail_cons, List.any_nil, List.any_cons, Bool.false_eq_true, Bool.or_false, Bool.false_or, beq_self_eq_true, Nat.reduceSub, Nat.reduceAdd, Nat.reduceLeDiff, Nat.reduceBEq, Nat.reduceEqDiff, reduceIte, eq_self, reduceCtorEq, bo_rvV, bo_rvL, bo_nil, bo_cons, bo_non, bo_valS, bo_int, bo_bool, bo_own, bo_src, kp_p1, kp_p2, kp_p3, kp_p4, kp_p5, kp_p6, kp_h, kp_d, kp_l1, kp_l2, kp_l3, kp_l4, kp_l5, kp_l6, kp_cups, kp_scoops, kp_rows, kp_looks, kp_held, kp_done, kp_choose, kp_nums, kp_stand, Int.reduceToNat, Int.reduceBEq, Nat.zero_add, Nat.reduceLT, hc, q1, e]
  exact ⟨_, rfl⟩
end Gk
namespace Gk
open PySem PySem.Spec PyProof.Rows L2 DL
theorem all_mk {l : PySem.W.OpenLaw} {w : World} {K : PySem.W.Frag} {h : Heap} {mg : Str → Option Value} {fa : Addr} (X : K.In h) (G : h.Ns mainGlobals mg) (hfa : mg "law" = some (.ref fa))
    {od0 an0 : Option Addr} {sl0 : Array (Option Value)} {oc0 kV0 dc0 pm0 ct0 : Value} {f0 : Addr}
    {cd0 : Value}
    {od1 an1 : Option Addr} {sl1 : Array (Option Value)} {oc1 kV1 dc1 pm1 ct1 : Value} {f1 : Addr}
    {cd1 : Value}
    {od2 an2 : Option Addr} {sl2 : Array (Option Value)} {oc2 kV2 dc2 pm2 ct2 : Value} {f2 : Addr}
    {cd2 : Value}
    {od3 an3 : Option Addr} {sl3 : Array (Option Value)} {oc3 kV3 dc3 pm3 ct3 : Value} {f3 : Addr}
    {cd3 : Value}
    {od4 an4 : Option Addr} {sl4 : Array (Option Value)} {oc4 kV4 dc4 pm4 ct4 : Value} {f4 : Addr}
    {cd4 : Value}
    {od5 an5 : Option Addr} {sl5 : Array (Option Value)} {oc5 kV5 dc5 pm5 ct5 : Value} {f5 : Addr}
    {cd5 : Value}
    {od6 an6 : Option Addr} {sl6 : Array (Option Value)} {oc6 kV6 dc6 pm6 ct6 : Value} {f6 : Addr}
    {cd6 : Value}
    {od7 an7 : Option Addr} {sl7 : Array (Option Value)} {oc7 kV7 dc7 pm7 ct7 : Value} {f7 : Addr}
    {cd7 : Value}
    {od8 an8 : Option Addr} {sl8 : Array (Option Value)} {oc8 kV8 dc8 pm8 ct8 : Value} {f8 : Addr}
    {cd8 : Value}
    {od9 an9 : Option Addr} {sl9 : Array (Option Value)} {oc9 kV9 dc9 pm9 ct9 : Value} {f9 : Addr}
    {cd9 : Value}
    {od10 an10 : Option Addr} {sl10 : Array (Option Value)} {oc10 kV10 dc10 pm10 ct10 : Value} {f10 : Addr}
    {cd10 : Value}
    {od11 an11 : Option Addr} {sl11 : Array (Option Value)} {oc11 kV11 dc11 pm11 ct11 : Value} {f11 : Addr}
    {cd11 : Value}
    {od12 an12 : Option Addr} {sl12 : Array (Option Value)} {oc12 kV12 dc12 pm12 ct12 : Value} {f12 : Addr}
    {cd12 : Value}
    {od13 an13 : Option Addr} {sl13 : Array (Option Value)} {oc13 kV13 dc13 pm13 ct13 : Value} {f13 : Addr}
    {cd13 : Value}
    {od14 an14 : Option Addr} {sl14 : Array (Option Value)} {oc14 kV14 dc14 pm14 ct14 : Value} {f14 : Addr}
    {cd14 : Value}
    {od15 an15 : Option Addr} {sl15 : Array (Option Value)} {oc15 kV15 dc15 pm15 ct15 : Value} {f15 : Addr}
    {cd15 : Value}
    {od16 an16 : Option Addr} {sl16 : Array (Option Value)} {oc16 kV16 dc16 pm16 ct16 : Value} {f16 : Addr}
    {cd16 : Value}
    {od17 an17 : Option Addr} {sl17 : Array (Option Value)} {oc17 kV17 dc17 pm17 ct17 : Value} {f17 : Addr}
    {cd17 : Value}
    {od18 an18 : Option Addr} {sl18 : Array (Option Value)} {oc18 kV18 dc18 pm18 ct18 : Value} {f18 : Addr}
    {cd18 : Value}
    {od19 an19 : Option Addr} {sl19 : Array (Option Value)} {oc19 kV19 dc19 pm19 ct19 : Value} {f19 : Addr}
    {cd19 : Value}
    {od20 an20 : Option Addr} {sl20 : Array (Option Value)} {oc20 kV20 dc20 pm20 ct20 : Value} {f20 : Addr}
    {cd20 : Value}
    {t_LEAST_CUPS : Tok}
    {t_MOST_CUPS : Tok}
    (a0 : PySem.W.nsIn K mainGlobals "_law_mixed" = some (some (.ref f0)))
    (l0 : K.lookup f0 = some ⟨oc0, od0, .func (PySem.W.fnOf "_law_mixed" "_law_mixed" (defArgs s__law_mixed) (defBody s__law_mixed) (defScope s__law_mixed) .none kV0 dc0 pm0 an0 cd0 ct0), sl0⟩) (c0 : PySem.W.codeIn K cd0 "_law_mixed" = true) (k0 : PySem.W.keepIn K (.ref f0) = true)
    (a1 : PySem.W.nsIn K mainGlobals "_law_take" = some (some (.ref f1)))
    (l1 : K.lookup f1 = some ⟨oc1, od1, .func (PySem.W.fnOf "_law_take" "_law_take" (defArgs s__law_take) (defBody s__law_take) (defScope s__law_take) .none kV1 dc1 pm1 an1 cd1 ct1), sl1⟩) (c1 : PySem.W.codeIn K cd1 "_law_take" = true) (k1 : PySem.W.keepIn K (.ref f1) = true)
    (a2 : PySem.W.nsIn K mainGlobals "_law_one" = some (some (.ref f2)))
    (l2 : K.lookup f2 = some ⟨oc2, od2, .func (PySem.W.fnOf "_law_one" "_law_one" (defArgs s__law_one) (defBody s__law_one) (defScope s__law_one) .none kV2 dc2 pm2 an2 cd2 ct2), sl2⟩) (c2 : PySem.W.codeIn K cd2 "_law_one" = true) (k2 : PySem.W.keepIn K (.ref f2) = true)
    (a3 : PySem.W.nsIn K mainGlobals "_law_great" = some (some (.ref f3)))
    (l3 : K.lookup f3 = some ⟨oc3, od3, .func (PySem.W.fnOf "_law_great" "_law_great" (defArgs s__law_great) (defBody s__law_great) (defScope s__law_great) .none kV3 dc3 pm3 an3 cd3 ct3), sl3⟩) (c3 : PySem.W.codeIn K cd3 "_law_great" = true) (k3 : PySem.W.keepIn K (.ref f3) = true)
    (a4 : PySem.W.nsIn K mainGlobals "_law_shared" = some (some (.ref f4)))
    (l4 : K.lookup f4 = some ⟨oc4, od4, .func (PySem.W.fnOf "_law_shared" "_law_shared" (defArgs s__law_shared) (defBody s__law_shared) (defScope s__law_shared) .none kV4 dc4 pm4 an4 cd4 ct4), sl4⟩) (c4 : PySem.W.codeIn K cd4 "_law_shared" = true) (k4 : PySem.W.keepIn K (.ref f4) = true)
    (a5 : PySem.W.nsIn K mainGlobals "_law_pours" = some (some (.ref f5)))
    (l5 : K.lookup f5 = some ⟨oc5, od5, .func (PySem.W.fnOf "_law_pours" "_law_pours" (defArgs s__law_pours) (defBody s__law_pours) (defScope s__law_pours) .none kV5 dc5 pm5 an5 cd5 ct5), sl5⟩) (c5 : PySem.W.codeIn K cd5 "_law_pours" = true) (k5 : PySem.W.keepIn K (.ref f5) = true)
    (a6 : PySem.W.nsIn K mainGlobals "_law_shuffled" = some (some (.ref f6)))
    (l6 : K.lookup f6 = some ⟨oc6, od6, .func (PySem.W.fnOf "_law_shuffled" "_law_shuffled" (defArgs s__law_shuffled) (defBody s__law_shuffled) (defScope s__law_shuffled) .none kV6 dc6 pm6 an6 cd6 ct6), sl6⟩) (c6 : PySem.W.codeIn K cd6 "_law_shuffled" = true) (k6 : PySem.W.keepIn K (.ref f6) = true)
    (a7 : PySem.W.nsIn K mainGlobals "_law_rows" = some (some (.ref f7)))
    (l7 : K.lookup f7 = some ⟨oc7, od7, .func (PySem.W.fnOf "_law_rows" "_law_rows" (defArgs s__law_rows) (defBody s__law_rows) (defScope s__law_rows) .none kV7 dc7 pm7 an7 cd7 ct7), sl7⟩) (c7 : PySem.W.codeIn K cd7 "_law_rows" = true) (k7 : PySem.W.keepIn K (.ref f7) = true)
    (a8 : PySem.W.nsIn K mainGlobals "_law_source" = some (some (.ref f8)))
    (l8 : K.lookup f8 = some ⟨oc8, od8, .func (PySem.W.fnOf "_law_source" "_law_source" (defArgs s__law_source) (defBody s__law_source) (defScope s__law_source) .none kV8 dc8 pm8 an8 cd8 ct8), sl8⟩) (c8 : PySem.W.codeIn K cd8 "_law_source" = true) (k8 : PySem.W.keepIn K (.ref f8) = true)
    (a9 : PySem.W.nsIn K mainGlobals "_law_worst" = some (some (.ref f9)))
    (l9 : K.lookup f9 = some ⟨oc9, od9, .func (PySem.W.fnOf "_law_worst" "_law_worst" (defArgs s__law_worst) (defBody s__law_worst) (defScope s__law_worst) .none kV9 dc9 pm9 an9 cd9 ct9), sl9⟩) (c9 : PySem.W.codeIn K cd9 "_law_worst" = true) (k9 : PySem.W.keepIn K (.ref f9) = true)
    (a10 : PySem.W.nsIn K mainGlobals "poured_behind" = some (some (.ref f10)))
    (l10 : K.lookup f10 = some ⟨oc10, od10, .func (PySem.W.fnOf "poured_behind" "poured_behind" (defArgs s_poured_behind) (defBody s_poured_behind) (defScope s_poured_behind) .none kV10 dc10 pm10 an10 cd10 ct10), sl10⟩) (c10 : PySem.W.codeIn K cd10 "poured_behind" = true) (k10 : PySem.W.keepIn K (.ref f10) = true)
    (a11 : PySem.W.nsIn K mainGlobals "is_whole" = some (some (.ref f11)))
    (l11 : K.lookup f11 = some ⟨oc11, od11, .func (PySem.W.fnOf "is_whole" "is_whole" (defArgs s_is_whole) (defBody s_is_whole) (defScope s_is_whole) .none kV11 dc11 pm11 an11 cd11 ct11), sl11⟩) (c11 : PySem.W.codeIn K cd11 "is_whole" = true) (k11 : PySem.W.keepIn K (.ref f11) = true)
    (a12 : PySem.W.nsIn K mainGlobals "is_count" = some (some (.ref f12)))
    (l12 : K.lookup f12 = some ⟨oc12, od12, .func (PySem.W.fnOf "is_count" "is_count" (defArgs s_is_count) (defBody s_is_count) (defScope s_is_count) .none kV12 dc12 pm12 an12 cd12 ct12), sl12⟩) (c12 : PySem.W.codeIn K cd12 "is_count" = true) (k12 : PySem.W.keepIn K (.ref f12) = true)
    (a13 : PySem.W.nsIn K mainGlobals "are_counts" = some (some (.ref f13)))
    (l13 : K.lookup f13 = some ⟨oc13, od13, .func (PySem.W.fnOf "are_counts" "are_counts" (defArgs s_are_counts) (defBody s_are_counts) (defScope s_are_counts) .none kV13 dc13 pm13 an13 cd13 ct13), sl13⟩) (c13 : PySem.W.codeIn K cd13 "are_counts" = true) (k13 : PySem.W.keepIn K (.ref f13) = true)
    (a14 : PySem.W.nsIn K mainGlobals "are_amounts" = some (some (.ref f14)))
    (l14 : K.lookup f14 = some ⟨oc14, od14, .func (PySem.W.fnOf "are_amounts" "are_amounts" (defArgs s_are_amounts) (defBody s_are_amounts) (defScope s_are_amounts) .none kV14 dc14 pm14 an14 cd14 ct14), sl14⟩) (c14 : PySem.W.codeIn K cd14 "are_amounts" = true) (k14 : PySem.W.keepIn K (.ref f14) = true)
    (a15 : PySem.W.nsIn K mainGlobals "want_pours" = some (some (.ref f15)))
    (l15 : K.lookup f15 = some ⟨oc15, od15, .func (PySem.W.fnOf "want_pours" "want_pours" (defArgs s_want_pours) (defBody s_want_pours) (defScope s_want_pours) .none kV15 dc15 pm15 an15 cd15 ct15), sl15⟩) (c15 : PySem.W.codeIn K cd15 "want_pours" = true) (k15 : PySem.W.keepIn K (.ref f15) = true)
    (a16 : PySem.W.nsIn K mainGlobals "is_from" = some (some (.ref f16)))
    (l16 : K.lookup f16 = some ⟨oc16, od16, .func (PySem.W.fnOf "is_from" "is_from" (defArgs s_is_from) (defBody s_is_from) (defScope s_is_from) .none kV16 dc16 pm16 an16 cd16 ct16), sl16⟩) (c16 : PySem.W.codeIn K cd16 "is_from" = true) (k16 : PySem.W.keepIn K (.ref f16) = true)
    (a17 : PySem.W.nsIn K mainGlobals "are_numbers" = some (some (.ref f17)))
    (l17 : K.lookup f17 = some ⟨oc17, od17, .func (PySem.W.fnOf "are_numbers" "are_numbers" (defArgs s_are_numbers) (defBody s_are_numbers) (defScope s_are_numbers) .none kV17 dc17 pm17 an17 cd17 ct17), sl17⟩) (c17 : PySem.W.codeIn K cd17 "are_numbers" = true) (k17 : PySem.W.keepIn K (.ref f17) = true)
    (a18 : PySem.W.nsIn K mainGlobals "want_rows" = some (some (.ref f18)))
    (l18 : K.lookup f18 = some ⟨oc18, od18, .func (PySem.W.fnOf "want_rows" "want_rows" (defArgs s_want_rows) (defBody s_want_rows) (defScope s_want_rows) .none kV18 dc18 pm18 an18 cd18 ct18), sl18⟩) (c18 : PySem.W.codeIn K cd18 "want_rows" = true) (k18 : PySem.W.keepIn K (.ref f18) = true)
    (a19 : PySem.W.nsIn K mainGlobals "worst_of" = some (some (.ref f19)))
    (l19 : K.lookup f19 = some ⟨oc19, od19, .func (PySem.W.fnOf "worst_of" "worst_of" (defArgs s_worst_of) (defBody s_worst_of) (defScope s_worst_of) .none kV19 dc19 pm19 an19 cd19 ct19), sl19⟩) (c19 : PySem.W.codeIn K cd19 "worst_of" = true) (k19 : PySem.W.keepIn K (.ref f19) = true)
    (a20 : PySem.W.nsIn K mainGlobals "law" = some (some (.ref f20)))
    (l20 : K.lookup f20 = some ⟨oc20, od20, .func (PySem.W.fnOf "law" "law" (defArgs s_law) (defBody s_law) (defScope s_law) .none kV20 dc20 pm20 an20 cd20 ct20), sl20⟩) (c20 : PySem.W.codeIn K cd20 "law" = true) (k20 : PySem.W.keepIn K (.ref f20) = true)
    (z_all : PySem.W.nsIn K mainGlobals "all" = some none)
    (z_bool : PySem.W.nsIn K mainGlobals "bool" = some none)
    (z_enumerate : PySem.W.nsIn K mainGlobals "enumerate" = some none)
    (z_int : PySem.W.nsIn K mainGlobals "int" = some none)
    (z_isinstance : PySem.W.nsIn K mainGlobals "isinstance" = some none)
    (z_len : PySem.W.nsIn K mainGlobals "len" = some none)
    (z_list : PySem.W.nsIn K mainGlobals "list" = some none)
    (z_max : PySem.W.nsIn K mainGlobals "max" = some none)
    (z_range : PySem.W.nsIn K mainGlobals "range" = some none)
    (z_repr : PySem.W.nsIn K mainGlobals "repr" = some none)
    (z_set : PySem.W.nsIn K mainGlobals "set" = some none)
    (z_tuple : PySem.W.nsIn K mainGlobals "tuple" = some none)
    (z_zip : PySem.W.nsIn K mainGlobals "zip" = some none)
    (y_LEAST_CUPS : PySem.W.nsIn K mainGlobals "LEAST_CUPS" = some (some (.int 2 t_LEAST_CUPS)))
    (y_MOST_CUPS : PySem.W.nsIn K mainGlobals "MOST_CUPS" = some (some (.int 40 t_MOST_CUPS))) :
    ∃ (fd : FuncData) (cs : List (Addr × Addr × Str)), (∀ p ∈ cs, h.get? p.2.1 = some { cls := .none, data := .fields #[] }) ∧ (∀ p ∈ cs, K.lookup p.2.1 = none) ∧ (∀ p ∈ cs, PySem.W.CodeHd h p.1 p.2.1) ∧ (∀ (s : Shared) (v : Value), BindsTo s fd ⟨[v], []⟩ [("_law_script", v)]) ∧ ∀ base : Heap, K.In base → base.Ns mainGlobals mg → (∀ p ∈ cs, LamX.TabB base mg p.1 p.2.1) → FnG l.prog w K mg base 7 fa fd ["_law_script"] (@spM K (tabL K cs) 1 d_law) := by
  have e := hfa.symm.trans (PySem.W.mg_of X G a20)
  cases e
  have m_all := PySem.W.mg_none_of X G z_all
  have m_bool := PySem.W.mg_none_of X G z_bool
  have m_enumerate := PySem.W.mg_none_of X G z_enumerate
  have m_int := PySem.W.mg_none_of X G z_int
  have m_isinstance := PySem.W.mg_none_of X G z_isinstance
  have m_len := PySem.W.mg_none_of X G z_len
  have m_list := PySem.W.mg_none_of X G z_list
  have m_max := PySem.W.mg_none_of X G z_max
  have m_range := PySem.W.mg_none_of X G z_range
  have m_repr := PySem.W.mg_none_of X G z_repr
  have m_set := PySem.W.mg_none_of X G z_set
  have m_tuple := PySem.W.mg_none_of X G z_tuple
  have m_zip := PySem.W.mg_none_of X G z_zip
  have g_LEAST_CUPS := PySem.W.mg_of X G y_LEAST_CUPS
  have g_MOST_CUPS := PySem.W.mg_of X G y_MOST_CUPS
  have g__law_mixed := PySem.W.mg_of X G a0
  have F__law_mixed := fun_mk (st := s__law_mixed) l0 c0 k0
  have b__law_mixed := F__law_mixed.binds (ps := ["_law_cell", "_law_k"]) fun _ _ _ _ _ _ us hl => match us, hl with | [_, _], _ => rfl
  have g__law_take := PySem.W.mg_of X G a1
  have F__law_take := fun_mk (st := s__law_take) l1 c1 k1
  have b__law_take := F__law_take.binds (ps := ["_law_source_here", "_law_size"]) fun _ _ _ _ _ _ us hl => match us, hl with | [_, _], _ => rfl
  have g__law_one := PySem.W.mg_of X G a2
  have F__law_one := fun_mk (st := s__law_one) l2 c2 k2
  have b__law_one := F__law_one.binds (ps := ["_law_source_here", "_law_some"]) fun _ _ _ _ _ _ us hl => match us, hl with | [_, _], _ => rfl
  have g__law_great := PySem.W.mg_of X G a3
  have F__law_great := fun_mk (st := s__law_great) l3 c3 k3
  have b__law_great := F__law_great.binds (ps := ["_law_source_here", "_law_many"]) fun _ _ _ _ _ _ us hl => match us, hl with | [_, _], _ => rfl
  have g__law_shared := PySem.W.mg_of X G a4
  have F__law_shared := fun_mk (st := s__law_shared) l4 c4 k4
  have b__law_shared := F__law_shared.binds (ps := ["_law_source_here", "_law_crowd", "_law_total", "_law_is_heaped"]) fun _ _ _ _ _ _ us hl => match us, hl with | [_, _, _, _], _ => rfl
  have g__law_pours := PySem.W.mg_of X G a5
  have F__law_pours := fun_mk (st := s__law_pours) l5 c5 k5
  have b__law_pours := F__law_pours.binds (ps := ["_law_source_here", "_law_crowd", "_law_beats"]) fun _ _ _ _ _ _ us hl => match us, hl with | [_, _, _], _ => rfl
  have g__law_shuffled := PySem.W.mg_of X G a6
  have F__law_shuffled := fun_mk (st := s__law_shuffled) l6 c6 k6
  have b__law_shuffled := F__law_shuffled.binds (ps := ["_law_source_here", "_law_some"]) fun _ _ _ _ _ _ us hl => match us, hl with | [_, _], _ => rfl
  have g__law_rows := PySem.W.mg_of X G a7
  have F__law_rows := fun_mk (st := s__law_rows) l7 c7 k7
  have b__law_rows := F__law_rows.binds (ps := ["_law_source_here", "_law_crowd", "_law_beats"]) fun _ _ _ _ _ _ us hl => match us, hl with | [_, _, _], _ => rfl
  have g__law_source := PySem.W.mg_of X G a8
  have F__law_source := fun_mk (st := s__law_source) l8 c8 k8
  have b__law_source := F__law_source.binds (ps := ["_law_cell"]) fun _ _ _ _ _ _ us hl => match us, hl with | [_], _ => rfl
  have g__law_worst := PySem.W.mg_of X G a9
  have F__law_worst := fun_mk (st := s__law_worst) l9 c9 k9
  have b__law_worst := F__law_worst.binds (ps := ["_law_sheet", "_law_lines"]) fun _ _ _ _ _ _ us hl => match us, hl with | [_, _], _ => rfl
  have g_poured_behind := PySem.W.mg_of X G a10
  have F_poured_behind := fun_mk (st := s_poured_behind) l10 c10 k10
  have b_poured_behind := F_poured_behind.binds (ps := ["standing", "numbers", "pour"]) fun _ _ _ _ _ _ us hl => match us, hl with | [_, _, _], _ => rfl
  have g_is_whole := PySem.W.mg_of X G a11
  have F_is_whole := fun_mk (st := s_is_whole) l11 c11 k11
  have b_is_whole := F_is_whole.binds (ps := ["thing"]) fun _ _ _ _ _ _ us hl => match us, hl with | [_], _ => rfl
  have g_is_count := PySem.W.mg_of X G a12
  have F_is_count := fun_mk (st := s_is_count) l12 c12 k12
  have b_is_count := F_is_count.binds (ps := ["thing"]) fun _ _ _ _ _ _ us hl => match us, hl with | [_], _ => rfl
  have g_are_counts := PySem.W.mg_of X G a13
  have F_are_counts := fun_mk (st := s_are_counts) l13 c13 k13
  have b_are_counts := F_are_counts.binds (ps := ["thing", "many"]) fun _ _ _ _ _ _ us hl => match us, hl with | [_, _], _ => rfl
  have g_are_amounts := PySem.W.mg_of X G a14
  have F_are_amounts := fun_mk (st := s_are_amounts) l14 c14 k14
  have b_are_amounts := F_are_amounts.binds (ps := ["thing"]) fun _ _ _ _ _ _ us hl => match us, hl with | [_], _ => rfl
  have g_want_pours := PySem.W.mg_of X G a15
  have F_want_pours := fun_mk (st := s_want_pours) l15 c15 k15
  have b_want_pours := F_want_pours.binds (ps := ["pours"]) fun _ _ _ _ _ _ us hl => match us, hl with | [_], _ => rfl
  have g_is_from := PySem.W.mg_of X G a16
  have F_is_from := fun_mk (st := s_is_from) l16 c16 k16
  have b_is_from := F_is_from.binds (ps := ["thing", "least", "most"]) fun _ _ _ _ _ _ us hl => match us, hl with | [_, _, _], _ => rfl
  have g_are_numbers := PySem.W.mg_of X G a17
  have F_are_numbers := fun_mk (st := s_are_numbers) l17 c17 k17
  have b_are_numbers := F_are_numbers.binds (ps := ["thing", "cups"]) fun _ _ _ _ _ _ us hl => match us, hl with | [_, _], _ => rfl
  have g_want_rows := PySem.W.mg_of X G a18
  have F_want_rows := fun_mk (st := s_want_rows) l18 c18 k18
  have b_want_rows := F_want_rows.binds (ps := ["pours", "rows"]) fun _ _ _ _ _ _ us hl => match us, hl with | [_, _], _ => rfl
  have g_worst_of := PySem.W.mg_of X G a19
  have F_worst_of := fun_mk (st := s_worst_of) l19 c19 k19
  have b_worst_of := F_worst_of.binds (ps := ["pours", "rows"]) fun _ _ _ _ _ _ us hl => match us, hl with | [_, _], _ => rfl
  have g_law := PySem.W.mg_of X G a20
  have F_law := fun_mk (st := s_law) l20 c20 k20
  have b_law := F_law.binds (ps := ["_law_script"]) fun _ _ _ _ _ _ us hl => match us, hl with | [_], _ => rfl
  have kb_worst_of_0_rows_pours := fun_kbn (ps := ["pours", "rows"]) (n := 0) (ks := ["rows", "pours"]) (ix := [1, 0]) F_worst_of fun _ _ _ _ _ _ us ws h1 h2 => match us, ws, h1, h2 with | [], [_, _], _, _ => rfl
  refine ⟨PySem.W.fnOf "law" "law" (defArgs s_law) (defBody s_law) (defScope s_law) .none kV20 dc20 pm20 an20 cd20 ct20, [], (fun _ z => nomatch z), (fun _ z => nomatch z), (fun _ z => nomatch z), fun s v => .of_eq rfl, fun base _ _ TB => ?_⟩
  have G__law_mixed := ok__law_mixed (P := l.prog) (w := w) (tcK := (tabL K [])) (mg := mg) (base := base) F__law_mixed 
  have G__law_take := ok__law_take (P := l.prog) (w := w) (tcK := (tabL K [])) (mg := mg) (base := base) F__law_take F__law_mixed b__law_mixed G__law_mixed g__law_mixed
  have G__law_one := ok__law_one (P := l.prog) (w := w) (tcK := (tabL K [])) (mg := mg) (base := base) F__law_one m_len F__law_take b__law_take G__law_take g__law_take
  have G__law_great := ok__law_great (P := l.prog) (w := w) (tcK := (tabL K [])) (mg := mg) (base := base) F__law_great m_range F__law_take b__law_take G__law_take g__law_take
  have G__law_shared := ok__law_shared (P := l.prog) (w := w) (tcK := (tabL K [])) (mg := mg) (base := base) F__law_shared m_range m_tuple F__law_take b__law_take G__law_take g__law_take
  have G__law_pours := ok__law_pours (P := l.prog) (w := w) (tcK := (tabL K [])) (mg := mg) (base := base) F__law_pours m_range m_tuple F__law_great b__law_great G__law_great g__law_great F__law_shared b__law_shared G__law_shared g__law_shared F__law_take b__law_take G__law_take g__law_take
  have G__law_shuffled := ok__law_shuffled (P := l.prog) (w := w) (tcK := (tabL K [])) (mg := mg) (base := base) F__law_shuffled m_len m_list F__law_take b__law_take G__law_take g__law_take
  have G__law_rows := ok__law_rows (P := l.prog) (w := w) (tcK := (tabL K [])) (mg := mg) (base := base) F__law_rows m_list m_range m_tuple F__law_shuffled b__law_shuffled G__law_shuffled g__law_shuffled F__law_take b__law_take G__law_take g__law_take
  have G__law_source := ok__law_source (P := l.prog) (w := w) (tcK := (tabL K [])) (mg := mg) (base := base) F__law_source 
  have G__law_worst := ok__law_worst (P := l.prog) (w := w) (tcK := (tabL K [])) (mg := mg) (base := base) F__law_worst m_enumerate m_int m_len m_max m_zip
  have G_poured_behind := ok_poured_behind (P := l.prog) (w := w) (tcK := (tabL K [])) (mg := mg) (base := base) F_poured_behind m_enumerate m_int m_tuple m_zip
  have G_is_whole := ok_is_whole (P := l.prog) (w := w) (tcK := (tabL K [])) (mg := mg) (base := base) F_is_whole m_bool m_int m_isinstance
  have G_is_count := ok_is_count (P := l.prog) (w := w) (tcK := (tabL K [])) (mg := mg) (base := base) F_is_count F_is_whole b_is_whole G_is_whole g_is_whole
  have G_are_counts := ok_are_counts (P := l.prog) (w := w) (tcK := (tabL K [])) (mg := mg) (base := base) F_are_counts m_all m_isinstance m_len m_tuple F_is_count b_is_count G_is_count g_is_count
  have G_are_amounts := ok_are_amounts (P := l.prog) (w := w) (tcK := (tabL K [])) (mg := mg) (base := base) F_are_amounts m_isinstance m_len m_tuple g_LEAST_CUPS g_MOST_CUPS F_are_counts b_are_counts G_are_counts g_are_counts
  have G_want_pours := ok_want_pours (P := l.prog) (w := w) (tcK := (tabL K [])) (mg := mg) (base := base) F_want_pours m_isinstance m_len m_list m_tuple F_are_amounts b_are_amounts G_are_amounts g_are_amounts
  have G_is_from := ok_is_from (P := l.prog) (w := w) (tcK := (tabL K [])) (mg := mg) (base := base) F_is_from F_is_whole b_is_whole G_is_whole g_is_whole
  have G_are_numbers := ok_are_numbers (P := l.prog) (w := w) (tcK := (tabL K [])) (mg := mg) (base := base) F_are_numbers m_all m_isinstance m_len m_list m_set m_tuple F_is_from b_is_from G_is_from g_is_from
  have G_want_rows := ok_want_rows (P := l.prog) (w := w) (tcK := (tabL K [])) (mg := mg) (base := base) F_want_rows m_isinstance m_len m_list m_tuple F_are_numbers b_are_numbers G_are_numbers g_are_numbers
  have G_worst_of := ok_worst_of (P := l.prog) (w := w) (tcK := (tabL K [])) (mg := mg) (base := base) F_worst_of m_max m_zip F_poured_behind b_poured_behind G_poured_behind g_poured_behind F_want_pours b_want_pours G_want_pours g_want_pours F_want_rows b_want_rows G_want_rows g_want_rows
  have G_law := ok_law (P := l.prog) (w := w) (tcK := (tabL K [])) (mg := mg) (base := base) F_law m_list m_range m_repr m_tuple F__law_one b__law_one G__law_one g__law_one F__law_pours b__law_pours G__law_pours g__law_pours F__law_rows b__law_rows G__law_rows g__law_rows F__law_source b__law_source G__law_source g__law_source F__law_take b__law_take G__law_take g__law_take F__law_worst b__law_worst G__law_worst g__law_worst F_worst_of b_worst_of G_worst_of g_worst_of kb_worst_of_0_rows_pours
  exact G_law
end Gk
open PySem PySem.W PyProof.Rows
set_option maxRecDepth 100000 in
set_option maxHeartbeats 0 in
theorem PySem.Challenge.cw_cupkeep_k61_worst_told_holds : PySem.Challenge.rw_cupkeep_k61_worst_told.Holds := by
  w_on; o_law; k_head; (case hw => w_witness2)
  k_fill
  refine DL.law_walkG (f := Gk.d_law) (k := 7) (x := "_law_script") (l := PySem.Challenge.rw_cupkeep_k61_worst_told) Gk.law_true rfl rfl ⟨⟨rfl, by decide, by decide⟩, rfl⟩ (fun w h Y => PySem.W.kIn_of Y) ?F
  case F =>
    intro w mg fa h Y KX G hmg
    refine' Gk.all_mk KX G hmg ?a0 ?l0 ?c0 ?k0 ?a1 ?l1 ?c1 ?k1 ?a2 ?l2 ?c2 ?k2 ?a3 ?l3 ?c3 ?k3 ?a4 ?l4 ?c4 ?k4 ?a5 ?l5 ?c5 ?k5 ?a6 ?l6 ?c6 ?k6 ?a7 ?l7 ?c7 ?k7 ?a8 ?l8 ?c8 ?k8 ?a9 ?l9 ?c9 ?k9 ?a10 ?l10 ?c10 ?k10 ?a11 ?l11 ?c11 ?k11 ?a12 ?l12 ?c12 ?k12 ?a13 ?l13 ?c13 ?k13 ?a14 ?l14 ?c14 ?k14 ?a15 ?l15 ?c15 ?k15 ?a16 ?l16 ?c16 ?k16 ?a17 ?l17 ?c17 ?k17 ?a18 ?l18 ?c18 ?k18 ?a19 ?l19 ?c19 ?k19 ?a20 ?l20 ?c20 ?k20 ?z_all ?z_bool ?z_enumerate ?z_int ?z_isinstance ?z_len ?z_list ?z_max ?z_range ?z_repr ?z_set ?z_tuple ?z_zip ?y_LEAST_CUPS ?y_MOST_CUPS
    (case a0 => k_is)
    (case l0 => k_is)
    (case c0 => k_is)
    (case k0 => k_is)
    (case a1 => k_is)
    (case l1 => k_is)
    (case c1 => k_is)
    (case k1 => k_is)
    (case a2 => k_is)
    (case l2 => k_is)
    (case c2 => k_is)
    (case k2 => k_is)
    (case a3 => k_is)
    (case l3 => k_is)
    (case c3 => k_is)
    (case k3 => k_is)
    (case a4 => k_is)
    (case l4 => k_is)
    (case c4 => k_is)
    (case k4 => k_is)
    (case a5 => k_is)
    (case l5 => k_is)
    (case c5 => k_is)
    (case k5 => k_is)
    (case a6 => k_is)
    (case l6 => k_is)
    (case c6 => k_is)
    (case k6 => k_is)
    (case a7 => k_is)
    (case l7 => k_is)
    (case c7 => k_is)
    (case k7 => k_is)
    (case a8 => k_is)
    (case l8 => k_is)
    (case c8 => k_is)
    (case k8 => k_is)
    (case a9 => k_is)
    (case l9 => k_is)
    (case c9 => k_is)
    (case k9 => k_is)
    (case a10 => k_is)
    (case l10 => k_is)
    (case c10 => k_is)
    (case k10 => k_is)
    (case a11 => k_is)
    (case l11 => k_is)
    (case c11 => k_is)
    (case k11 => k_is)
    (case a12 => k_is)
    (case l12 => k_is)
    (case c12 => k_is)
    (case k12 => k_is)
    (case a13 => k_is)
    (case l13 => k_is)
    (case c13 => k_is)
    (case k13 => k_is)
    (case a14 => k_is)
    (case l14 => k_is)
    (case c14 => k_is)
    (case k14 => k_is)
    (case a15 => k_is)
    (case l15 => k_is)
    (case c15 => k_is)
    (case k15 => k_is)
    (case a16 => k_is)
    (case l16 => k_is)
    (case c16 => k_is)
    (case k16 => k_is)
    (case a17 => k_is)
    (case l17 => k_is)
    (case c17 => k_is)
    (case k17 => k_is)
    (case a18 => k_is)
    (case l18 => k_is)
    (case c18 => k_is)
    (case k18 => k_is)
    (case a19 => k_is)
    (case l19 => k_is)
    (case c19 => k_is)
    (case k19 => k_is)
    (case a20 => k_is)
    (case l20 => k_is)
    (case c20 => k_is)
    (case k20 => k_is)
    (case z_all => k_is)
    (case z_bool => k_is)
    (case z_enumerate => k_is)
    (case z_int => k_is)
    (case z_isinstance => k_is)
    (case z_len => k_is)
    (case z_list => k_is)
    (case z_max => k_is)
    (case z_range => k_is)
    (case z_repr => k_is)
    (case z_set => k_is)
    (case z_tuple => k_is)
    (case z_zip => k_is)
    (case y_LEAST_CUPS => k_is)
    (case y_MOST_CUPS => k_is)

