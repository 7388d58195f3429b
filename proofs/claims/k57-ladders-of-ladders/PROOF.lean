import PyProof.Rows.All
import Wide.All
import OpenK.AllK
import Wide.FinOn
import HandS.ForMost
import HandS.Exc
import HandS.ExcOwn
import HandS.WordsExc
import HandS.EndBits
import HandS.EndTab
import HandS.Lambda
import HandS.SortInts
import HandS.SortKw
import HandS.Wide
import HandS.Style
import HandS.TupAny
import HandS.Walk
import HandS.Defaults
import HandS.IsInst
import HandS.Conv
import KE.KTupSum
import KE.DataMinMax
import HandS.SetFor
import HandS.Remove
import HandS.Iter
import KE.GoesMore
import KE.GoesEnum
import HandS.Zip
import KE.GoesZip
import KE.GoesEnumKw
import OpenK.KMore
import KE.SortData
import HandS.TupMul
import HandS.ExcInit
import HandS.ExcField
import HandS.ExcIs
import HandS.MakeKw
import HandS.MakeKwOnly
import HandS.TryMany
import HandS.ExcValue
import KE.SortKeyHeap
import KE.KUnpack
import KE.KExcIs
import PyProof.ReprText
import PyProof.Rows.ReprOcc
import HandS.Deep
import PyProof.P3Eq
import PySem.Challenge.RW_cupkeep_k57_whole_ladders_made_of_ladder
set_option Elab.async false
set_option linter.all false
set_option maxRecDepth 100000
set_option maxHeartbeats 4000000
/-! # DL0: promises of defs that may ask for the text of a thing: no repr runs about them -/
namespace DL
open PySem PySem.Spec PyProof.Rows L2
/-- room, and no repr about -/
structure RoomG (k : Nat) (A : Around) : Prop where
  r : Room k A
  g : A.guards = some []
theorem RoomG.mono {j k : Nat} {A : Around} (h : RoomG k A) (l : j ≤ k) : RoomG j A := ⟨h.r.mono l, h.g⟩
theorem RoomG.in1 {k : Nat} {A : Around} (h : RoomG (k + 1) A) : RoomG k A.in1 := ⟨h.r.in1, h.g⟩
theorem RoomG.deeper {k : Nat} {A : Around} (h : RoomG (k + 1) A) (env : Env) : RoomG k (A.deeper env) := ⟨h.r.deeper env, h.g⟩
theorem RoomG.units {k : Nat} {A : Around} (h : RoomG k A) : A.units + 64 < cLine := h.r.units
/-- a def's promise where no repr is about -/
structure FnG (P : Program) (w : World) (K : PySem.W.Frag) (mg : Str → Option Value) (base : Heap) (k : Nat) (f : Addr) (fd : FuncData) (ps : List Str) (sp : Sp) : Prop where
  len : ∀ vs H Q E, sp vs H Q E → vs.length = ps.length
  run : ∀ (A : Around) (outer : List Env) (s : Shared) (H : Hp) (args : Args) (us : List Value) (vs : List V) (Q : VK) (E : XK), RoomG k A → Env0 P w K mg base A outer s H → BindsTo s fd args (ps.zip us) → Vals vs us → sp vs H Q E →
    codeAny (model P w) A (.call (.ref f) args) (CR (L2.CX P w) outer P w H s Q E) s
section
variable {P : Program} {w : World} {K : PySem.W.Frag} {mg : Str → Option Value} {base : Heap}
theorem fn_g {x qual : Str} {st : Stmt} {f : Addr} {fd : FuncData} {N ps : List Str} {k : Nat} {sp : Sp} (F : Fun K x qual st f fd) (S : FnScope N ps (defScope st)) (len : ∀ vs H Q E, sp vs H Q E → vs.length = ps.length)
    (hbody : ∀ (cdv : Value) (A : Around) (outer : List Env) (s : Shared) (H : Hp) (vs : List V) (Q : VK) (E : XK), fd.code = cdv → RoomG k (A.deeper (envOfC qual (defScope st) s.heap.objs.size f cdv)) → sp vs H Q E →
      ∃ t, PSs (cxOf (L2.CX P w) P w K mg base N qual (defScope st) f cdv A outer s H E) (defBody st) t ∧ t { nx := fun _ H' => Q .non H', rt := Q } (L2.start N vs) H) : FnG P w K mg base (k + 1) f fd ps sp := by
  obtain ⟨oc, od, kV, doc, pm, an, cdv, ct, osl, rfl, lk, hcd⟩ := F.ex
  exact ⟨len, fun A outer s H args us vs Q E hr e0 hb hv h => LamX.run_ofS lk hcd S hr.r e0 hb hv (len _ _ _ _ h) fun hr' => hbody cdv A outer s H vs Q E rfl ⟨hr', hr.g⟩ h⟩
end
section
variable {X : Cx} {k : Nat} {f : Addr} {fd : FuncData} {ps : List Str} {sp : Sp} {E : L2.St → XK} {x : Str} {e : Expr} {es : List Expr} {t : TA} {p pos : Pos}
theorem run_fnG {pins : List (Addr × Obj)} {σ : L2.St} {H : Hp} {s : Shared} {Q : VK} {us : List Value} {vs : List V} (F : FnG X.prog X.w X.K X.mg X.base k f fd ps sp) (hr : RoomG k X.A) (hb : Binds X.K fd ps []) (hx : PassesAt (L2.CX X.prog X.w) X σ (E σ))
    (I : Inv X pins σ H s) (r : Vals vs us) (h : sp vs H Q (E σ)) : wpAny (model X.prog X.w) X.A (call (.ref f) us) (EP X pins σ Q) X.xe s := by
  have bt := hb s us I.kIn (by rw [List.append_nil, ← r.length]; exact F.len _ _ _ _ h)
  rw [List.append_nil] at bt
  refine wpAny_call (codeAny_mono (F.run X.A X.stack s H ⟨us, []⟩ us vs Q (E σ) hr I.env0 bt r h) fun q s' hq => ?_)
  match q, hq with
  | .error er, hq => exact hx pins H s er s' I hq
  | .ok (.ret u), hq => exact I.after hq
  | .ok .next, hq => exact (show False from hq).elim
  | .ok .brk, hq => exact (show False from hq).elim
  | .ok .cont, hq => exact (show False from hq).elim
theorem pe_callG (F : FnG X.prog X.w X.K X.mg X.base k f fd ps sp) (hr : RoomG k X.A) (hg : Gl X x) (hm : X.mg x = some (.ref f)) (hk : PySem.W.keepIn X.K (.ref f) = true) (hb : Binds X.K fd ps []) (hx : ∀ σ, PassesAt (L2.CX X.prog X.w) X σ (E σ))
    (ha : PA X (e :: es) t) (hdb : (x == ("__debug__" : Str)) = false := by decide) (he : starEach (e :: es) X.env = (false, eval e X.env) :: starEach es X.env := by rfl) (hpl : (backTo pos (starEach es X.env)).any (·.1) = false := by rfl) :
    PE X (.Call (.Name x p) (e :: es) [] pos) (tCallS sp E t) :=
  ⟨fun pins s σ H Q I h => wpAny_Call_Name_kw (ld_glob I hg hm (PySem.W.callWith_K (h₀ := X.base) I.ok.mod.kin hk (thn (ha.run pos pins s σ H _ I h) fun us s1 ⟨vs, H1, I1, r, q⟩ => ⟨I1.kIn, run_fnG F hr hb (hx σ) I1 r q⟩) he hpl) hdb)⟩
end
/-! ### the end: the law's def called by the claim, tables and all -/
/-- what the claim's heap is told of: the tables, and the script where it is not of the written part -/
noncomputable def tellH (cs : List (Addr × Addr)) (own : Bool) (a : Addr) (u : HO) : Hp := fun b => if b ∈ cs.map (·.2) then some (.tbl #[]) else if own = true ∧ b = a then some u else none
section
variable {P : Program} {w : World} {K : PySem.W.Frag} {mg mb : Str → Option Value} {k : Nat} {fa a : Addr} {cs : List (Addr × Addr)} {fd : FuncData} {x : Str} {sp : Sp} {s₁ : Shared} {vs : List Value} {ns : List Int}
theorem law_callG (KX : K.In s₁.heap) (hns : s₁.heap.Ns mainGlobals mg) (hb : s₁.heap.Ns builtinsNs mb) (hbb : ∀ x : Str, x ≠ "__name__" → mb x = bootBuiltins x) (hlim : s₁.heap.NoLimit) (hg : s₁.gens = #[])
    (hT : ∀ p ∈ cs, s₁.heap.get? p.2 = some { cls := .none, data := .fields #[] }) (nT : ∀ p ∈ cs, K.lookup p.2 = none) (C : ∀ p ∈ cs, PySem.W.CodeHd s₁.heap p.1 p.2)
    (hbm : ∃ (bm : Addr) (ob : Obj), mg "__builtins__" = some (.ref bm) ∧ bm ≠ builtinsNs ∧ s₁.heap.get? bm = some ob ∧ ob.cls = .type "module" ∧ ob.dict = some builtinsNs ∧ ob.data = .plain)
    (ha : s₁.heap.get? a = some { cls := .type "list", data := .seq vs.toArray }) (hi : IntsAre vs ns) (hl : ns.length ≤ sizeLine) (hr : RoomG k callerA)
    (F : ∀ base : Heap, K.In base → base.Ns mainGlobals mg → (∀ p ∈ cs, LamX.TabB base mg p.1 p.2) → FnG P w K mg base k fa fd [x] sp) (hbind : ∀ (s : Shared) (u : Value), BindsTo s fd ⟨[u], []⟩ [(x, u)])
    (hsp : ∀ H : Hp, (∀ p ∈ cs, H p.2 = some (.tbl #[])) → SqL K H a (ns.map V.int) → sp [.ref a] H (fun v _ => v = .bl true) fun _ _ _ => False) :
    codeAny (model P w) callerA (.call (.ref fa) ⟨[.ref a], []⟩) (fun r s' => r = .ok (.ret (.bool true)) ∧ OldK s₁.heap s'.heap ∧ s'.os = s₁.os ∧ AllBare s'.gens) s₁ := by
  have rv := vals_ints hi
  obtain ⟨own, hown⟩ : ∃ own : Bool, own = (K.lookup a).isNone := ⟨_, rfl⟩
  generalize hH : tellH cs own a (.frz { cls := .type "list", data := .seq vs.toArray } (.lst (ns.map V.int))) = H
  have tab : ∀ b, b ∈ cs.map (·.2) → s₁.heap.get? b = some { cls := .none, data := .fields #[] } ∧ H b = some (.tbl #[]) := fun b hb => by
    obtain ⟨p, hp, e⟩ := List.mem_map.mp hb
    exact ⟨by rw [← e]; exact hT p hp, by rw [← hH]; exact if_pos hb⟩
  have aT : a ∉ cs.map (·.2) := fun z => by
    have q := (tab a z).1
    rw [ha] at q
    exact nomatch (congrArg Obj.data (Option.some.inj q) : Data.seq vs.toArray _ = Data.fields #[])
  have told : ∀ b u, H b = some u → (b ∈ cs.map (·.2) ∧ u = .tbl #[]) ∨ (own = true ∧ b = a ∧ u = .frz { cls := .type "list", data := .seq vs.toArray } (.lst (ns.map V.int))) := fun b u e => by
    rw [← hH] at e
    unfold tellH at e
    split at e
    · rename_i hb
      cases e
      exact .inl ⟨hb, rfl⟩
    · split at e
      · rename_i hb
        cases e
        exact .inr ⟨hb.1, hb.2, rfl⟩
      · cases e
  -- what is no such table nor the script is untold
  have free : ∀ {b : Addr} {o : Obj}, s₁.heap.get? b = some o → o.data ≠ .fields #[] → (∀ xs n, o.data ≠ .seq xs n) → H b = none := fun {b o} e h1 h2 => by
    cases q : H b with
    | none => rfl
    | some u =>
      rcases told b u q with ⟨z, _⟩ | ⟨_, z, _⟩
      · rw [(tab b z).1] at e
        cases e
        exact absurd rfl h1
      · rw [z, ha] at e
        cases e
        exact absurd rfl (h2 _ _)
  have keepB : ∀ {b : Addr} {o : Obj}, s₁.heap.get? b = some o → H b = none → (hidT s₁.heap H).get? b = some o := fun e n => hidT_get e n
  have nsB : ∀ {b : Addr} {m : Str → Option Value}, s₁.heap.Ns b m → (hidT s₁.heap H).Ns b m := fun {b m} ⟨o, es, ep, e, hd, rest⟩ =>
    ⟨o, es, ep, keepB e (free e (fun z => by rw [hd] at z; cases z) fun xs n z => by rw [hd] at z; cases z), hd, rest⟩
  have kB : K.In (hidT s₁.heap H) := fun b o e => keepB (KX b o e) (by
    cases q : H b with
    | none => rfl
    | some u =>
      rcases told b u q with ⟨z, _⟩ | ⟨ho, z, _⟩
      · obtain ⟨p, hp, ep⟩ := List.mem_map.mp z
        rw [← ep, nT p hp] at e
        cases e
      · rw [z] at e
        rw [hown, e] at ho
        cases ho)
  have hcodes : ∀ p ∈ cs, LamX.TabB (hidT s₁.heap H) mg p.1 p.2 := fun p hp => by
    have hTp := hT p hp
    obtain ⟨oc, us, file, tf, flags, tg, inF, text, tt, c1, c2, c3, c4, crest⟩ := C p hp
    obtain ⟨bm, ob, b1, b2, b3, b4, b5, b6⟩ := hbm
    refine ⟨⟨oc, us, file, tf, flags, tg, inF, text, tt, keepB c1 (free c1 (fun z => ?_) fun xs n z => by rw [c3] at z; cases z), c2, c3, c4, crest⟩, ⟨bm, ob, b1, b2, fun z => ?_, fun z => ?_, keepB b3 (free b3 (fun z => by rw [b6] at z; cases z) fun xs n z => by rw [b6] at z; cases z), b4, b5, b6⟩, fun z => ?_⟩
    · rw [c3] at z
      cases z
      simp at c4
    · obtain ⟨o, es, ep, e, hd, _⟩ := hns
      rw [z, e] at b3
      cases b3
      rw [hd] at b6
      cases b6
    · rw [z, hTp] at b3
      cases b3
      cases b6
    · obtain ⟨o, es, ep, e, hd, _⟩ := hns
      rw [z, hTp] at e
      cases e
      cases hd
  have hok : HOk P w H s₁.heap := fun b u e => by
    rcases told b u e with ⟨z, rfl⟩ | ⟨_, rfl, rfl⟩
    · exact (tab b z).1
    · exact ⟨ha, by rw [List.length_map]; exact hl, vs, _, rv, ha⟩
  have hS : SqL K H a (ns.map V.int) := by
    cases hk : K.lookup a with
    | none => exact .inl (.inr ⟨_, by rw [← hH]; unfold tellH; rw [if_neg aT, if_pos ⟨by rw [hown, hk]; rfl, rfl⟩]⟩)
    | some o =>
      have e := KX a o hk
      rw [ha] at e
      cases e
      exact .inr ⟨_, vs.toArray, _, hk, rfl, rfl, rfl, by rw [List.size_toArray, hi.length]; exact hl, by simpa using rv⟩
  have e0 : Env0 P w K mg (hidT s₁.heap H) callerA [] s₁ H :=
    ⟨rfl, ⟨kB, nsB hns, ⟨mb, nsB hb, hbb⟩, let ⟨mc, h1, h2⟩ := hlim; ⟨mc, nsB h1, h2⟩⟩, fun b o e => of_hidT e, Nat.le_of_eq (hidT_size _ _), trivial, fun b q => absurd (show b ∈ ([] : List Addr) from q) List.not_mem_nil, hok, .of_eq hg⟩
  refine codeAny_mono ((F _ kB (nsB hns) hcodes).run callerA [] s₁ H ⟨[.ref a], []⟩ [.ref a] [.ref a] _ _ hr e0 (hbind s₁ (.ref a)) (.cons rfl .nil) (hsp H (fun p hp => (tab p.2 (List.mem_map.mpr ⟨p, hp, rfl⟩)).2) hS)) fun r s' h => ?_
  match r, h with
  | .error e, h =>
    obtain ⟨_, _, _, _, _, _, _, _, _, _, _, _, z⟩ := (show L2.CX P w [] H s₁ (fun _ _ _ => False) e s' from h)
    exact False.elim z
  | .ok .next, h => exact (show False from h).elim
  | .ok .brk, h => exact (show False from h).elim
  | .ok .cont, h => exact (show False from h).elim
  | .ok (.ret u), h =>
    obtain ⟨v, H', os, bare, un, hok', r', rfl⟩ := h
    obtain rfl : u = Value.bool true := r'
    have still : ∀ b o, b ∉ cs.map (·.2) → s₁.heap.get? b = some o → s'.heap.get? b = some o := fun b o nb e => by
      cases q : H b with
      | none => exact un.keep b o e q List.not_mem_nil List.not_mem_nil
      | some u =>
        rcases told b u q with ⟨z, _⟩ | ⟨_, rfl, rfl⟩
        · exact absurd z nb
        · rw [ha] at e
          cases e
          exact (hok' b _ (un.frzs b _ _ q)).1
    have grown : ∀ b, b ∈ cs.map (·.2) → ∃ more : Array Value, s'.heap.get? b = some { cls := .none, data := .fields more } := fun b hb => by
      obtain ⟨more, z⟩ := un.tbls b #[] (tab b hb).2
      exact ⟨_, hok' b _ z⟩
    refine ⟨rfl, ⟨fun b o e => ?_, fun b o e => ?_⟩, os, bare⟩
    · by_cases hb : b ∈ cs.map (·.2)
      · obtain ⟨more, hm⟩ := grown b hb
        have e2 := (tab b hb).1
        rw [e] at e2
        cases e2
        obtain ⟨p, hp, ep⟩ := List.mem_map.mp hb
        exact .inr (.inl ⟨by rw [← ep]; exact ((C p hp).tab (hT p hp)).isCodeTable, rfl, #[], more, rfl, by rw [Array.empty_append]; exact hm⟩)
      · exact .inl (still b o hb e)
    · by_cases hb : b ∈ cs.map (·.2)
      · obtain ⟨more, hm⟩ := grown b hb
        exact ⟨_, hm⟩
      · exact ⟨o, still b o hb e⟩
end
theorem walk_ofG {l : PySem.W.OpenLaw} {n k : Nat} {q : Program} {loose : List Str} {XP : (Str → Option Value) → Heap → Prop} {YP : World → Heap → Prop} {d : DefRec} {K : Params → PySem.W.Frag} {x : Str}
    (hn : l.most = some n) (hn2 : n ≤ sizeLine) (hdf : d.params.defaults = []) (hr : RoomG k callerA) (hY : ∀ (w : World) (h : Heap), YP w h → (K w.params).In h)
    (F : ∀ (w : World) (mg : Str → Option Value) (fa : Addr) (h : Heap), YP w h → (K w.params).In h → h.Ns mainGlobals mg → mg d.name = some (.ref fa) →
      ∃ (fd : FuncData) (cs : List (Addr × Addr)) (sp : Sp), (∀ p ∈ cs, h.get? p.2 = some { cls := .none, data := .fields #[] }) ∧ (∀ p ∈ cs, (K w.params).lookup p.2 = none) ∧ (∀ p ∈ cs, PySem.W.CodeHd h p.1 p.2) ∧ (∀ (s : Shared) (u : Value), BindsTo s fd ⟨[u], []⟩ [(x, u)]) ∧
        (∀ (H : Hp) (a : Addr) (ns : List Int), ns.length ≤ n → (∀ z ∈ ns, Builtin.Int.intBits z ≤ 1048576) → (∀ p ∈ cs, H p.2 = some (.tbl #[])) → SqL (K w.params) H a (ns.map V.int) → sp [.ref a] H (fun v _ => v = .bl true) fun _ _ _ => False) ∧
        ∀ base : Heap, (K w.params).In base → base.Ns mainGlobals mg → (∀ p ∈ cs, LamX.TabB base mg p.1 p.2) → FnG l.prog w (K w.params) mg base k fa fd [x] sp) :
    PySem.W.WalkO q loose XP YP l.row.toRowW d [] (fun f vs => PySem.call f vs) :=
  Att.attach_callB hn hdf fun w s₀ s₁ mg mb fa o pm cd doc a vs ns G Y ho hd hcd hmg hobj hints hlen hbits hg => by
    have KX := hY w _ Y
    obtain ⟨fd, cs, sp, h1, h2, h3, h4, h5, h6⟩ := F w mg fa _ Y KX G.T.g hmg
    exact law_callG KX G.T.g G.T.b G.T.builtins G.T.nolimit hg h1 h2 h3 G.T.bmain hobj hints (Nat.le_trans hlen hn2) hr h6 h4 fun H hH hS => h5 H a ns hlen hbits hH hS
end DL
/-! # DL: a layer of denotations over the hand layer. Data are trees (PyData); a def's slots hold data, or own a list of its own. -/
namespace DL
open PySem PySem.Spec PyProof.Rows L2
abbrev D := PyData
/-- the tables of code objects that may grow, each with the name that its code objects bear -/
class TabC (K : PySem.W.Frag) where
  T : List (Addr × Str)
  /-- where a class of errors lies -/
  err : Str → Addr
  /-- the error at hand in an except suite, its dict, its class -/
  cur : Addr
  curd : Addr
  curC : Str
/-- no such table -/
def nT (o : HO) : Prop := ∀ ps, o ≠ .tbl ps
/-- no such table, nor a code object -/
def nt (o : HO) : Prop := (∀ ps, o ≠ .tbl ps) ∧ ∀ f, o ≠ .ext f
theorem tabs_on {T : List (Addr × Str)} {H H' : Hp} (t : LamX.Tabs T H) (h : ∀ b o, H b = some o → ¬ nt o → H' b = some o) : LamX.Tabs T H' := fun p hp => by
  obtain ⟨ps, h1, h2, h3⟩ := t p hp
  refine ⟨ps, h _ _ h1 (fun z => z.1 ps rfl), h2, fun pos cv hc => ?_⟩
  obtain ⟨c, e1, e2⟩ := h3 pos cv hc
  refine ⟨c, e1, h _ _ e2 (fun z => ?_)⟩
  unfold LamX.CodeO at z
  exact z.2 _ rfl
theorem tabs_upd {T : List (Addr × Str)} {H : Hp} {p : Addr} {u o : HO} (t : LamX.Tabs T H) (hp : H p = some u) (hu : nt u) : LamX.Tabs T (upd H p o) := tabs_on t fun b w e n => by
  rw [upd_ne (fun z => by rw [z, hp] at e; cases e; exact n hu)]; exact e
/-- the code tables stand, and none of them is frozen -/
structure TabR (T : List (Addr × Str)) (G H : Hp) : Prop where
  t : LamX.Tabs T H
  g : ∀ p ∈ T, G p.1 = none
  n : ∀ a ps, G a ≠ some (.tbl ps)
theorem TabR.to {T : List (Addr × Str)} {G H G' H' : Hp} (h : TabR T G H) (t : LamX.Tabs T H') (n : ∀ a ps, G' a = some (.tbl ps) → G a = some (.tbl ps)) (k : ∀ a, G' a ≠ none → G a ≠ none ∨ ∀ ps, H a ≠ some (.tbl ps)) : TabR T G' H' := ⟨t, fun p hp => by
  obtain ⟨ps, h1, _⟩ := h.t p hp
  cases e : G' p.1 with
  | none => rfl
  | some o =>
    rcases k p.1 (by rw [e]; exact fun z => nomatch z) with q | q
    · exact absurd (h.g p hp) q
    · exact absurd h1 (q ps), fun a ps z => h.n a ps (n a ps z)⟩
theorem nt_no {H : Hp} {p : Addr} {u : HO} (hu : H p = some u) (n : nt u) : ∀ ps, H p ≠ some (.tbl ps) := fun ps z => by
  rw [hu] at z
  exact n.1 ps (Option.some.inj z)
theorem nt_lst {xs : List V} : nt (.lst xs) := ⟨fun _ z => (nomatch z), fun _ z => by have z' : _ = HO.ext _ := z; cases z'⟩
theorem nt_ins {C dx : Addr} {fs : List (Str × V)} : nt (.ins C dx fs) := ⟨fun _ z => (nomatch z), fun _ z => by have z' : _ = HO.ext _ := z; cases z'⟩
theorem nt_dK {kvs : List (Key × V)} : nt (.dK kvs) := ⟨fun _ z => (nomatch z), fun _ z => by have z' : _ = HO.ext _ := z; cases z'⟩
def kD : Key → D
  | .inl i => .int i
  | .inr s => .str s
/-! ### data in the frozen part of the heap -/
mutual
inductive DP (K : PySem.W.Frag) (G : Hp) : V → D → Prop
  | non : DP K G .non .none
  | bl (b : Bool) : DP K G (.bl b) (.bool b)
  | int (i : Int) : DP K G (.int i) (.int i)
  | str (x : Str) : DP K G (.str x) (.str x)
  | lst {a : Addr} {xs : List V} {ds : List D} : SqL K G a xs → DPs K G xs ds → DP K G (.ref a) (.list ds)
  | tup {a : Addr} {xs : List V} {ds : List D} : SqT K G a xs → DPs K G xs ds → DP K G (.ref a) (.tuple ds)
  | dic {a : Addr} {kvs : List (Key × V)} {es : List (D × D)} : Rd G a (.dK kvs) → DPk K G kvs es → DP K G (.ref a) (.dict es)
inductive DPs (K : PySem.W.Frag) (G : Hp) : List V → List D → Prop
  | nil : DPs K G [] []
  | cons {v : V} {vs : List V} {d : D} {ds : List D} : DP K G v d → DPs K G vs ds → DPs K G (v :: vs) (d :: ds)
inductive DPk (K : PySem.W.Frag) (G : Hp) : List (Key × V) → List (D × D) → Prop
  | nil : DPk K G [] []
  | cons {k : Key} {v : V} {vs : List (Key × V)} {d : D} {ds : List (D × D)} : DP K G v d → DPk K G vs ds → DPk K G ((k, v) :: vs) ((kD k, d) :: ds)
end
theorem Rd.same {G G' : Hp} {a : Addr} {u : HO} (s : Same G G') (h : Rd G a u) : Rd G' a u := by
  rcases h with h | ⟨o, h⟩
  · exact .inl (s _ _ h)
  · exact .inr ⟨o, s _ _ h⟩
theorem SqT.same {K : PySem.W.Frag} {G G' : Hp} {a : Addr} {xs : List V} (s : Same G G') (h : SqT K G a xs) : SqT K G' a xs := by
  rcases h with h | h
  · exact .inl (Rd.same s h)
  · exact .inr h
mutual
theorem DP.mono {K : PySem.W.Frag} {G G' : Hp} (s : Same G G') : ∀ {v : V} {d : D}, DP K G v d → DP K G' v d
  | _, _, .non => .non
  | _, _, .bl b => .bl b
  | _, _, .int i => .int i
  | _, _, .str x => .str x
  | _, _, .lst h1 h2 => .lst (s.seq h1) (DPs.mono s h2)
  | _, _, .tup h1 h2 => .tup (SqT.same s h1) (DPs.mono s h2)
  | _, _, .dic h1 h2 => .dic (Rd.same s h1) (DPk.mono s h2)
theorem DPs.mono {K : PySem.W.Frag} {G G' : Hp} (s : Same G G') : ∀ {vs : List V} {ds : List D}, DPs K G vs ds → DPs K G' vs ds
  | _, _, .nil => .nil
  | _, _, .cons h1 h2 => .cons (DP.mono s h1) (DPs.mono s h2)
theorem DPk.mono {K : PySem.W.Frag} {G G' : Hp} (s : Same G G') : ∀ {vs : List (Key × V)} {ds : List (D × D)}, DPk K G vs ds → DPk K G' vs ds
  | _, _, .nil => .nil
  | _, _, .cons h1 h2 => .cons (DP.mono s h1) (DPk.mono s h2)
end
theorem DPs.length {K : PySem.W.Frag} {G : Hp} : ∀ {vs : List V} {ds : List D}, DPs K G vs ds → vs.length = ds.length
  | _, _, .nil => rfl
  | _, _, .cons _ h => congrArg (· + 1) (DPs.length h)
theorem DPs.get {K : PySem.W.Frag} {G : Hp} : ∀ {vs : List V} {ds : List D} {i : Nat} {d : D}, DPs K G vs ds → ds[i]? = some d → ∃ v, vs[i]? = some v ∧ DP K G v d
  | _, _, _, _, .nil, e => by simp at e
  | _, _, 0, _, .cons h _, e => by simp at e; subst e; exact ⟨_, rfl, h⟩
  | _, _, i + 1, d, .cons _ h, e => by
    obtain ⟨v, h1, h2⟩ := DPs.get (i := i) (d := d) h (by simpa using e)
    exact ⟨v, by simpa using h1, h2⟩
theorem DPs.getV {K : PySem.W.Frag} {G : Hp} : ∀ {vs : List V} {ds : List D} {i : Nat} {v : V}, DPs K G vs ds → vs[i]? = some v → ∃ d, ds[i]? = some d ∧ DP K G v d
  | _, _, _, _, .nil, e => by simp at e
  | _, _, 0, _, .cons h _, e => by simp at e; subst e; exact ⟨_, rfl, h⟩
  | _, _, i + 1, v, .cons _ h, e => by
    obtain ⟨d, h1, h2⟩ := DPs.getV (i := i) (v := v) h (by simpa using e)
    exact ⟨d, by simpa using h1, h2⟩
theorem DPs.append {K : PySem.W.Frag} {G : Hp} : ∀ {vs ws : List V} {ds es : List D}, DPs K G vs ds → DPs K G ws es → DPs K G (vs ++ ws) (ds ++ es)
  | _, _, _, _, .nil, h => h
  | _, _, _, _, .cons h1 h2, h => .cons h1 (DPs.append h2 h)
theorem DPs.snoc {K : PySem.W.Frag} {G : Hp} {vs : List V} {ds : List D} {v : V} {d : D} (h : DPs K G vs ds) (h1 : DP K G v d) : DPs K G (vs ++ [v]) (ds ++ [d]) := DPs.append h (.cons h1 .nil)
theorem DPs.drop {K : PySem.W.Frag} {G : Hp} : ∀ {vs : List V} {ds : List D} (n : Nat), DPs K G vs ds → DPs K G (vs.drop n) (ds.drop n)
  | _, _, 0, h => h
  | _, _, n + 1, .nil => .nil
  | _, _, n + 1, .cons _ h => DPs.drop n h
theorem DPs.take {K : PySem.W.Frag} {G : Hp} : ∀ {vs : List V} {ds : List D} (n : Nat), DPs K G vs ds → DPs K G (vs.take n) (ds.take n)
  | _, _, 0, _ => .nil
  | _, _, n + 1, .nil => .nil
  | _, _, n + 1, .cons h1 h => .cons h1 (DPs.take n h)
theorem DPs.set {K : PySem.W.Frag} {G : Hp} {v : V} {d : D} (h1 : DP K G v d) : ∀ {vs : List V} {ds : List D} (n : Nat), DPs K G vs ds → DPs K G (vs.set n v) (ds.set n d)
  | _, _, _, .nil => .nil
  | _, _, 0, .cons _ h => .cons h1 h
  | _, _, n + 1, .cons h h2 => .cons h (DPs.set h1 n h2)
theorem DPs.reverse {K : PySem.W.Frag} {G : Hp} : ∀ {vs : List V} {ds : List D}, DPs K G vs ds → DPs K G vs.reverse ds.reverse
  | _, _, .nil => .nil
  | _, _, .cons h1 h => by rw [List.reverse_cons, List.reverse_cons]; exact DPs.snoc (DPs.reverse h) h1
/-- a list of whole numbers -/
theorem DPs.ints {K : PySem.W.Frag} {G : Hp} : ∀ {vs : List V} {ns : List Int}, DPs K G vs (ns.map .int) → vs = ns.map V.int
  | _, [], .nil => rfl
  | _, n :: ns, .cons h1 h => by cases h1; exact congrArg (V.int n :: ·) (DPs.ints h)
theorem DPs.of_ints {K : PySem.W.Frag} {G : Hp} : ∀ (ns : List Int), DPs K G (ns.map V.int) (ns.map .int)
  | [] => .nil
  | n :: ns => .cons (.int n) (DPs.of_ints ns)
theorem DPs.bools {K : PySem.W.Frag} {G : Hp} : ∀ {vs : List V} {ns : List Bool}, DPs K G vs (ns.map .bool) → vs = ns.map V.bl
  | _, [], .nil => rfl
  | _, n :: ns, .cons h1 h => by cases h1; exact congrArg (V.bl n :: ·) (DPs.bools h)
/-! ### what a slot holds -/
/-- where a global name's object lies (a class) -/
def errAt (K : PySem.W.Frag) (x : Str) : Addr := match PySem.W.nsIn K mainGlobals x with
  | some (some (.ref C)) => C
  | _ => 0
inductive Own where
  | lst (ds : List D)
  | ins (C : Str) (fs : List (Str × D))
  | dic (es : List (D × D))
def Fld (K : PySem.W.Frag) (G : Hp) : List (Str × V) → List (Str × D) → Prop
  | [], [] => True
  | (x, v) :: vs, (y, d) :: ds => x = y ∧ DP K G v d ∧ Fld K G vs ds
  | _, _ => False
theorem Fld.mono {K : PySem.W.Frag} {G G' : Hp} (s : Same G G') : ∀ {vs : List (Str × V)} {ds : List (Str × D)}, Fld K G vs ds → Fld K G' vs ds
  | [], [], _ => trivial
  | (_, _) :: _, (_, _) :: _, ⟨h1, h2, h3⟩ => ⟨h1, h2.mono s, Fld.mono s h3⟩
  | [], _ :: _, h => h.elim
  | _ :: _, [], h => h.elim
def OwnAt (K : PySem.W.Frag) (G H : Hp) (p : Addr) : Own → Prop
  | .lst ds => ∃ vs, H p = some (.lst vs) ∧ DPs K G vs ds
  | .ins C fs => ∃ dx vs, H p = some (.ins (errAt K C) dx vs) ∧ Fld K G vs fs
  | .dic es => ∃ kvs, H p = some (.dK kvs) ∧ DPk K G kvs es
theorem OwnAt.step {K : PySem.W.Frag} {G G' H H' : Hp} {p : Addr} (s : Same G G') : ∀ {o : Own}, (H' p = H p) → OwnAt K G H p o → OwnAt K G' H' p o
  | .lst _, e, ⟨vs, h1, h2⟩ => ⟨vs, by rw [e]; exact h1, h2.mono s⟩
  | .ins _ _, e, ⟨dx, vs, h1, h2⟩ => ⟨dx, vs, by rw [e]; exact h1, h2.mono s⟩
  | .dic _, e, ⟨kvs, h1, h2⟩ => ⟨kvs, by rw [e]; exact h1, h2.mono s⟩
theorem OwnAt.thereN {K : PySem.W.Frag} {G H : Hp} {p : Addr} : ∀ {o : Own}, OwnAt K G H p o → ∃ u, H p = some u ∧ nt u
  | .lst _, ⟨_, h, _⟩ => ⟨_, h, nt_lst⟩
  | .ins _ _, ⟨_, _, h, _⟩ => ⟨_, h, nt_ins⟩
  | .dic _, ⟨_, h, _⟩ => ⟨_, h, nt_dK⟩
theorem OwnAt.there {K : PySem.W.Frag} {G H : Hp} {p : Addr} {o : Own} (h : OwnAt K G H p o) : ∃ u, H p = some u := let ⟨u, e, _⟩ := h.thereN; ⟨u, e⟩
structure Exn where
  C : Str
  fld : Str
  d : D
inductive Sl where
  | non
  | val (d : D)
  | own (pin : Bool) (o : Own)
  | exn (x : Exn)
inductive RV where
  | val (d : D)
  | own (o : Own)
abbrev Rho := List Sl
/-- the error at hand in slot i -/
structure ExnAt (K : PySem.W.Frag) [TabC K] (G : Hp) (σ : L2.St) (i : Nat) (x : Exn) : Prop where
  at_ : σ[i]? = some (some (.ref (TabC.cur K)))
  cls : x.C = TabC.curC K
  fld : ∃ v, G (TabC.curd K) = some (.xd [(x.fld, v)]) ∧ DP K G v x.d
theorem ExnAt.mono {K : PySem.W.Frag} {tcK : TabC K} {G G' : Hp} {σ : L2.St} {i : Nat} {x : Exn} (h : ExnAt K G σ i x) (s : Same G G') : ExnAt K G' σ i x :=
  ⟨h.at_, h.cls, let ⟨v, h1, h2⟩ := h.fld; ⟨v, s _ _ h1, h2.mono s⟩⟩
theorem ExnAt.st {K : PySem.W.Frag} {tcK : TabC K} {G : Hp} {σ σ' : L2.St} {i : Nat} {x : Exn} (h : ExnAt K G σ i x) (e : σ'[i]? = σ[i]?) : ExnAt K G σ' i x := ⟨e.trans h.at_, h.cls, h.fld⟩
/-- slots and heap hold what is told: G the frozen part, as where the own things stand -/
structure Rel (K : PySem.W.Frag) [TabC K] (G : Hp) (as : Nat → Addr) (r : Rho) (σ : L2.St) (H : Hp) : Prop where
  le : Same G H
  len : r.length = σ.length
  val : ∀ (i : Nat) (d : D), r[i]? = some (Sl.val d) → ∃ v, σ[i]? = some (some v) ∧ DP K G v d
  own : ∀ (i : Nat) (p : Bool) (o : Own), r[i]? = some (Sl.own p o) → σ[i]? = some (some (.ref (as i))) ∧ OwnAt K G H (as i) o ∧ G (as i) = none
  inj : ∀ (i j : Nat) (p : Bool) (o : Own) (q : Bool) (u : Own), r[i]? = some (Sl.own p o) → r[j]? = some (Sl.own q u) → as i = as j → i = j
  tabs : TabR (TabC.T K) G H
  exn : ∀ (i : Nat) (x : Exn), r[i]? = some (Sl.exn x) → ExnAt K G σ i x
def Owned (as : Nat → Addr) (r : Rho) (a : Addr) : Prop := ∃ (i : Nat) (p : Bool) (o : Own), r[i]? = some (Sl.own p o) ∧ as i = a
def Owned0 (as : Nat → Addr) (r : Rho) (a : Addr) : Prop := ∃ (i : Nat) (o : Own), r[i]? = some (Sl.own false o) ∧ as i = a
theorem Owned0.owned {as : Nat → Addr} {r : Rho} {a : Addr} (h : Owned0 as r a) : Owned as r a := let ⟨i, o, e, z⟩ := h; ⟨i, false, o, e, z⟩
theorem Rel.owned_there {K : PySem.W.Frag} {tcK : TabC K} {G H : Hp} {as : Nat → Addr} {r : Rho} {σ : L2.St} {a : Addr} (R : Rel K G as r σ H) (h : Owned as r a) : ∃ u, H a = some u := by
  obtain ⟨i, p, o, e, rfl⟩ := h
  exact (R.own i p o e).2.1.there
/-- from one state to a later one -/
structure Stp (G : Hp) (as : Nat → Addr) (r : Rho) (H G' : Hp) (as' : Nat → Addr) (r' : Rho) (H' : Hp) : Prop where
  g : Same G G'
  fr : ∀ a, G' a ≠ none → G a ≠ none ∨ H a = none ∨ Owned0 as r a
  keep : ∀ a o, H a = some o → ¬ Owned as r a → nT o → H' a = some o
  alive : ∀ a, H a ≠ none → H' a ≠ none
  own : ∀ a, Owned as' r' a → Owned as r a ∨ H a = none
  pin : ∀ (i : Nat) (o : Own), r[i]? = some (Sl.own true o) → as' i = as i ∧ ∃ o', r'[i]? = some (Sl.own true o')
theorem Stp.refl {G : Hp} {as : Nat → Addr} {r : Rho} {H : Hp} : Stp G as r H G as r H :=
  ⟨Same.refl G, fun _ h => .inl h, fun _ _ h _ _ => h, fun _ h => h, fun _ h => .inl h, fun _ o h => ⟨rfl, o, h⟩⟩
theorem Stp.trans {K : PySem.W.Frag} {tcK : TabC K} {G G1 G2 : Hp} {as as1 as2 : Nat → Addr} {r r1 r2 : Rho} {H H1 H2 : Hp} {σ1 : L2.St} (R1 : Rel K G1 as1 r1 σ1 H1)
    (a : Stp G as r H G1 as1 r1 H1) (b : Stp G1 as1 r1 H1 G2 as2 r2 H2) : Stp G as r H G2 as2 r2 H2 where
  g := a.g.trans b.g
  fr := fun x h => by
    rcases b.fr x h with h | h | h
    · exact a.fr x h
    · refine .inr (.inl ?_)
      cases e : H x with
      | none => rfl
      | some o => exact absurd h (a.alive x (by rw [e]; exact fun z => nomatch z))
    · rcases a.own x h.owned with q | q
      · obtain ⟨i, p, o, e, rfl⟩ := q
        cases p with
        | false => exact .inr (.inr ⟨i, o, e, rfl⟩)
        | true =>
          obtain ⟨e1, o', e2⟩ := a.pin i o e
          obtain ⟨j, o2, e3, e4⟩ := h
          have : i = j := R1.inj i j _ _ _ _ e2 e3 (by rw [e1, e4])
          subst this
          rw [e2] at e3; cases e3
      · exact .inr (.inl q)
  keep := fun x o h n nn => b.keep x o (a.keep x o h n nn) (fun z => by
    rcases a.own x z with q | q
    · exact n q
    · rw [h] at q; cases q) nn
  alive := fun x h => b.alive x (a.alive x h)
  own := fun x h => by
    rcases b.own x h with q | q
    · exact a.own x q
    · refine .inr ?_
      cases e : H x with
      | none => rfl
      | some o => exact absurd q (a.alive x (by rw [e]; exact fun z => nomatch z))
  pin := fun i o h => by
    obtain ⟨e1, o1, h1⟩ := a.pin i o h
    obtain ⟨e2, o2, h2⟩ := b.pin i o1 h1
    exact ⟨e2.trans e1, o2, h2⟩
/-- the value of an expression: data, or an own thing that nobody else holds -/
def RVat (K : PySem.W.Frag) (as0 : Nat → Addr) (r0 : Rho) (H0 : Hp) (G : Hp) (as : Nat → Addr) (r : Rho) (H : Hp) (v : V) : RV → Prop
  | .val d => DP K G v d
  | .own o => ∃ p, v = .ref p ∧ OwnAt K G H p o ∧ G p = none ∧ ¬ Owned as r p ∧ (H0 p = none ∨ Owned0 as0 r0 p)
theorem RVat.back {K : PySem.W.Frag} {tcK : TabC K} {G0 G1 G2 : Hp} {as as1 as2 : Nat → Addr} {r r1 r2 : Rho} {H H1 H2 : Hp} {σ1 : L2.St} {v : V} {rv : RV} (R1 : Rel K G1 as1 r1 σ1 H1) (S : Stp G0 as r H G1 as1 r1 H1)
    (h : RVat K as1 r1 H1 G2 as2 r2 H2 v rv) : RVat K as r H G2 as2 r2 H2 v rv := by
  cases rv with
  | val d => exact h
  | own o =>
    obtain ⟨p, e, h1, h2, h3, h4⟩ := h
    refine ⟨p, e, h1, h2, h3, ?_⟩
    rcases h4 with h4 | h4
    · refine .inl ?_
      cases e : H p with
      | none => rfl
      | some o => exact absurd h4 (S.alive p (by rw [e]; exact fun z => nomatch z))
    · rcases S.own p h4.owned with q | q
      · obtain ⟨i, pn, o', e, rfl⟩ := q
        cases pn with
        | false => exact .inr ⟨i, o', e, rfl⟩
        | true =>
          obtain ⟨e1, o2, e2⟩ := S.pin i o' e
          obtain ⟨j, o3, e3, e4⟩ := h4
          have : i = j := R1.inj i j _ _ _ _ e2 e3 (by rw [e1, e4])
          subst this
          rw [e2] at e3; cases e3
      · exact .inl q
/-! ### outcomes -/
/-- an end: a value, an exception with the slots as they are then, or nothing told -/
inductive Res (α : Type) where
  | ok (a : α)
  | ex (x : Exn × Rho)
  | no
def Res.bind {α β : Type} : Res α → (α → Res β) → Res β
  | .ok a, f => f a
  | .ex x, _ => .ex x
  | .no, _ => .no
def Wp {α : Type} (m : Res α) (P : α → Prop) (E : Exn × Rho → Prop) : Prop := match m with
  | .ok a => P a
  | .ex x => E x
  | .no => False
theorem Wp.bind {α β : Type} {m : Res α} {f : α → Res β} {P : β → Prop} {E : Exn × Rho → Prop} (h : Wp (m.bind f) P E) : Wp m (fun a => Wp (f a) P E) E := by
  cases m with
  | ok a => exact h
  | ex x => exact h
  | no => exact h
theorem Wp.mono {α : Type} {m : Res α} {P P' : α → Prop} {E E' : Exn × Rho → Prop} (h : Wp m P E) (hP : ∀ a, P a → P' a) (hE : ∀ x, E x → E' x) : Wp m P' E' := by
  cases m with
  | ok a => exact hP a h
  | ex x => exact hE x h
  | no => exact h
/-- what is wanted of an exception -/
def ExAt (K : PySem.W.Frag) (as' : Nat → Addr) (r' : Rho) (H G' H' : Hp) (x : Exn) (xd : Addr) : Prop :=
  ∃ v, H' xd = some (.xd [(x.fld, v)]) ∧ H xd = none ∧ ¬ Owned as' r' xd ∧ DP K G' v x.d
def XPost (K : PySem.W.Frag) [TabC K] (G : Hp) (as : Nat → Addr) (r : Rho) (σ : L2.St) (H : Hp) (E : WX) (x : Exn × Rho) : Prop :=
  ∀ G' H' xd, Stp G as r H G' as x.2 H' → Rel K G' as x.2 σ H' → ExAt K as x.2 H G' H' x.1 xd → E (.ref (TabC.err K x.1.C)) (some xd) σ H'
/-- .. of a statement -/
def YPost (K : PySem.W.Frag) [TabC K] (G : Hp) (as : Nat → Addr) (r : Rho) (H : Hp) (E : WX) (x : Exn × Rho) : Prop :=
  ∀ G' as' σ' H' xd, Stp G as r H G' as' x.2 H' → Rel K G' as' x.2 σ' H' → ExAt K as' x.2 H G' H' x.1 xd → E (.ref (TabC.err K x.1.C)) (some xd) σ' H'
theorem YPost.x {K : PySem.W.Frag} {tcK : TabC K} {G : Hp} {as : Nat → Addr} {r : Rho} {σ : L2.St} {H : Hp} {E : WX} {x : Exn × Rho} (h : YPost K G as r H E x) : XPost K G as r σ H E x := fun G' H' xd S R e => h G' as σ H' xd S R e
def EPost (K : PySem.W.Frag) [TabC K] (G : Hp) (as : Nat → Addr) (r : Rho) (σ : L2.St) (H : Hp) (Q : VK) (a : RV × Rho) : Prop :=
  ∀ G' H' v, Stp G as r H G' as a.2 H' → Rel K G' as a.2 σ H' → RVat K as r H G' as a.2 H' v a.1 → Q v H'
def DPost (K : PySem.W.Frag) [TabC K] (G : Hp) (as : Nat → Addr) (r : Rho) (σ : L2.St) (H : Hp) (Q : VK) (a : D × Rho) : Prop :=
  ∀ G' H' v, Stp G as r H G' as a.2 H' → Rel K G' as a.2 σ H' → DP K G' v a.1 → Q v H'
def APost (K : PySem.W.Frag) [TabC K] (G : Hp) (as : Nat → Addr) (r : Rho) (σ : L2.St) (H : Hp) (Q : List V → Hp → Prop) (a : List D × Rho) : Prop :=
  ∀ G' H' vs, Stp G as r H G' as a.2 H' → Rel K G' as a.2 σ H' → DPs K G' vs a.1 → Q vs H'
def TPost (K : PySem.W.Frag) [TabC K] (G : Hp) (as : Nat → Addr) (r : Rho) (σ : L2.St) (H : Hp) (Q : Bool → Hp → Prop) (a : Bool × Rho) : Prop :=
  ∀ G' H', Stp G as r H G' as a.2 H' → Rel K G' as a.2 σ H' → Q a.1 H'
inductive Fl where
  | nx | bk | ct
  | rt (rv : RV)
def SPost (K : PySem.W.Frag) [TabC K] (G : Hp) (as : Nat → Addr) (r : Rho) (H : Hp) (D : Ends) (a : Fl × Rho) : Prop := match a.1 with
  | .nx => ∀ G' as' σ' H', Stp G as r H G' as' a.2 H' → Rel K G' as' a.2 σ' H' → D.nx σ' H'
  | .bk => ∀ G' as' σ' H', Stp G as r H G' as' a.2 H' → Rel K G' as' a.2 σ' H' → D.bk σ' H'
  | .ct => ∀ G' as' σ' H', Stp G as r H G' as' a.2 H' → Rel K G' as' a.2 σ' H' → D.ct σ' H'
  | .rt rv => ∀ G' as' σ' H' v, Stp G as r H G' as' a.2 H' → Rel K G' as' a.2 σ' H' → RVat K as r H G' as' a.2 H' v rv → D.rt v H'
abbrev M (α : Type) := Rho → Res (α × Rho)
abbrev SM := Rho → Res (Fl × Rho)
def AbsE (K : PySem.W.Frag) [TabC K] (E : WX) (t : TE) (m : M RV) : Prop :=
  ∀ G as r σ H Q, Rel K G as r σ H → Wp (m r) (EPost K G as r σ H Q) (XPost K G as r σ H E) → t σ H Q
def AbsD (K : PySem.W.Frag) [TabC K] (E : WX) (t : TE) (m : M D) : Prop :=
  ∀ G as r σ H Q, Rel K G as r σ H → Wp (m r) (DPost K G as r σ H Q) (XPost K G as r σ H E) → t σ H Q
def AbsA (K : PySem.W.Frag) [TabC K] (E : WX) (t : TA) (m : M (List D)) : Prop :=
  ∀ G as r σ H Q, Rel K G as r σ H → Wp (m r) (APost K G as r σ H Q) (XPost K G as r σ H E) → t σ H Q
def AbsT (K : PySem.W.Frag) [TabC K] (E : WX) (t : TT) (m : M Bool) : Prop :=
  ∀ G as r σ H Q, Rel K G as r σ H → Wp (m r) (TPost K G as r σ H Q) (XPost K G as r σ H E) → t σ H Q
def AbsS (K : PySem.W.Frag) [TabC K] (E : WX) (t : TS) (m : SM) : Prop :=
  ∀ G as r σ H D, Rel K G as r σ H → Wp (m r) (SPost K G as r H D) (YPost K G as r H E) → t D σ H
/-! ### moving the wishes along -/
section
variable {K : PySem.W.Frag} {tcK : TabC K} {G G1 : Hp} {as as1 : Nat → Addr} {r r1 : Rho} {σ σ1 : L2.St} {H H1 : Hp} {E : WX}
theorem ExAt.on {as' : Nat → Addr} {r' : Rho} {G' H' : Hp} {x : Exn} {xd : Addr} (S : Stp G as r H G1 as1 r1 H1) (h : ExAt K as' r' H1 G' H' x xd) : ExAt K as' r' H G' H' x xd := by
  obtain ⟨v, h1, h2, h3, h4⟩ := h
  refine ⟨v, h1, ?_, h3, h4⟩
  cases e : H xd with
  | none => rfl
  | some o => exact absurd h2 (S.alive xd (by rw [e]; exact fun z => nomatch z))
theorem XPost.on (R1 : Rel K G1 as r1 σ H1) (S : Stp G as r H G1 as r1 H1) {x : Exn × Rho} (h : XPost K G as r σ H E x) : XPost K G1 as r1 σ H1 E x :=
  fun G' H' xd S' R' e => h G' H' xd (S.trans R1 S') R' (e.on S)
theorem YPost.on (R1 : Rel K G1 as1 r1 σ1 H1) (S : Stp G as r H G1 as1 r1 H1) {x : Exn × Rho} (h : YPost K G as r H E x) : YPost K G1 as1 r1 H1 E x :=
  fun G' as' σ' H' xd S' R' e => h G' as' σ' H' xd (S.trans R1 S') R' (e.on S)
theorem EPost.on (R1 : Rel K G1 as r1 σ H1) (S : Stp G as r H G1 as r1 H1) {Q : VK} {a : RV × Rho} (h : EPost K G as r σ H Q a) : EPost K G1 as r1 σ H1 Q a :=
  fun G' H' v S' R' h1 => h G' H' v (S.trans R1 S') R' (RVat.back R1 S h1)
theorem DPost.on (R1 : Rel K G1 as r1 σ H1) (S : Stp G as r H G1 as r1 H1) {Q : VK} {a : D × Rho} (h : DPost K G as r σ H Q a) : DPost K G1 as r1 σ H1 Q a :=
  fun G' H' v S' R' h1 => h G' H' v (S.trans R1 S') R' h1
theorem APost.on (R1 : Rel K G1 as r1 σ H1) (S : Stp G as r H G1 as r1 H1) {Q : List V → Hp → Prop} {a : List D × Rho} (h : APost K G as r σ H Q a) : APost K G1 as r1 σ H1 Q a :=
  fun G' H' v S' R' h1 => h G' H' v (S.trans R1 S') R' h1
theorem TPost.on (R1 : Rel K G1 as r1 σ H1) (S : Stp G as r H G1 as r1 H1) {Q : Bool → Hp → Prop} {a : Bool × Rho} (h : TPost K G as r σ H Q a) : TPost K G1 as r1 σ H1 Q a :=
  fun G' H' S' R' => h G' H' (S.trans R1 S') R'
theorem SPost.on (R1 : Rel K G1 as1 r1 σ1 H1) (S : Stp G as r H G1 as1 r1 H1) {D : Ends} {a : Fl × Rho} (h : SPost K G as r H D a) : SPost K G1 as1 r1 H1 D a := by
  obtain ⟨f, r'⟩ := a
  cases f with
  | nx => exact fun G' as' σ' H' S' R' => h G' as' σ' H' (S.trans R1 S') R'
  | bk => exact fun G' as' σ' H' S' R' => h G' as' σ' H' (S.trans R1 S') R'
  | ct => exact fun G' as' σ' H' S' R' => h G' as' σ' H' (S.trans R1 S') R'
  | rt rv => exact fun G' as' σ' H' v S' R' h1 => h G' as' σ' H' v (S.trans R1 S') R' (RVat.back R1 S h1)
end
/-! ### new frozen objects -/
/-- the heap has grown by new things, some of them frozen -/
structure Grow (G H G' H' : Hp) : Prop where
  g : Same G G'
  h : Same H H'
  fr : ∀ a, G' a ≠ none → G a ≠ none ∨ H a = none
  le : Same G' H'
  n : ∀ a ps, G' a = some (.tbl ps) → G a = some (.tbl ps)
theorem Grow.refl {G H : Hp} (le : Same G H) : Grow G H G H := ⟨Same.refl G, Same.refl H, fun _ h => .inl h, le, fun _ _ z => z⟩
theorem no_tbl_upd {G : Hp} {p : Addr} {o : HO} (ho : ∀ ps, o ≠ .tbl ps) (a : Addr) (ps : Array Value) (z : upd G p o a = some (.tbl ps)) : G a = some (.tbl ps) := by
  by_cases h : a = p
  · rw [h, upd_same] at z
    exact absurd (Option.some.inj z) (ho ps)
  · rw [upd_ne h] at z
    exact z
theorem Grow.new {G H : Hp} (le : Same G H) {p : Addr} (hp : H p = none) (o : HO) (ho : ∀ ps, o ≠ .tbl ps := by exact fun _ z => nomatch z) : Grow G H (upd G p o) (upd H p o) := by
  have gp : G p = none := le.free hp
  refine ⟨fun b u e => ?_, fun b u e => ?_, fun b e => ?_, fun b u e => ?_, no_tbl_upd ho⟩
  · rw [upd_ne (ne_of_none e gp)]; exact e
  · rw [upd_ne (ne_of_none e hp)]; exact e
  · by_cases hb : b = p
    · subst hb; exact .inr hp
    · rw [upd_ne hb] at e; exact .inl e
  · by_cases hb : b = p
    · subst hb; rw [upd_same] at e ⊢; exact e
    · rw [upd_ne hb] at e ⊢; exact le b u e
/-- a new object that is not frozen -/
theorem Grow.bare {G H : Hp} (le : Same G H) {p : Addr} (hp : H p = none) (o : HO) : Grow G H G (upd H p o) := by
  refine ⟨Same.refl G, fun b u e => ?_, fun b e => .inl e, fun b u e => ?_, fun _ _ z => z⟩
  · rw [upd_ne (ne_of_none e hp)]; exact e
  · rw [upd_ne (ne_of_none e (le.free hp))]; exact le b u e
section
variable {K : PySem.W.Frag} {tcK : TabC K} {G G' : Hp} {as : Nat → Addr} {r : Rho} {σ : L2.St} {H H' : Hp}
theorem Grow.rel (g : Grow G H G' H') (R : Rel K G as r σ H) : Rel K G' as r σ H' := by
  refine ⟨g.le, R.len, fun i d e => ?_, fun i p o e => ?_, R.inj, R.tabs.to (R.tabs.t.ext g.h) g.n fun a ha => (g.fr a ha).elim .inl (fun q => .inr fun ps z => by rw [q] at z; cases z), fun i x e => (R.exn i x e).mono g.g⟩
  · obtain ⟨v, h1, h2⟩ := R.val i d e
    exact ⟨v, h1, h2.mono g.g⟩
  · obtain ⟨h1, h2, h3⟩ := R.own i p o e
    obtain ⟨u, hu⟩ := h2.there
    refine ⟨h1, h2.step g.g (by rw [hu]; exact g.h _ _ hu), ?_⟩
    cases q : G' (as i) with
    | none => rfl
    | some w =>
      rcases g.fr (as i) (by rw [q]; exact fun z => nomatch z) with z | z
      · exact absurd h3 z
      · rw [hu] at z; cases z
theorem Grow.stp (g : Grow G H G' H') (R : Rel K G as r σ H) : Stp G as r H G' as r H' :=
  ⟨g.g, fun a h => (g.fr a h).elim .inl fun z => .inr (.inl z), fun a o h _ _ => g.h a o h, (fun a h => by
    cases e : H a with
    | none => exact absurd e h
    | some o => rw [g.h a o e]; exact fun z => nomatch z), fun a h => .inl h, fun i o h => ⟨rfl, o, h⟩⟩
end
/-! ### freezing -/
/-- a result as data -/
def fzR : RV → Res D
  | .val d => .ok d
  | .own (.lst ds) => .ok (.list ds)
  | .own (.dic es) => .ok (.dict es)
  | .own (.ins _ _) => .no
def fz (m : M RV) : M D := fun r => (m r).bind fun a => (fzR a.1).bind fun d => .ok (d, a.2)
theorem freeze {K : PySem.W.Frag} {tcK : TabC K} {G0 G : Hp} {as : Nat → Addr} {r0 r : Rho} {σ : L2.St} {H0 H : Hp} {v : V} {rv : RV} {d : D} (S : Stp G0 as r0 H0 G as r H) (R : Rel K G as r σ H) (h : RVat K as r0 H0 G as r H v rv) (e : fzR rv = .ok d) :
    ∃ G', Stp G0 as r0 H0 G' as r H ∧ Rel K G' as r σ H ∧ DP K G' v d := by
  have main : ∀ (p : Addr) (u : HO), H p = some u → nt u → G p = none → ¬ Owned as r p → (H0 p = none ∨ Owned0 as r0 p) → Same G (upd G p u) ∧ Stp G0 as r0 H0 (upd G p u) as r H ∧ Rel K (upd G p u) as r σ H := by
    intro p u hu hnt hg hn hf
    have sg : Same G (upd G p u) := fun b o e => by rw [upd_ne (ne_of_none e hg)]; exact e
    refine ⟨sg, ⟨S.g.trans sg, fun a ha => ?_, S.keep, S.alive, S.own, S.pin⟩, ⟨fun b o e => ?_, R.len, fun i d e => ?_, fun i q o e => ?_, R.inj, R.tabs.to R.tabs.t (no_tbl_upd fun ps z => hnt.1 ps z) fun a ha => (by
      by_cases hap : a = p
      · rw [hap]; exact .inr (nt_no hu hnt)
      · rw [upd_ne hap] at ha; exact .inl ha), fun i x e => (R.exn i x e).mono sg⟩⟩
    · by_cases ha' : a = p
      · subst ha'; exact .inr hf
      · rw [upd_ne ha'] at ha; exact S.fr a ha
    · by_cases hb : b = p
      · subst hb; rw [upd_same] at e; rw [hu]; exact e
      · rw [upd_ne hb] at e; exact R.le b o e
    · obtain ⟨v, h1, h2⟩ := R.val i d e
      exact ⟨v, h1, h2.mono sg⟩
    · obtain ⟨h1, h2, h3⟩ := R.own i q o e
      refine ⟨h1, h2.step sg rfl, ?_⟩
      rw [upd_ne fun z => hn ⟨i, q, o, e, z⟩]; exact h3
  cases rv with
  | val d' =>
    have e' : d' = d := by cases e; rfl
    subst e'
    exact ⟨G, S, R, h⟩
  | own o =>
    obtain ⟨p, rfl, h1, h2, h3, h4⟩ := h
    cases o with
    | lst ds =>
      cases e
      obtain ⟨vs, a1, a2⟩ := h1
      obtain ⟨sg, S', R'⟩ := main p _ a1 nt_lst h2 h3 h4
      exact ⟨_, S', R', .lst (.inl (.inl upd_same)) (a2.mono sg)⟩
    | dic es =>
      cases e
      obtain ⟨vs, a1, a2⟩ := h1
      obtain ⟨sg, S', R'⟩ := main p _ a1 nt_dK h2 h3 h4
      exact ⟨_, S', R', .dic (.inl upd_same) (a2.mono sg)⟩
    | ins C fs => cases e
theorem AbsE.fz {K : PySem.W.Frag} {tcK : TabC K} {E : WX} {t : TE} {m : M RV} (h : AbsE K E t m) : AbsD K E t (fz m) := by
  intro G as r σ H Q R w
  refine h G as r σ H Q R ((Wp.bind w).mono (fun a w' => ?_) fun _ z => z)
  obtain ⟨rv, r'⟩ := a
  intro G' H' v S' R' hv
  cases e : fzR rv with
  | ok d =>
    simp only [e, Res.bind, Wp] at w'
    obtain ⟨G2, S2, R2, h2⟩ := freeze S' R' hv e
    exact w' G2 H' v S2 R2 h2
  | ex x => cases rv with
    | val d => cases e
    | own o => cases o <;> cases e
  | no => simp only [e, Res.bind, Wp] at w'
def ofD (m : M D) : M RV := fun r => (m r).bind fun a => .ok (.val a.1, a.2)
theorem AbsD.rv {K : PySem.W.Frag} {tcK : TabC K} {E : WX} {t : TE} {m : M D} (h : AbsD K E t m) : AbsE K E t (ofD m) := by
  intro G as r σ H Q R w
  refine h G as r σ H Q R ((Wp.bind w).mono (fun a w' => ?_) fun _ z => z)
  intro G' H' v S' R' hv
  exact w' G' H' v S' R' hv
end DL
/-! # DL2: rules of statements and of the expressions' frame -/
namespace DL
open PySem PySem.Spec PyProof.Rows L2
/-- no exception is let out -/
def W0 : WX := fun _ _ _ _ => False
/-! ### slots changed -/
def free (r : Rho) (i : Nat) : Bool := match r[i]? with
  | some (.own true _) => false
  | some _ => true
  | none => false
theorem free_lt {r : Rho} {i : Nat} (h : free r i = true) : i < r.length := by
  unfold free at h
  cases e : r[i]? with
  | none => rw [e] at h; cases h
  | some s => exact (List.getElem?_eq_some_iff.mp e).1
theorem free_pin {r : Rho} {i : Nat} {o : Own} (h : free r i = true) : r[i]? ≠ some (.own true o) := by
  intro e
  unfold free at h
  rw [e] at h
  cases h
section
variable {K : PySem.W.Frag} {tcK : TabC K} {G : Hp} {as : Nat → Addr} {r : Rho} {σ : L2.St} {H : Hp}
theorem set_get {α : Type} {l : List α} {i j : Nat} {x y : α} (h : (l.set i x)[j]? = some y) : (i = j ∧ y = x) ∨ (i ≠ j ∧ l[j]? = some y) := by
  by_cases e : i = j
  · subst e
    by_cases hl : i < l.length
    · rw [List.getElem?_set_self hl] at h; exact .inl ⟨rfl, (Option.some.inj h).symm⟩
    · rw [List.getElem?_eq_none (by simpa using hl)] at h; cases h
  · rw [List.getElem?_set_ne e] at h
    exact .inr ⟨e, h⟩
theorem exn_set (R : Rel K G as r σ H) {i : Nat} {s : Sl} {v : Option V} (hs : ∀ x, s ≠ .exn x) : ∀ (j : Nat) (x : Exn), (r.set i s)[j]? = some (.exn x) → ExnAt K G (σ.set i v) j x := fun j x e => by
  rcases set_get e with ⟨_, z⟩ | ⟨hne, e⟩
  · exact absurd z.symm (hs x)
  · exact (R.exn j x e).st (List.getElem?_set_ne hne)
theorem exn_setN (R : Rel K G as r σ H) {i : Nat} {s : Sl} (hs : ∀ x, s ≠ .exn x) : ∀ (j : Nat) (x : Exn), (r.set i s)[j]? = some (.exn x) → ExnAt K G σ j x := fun j x e => by
  rcases set_get e with ⟨_, z⟩ | ⟨hne, e⟩
  · exact absurd z.symm (hs x)
  · exact R.exn j x e
/-- a slot gets data -/
theorem Rel.setV (R : Rel K G as r σ H) {i : Nat} {v : V} {d : D} (hi : free r i = true) (h : DP K G v d) : Rel K G as (r.set i (.val d)) (σ.set i (some v)) H := by
  have hil : i < σ.length := by rw [← R.len]; exact free_lt hi
  refine ⟨R.le, by rw [List.length_set, List.length_set]; exact R.len, fun j d' e => ?_, fun j p o e => ?_, fun j k p o q u e1 e2 => ?_, R.tabs, exn_set R fun _ z => nomatch z⟩
  · rcases set_get e with ⟨rfl, z⟩ | ⟨hne, e⟩
    · cases z; exact ⟨v, by rw [List.getElem?_set_self hil], h⟩
    · rw [List.getElem?_set_ne hne]; exact R.val j d' e
  · rcases set_get e with ⟨rfl, z⟩ | ⟨hne, e⟩
    · cases z
    · rw [List.getElem?_set_ne hne]; exact R.own j p o e
  · rcases set_get e1 with ⟨rfl, z⟩ | ⟨_, e1⟩
    · cases z
    · rcases set_get e2 with ⟨rfl, z⟩ | ⟨_, e2⟩
      · cases z
      · exact R.inj j k p o q u e1 e2
theorem Stp.setV (R : Rel K G as r σ H) {i : Nat} {d : D} (hi : free r i = true) : Stp G as r H G as (r.set i (.val d)) H := by
  refine ⟨Same.refl G, fun _ h => .inl h, fun _ _ h _ _ => h, fun _ h => h, fun a h => ?_, fun j o e => ⟨rfl, o, ?_⟩⟩
  · obtain ⟨j, p, o, e, z⟩ := h
    rcases set_get e with ⟨rfl, q⟩ | ⟨_, e⟩
    · cases q
    · exact .inl ⟨j, p, o, e, z⟩
  · have hne : i ≠ j := fun z => by subst z; exact free_pin hi e
    rw [List.getElem?_set_ne hne]; exact e
/-- a slot is forgotten -/
theorem Rel.setN (R : Rel K G as r σ H) {i : Nat} : Rel K G as (r.set i .non) σ H := by
  refine ⟨R.le, by rw [List.length_set]; exact R.len, fun j d' e => ?_, fun j p o e => ?_, fun j k p o q u e1 e2 => ?_, R.tabs, exn_setN R fun _ z => nomatch z⟩
  · rcases set_get e with ⟨rfl, z⟩ | ⟨hne, e⟩
    · cases z
    · exact R.val j d' e
  · rcases set_get e with ⟨rfl, z⟩ | ⟨hne, e⟩
    · cases z
    · exact R.own j p o e
  · rcases set_get e1 with ⟨rfl, z⟩ | ⟨_, e1⟩
    · cases z
    · rcases set_get e2 with ⟨rfl, z⟩ | ⟨_, e2⟩
      · cases z
      · exact R.inj j k p o q u e1 e2
theorem Stp.setN (R : Rel K G as r σ H) {i : Nat} (hi : free r i = true) : Stp G as r H G as (r.set i .non) H := by
  refine ⟨Same.refl G, fun _ h => .inl h, fun _ _ h _ _ => h, fun _ h => h, fun a h => ?_, fun j o e => ⟨rfl, o, ?_⟩⟩
  · obtain ⟨j, p, o, e, z⟩ := h
    rcases set_get e with ⟨rfl, q⟩ | ⟨_, e⟩
    · cases q
    · exact .inl ⟨j, p, o, e, z⟩
  · have hne : i ≠ j := fun z => by subst z; exact free_pin hi e
    rw [List.getElem?_set_ne hne]; exact e
def upA (as : Nat → Addr) (i : Nat) (p : Addr) : Nat → Addr := fun j => if j = i then p else as j
theorem upA_same {i : Nat} {p : Addr} : upA as i p i = p := if_pos rfl
theorem upA_ne {i j : Nat} {p : Addr} (h : j ≠ i) : upA as i p j = as j := if_neg h
/-- a slot gets a thing of its own -/
theorem Rel.setO (R : Rel K G as r σ H) {i : Nat} {p : Addr} {o : Own} (hi : free r i = true) (h : OwnAt K G H p o) (hg : G p = none) (hn : ¬ Owned as r p) :
    Rel K G (upA as i p) (r.set i (.own false o)) (σ.set i (some (.ref p))) H := by
  have hil : i < σ.length := by rw [← R.len]; exact free_lt hi
  refine ⟨R.le, by rw [List.length_set, List.length_set]; exact R.len, fun j d' e => ?_, fun j q u e => ?_, fun j k q u q' u' e1 e2 e3 => ?_, R.tabs, exn_set R fun _ z => nomatch z⟩
  · rcases set_get e with ⟨rfl, z⟩ | ⟨hne, e⟩
    · cases z
    · rw [List.getElem?_set_ne hne]; exact R.val j d' e
  · rcases set_get e with ⟨rfl, z⟩ | ⟨hne, e⟩
    · cases z
      rw [upA_same]
      exact ⟨by rw [List.getElem?_set_self hil], h, hg⟩
    · rw [List.getElem?_set_ne hne, upA_ne (Ne.symm hne)]; exact R.own j q u e
  · rcases set_get e1 with ⟨h1, z1⟩ | ⟨h1, e1⟩
    · rcases set_get e2 with ⟨h2, z2⟩ | ⟨h2, e2⟩
      · rw [← h1, ← h2]
      · subst h1
        rw [upA_same, upA_ne (Ne.symm h2)] at e3
        exact absurd ⟨k, q', u', e2, e3.symm⟩ hn
    · rcases set_get e2 with ⟨h2, z2⟩ | ⟨h2, e2⟩
      · subst h2
        rw [upA_same, upA_ne (Ne.symm h1)] at e3
        exact absurd ⟨j, q, u, e1, e3⟩ hn
      · rw [upA_ne (Ne.symm h1), upA_ne (Ne.symm h2)] at e3
        exact R.inj j k q u q' u' e1 e2 e3
end
/-- the stores of a result -/
def toSl : RV → Sl
  | .val d => .val d
  | .own o => .own false o
theorem store {K : PySem.W.Frag} {tcK : TabC K} {G0 G : Hp} {as0 as : Nat → Addr} {r0 r : Rho} {σ : L2.St} {H0 H : Hp} {i : Nat} {v : V} {rv : RV} (S : Stp G0 as0 r0 H0 G as r H) (R : Rel K G as r σ H) (hi : free r i = true) (h : RVat K as0 r0 H0 G as r H v rv) :
    ∃ as', Stp G0 as0 r0 H0 G as' (r.set i (toSl rv)) H ∧ Rel K G as' (r.set i (toSl rv)) (σ.set i (some v)) H := by
  cases rv with
  | val d => exact ⟨as, S.trans R (Stp.setV R hi), R.setV hi h⟩
  | own o =>
    obtain ⟨p, rfl, h1, h2, h3, h4⟩ := h
    refine ⟨upA as i p, ⟨S.g, S.fr, S.keep, S.alive, fun a ha => ?_, fun j o' e => ?_⟩, R.setO hi h1 h2 h3⟩
    · obtain ⟨j, q, u, e, z⟩ := ha
      rcases set_get e with ⟨h5, _⟩ | ⟨hne, e⟩
      · subst h5
        rw [upA_same] at z; subst z
        rcases h4 with h4 | h4
        · exact .inr h4
        · exact .inl h4.owned
      · rw [upA_ne (Ne.symm hne)] at z
        exact S.own a ⟨j, q, u, e, z⟩
    · obtain ⟨e1, o2, e2⟩ := S.pin j o' e
      have hne : i ≠ j := fun z => by subst z; exact free_pin hi e2
      exact ⟨by rw [upA_ne (Ne.symm hne)]; exact e1, o2, by rw [List.getElem?_set_ne hne]; exact e2⟩
/-! ### expressions: names, constants -/
section
variable {K : PySem.W.Frag} {tcK : TabC K} {E : WX}
def dC (d : D) : M D := fun r => .ok (d, r)
def dCOk : V → D → Prop
  | .non, .none => True
  | .bl b, .bool c => b = c
  | .int i, .int j => i = j
  | .str x, .str y => x = y
  | _, _ => False
theorem absC {v : V} {d : D} (h : ∀ G, DP K G v d) : AbsD K E (tC v) (dC d) := fun G as r σ H Q R w => w G H v Stp.refl R (h G)
/-- a name read: an own thing is frozen by it -/
def dVar (i : Nat) : M D := fun r => match r[i]? with
  | some (.val d) => .ok (d, r)
  | some (.own false (.lst ds)) => .ok (.list ds, r.set i (.val (.list ds)))
  | some (.own false (.dic es)) => .ok (.dict es, r.set i (.val (.dict es)))
  | _ => .no
/-- the thing of a slot goes out of it -/
def eMove (i : Nat) : M RV := fun r => match r[i]? with
  | some (.val d) => .ok (.val d, r)
  | some (.own false o) => .ok (.own o, r.set i .non)
  | _ => .no
theorem free_of {r : Rho} {i : Nat} {s : Sl} (h : r[i]? = some s) (hs : ∀ o, s ≠ .own true o) : free r i = true := by
  unfold free
  rw [h]
  cases s with
  | non => rfl
  | val d => rfl
  | exn x => rfl
  | own p o =>
    cases p with
    | true => exact absurd rfl (hs o)
    | false => rfl
theorem absMove (i : Nat) : AbsE K E (tVar i) (eMove i) := by
  intro G as r σ H Q R w
  unfold eMove at w
  cases e : r[i]? with
  | none => rw [e] at w; exact w.elim
  | some s =>
    rw [e] at w
    cases s with
    | non => exact w.elim
    | exn x => exact w.elim
    | val d =>
      obtain ⟨v, h1, h2⟩ := R.val i d e
      exact ⟨v, h1, w G H v Stp.refl R h2⟩
    | own p o =>
      cases p with
      | true => exact w.elim
      | false =>
        obtain ⟨h1, h2, h3⟩ := R.own i false o e
        have hf : free r i = true := free_of e (fun o => fun z => nomatch z)
        refine ⟨_, h1, w G H _ (Stp.setN R hf) R.setN ⟨_, rfl, h2, h3, ?_, .inr ⟨i, o, e, rfl⟩⟩⟩
        rintro ⟨j, q, u, e2, e3⟩
        rcases set_get e2 with ⟨_, z⟩ | ⟨hne, e2⟩
        · cases z
        · exact hne (R.inj j i q u false o e2 e e3).symm
theorem absVar (i : Nat) : AbsD K E (tVar i) (dVar i) := by
  intro G as r σ H Q R w
  unfold dVar at w
  cases e : r[i]? with
  | none => rw [e] at w; exact w.elim
  | some s =>
    rw [e] at w
    cases s with
    | non => exact w.elim
    | exn x => exact w.elim
    | val d =>
      obtain ⟨v, h1, h2⟩ := R.val i d e
      exact ⟨v, h1, w G H v Stp.refl R h2⟩
    | own p o =>
      cases p with
      | true => exact w.elim
      | false =>
        obtain ⟨h1, h2, h3⟩ := R.own i false o e
        have hf : free r i = true := free_of e (fun o => fun z => nomatch z)
        have hno : ¬ Owned as (r.set i .non) (as i) := by
          rintro ⟨j, q, u, e2, e3⟩
          rcases set_get e2 with ⟨_, z⟩ | ⟨hne, e2⟩
          · cases z
          · exact hne (R.inj j i q u false o e2 e e3).symm
        have hil : i < r.length := free_lt hf
        have go : ∀ d, fzR (.own o) = .ok d → DPost K G as r σ H Q (d, r.set i (.val d)) → ∃ v, σ[i]? = some (some v) ∧ Q v H := by
          intro d ed w
          obtain ⟨G2, S2, R2, h4⟩ := freeze (rv := .own o) (v := .ref (as i)) (Stp.setN R hf) (R.setN (i := i)) ⟨_, rfl, h2, h3, hno, .inr ⟨i, o, e, rfl⟩⟩ ed
          have hf2 : free (r.set i .non) i = true := free_of (List.getElem?_set_self hil) (fun o => fun z => nomatch z)
          have R3 := R2.setV (v := .ref (as i)) hf2 h4
          have S3 := S2.trans R2 (Stp.setV R2 (d := d) hf2)
          rw [List.set_set] at R3 S3
          have es : σ.set i (some (.ref (as i))) = σ := by
            apply List.ext_getElem?
            intro j
            by_cases hj : i = j
            · subst hj
              rw [List.getElem?_set_self (by rw [← R.len]; exact hil), h1]
            · rw [List.getElem?_set_ne hj]
          rw [es] at R3
          exact ⟨_, h1, w G2 H _ S3 R3 h4⟩
        cases o with
        | lst ds => exact go _ rfl w
        | dic es => exact go _ rfl w
        | ins C fs => exact w.elim
end
/-! ### operators by values -/
/-- a rule of two values answers by data -/
def A2 (K : PySem.W.Frag) (r : R2) (f : D → D → Option D) : Prop :=
  ∀ G H x y dx dy (Q : VK), Same G H → DP K G x dx → DP K G y dy → ∀ d, f dx dy = some d → (∀ G' H' v, Grow G H G' H' → DP K G' v d → Q v H') → r x y H Q
/-- what a rule by values leaves: data, or a new list of its own -/
def RVg (K : PySem.W.Frag) (H G' H' : Hp) (v : V) : RV → Prop
  | .val d => DP K G' v d
  | .own o => ∃ p, v = .ref p ∧ H p = none ∧ G' p = none ∧ OwnAt K G' H' p o
def A2R (K : PySem.W.Frag) (r : R2) (f : D → D → Option RV) : Prop :=
  ∀ G H x y dx dy (Q : VK), Same G H → DP K G x dx → DP K G y dy → ∀ d, f dx dy = some d → (∀ G' H' v, Grow G H G' H' → RVg K H G' H' v d → Q v H') → r x y H Q
def A1 (K : PySem.W.Frag) (r : V → Hp → VK → Prop) (f : D → Option D) : Prop :=
  ∀ G H x dx (Q : VK), Same G H → DP K G x dx → ∀ d, f dx = some d → (∀ G' H' v, Grow G H G' H' → DP K G' v d → Q v H') → r x H Q
def AN (K : PySem.W.Frag) (r : List V → Hp → VK → Prop) (f : List D → Option D) : Prop :=
  ∀ G H xs ds (Q : VK), Same G H → DPs K G xs ds → ∀ d, f ds = some d → (∀ G' H' v, Grow G H G' H' → DP K G' v d → Q v H') → r xs H Q
def ANR (K : PySem.W.Frag) (r : List V → Hp → VK → Prop) (f : List D → Option RV) : Prop :=
  ∀ G H xs ds (Q : VK), Same G H → DPs K G xs ds → ∀ d, f ds = some d → (∀ G' H' v, Grow G H G' H' → RVg K H G' H' v d → Q v H') → r xs H Q
def ofO {α : Type} : Option α → Res α
  | some a => .ok a
  | none => .no
theorem wp_bindO {α β : Type} {o : Option α} {f : α → Res β} {P : β → Prop} {E : Exn × Rho → Prop} (h : Wp ((ofO o).bind f) P E) : ∃ a, o = some a ∧ Wp (f a) P E := by
  cases o with
  | none => exact h.elim
  | some a => exact ⟨a, rfl, h⟩
/-- what a rule left, in the state's words -/
theorem RVg.at {K : PySem.W.Frag} {tcK : TabC K} {G G' : Hp} {as : Nat → Addr} {r : Rho} {σ : L2.St} {H H' : Hp} {v : V} {rv : RV} (R : Rel K G as r σ H) (h : RVg K H G' H' v rv) : RVat K as r H G' as r H' v rv := by
  cases rv with
  | val d => exact h
  | own o =>
    obtain ⟨p, e, h1, h2, h3⟩ := h
    refine ⟨p, e, h3, h2, fun z => ?_, .inl h1⟩
    obtain ⟨u, hu⟩ := R.owned_there z
    rw [h1] at hu; cases hu
def dOp (f : D → D → Option D) (ma mb : M D) : M D := fun r => (ma r).bind fun a => (mb a.2).bind fun b => (ofO (f a.1 b.1)).bind fun d => .ok (d, b.2)
def eOp (f : D → D → Option RV) (ma mb : M D) : M RV := fun r => (ma r).bind fun a => (mb a.2).bind fun b => (ofO (f a.1 b.1)).bind fun d => .ok (d, b.2)
def dUn (f : D → Option D) (ma : M D) : M D := fun r => (ma r).bind fun a => (ofO (f a.1)).bind fun d => .ok (d, a.2)
def dCB (f : List D → Option D) (ms : M (List D)) : M D := fun r => (ms r).bind fun a => (ofO (f a.1)).bind fun d => .ok (d, a.2)
def eCB (f : List D → Option RV) (ms : M (List D)) : M RV := fun r => (ms r).bind fun a => (ofO (f a.1)).bind fun d => .ok (d, a.2)
section
variable {K : PySem.W.Frag} {tcK : TabC K} {E : WX} {ta tb : TE} {ma mb : M D} {t : TA} {ms : M (List D)}
theorem absOp {r : R2} {f : D → D → Option D} (ha : AbsD K E ta ma) (hb : AbsD K E tb mb) (hr : A2 K r f) : AbsD K E (tOp r ta tb) (dOp f ma mb) := by
  intro G as r σ H Q R w
  refine ha G as r σ H _ R ((Wp.bind w).mono (fun a w1 => ?_) fun _ z => z)
  intro G1 H1 x S1 R1 dx
  refine hb G1 as a.2 σ H1 _ R1 ((Wp.bind w1).mono (fun b w2 => ?_) fun _ z => XPost.on R1 S1 z)
  intro G2 H2 y S2 R2 dy
  obtain ⟨d, e, w3⟩ := wp_bindO w2
  exact hr G2 H2 x y _ _ _ R2.le (dx.mono S2.g) dy d e fun G3 H3 v g dv => w3 G3 H3 v ((S1.trans R1 S2).trans R2 (g.stp R2)) (g.rel R2) dv
theorem absOpR {r : R2} {f : D → D → Option RV} (ha : AbsD K E ta ma) (hb : AbsD K E tb mb) (hr : A2R K r f) : AbsE K E (tOp r ta tb) (eOp f ma mb) := by
  intro G as r σ H Q R w
  refine ha G as r σ H _ R ((Wp.bind w).mono (fun a w1 => ?_) fun _ z => z)
  intro G1 H1 x S1 R1 dx
  refine hb G1 as a.2 σ H1 _ R1 ((Wp.bind w1).mono (fun b w2 => ?_) fun _ z => XPost.on R1 S1 z)
  intro G2 H2 y S2 R2 dy
  obtain ⟨d, e, w3⟩ := wp_bindO w2
  exact hr G2 H2 x y _ _ _ R2.le (dx.mono S2.g) dy d e fun G3 H3 v g dv => w3 G3 H3 v ((S1.trans R1 S2).trans R2 (g.stp R2)) (g.rel R2) (((RVg.at R2 dv).back R2 S2).back R1 S1)
theorem absUn {r : V → Hp → VK → Prop} {f : D → Option D} (ha : AbsD K E ta ma) (hr : A1 K r f) : AbsD K E (tUn r ta) (dUn f ma) := by
  intro G as r σ H Q R w
  refine ha G as r σ H _ R ((Wp.bind w).mono (fun a w1 => ?_) fun _ z => z)
  intro G1 H1 x S1 R1 dx
  obtain ⟨d, e, w3⟩ := wp_bindO w1
  exact hr G1 H1 x _ _ R1.le dx d e fun G3 H3 v g dv => w3 G3 H3 v (S1.trans R1 (g.stp R1)) (g.rel R1) dv
theorem absCB {r : List V → Hp → VK → Prop} {f : List D → Option D} (ha : AbsA K E t ms) (hr : AN K r f) : AbsD K E (tCB r t) (dCB f ms) := by
  intro G as r σ H Q R w
  refine ha G as r σ H _ R ((Wp.bind w).mono (fun a w1 => ?_) fun _ z => z)
  intro G1 H1 x S1 R1 dx
  obtain ⟨d, e, w3⟩ := wp_bindO w1
  exact hr G1 H1 x _ _ R1.le dx d e fun G3 H3 v g dv => w3 G3 H3 v (S1.trans R1 (g.stp R1)) (g.rel R1) dv
/-! ### lists of arguments -/
def dNil : M (List D) := fun r => .ok ([], r)
def dCons (m : M D) (ms : M (List D)) : M (List D) := fun r => (m r).bind fun a => (ms a.2).bind fun b => .ok (a.1 :: b.1, b.2)
theorem absNil : AbsA K E tNil dNil := fun G as r σ H Q R w => w G H [] Stp.refl R .nil
theorem absCons (ha : AbsD K E ta ma) (hs : AbsA K E t ms) : AbsA K E (tCons ta t) (dCons ma ms) := by
  intro G as r σ H Q R w
  refine ha G as r σ H _ R ((Wp.bind w).mono (fun a w1 => ?_) fun _ z => z)
  intro G1 H1 x S1 R1 dx
  refine hs G1 as a.2 σ H1 _ R1 ((Wp.bind w1).mono (fun b w2 => ?_) fun _ z => XPost.on R1 S1 z)
  intro G2 H2 ys S2 R2 dy
  exact w2 G2 H2 (x :: ys) (S1.trans R1 S2) R2 (.cons (dx.mono S2.g) dy)
def eLst (ms : M (List D)) : M RV := fun r => (ms r).bind fun a => if a.1.length ≤ 16777216 then .ok (.own (.lst a.1), a.2) else .no
def dTup (ms : M (List D)) : M D := fun r => (ms r).bind fun a => if a.1.length ≤ 16777216 then .ok (.tuple a.1, a.2) else .no
theorem absLst (ha : AbsA K E t ms) : AbsE K E (tLst t) (eLst ms) := by
  intro G as r σ H Q R w
  refine ha G as r σ H _ R ((Wp.bind w).mono (fun a w1 => ?_) fun _ z => z)
  intro G1 H1 xs S1 R1 dx
  split at w1
  · rename_i hl
    refine ⟨by rw [sizeLine_eq, dx.length]; exact hl, fun p hp => ?_⟩
    have g := Grow.bare R1.le hp (.lst xs)
    exact w1 G1 _ _ (S1.trans R1 (g.stp R1)) (g.rel R1) ((RVg.at (rv := .own (.lst a.1)) (G' := G1) (H' := upd H1 p (.lst xs)) R1 ⟨p, rfl, hp, R1.le.free hp, ⟨xs, upd_same, dx⟩⟩).back R1 S1)
  · exact w1.elim
theorem absTup (ha : AbsA K E t ms) : AbsD K E (tTup t) (dTup ms) := by
  intro G as r σ H Q R w
  refine ha G as r σ H _ R ((Wp.bind w).mono (fun a w1 => ?_) fun _ z => z)
  intro G1 H1 xs S1 R1 dx
  split at w1
  · rename_i hl
    refine ⟨by rw [sizeLine_eq, dx.length]; exact hl, fun p hp => ?_⟩
    have g := Grow.new R1.le hp (.tup xs)
    exact w1 _ _ _ (S1.trans R1 (g.stp R1)) (g.rel R1) (.tup (.inl (.inl upd_same)) (dx.mono g.g))
  · exact w1.elim
end
/-! ### tests -/
section
variable {K : PySem.W.Frag} {tcK : TabC K} {E : WX} {ta tb : TE} {ma mb : M D} {t u : TT} {m m' : M Bool}
def tBl (m : M D) : M Bool := fun r => (m r).bind fun a => match a.1 with
  | .bool b => .ok (b, a.2)
  | _ => .no
theorem dp_bool {G : Hp} {v : V} {b : Bool} (h : DP K G v (.bool b)) : v = .bl b := by cases h; rfl
theorem absTest (ha : AbsD K E ta ma) : AbsT K E (tTest ta) (tBl ma) := by
  intro G as r σ H Q R w
  refine ha G as r σ H _ R ((Wp.bind w).mono (fun a w1 => ?_) fun _ z => z)
  obtain ⟨d, r'⟩ := a
  intro G1 H1 x S1 R1 dx
  cases d with
  | bool b =>
    obtain rfl := dp_bool dx
    exact ⟨b, rfl, w1 G1 H1 S1 R1⟩
  | none => exact w1.elim
  | int i => exact w1.elim
  | str x => exact w1.elim
  | list x => exact w1.elim
  | tuple x => exact w1.elim
  | dict x => exact w1.elim
def tAndM (m m' : M Bool) : M Bool := fun r => (m r).bind fun a => if a.1 = true then m' a.2 else .ok (false, a.2)
def tOrM (m m' : M Bool) : M Bool := fun r => (m r).bind fun a => if a.1 = true then .ok (true, a.2) else m' a.2
def tNotM (m : M Bool) : M Bool := fun r => (m r).bind fun a => .ok (!a.1, a.2)
theorem absAnd (ha : AbsT K E t m) (hb : AbsT K E u m') : AbsT K E (tAnd t u) (tAndM m m') := by
  intro G as r σ H Q R w
  refine ha G as r σ H _ R ((Wp.bind w).mono (fun a w1 => ?_) fun _ z => z)
  obtain ⟨b, r'⟩ := a
  intro G1 H1 S1 R1
  cases b with
  | true => exact hb G1 as r' σ H1 Q R1 (Wp.mono w1 (fun a z => TPost.on R1 S1 z) fun _ z => XPost.on R1 S1 z)
  | false => exact w1 G1 H1 S1 R1
theorem absOr (ha : AbsT K E t m) (hb : AbsT K E u m') : AbsT K E (tOr t u) (tOrM m m') := by
  intro G as r σ H Q R w
  refine ha G as r σ H _ R ((Wp.bind w).mono (fun a w1 => ?_) fun _ z => z)
  obtain ⟨b, r'⟩ := a
  intro G1 H1 S1 R1
  cases b with
  | true => exact w1 G1 H1 S1 R1
  | false => exact hb G1 as r' σ H1 Q R1 (Wp.mono w1 (fun a z => TPost.on R1 S1 z) fun _ z => XPost.on R1 S1 z)
theorem absNot (ha : AbsT K E t m) : AbsT K E (tNot t) (tNotM m) := by
  intro G as r σ H Q R w
  refine ha G as r σ H _ R ((Wp.bind w).mono (fun a w1 => ?_) fun _ z => z)
  intro G1 H1 S1 R1
  exact w1 G1 H1 S1 R1
/-- a if t else b -/
def eIf (c : M Bool) (m m' : M RV) : M RV := fun r => (c r).bind fun a => if a.1 = true then m a.2 else m' a.2
/-- a chain of two comparisons -/
def dChain (f g : D → D → Option D) (ma mb mc : M D) : M D := fun r => (ma r).bind fun a => (mb a.2).bind fun b => (ofO (f a.1 b.1)).bind fun d => match d with
  | .bool true => (mc b.2).bind fun c => (ofO (g b.1 c.1)).bind fun d => .ok (d, c.2)
  | .bool false => .ok (.bool false, b.2)
  | _ => .no
end
/-! ### statements -/
section
variable {K : PySem.W.Frag} {tcK : TabC K} {E : WX} {te : TE} {m : M RV} {md : M D} {t u : TS} {n n' : SM}
def sNext : SM := fun r => .ok (.nx, r)
def sSeq (n n' : SM) : SM := fun r => (n r).bind fun a => match a.1 with
  | .nx => n' a.2
  | .bk => .ok (.bk, a.2)
  | .ct => .ok (.ct, a.2)
  | .rt rv => .ok (.rt rv, a.2)
theorem absNext : AbsS K E tNext sNext := fun G as r σ H D R w => w G as σ H Stp.refl R
theorem absSeq (h1 : AbsS K E t n) (h2 : AbsS K E u n') : AbsS K E (tSeq t u) (sSeq n n') := by
  intro G as r σ H D R w
  refine h1 G as r σ H _ R ((Wp.bind w).mono (fun a w1 => ?_) fun _ z => z)
  obtain ⟨f, r'⟩ := a
  cases f with
  | nx =>
    intro G1 as1 σ1 H1 S1 R1
    exact h2 G1 as1 r' σ1 H1 D R1 (Wp.mono w1 (fun a z => SPost.on R1 S1 z) fun _ z => YPost.on R1 S1 z)
  | bk => exact w1
  | ct => exact w1
  | rt rv => exact w1
def sBk : SM := fun r => .ok (.bk, r)
def sCt : SM := fun r => .ok (.ct, r)
def sNever : SM := fun _ => .no
theorem absNever : AbsS K E tNever sNever := fun G as r σ H D R w => w.elim
def sRet (m : M RV) : SM := fun r => (m r).bind fun a => .ok (.rt a.1, a.2)
theorem absRet (h : AbsE K E te m) : AbsS K E (tRet te) (sRet m) := by
  intro G as r σ H D R w
  refine h G as r σ H _ R ((Wp.bind w).mono (fun a w1 => ?_) fun _ z => z.x)
  intro G1 H1 v S1 R1 h1
  exact w1 G1 as σ H1 v S1 R1 h1
def sRetN : SM := fun r => .ok (.rt (.val .none), r)
def sExpr (m : M RV) : SM := fun r => (m r).bind fun a => .ok (.nx, a.2)
theorem absExpr (h : AbsE K E te m) : AbsS K E (tDrop te) (sExpr m) := by
  intro G as r σ H D R w
  refine h G as r σ H _ R ((Wp.bind w).mono (fun a w1 => ?_) fun _ z => z.x)
  intro G1 H1 v S1 R1 h1
  exact w1 G1 as σ H1 S1 R1
def sIf (c : M Bool) (n n' : SM) : SM := fun r => (c r).bind fun a => if a.1 = true then n a.2 else n' a.2
theorem absIfS {tc : TT} {c : M Bool} (hc : AbsT K E tc c) (h1 : AbsS K E t n) (h2 : AbsS K E u n') : AbsS K E (tIfS tc t u) (sIf c n n') := by
  intro G as r σ H D R w
  refine hc G as r σ H _ R ((Wp.bind w).mono (fun a w1 => ?_) fun _ z => z.x)
  obtain ⟨b, r'⟩ := a
  intro G1 H1 S1 R1
  cases b with
  | true => exact h1 G1 as r' σ H1 D R1 (Wp.mono w1 (fun a z => SPost.on R1 S1 z) fun _ z => YPost.on R1 S1 z)
  | false => exact h2 G1 as r' σ H1 D R1 (Wp.mono w1 (fun a z => SPost.on R1 S1 z) fun _ z => YPost.on R1 S1 z)
/-- name = e -/
def sSet (i : Nat) (m : M RV) : SM := fun r => (m r).bind fun a => if free a.2 i = true then .ok (.nx, a.2.set i (toSl a.1)) else .no
theorem absSet {i : Nat} (h : AbsE K E te m) : AbsS K E (tAsg te (gName i)) (sSet i m) := by
  intro G as r σ H D R w
  refine h G as r σ H _ R ((Wp.bind w).mono (fun a w1 => ?_) fun _ z => z.x)
  intro G1 H1 v S1 R1 h1
  split at w1
  · rename_i hf
    obtain ⟨as', S2, R2⟩ := store S1 R1 hf h1
    exact w1 G1 as' _ H1 S2 R2
  · exact w1.elim
/-! ### targets that take data -/
abbrev BM := D → Rho → Option Rho
/-- only the slots ws have changed -/
def But (ws : List Nat) (σ σ' : L2.St) : Prop := σ'.length = σ.length ∧ ∀ i, i ∉ ws → σ'[i]? = σ[i]?
def AbsG (K : PySem.W.Frag) [TabC K] (ws : List Nat) (g : TG) (b : BM) : Prop := ∀ G as r σ H v d (Q : L2.St → Hp → Prop), Rel K G as r σ H → DP K G v d → ∀ r', b d r = some r' →
  (∀ σ', But ws σ σ' → Stp G as r H G as r' H → Rel K G as r' σ' H → Q σ' H) → g v σ H Q
def bName (i : Nat) : BM := fun d r => if free r i = true then some (r.set i (.val d)) else none
theorem absName (i : Nat) : AbsG K [i] (gName i) (bName i) := by
  intro G as r σ H v d Q R h r' e q
  unfold bName at e
  split at e
  · rename_i hf
    cases e
    exact q _ ⟨List.length_set, fun j hj => List.getElem?_set_ne (fun z => hj (by simp [z]))⟩ (Stp.setV R hf) (R.setV hf h)
  · cases e
abbrev BMs := List D → Rho → Option Rho
def AbsGs (K : PySem.W.Frag) [TabC K] (ws : List Nat) (g : TGs) (b : BMs) : Prop := ∀ G as r σ H vs ds (Q : L2.St → Hp → Prop), Rel K G as r σ H → DPs K G vs ds → ∀ r', b ds r = some r' →
  (∀ σ', But ws σ σ' → Stp G as r H G as r' H → Rel K G as r' σ' H → Q σ' H) → g vs σ H Q
def bNil : BMs := fun ds r => match ds with
  | [] => some r
  | _ => none
def bCons (b : BM) (bs : BMs) : BMs := fun ds r => match ds with
  | [] => none
  | d :: ds => (b d r).bind fun r' => bs ds r'
theorem absGNil : AbsGs K [] gNil bNil := by
  intro G as r σ H vs ds Q R h r' e q
  cases h with
  | nil => cases e; exact ⟨rfl, q σ ⟨rfl, fun _ _ => rfl⟩ Stp.refl R⟩
  | cons _ _ => cases e
theorem absGCons {ws us : List Nat} {g : TG} {gs : TGs} {b : BM} {bs : BMs} (h1 : AbsG K ws g b) (h2 : AbsGs K us gs bs) : AbsGs K (ws ++ us) (gCons g gs) (bCons b bs) := by
  intro G as r σ H vs ds Q R h r' e q
  cases h with
  | nil => cases e
  | @cons v vs d ds hv hvs =>
    have e : (b d r).bind (fun r' => bs ds r') = some r' := e
    cases eb : b d r with
    | none => rw [eb] at e; cases e
    | some r1 =>
      rw [eb] at e
      exact ⟨v, vs, rfl, h1 G as r σ H v d _ R hv r1 eb fun σ1 B1 S1 R1 => h2 G as r1 σ1 H vs ds _ R1 hvs r' e fun σ2 B2 S2 R2 =>
        q σ2 ⟨B2.1.trans B1.1, fun i hi => (B2.2 i fun z => hi (List.mem_append_right _ z)).trans (B1.2 i fun z => hi (List.mem_append_left _ z))⟩ (S1.trans R1 S2) R2⟩
def bTup (n : Nat) (bs : BMs) : BM := fun d r => match d with
  | .tuple ds => if ds.length = n then bs ds r else none
  | _ => none
theorem absGTup {ws : List Nat} {n : Nat} {gs : TGs} {bs : BMs} (h : AbsGs K ws gs bs) : AbsG K ws (gTup K n gs) (bTup n bs) := by
  intro G as r σ H v d Q R hd r' e q
  cases hd with
  | @tup a xs ds hs hx =>
    have e : (if ds.length = n then bs ds r else none) = some r' := e
    split at e
    · rename_i hn
      exact ⟨a, xs, rfl, SqT.same R.le hs, hx.length.trans hn, h G as r σ H xs ds Q R hx r' e q⟩
    · cases e
  | non => cases e
  | bl _ => cases e
  | int _ => cases e
  | str _ => cases e
  | lst _ _ => cases e
  | dic _ _ => cases e
/-- target = e, the target taking data -/
def sAsg (b : BM) (m : M D) : SM := fun r => (m r).bind fun a => (ofO (b a.1 a.2)).bind fun r' => .ok (.nx, r')
theorem absAsg {ws : List Nat} {g : TG} {b : BM} (h : AbsD K E te md) (hg : AbsG K ws g b) : AbsS K E (tAsg te g) (sAsg b md) := by
  intro G as r σ H D R w
  refine h G as r σ H _ R ((Wp.bind w).mono (fun a w1 => ?_) fun _ z => z.x)
  intro G1 H1 v S1 R1 h1
  obtain ⟨r1, eb, w2⟩ := wp_bindO w1
  exact hg G1 as a.2 σ H1 v a.1 _ R1 h1 r1 eb fun σ' _ S2 R2 => w2 G1 as σ' H1 (S1.trans R1 S2) R2
end
end DL
/-! # DL3: loops, comprehensions, calls, things of a slot's own that are changed -/
namespace DL
open PySem PySem.Spec PyProof.Rows L2
/-! ### a value is kept while the state goes on -/
theorem RVat.carry {K : PySem.W.Frag} {G1 G2 : Hp} {as0 as1 as2 : Nat → Addr} {r0 r1 r2 : Rho} {H0 H1 H2 : Hp} {v : V} {rv : RV} (S : Stp G1 as1 r1 H1 G2 as2 r2 H2) (h : RVat K as0 r0 H0 G1 as1 r1 H1 v rv) : RVat K as0 r0 H0 G2 as2 r2 H2 v rv := by
  cases rv with
  | val d => exact DP.mono S.g h
  | own o =>
    obtain ⟨p, e, h1, h2, h3, h4⟩ := h
    obtain ⟨u, hu, hn0⟩ := h1.thereN
    refine ⟨p, e, h1.step S.g (by rw [hu]; exact S.keep p u hu h3 hn0.1), ?_, fun z => ?_, h4⟩
    · cases q : G2 p with
      | none => rfl
      | some w =>
        rcases S.fr p (by rw [q]; exact fun z => nomatch z) with z | z | z
        · exact absurd h2 z
        · rw [hu] at z; cases z
        · exact absurd z.owned h3
    · rcases S.own p z with q | q
      · exact h3 q
      · rw [hu] at q; cases q
/-! ### two names at once -/
def sPar (i j : Nat) (m n : M RV) : SM := fun r => (m r).bind fun a => (n a.2).bind fun b => if free b.2 i = true then (if free (b.2.set i (toSl a.1)) j = true then .ok (.nx, (b.2.set i (toSl a.1)).set j (toSl b.1)) else .no) else .no
section
variable {K : PySem.W.Frag} {tcK : TabC K} {E : WX} {ta tb : TE} {m n : M RV}
theorem absPar {i j : Nat} (ha : AbsE K E ta m) (hb : AbsE K E tb n) : AbsS K E (tPar i j (tCons ta (tCons tb tNil))) (sPar i j m n) := by
  intro G as r σ H D R w
  refine ha G as r σ H _ R ((Wp.bind w).mono (fun a w1 => ?_) fun _ z => z.x)
  intro G1 H1 x S1 R1 hx
  refine hb G1 as a.2 σ H1 _ R1 ((Wp.bind w1).mono (fun b w2 => ?_) fun _ z => XPost.on R1 S1 z.x)
  intro G2 H2 y S2 R2 hy
  refine ⟨x, y, rfl, ?_⟩
  split at w2
  · rename_i hf
    split at w2
    · rename_i hf2
      have hx2 := hx.carry S2
      have S12 := S1.trans R1 S2
      obtain ⟨as', S3, R3⟩ := store (i := i) S12 R2 hf hx2
      -- y in the state behind the first store
      have hy0 := hy.back R1 S1
      have hy2 : RVat K as r H G2 as' (b.2.set i (toSl a.1)) H2 y b.1 := by
        cases eb : b.1 with
        | val d => rw [eb] at hy0; exact hy0
        | own o =>
          rw [eb] at hy0 hy
          obtain ⟨p, e, h1, h2, h3, h4⟩ := hy0
          obtain ⟨p', e', h1', h2', h3', h4'⟩ := hy
          rw [e] at e'; cases e'
          refine ⟨p, e, h1, h2, ?_, h4⟩
          rintro ⟨k, q, u, ek, ez⟩
          have hk : k = i ∨ k ≠ i := by by_cases z : k = i; exact .inl z; exact .inr z
          rcases hk with hk | hk
          · -- slot i: what x is
            rw [hk] at ek ez
            cases ea : a.1 with
            | val d =>
              rw [ea, List.getElem?_set_self (free_lt hf)] at ek; cases ek
            | own oa =>
              rw [ea] at hx hx2 ek
              obtain ⟨px, ex, g1, g2, g3, g4⟩ := hx
              -- as' i = px
              have hil : i < σ.length := by rw [← R2.len]; exact free_lt hf
              rw [ea] at R3
              obtain ⟨s1, _, _⟩ := R3.own i q u ek
              rw [List.getElem?_set_self hil] at s1
              have : x = .ref (as' i) := Option.some.inj (Option.some.inj s1)
              rw [ex, ez] at this
              cases this
              obtain ⟨u1, hu1⟩ := g1.there
              rcases h4' with z | z
              · rw [hu1] at z; cases z
              · exact g3 z.owned
          · rw [List.getElem?_set_ne (Ne.symm hk)] at ek
            have hs : (b.2.set i (toSl a.1))[k]? = some (.own q u) := by rw [List.getElem?_set_ne (Ne.symm hk)]; exact ek
            obtain ⟨s1, _, _⟩ := R3.own k q u hs
            obtain ⟨s2, _, _⟩ := R2.own k q u ek
            rw [List.getElem?_set_ne (Ne.symm hk), s2] at s1
            have : as k = as' k := by
              have z := Option.some.inj (Option.some.inj s1)
              injection z
            exact h3 ⟨k, q, u, ek, by rw [this]; exact ez⟩
      obtain ⟨as2, S4, R4⟩ := store (i := j) S3 R3 hf2 hy2
      exact w2 G2 as2 _ H2 S4 R4
    · exact w2.elim
  · exact w2.elim
end
/-! ### walks -/
/-- what J walks: the items' data -/
def Iterates (K : PySem.W.Frag) (G0 : Hp) (J : It) (items : List D) : Prop :=
  ∃ (Gp : Hp → Prop) (Y : Nat → Hp → V → Hp → Prop), Walk J items.length Gp Y ∧ (∀ H, Same G0 H → Gp H) ∧
    ∀ i H x H' G, Same G0 G → Same G H → i < items.length → Y i H x H' → ∃ G' d, items[i]? = some d ∧ Grow G H G' H' ∧ DP K G' x d
def IPost (K : PySem.W.Frag) [TabC K] (G : Hp) (as : Nat → Addr) (r : Rho) (σ : L2.St) (H : Hp) (Q : It → Hp → Prop) (a : List D × Rho) : Prop :=
  ∀ G' H' J, Stp G as r H G' as a.2 H' → Rel K G' as a.2 σ H' → Iterates K G' J a.1 → Q J H'
def AbsI (K : PySem.W.Frag) [TabC K] (E : WX) (t : TI) (m : M (List D)) : Prop :=
  ∀ G as r σ H Q, Rel K G as r σ H → Wp (m r) (IPost K G as r σ H Q) (XPost K G as r σ H E) → t σ H Q
def forD (b : BM) (body : SM) : List D → SM
  | [], r => .ok (.nx, r)
  | d :: ds, r => (ofO (b d r)).bind fun r1 => (body r1).bind fun a => match a.1 with
    | .nx => forD b body ds a.2
    | .ct => forD b body ds a.2
    | .bk => .ok (.nx, a.2)
    | .rt rv => .ok (.rt rv, a.2)
def sFor (mi : M (List D)) (b : BM) (body : SM) : SM := fun r => (mi r).bind fun a => forD b body a.1 a.2
section
variable {K : PySem.W.Frag} {tcK : TabC K} {E : WX} {ws : List Nat} {wi : TI} {mi : M (List D)} {g : TG} {b : BM} {tb : TS} {body : SM}
theorem drop_cons {α : Type} {l : List α} {i : Nat} {d : α} (h : l[i]? = some d) : l.drop i = d :: l.drop (i + 1) := by
  obtain ⟨hl, e⟩ := List.getElem?_eq_some_iff.mp h
  rw [List.drop_eq_getElem_cons hl, e]
theorem absFor (hi : AbsI K E wi mi) (hg : AbsG K ws g b) (hb : AbsS K E tb body) : AbsS K E (tFor wi g tb) (sFor mi b body) := by
  intro G as r σ H D R w
  refine hi G as r σ H _ R ((Wp.bind w).mono (fun a w1 => ?_) fun _ z => z.x)
  obtain ⟨items, r1⟩ := a
  intro G1 H1 J S1 R1 hJ
  obtain ⟨Gp, Y, wk, hgp, hy⟩ := hJ
  refine for_it wk (fun i σ' H' => ∃ G' as' r', Same G1 G' ∧ Stp G as r H G' as' r' H' ∧ Rel K G' as' r' σ' H' ∧ Wp (forD b body (items.drop i) r') (SPost K G' as' r' H' D) (YPost K G' as' r' H' E))
    ⟨G1, as, r1, Same.refl _, S1, R1, Wp.mono w1 (fun a z => SPost.on R1 S1 z) fun _ z => YPost.on R1 S1 z⟩ ?_ ?_ ?_
  · rintro i σ' H' _ ⟨G', as', r', sg, _, R', _⟩
    exact hgp H' (sg.trans R'.le)
  · rintro i x σ' H' H2 hlt ⟨G', as', r', sg, S', R', w'⟩ hyi
    obtain ⟨G2, d, ed, gr, dp⟩ := hy i H' x H2 G' sg R'.le hlt hyi
    rw [drop_cons ed] at w'
    have w' : Wp ((ofO (b d r')).bind fun r1 => (body r1).bind fun a => match a.1 with
      | .nx => forD b body (items.drop (i + 1)) a.2
      | .ct => forD b body (items.drop (i + 1)) a.2
      | .bk => .ok (.nx, a.2)
      | .rt rv => .ok (.rt rv, a.2)) (SPost K G' as' r' H' D) (YPost K G' as' r' H' E) := w'
    obtain ⟨r2, eb, w2⟩ := wp_bindO w'
    have R2 := gr.rel R'
    have Sg := gr.stp R'
    refine hg G2 as' r' σ' H2 x d _ R2 dp r2 eb fun σ2 _ S3 R3 => ?_
    have S23 := Sg.trans R2 S3
    refine hb G2 as' r2 σ2 H2 _ R3 ((Wp.bind w2).mono (fun c w3 => ?_) fun _ z => YPost.on R3 S23 z)
    obtain ⟨f, r3⟩ := c
    cases f with
    | nx =>
      intro G4 as4 σ4 H4 S4 R4
      exact ⟨G4, as4, r3, (sg.trans S23.g).trans S4.g, (S'.trans R' S23).trans R3 S4, R4, Wp.mono w3 (fun a z => SPost.on R4 (S23.trans R3 S4) z) fun _ z => YPost.on R4 (S23.trans R3 S4) z⟩
    | ct =>
      intro G4 as4 σ4 H4 S4 R4
      exact ⟨G4, as4, r3, (sg.trans S23.g).trans S4.g, (S'.trans R' S23).trans R3 S4, R4, Wp.mono w3 (fun a z => SPost.on R4 (S23.trans R3 S4) z) fun _ z => YPost.on R4 (S23.trans R3 S4) z⟩
    | bk =>
      intro G4 as4 σ4 H4 S4 R4
      exact w3 G4 as4 σ4 H4 (S23.trans R3 S4) R4
    | rt rv =>
      intro G4 as4 σ4 H4 v S4 R4 hv
      exact w3 G4 as4 σ4 H4 v (S23.trans R3 S4) R4 (hv.back R3 S23)
  · rintro σ' H' ⟨G', as', r', sg, S', R', w'⟩
    rw [List.drop_length] at w'
    exact w' G' as' σ' H' Stp.refl R'
end
/-! ### while -/
def whF (c : M Bool) (n : SM) : Nat → SM
  | 0, _ => .no
  | k + 1, r => (c r).bind fun a => if a.1 = true then ((n a.2).bind fun b => match b.1 with
      | .nx => whF c n k b.2
      | .ct => whF c n k b.2
      | .bk => .ok (.nx, b.2)
      | .rt rv => .ok (.rt rv, b.2)) else .ok (.nx, a.2)
theorem whF_mono (c : M Bool) (n : SM) : ∀ (k j : Nat) (r : Rho), k ≤ j → whF c n k r ≠ .no → whF c n j r = whF c n k r
  | 0, _, _, _, h => absurd rfl h
  | k + 1, 0, _, hj, _ => absurd hj (Nat.not_succ_le_zero _)
  | k + 1, j + 1, r, hj, h => by
    unfold whF at h ⊢
    cases ec : c r with
    | no => rfl
    | ex x => rfl
    | ok a =>
      rw [ec] at h
      simp only [Res.bind] at h ⊢
      by_cases ha : a.1 = true
      · simp only [if_pos ha] at h ⊢
        cases en : n a.2 with
        | no => rfl
        | ex x => rfl
        | ok b =>
          rw [en] at h
          obtain ⟨f, r'⟩ := b
          cases f with
          | nx => exact whF_mono c n k j r' (Nat.le_of_succ_le_succ hj) h
          | ct => exact whF_mono c n k j r' (Nat.le_of_succ_le_succ hj) h
          | bk => rfl
          | rt rv => rfl
      · simp only [if_neg ha]
open Classical in
noncomputable def sWhile (c : M Bool) (n : SM) : SM := fun r => if h : ∃ k, whF c n k r ≠ .no then whF c n (Classical.choose h) r else .no
theorem sWhile_of {c : M Bool} {n : SM} {k : Nat} {r : Rho} (h : whF c n k r ≠ .no) : sWhile c n r = whF c n k r := by
  have hx : ∃ k, whF c n k r ≠ .no := ⟨k, h⟩
  unfold sWhile
  rw [dif_pos hx]
  have h2 := Classical.choose_spec hx
  by_cases hk : k ≤ Classical.choose hx
  · exact whF_mono c n k _ r hk h
  · exact (whF_mono c n _ k r (Nat.le_of_lt (Nat.lt_of_not_le hk)) h2).symm
theorem sWhile_no {c : M Bool} {n : SM} {r : Rho} (h : ∀ k, whF c n k r = .no) : sWhile c n r = .no := by
  unfold sWhile
  rw [dif_neg]
  rintro ⟨k, hk⟩
  exact hk (h k)
/-- one turn -/
theorem sWhile_step (c : M Bool) (n : SM) (r : Rho) : sWhile c n r = (c r).bind fun a => if a.1 = true then ((n a.2).bind fun b => match b.1 with
      | .nx => sWhile c n b.2
      | .ct => sWhile c n b.2
      | .bk => .ok (.nx, b.2)
      | .rt rv => .ok (.rt rv, b.2)) else .ok (.nx, a.2) := by
  have key : ∀ k, whF c n (k + 1) r = (c r).bind fun a => if a.1 = true then ((n a.2).bind fun b => match b.1 with
      | .nx => whF c n k b.2
      | .ct => whF c n k b.2
      | .bk => .ok (.nx, b.2)
      | .rt rv => .ok (.rt rv, b.2)) else .ok (.nx, a.2) := fun k => rfl
  have go : ∀ r', (∀ k, whF c n (k + 1) r = whF c n k r') → sWhile c n r = sWhile c n r' := by
    intro r' h
    by_cases hx : ∃ k, whF c n k r' ≠ .no
    · obtain ⟨k, hk⟩ := hx
      rw [sWhile_of hk, sWhile_of (k := k + 1) (by rw [h k]; exact hk), h k]
    · have h0 : ∀ k, whF c n k r' = .no := fun k => by
        cases e : whF c n k r' with
        | no => rfl
        | ok a => exact absurd ⟨k, by rw [e]; exact fun z => nomatch z⟩ hx
        | ex a => exact absurd ⟨k, by rw [e]; exact fun z => nomatch z⟩ hx
      rw [sWhile_no h0]
      refine sWhile_no fun k => ?_
      cases k with
      | zero => rfl
      | succ k => rw [h k]; exact h0 k
  have fin : ∀ x, x ≠ .no → (∀ k, whF c n (k + 1) r = x) → sWhile c n r = x := fun x hx h => by
    rw [sWhile_of (k := 1) (by rw [h 0]; exact hx), h 0]
  have fin0 : (∀ k, whF c n (k + 1) r = .no) → sWhile c n r = .no := fun h => sWhile_no fun k => by
    cases k with
    | zero => rfl
    | succ k => exact h k
  cases ec : c r with
  | no => exact fin0 fun k => by rw [key, ec]; rfl
  | ex x => exact fin _ (fun z => nomatch z) fun k => by rw [key, ec]; rfl
  | ok a =>
    simp only [Res.bind]
    by_cases ha : a.1 = true
    · rw [if_pos ha]
      cases en : n a.2 with
      | no => exact fin0 fun k => by rw [key, ec]; simp only [Res.bind, if_pos ha, en]
      | ex x => exact fin _ (fun z => nomatch z) fun k => by rw [key, ec]; simp only [Res.bind, if_pos ha, en]
      | ok b =>
        obtain ⟨f, r'⟩ := b
        cases f with
        | nx => exact go r' fun k => by rw [key, ec]; simp only [Res.bind, if_pos ha, en]
        | ct => exact go r' fun k => by rw [key, ec]; simp only [Res.bind, if_pos ha, en]
        | bk => exact fin _ (fun z => nomatch z) fun k => by rw [key, ec]; simp only [Res.bind, if_pos ha, en]
        | rt rv => exact fin _ (fun z => nomatch z) fun k => by rw [key, ec]; simp only [Res.bind, if_pos ha, en]
    · rw [if_neg ha]
      exact fin _ (fun z => nomatch z) fun k => by rw [key, ec]; simp only [Res.bind, if_neg ha]
section
variable {K : PySem.W.Frag} {tcK : TabC K} {E : WX} {tc : TT} {c : M Bool} {tb : TS} {n : SM}
theorem absWhile (hc : AbsT K E tc c) (hb : AbsS K E tb n) : AbsS K E (tWhile tc tb) (sWhile c n) := by
  intro G as r σ H D R w
  obtain ⟨k, hk⟩ : ∃ k, sWhile c n r = whF c n k r := by
    by_cases hx : ∃ k, whF c n k r ≠ .no
    · obtain ⟨k, hk⟩ := hx
      exact ⟨k, sWhile_of hk⟩
    · refine ⟨0, sWhile_no fun k => ?_⟩
      cases e : whF c n k r with
      | no => rfl
      | ok a => exact absurd ⟨k, by rw [e]; exact fun z => nomatch z⟩ hx
      | ex a => exact absurd ⟨k, by rw [e]; exact fun z => nomatch z⟩ hx
  rw [hk] at w
  refine ⟨fun m σ' H' => ∃ G' as' r', Rel K G' as' r' σ' H' ∧ Wp (whF c n m r') (SPost K G' as' r' H' D) (YPost K G' as' r' H' E), ⟨k, G, as, r, R, w⟩, ?_⟩
  rintro m σ1 H1 ⟨G1, as1, r1, R1, w1⟩
  cases m with
  | zero => exact w1.elim
  | succ m =>
    have w1 : Wp ((c r1).bind fun a => if a.1 = true then ((n a.2).bind fun b => match b.1 with
      | .nx => whF c n m b.2
      | .ct => whF c n m b.2
      | .bk => .ok (.nx, b.2)
      | .rt rv => .ok (.rt rv, b.2)) else .ok (.nx, a.2)) (SPost K G1 as1 r1 H1 D) (YPost K G1 as1 r1 H1 E) := w1
    refine hc G1 as1 r1 σ1 H1 _ R1 ((Wp.bind w1).mono (fun a w2 => ?_) fun _ z => z.x)
    obtain ⟨bv, r2⟩ := a
    intro G2 H2 S2 R2
    cases bv with
    | false => exact w2 G2 as1 σ1 H2 S2 R2
    | true =>
      refine ⟨fun σ' H' => ∃ G' as' r', Rel K G' as' r' σ' H' ∧ Wp (whF c n m r') (SPost K G' as' r' H' D) (YPost K G' as' r' H' E), fun σ' H' h => ⟨m, Nat.lt_succ_self m, h⟩, ?_⟩
      have w2 : Wp ((n r2).bind fun b => match b.1 with
        | .nx => whF c n m b.2
        | .ct => whF c n m b.2
        | .bk => .ok (.nx, b.2)
        | .rt rv => .ok (.rt rv, b.2)) (SPost K G1 as1 r1 H1 D) (YPost K G1 as1 r1 H1 E) := w2
      refine hb G2 as1 r2 σ1 H2 _ R2 ((Wp.bind w2).mono (fun b w3 => ?_) fun _ z => YPost.on R2 S2 z)
      obtain ⟨f, r3⟩ := b
      cases f with
      | nx =>
        intro G3 as3 σ3 H3 S3 R3
        exact ⟨G3, as3, r3, R3, Wp.mono w3 (fun a z => SPost.on R3 (S2.trans R2 S3) z) fun _ z => YPost.on R3 (S2.trans R2 S3) z⟩
      | ct =>
        intro G3 as3 σ3 H3 S3 R3
        exact ⟨G3, as3, r3, R3, Wp.mono w3 (fun a z => SPost.on R3 (S2.trans R2 S3) z) fun _ z => YPost.on R3 (S2.trans R2 S3) z⟩
      | bk =>
        intro G3 as3 σ3 H3 S3 R3
        exact w3 G3 as3 σ3 H3 (S2.trans R2 S3) R3
      | rt rv =>
        intro G3 as3 σ3 H3 v S3 R3 hv
        exact w3 G3 as3 σ3 H3 v (S2.trans R2 S3) R3 (hv.back R2 S2)
end
/-! ### comprehensions -/
def wipeR (r : Rho) : List Nat → Option Rho
  | [] => some r
  | v :: vs => (wipeR r vs).bind fun r' => if free r' v = true then some (r'.set v .non) else none
theorem wipeR_rel {K : PySem.W.Frag} {tcK : TabC K} {G : Hp} {as : Nat → Addr} {σ : L2.St} {H : Hp} {r : Rho} (R : Rel K G as r σ H) : ∀ {vs : List Nat} {r' : Rho}, wipeR r vs = some r' → Rel K G as r' (wipe σ vs) H ∧ Stp G as r H G as r' H ∧ ∀ v ∈ vs, r'[v]? = some .non
  | [], r', e => by cases e; exact ⟨R, Stp.refl, fun _ h => nomatch h⟩
  | v :: vs, r', e => by
    unfold wipeR at e
    cases e1 : wipeR r vs with
    | none => rw [e1] at e; cases e
    | some r1 =>
      rw [e1] at e
      have e : (if free r1 v = true then some (r1.set v .non) else none) = some r' := e
      split at e
      · rename_i hf
        cases e
        obtain ⟨R1, S1, h1⟩ := wipeR_rel R e1
        have R2 := R1.setN (i := v)
        have S2 := Stp.setN R1 hf
        have hv : v < r1.length := free_lt hf
        refine ⟨?_, S1.trans R1 S2, fun u hu => ?_⟩
        · unfold wipe
          refine ⟨R2.le, by rw [List.length_set (as := wipe σ vs)]; exact R2.len, fun i d ei => ?_, fun i p o ei => ?_, R2.inj, R2.tabs, fun i x ei => (R2.exn i x ei).st (List.getElem?_set_ne (fun z => by subst z; rw [List.getElem?_set_self hv] at ei; cases ei))⟩
          · have hne : v ≠ i := fun z => by subst z; rw [List.getElem?_set_self hv] at ei; cases ei
            rw [List.getElem?_set_ne hne]; exact R2.val i d ei
          · have hne : v ≠ i := fun z => by subst z; rw [List.getElem?_set_self hv] at ei; cases ei
            rw [List.getElem?_set_ne hne]; exact R2.own i p o ei
        · by_cases hu2 : v = u
          · subst hu2; rw [List.getElem?_set_self hv]
          · rw [List.getElem?_set_ne hu2]
            rcases List.mem_cons.mp hu with z | z
            · exact absurd z.symm hu2
            · exact h1 u z
      · cases e
/-- the slots are what they were outside -/
theorem Rel.slots {K : PySem.W.Frag} {tcK : TabC K} {G : Hp} {as : Nat → Addr} {σ σ' : L2.St} {H : Hp} {r : Rho} (R : Rel K G as r σ H) (hl : σ'.length = σ.length) (h : ∀ (i : Nat) (s : Sl), r[i]? = some s → s ≠ .non → σ'[i]? = σ[i]?) : Rel K G as r σ' H :=
  ⟨R.le, by rw [hl]; exact R.len, fun i d e => by rw [h i _ e (fun z => nomatch z)]; exact R.val i d e, fun i p o e => by rw [h i _ e (fun z => nomatch z)]; exact R.own i p o e, R.inj, R.tabs, fun i x e => (R.exn i x e).st (h i _ e (fun z => nomatch z))⟩
theorem wipe_other {σ : L2.St} {i : Nat} : ∀ {vs : List Nat}, i ∉ vs → (wipe σ vs)[i]? = σ[i]?
  | [], _ => rfl
  | v :: vs, h => by
    unfold wipe
    rw [List.getElem?_set_ne (fun z => h (by rw [z]; exact List.mem_cons_self))]
    exact wipe_other fun z => h (List.mem_cons_of_mem _ z)
theorem wipe_in {σ : L2.St} {i : Nat} : ∀ {vs : List Nat}, i ∈ vs → (wipe σ vs)[i]? = if i < σ.length then some none else none
  | v :: vs, h => by
    unfold wipe
    by_cases e : v = i
    · subst e
      by_cases hl : v < σ.length
      · rw [if_pos hl, List.getElem?_set_self (by rw [wipe_length]; exact hl)]
      · rw [if_neg hl, List.getElem?_eq_none (by rw [List.length_set, wipe_length]; omega)]
    · rw [List.getElem?_set_ne e]
      rcases List.mem_cons.mp h with z | z
      · exact absurd z.symm e
      · exact wipe_in z
theorem wipe_but {σ σ' : L2.St} : ∀ {vs : List Nat}, But vs σ σ' → wipe σ' vs = wipe σ vs := by
  intro vs h
  apply List.ext_getElem?
  intro i
  by_cases hi : i ∈ vs
  · rw [wipe_in hi, wipe_in hi, h.1]
  · rw [wipe_other hi, wipe_other hi]
    exact h.2 i hi
def noEx {α : Type} : Res α → Res α
  | .ok a => .ok a
  | .ex _ => .no
  | .no => .no
theorem wp_noEx {α : Type} {m : Res α} {P : α → Prop} {E E' : Exn × Rho → Prop} (h : Wp (noEx m) P E) : Wp m P E' := by
  cases m with
  | ok a => exact h
  | ex x => exact h.elim
  | no => exact h
/-- the list of a comprehension, item by item -/
def lcD (vs : List Nat) (b : BM) (c : M Bool) (m : M D) : List D → List D → Rho → Res (List D × Rho)
  | [], acc, r => .ok (acc, r)
  | d :: ds, acc, r => (ofO (b d r)).bind fun r1 => (noEx (c r1)).bind fun t => if t.1 = true then
      ((noEx (m t.2)).bind fun x => if acc.length < 16777216 then (ofO (wipeR x.2 vs)).bind fun r2 => lcD vs b c m ds (acc ++ [x.1]) r2 else .no)
    else (ofO (wipeR t.2 vs)).bind fun r2 => lcD vs b c m ds acc r2
def eLc (mi : M (List D)) (vs : List Nat) (b : BM) (c : M Bool) (m : M D) : M RV := fun r => (mi r).bind fun a => (ofO (wipeR a.2 vs)).bind fun r1 => (lcD vs b c m a.1 [] r1).bind fun x => .ok (.own (.lst x.1), x.2)
def tYesM : M Bool := fun r => .ok (true, r)
theorem absYes {K : PySem.W.Frag} {tcK : TabC K} {E : WX} : AbsT K E tYes tYesM := fun G as r σ H Q R w => w G H Stp.refl R
section
variable {K : PySem.W.Frag} {tcK : TabC K} {E : WX} {wi : TI} {mi : M (List D)} {g : TG} {b : BM} {tt : TT} {c : M Bool} {te : TE} {m : M D} {vs ws : List Nat}
theorem absLc (hi : AbsI K E wi mi) (hg : AbsG K ws g b) (hw : ∀ i ∈ ws, i ∈ vs) (hc : AbsT K W0 tt c) (he : AbsD K W0 te m) : AbsE K E (tLc wi g tt te vs) (eLc mi vs b c m) := by
  intro G as r σ H Q R w
  refine hi G as r σ H _ R ((Wp.bind w).mono (fun a w1 => ?_) fun _ z => z)
  obtain ⟨items, r1⟩ := a
  intro G1 H1 J S1 R1 hJ D hD
  obtain ⟨Gp, Y, wk, hgp, hy⟩ := hJ
  obtain ⟨r2, ew, w2⟩ := wp_bindO w1
  obtain ⟨R2, S2, hvs⟩ := wipeR_rel R1 ew
  have S12 := S1.trans R1 S2
  have gr0 := Grow.bare R2.le hD (.lst [])
  have R3 := gr0.rel R2
  have S3 := gr0.stp R2
  have S13 := S12.trans R2 S3
  have w2 : Wp ((lcD vs b c m items [] r2).bind fun x => .ok (.own (.lst x.1), x.2)) (EPost K G as r σ H Q) (XPost K G as r σ H E) := w2
  have hDn : ¬ Owned as r2 D := fun z => by
    obtain ⟨u, hu⟩ := R2.owned_there z
    rw [hD] at hu; cases hu
  have hD0 : H D = none := by
    cases e : H D with
    | none => rfl
    | some o => exact absurd hD (S1.alive D (by rw [e]; exact fun z => nomatch z))
  refine lc_it wk (fun i H' => ∃ G' r' acc accV, Same G1 G' ∧ Stp G as r H G' as r' H' ∧ Rel K G' as r' (wipe σ vs) H' ∧ (∀ v ∈ vs, r'[v]? = some .non) ∧ H' D = some (.lst accV) ∧ DPs K G' accV acc ∧ G' D = none ∧ ¬ Owned as r' D ∧
      Wp ((lcD vs b c m (items.drop i) acc r').bind fun x => .ok (.own (.lst x.1), x.2)) (EPost K G as r σ H Q) (XPost K G as r σ H E))
    ⟨G1, r2, [], [], Same.refl _, S13, R3, hvs, upd_same, DPs.nil, R2.le.free hD, hDn, by rw [List.drop_zero]; exact w2⟩ ?_ ?_ ?_
  · rintro i H' _ ⟨G', r', acc, accV, sg, _, R', _⟩
    exact hgp H' (sg.trans R'.le)
  · rintro i x H' H2 hlt ⟨G', r', acc, accV, sg, S', R', hn', hDl, dps, hDg, hDo, w'⟩ hyi
    obtain ⟨G2, d, ed, gr, dp⟩ := hy i H' x H2 G' sg R'.le hlt hyi
    rw [drop_cons ed] at w'
    have w' : Wp (((ofO (b d r')).bind fun r1 => (noEx (c r1)).bind fun t => if t.1 = true then
      ((noEx (m t.2)).bind fun x => if acc.length < 16777216 then (ofO (wipeR x.2 vs)).bind fun r2 => lcD vs b c m (items.drop (i + 1)) (acc ++ [x.1]) r2 else .no)
      else (ofO (wipeR t.2 vs)).bind fun r2 => lcD vs b c m (items.drop (i + 1)) acc r2).bind fun x => .ok (.own (.lst x.1), x.2)) (EPost K G as r σ H Q) (XPost K G as r σ H E) := w'
    obtain ⟨rb, eb, w3⟩ := wp_bindO (Wp.bind w')
    have R2' := gr.rel R'
    have Sg := gr.stp R'
    -- the new list through a step
    have keepD : ∀ {Ga Gb : Hp} {ra rb' : Rho} {Ha Hb : Hp}, Stp Ga as ra Ha Gb as rb' Hb → Ha D = some (.lst accV) → Ga D = none → ¬ Owned as ra D → Hb D = some (.lst accV) ∧ Gb D = none ∧ ¬ Owned as rb' D := by
      intro Ga Gb ra rb' Ha Hb S h1 h2 h3
      refine ⟨S.keep D _ h1 h3 nt_lst.1, ?_, fun z => ?_⟩
      · cases q : Gb D with
        | none => rfl
        | some w =>
          rcases S.fr D (by rw [q]; exact fun z => nomatch z) with z | z | z
          · exact absurd h2 z
          · rw [h1] at z; cases z
          · exact absurd z.owned h3
      · rcases S.own D z with q | q
        · exact h3 q
        · rw [h1] at q; cases q
    obtain ⟨d1, d2, d3⟩ := keepD Sg hDl hDg hDo
    refine hg G2 as r' (wipe σ vs) H2 x d _ R2' dp rb eb fun σ2 Bb Sb Rb => ?_
    obtain ⟨b1, b2, b3⟩ := keepD Sb d1 d2 d3
    have Bv : But vs (wipe σ vs) σ2 := ⟨Bb.1, fun i hi => Bb.2 i fun z => hi (hw i z)⟩
    have ew2 : wipe σ2 vs = wipe σ vs := by
      rw [wipe_but Bv]
      apply List.ext_getElem?
      intro j
      by_cases hj : j ∈ vs
      · rw [wipe_in hj, wipe_in hj, wipe_length]
      · rw [wipe_other hj]
    refine ⟨ew2, ?_⟩
    have w4 := Wp.bind w3
    refine hc G2 as rb σ2 H2 _ Rb (wp_noEx (Wp.mono w4 (fun t w5 => ?_) fun _ z => z))
    obtain ⟨bv, rt⟩ := t
    intro G3 H3 S3 R3'
    obtain ⟨c1, c2, c3⟩ := keepD S3 b1 b2 b3
    have Sgb := Sg.trans R2' Sb
    have S03 := (S'.trans R' Sgb).trans Rb S3
    have sg3 : Same G1 G3 := (sg.trans Sgb.g).trans S3.g
    cases bv with
    | false =>
      have w5 : Wp ((ofO (wipeR rt vs)).bind fun r2 => lcD vs b c m (items.drop (i + 1)) acc r2) (fun a => Wp (.ok (.own (.lst a.1), a.2)) (EPost K G as r σ H Q) (XPost K G as r σ H E)) (XPost K G as r σ H E) := w5
      obtain ⟨r4, e4, w6⟩ := wp_bindO w5
      obtain ⟨R4, S4, hn4⟩ := wipeR_rel R3' e4
      rw [ew2] at R4
      obtain ⟨f1, f2, f3⟩ := keepD S4 c1 c2 c3
      refine ⟨G3, r4, acc, accV, sg3, S03.trans R3' S4, R4, hn4, f1, dps.mono (Sgb.g.trans S3.g), f2, f3, ?_⟩
      cases el : lcD vs b c m (items.drop (i + 1)) acc r4 with
      | no => rw [el] at w6; exact w6.elim
      | ex x => rw [el] at w6; exact w6
      | ok a => rw [el] at w6; exact w6
    | true =>
      have w5 : Wp ((noEx (m rt)).bind fun x => if acc.length < 16777216 then (ofO (wipeR x.2 vs)).bind fun r2 => lcD vs b c m (items.drop (i + 1)) (acc ++ [x.1]) r2 else .no) (fun a => Wp (.ok (.own (.lst a.1), a.2)) (EPost K G as r σ H Q) (XPost K G as r σ H E)) (XPost K G as r σ H E) := w5
      refine he G3 as rt σ2 H3 _ R3' (wp_noEx (Wp.mono (Wp.bind w5) (fun y w6 => ?_) fun _ z => z))
      obtain ⟨dy, ry⟩ := y
      intro G4 H4 v S4 R4 dv
      obtain ⟨f1, f2, f3⟩ := keepD S4 c1 c2 c3
      have w6 : Wp (if acc.length < 16777216 then (ofO (wipeR ry vs)).bind fun r2 => lcD vs b c m (items.drop (i + 1)) (acc ++ [dy]) r2 else .no) (fun a => Wp (.ok (.own (.lst a.1), a.2)) (EPost K G as r σ H Q) (XPost K G as r σ H E)) (XPost K G as r σ H E) := w6
      split at w6
      · rename_i hlen
        obtain ⟨r5, e5, w7⟩ := wp_bindO w6
        obtain ⟨R5, S5, hn5⟩ := wipeR_rel R4 e5
        rw [ew2] at R5
        obtain ⟨g1, g2, g3⟩ := keepD S5 f1 f2 f3
        have S05 := (S03.trans R3' S4).trans R4 S5
        have dps4 := dps.mono ((Sgb.g.trans S3.g).trans S4.g)
        have R6 : Rel K G4 as r5 (wipe σ vs) (upd H4 D (.lst (accV ++ [v]))) := by
          refine ⟨fun a o e => ?_, R5.len, R5.val, fun j p o e => ?_, R5.inj, ⟨tabs_upd R5.tabs.t g1 nt_lst, R5.tabs.g, R5.tabs.n⟩, R5.exn⟩
          · rw [upd_ne (fun z => by rw [z, f2] at e; cases e)]; exact R5.le a o e
          · obtain ⟨q1, q2, q3⟩ := R5.own j p o e
            exact ⟨q1, q2.step (Same.refl _) (upd_ne fun z => g3 ⟨j, p, o, e, z⟩), q3⟩
        refine ⟨accV, f1, by rw [sizeLine_eq, dps.length]; exact hlen, G4, r5, acc ++ [dy], accV ++ [v], sg3.trans S4.g, ⟨S05.g, S05.fr, fun a o ho hn nn => ?_, fun a ha => ?_, S05.own, S05.pin⟩, R6, hn5, upd_same, dps4.snoc dv, f2, g3, ?_⟩
        · rw [upd_ne (ne_of_none ho hD0)]; exact S05.keep a o ho hn nn
        · by_cases z : a = D
          · subst z; rw [upd_same]; exact fun z => nomatch z
          · rw [upd_ne z]; exact S05.alive a ha
        · cases el : lcD vs b c m (items.drop (i + 1)) (acc ++ [dy]) r5 with
          | no => rw [el] at w7; exact w7.elim
          | ex x => rw [el] at w7; exact w7
          | ok a => rw [el] at w7; exact w7
      · exact w6.elim
  · rintro H' ⟨G', r', acc, accV, sg, S', R', hn', hDl, dps, hDg, hDo, w'⟩
    rw [List.drop_length] at w'
    refine w' G' H' (.ref D) S' (R'.slots (by rw [wipe_length]) fun i s e hs => (wipe_other fun z => hs ?_).symm) ⟨D, rfl, ⟨accV, hDl, dps⟩, hDg, hDo, .inl hD0⟩
    have := hn' i z
    rw [e] at this
    exact Option.some.inj this
end
end DL
/-! # DL4: defs and their calls, things of a slot's own that are changed, borrowing -/
namespace DL
open PySem PySem.Spec PyProof.Rows L2
/-! ### an own thing changes -/
section
variable {K : PySem.W.Frag} {tcK : TabC K} {G : Hp} {as : Nat → Addr} {r : Rho} {σ : L2.St} {H : Hp}
theorem Rel.chg (R : Rel K G as r σ H) {i : Nat} {p : Bool} {o o' : Own} {ho : HO} (e : r[i]? = some (.own p o)) (h : OwnAt K G (upd H (as i) ho) (as i) o') :
    Rel K G as (r.set i (.own p o')) σ (upd H (as i) ho) := by
  obtain ⟨s1, s2, s3⟩ := R.own i p o e
  have hil : i < r.length := (List.getElem?_eq_some_iff.mp e).1
  refine ⟨fun a u q => ?_, by rw [List.length_set]; exact R.len, fun j d q => ?_, fun j q u z => ?_, fun j k q u q' u' e1 e2 e3 => ?_, ?_, exn_setN R fun _ z => nomatch z⟩
  · rw [upd_ne (fun z => by rw [z, s3] at q; cases q)]; exact R.le a u q
  · rcases set_get q with ⟨_, z⟩ | ⟨_, q⟩
    · cases z
    · exact R.val j d q
  · rcases set_get z with ⟨hij, z1⟩ | ⟨hne, z⟩
    · subst hij; cases z1; exact ⟨s1, h, s3⟩
    · obtain ⟨t1, t2, t3⟩ := R.own j q u z
      exact ⟨t1, t2.step (Same.refl _) (upd_ne fun y => hne (R.inj i j _ _ _ _ e z y.symm)), t3⟩
  · have f1 : ∃ u, r[j]? = some (.own q u) := by
      rcases set_get e1 with ⟨hij, z⟩ | ⟨_, z⟩
      · subst hij; cases z; exact ⟨o, e⟩
      · exact ⟨_, z⟩
    have f2 : ∃ u, r[k]? = some (.own q' u) := by
      rcases set_get e2 with ⟨hij, z⟩ | ⟨_, z⟩
      · subst hij; cases z; exact ⟨o, e⟩
      · exact ⟨_, z⟩
    obtain ⟨u1, f1⟩ := f1
    obtain ⟨u2, f2⟩ := f2
    exact R.inj j k _ _ _ _ f1 f2 e3
  · obtain ⟨u, hu, hn⟩ := s2.thereN
    exact ⟨tabs_upd R.tabs.t hu hn, R.tabs.g, R.tabs.n⟩
theorem Stp.chg (R : Rel K G as r σ H) {i : Nat} {p : Bool} {o o' : Own} {ho : HO} (e : r[i]? = some (.own p o)) : Stp G as r H G as (r.set i (.own p o')) (upd H (as i) ho) := by
  have hil : i < r.length := (List.getElem?_eq_some_iff.mp e).1
  refine ⟨Same.refl G, fun _ h => .inl h, fun a u h n _ => ?_, fun a h => ?_, fun a h => ?_, fun j u z => ⟨rfl, ?_⟩⟩
  · rw [upd_ne (fun z => n ⟨i, p, o, e, z.symm⟩)]; exact h
  · by_cases z : a = as i
    · subst z; rw [upd_same]; exact fun z => nomatch z
    · rw [upd_ne z]; exact h
  · obtain ⟨j, q, u, z, y⟩ := h
    rcases set_get z with ⟨hij, _⟩ | ⟨_, z⟩
    · subst hij; exact .inl ⟨i, p, o, e, y⟩
    · exact .inl ⟨j, q, u, z, y⟩
  · by_cases hj : i = j
    · subst hj
      rw [e] at z; cases z
      exact ⟨o', by rw [List.getElem?_set_self hil]⟩
    · exact ⟨u, by rw [List.getElem?_set_ne hj]; exact z⟩
end
/-- a list's method by values: contents and arguments to the answer and the contents -/
def AM (K : PySem.W.Frag) (r : V → List V → Hp → VK → Prop) (f : List D → List D → Option (D × List D)) : Prop :=
  ∀ G H p xs ds ys es (Q : VK), Same G H → H p = some (.lst xs) → G p = none → DPs K G xs ds → DPs K G ys es → ∀ d ds', f ds es = some (d, ds') →
    (∀ v xs', DP K G v d → DPs K G xs' ds' → Q v (upd H p (.lst xs'))) → r (.ref p) ys H Q
def eMut (i : Nat) (f : List D → List D → Option (D × List D)) (ms : M (List D)) : M RV := fun r => match r[i]? with
  | some (.own _ (.lst _)) => (ms r).bind fun a => match a.2[i]? with
    | some (.own p (.lst ds)) => (ofO (f ds a.1)).bind fun x => .ok (.val x.1, a.2.set i (.own p (.lst x.2)))
    | _ => .no
  | _ => .no
section
variable {K : PySem.W.Frag} {tcK : TabC K} {E : WX} {t : TA} {ms : M (List D)} {te ti : TE} {m mi : M D}
theorem absMut {i : Nat} {rr : V → List V → Hp → VK → Prop} {f : List D → List D → Option (D × List D)} (ha : AbsA K E t ms) (hr : AM K rr f) : AbsE K E (tBM K "list" rr (tVar i) t) (eMut i f ms) := by
  intro G as r σ H Q R w
  unfold eMut at w
  cases e : r[i]? with
  | none => rw [e] at w; exact w.elim
  | some s =>
    rw [e] at w
    cases s with
    | non => exact w.elim
    | val d => exact w.elim
    | exn x => exact w.elim
    | own p o =>
      cases o with
      | ins C fs => exact w.elim
      | dic es => exact w.elim
      | lst ds0 =>
        obtain ⟨s1, ⟨vs0, s2, _⟩, s3⟩ := R.own i p _ e
        refine ⟨_, s1, .inl ⟨rfl, vs0, SqL.of s2⟩, ?_⟩
        refine ha G as r σ H _ R ((Wp.bind w).mono (fun a w1 => ?_) fun _ z => z)
        intro G1 H1 ys S1 R1 dys
        cases e1 : a.2[i]? with
        | none => rw [e1] at w1; exact w1.elim
        | some s' =>
          rw [e1] at w1
          cases s' with
          | non => exact w1.elim
          | val d => exact w1.elim
          | exn x => exact w1.elim
          | own p' o' =>
            cases o' with
            | ins C fs => exact w1.elim
            | dic es => exact w1.elim
            | lst ds =>
              obtain ⟨t1, ⟨xs, t2, t4⟩, t3⟩ := R1.own i p' _ e1
              obtain ⟨⟨d, ds'⟩, ef, w2⟩ := wp_bindO w1
              refine hr G1 H1 (as i) xs ds ys a.1 _ R1.le t2 t3 t4 dys d ds' ef fun v xs' dv dx => ?_
              exact w2 G1 _ v (S1.trans R1 (Stp.chg R1 e1)) (R1.chg e1 ⟨xs', upd_same, dx⟩) dv
/-- x[i] = e, x a slot that owns a list -/
def ixD (n : Nat) (i : Int) : Option Nat := L2.ixN n i
def sPut (i : Nat) (mi m : M D) : SM := fun r => (m r).bind fun a => match a.2[i]? with
  | some (.own _ (.lst _)) => (mi a.2).bind fun b => match b.2[i]? with
    | some (.own p (.lst ds)) => (match b.1 with
      | .int k => (ofO (ixD ds.length k)).bind fun j => .ok (.nx, b.2.set i (.own p (.lst (ds.set j a.1))))
      | _ => .no)
    | _ => .no
  | _ => .no
theorem absPut {i : Nat} (he : AbsD K E te m) (hi : AbsD K E ti mi) : AbsS K E (tAsg te (gSub (tVar i) ti rSetL)) (sPut i mi m) := by
  intro G as r σ H D R w
  refine he G as r σ H _ R ((Wp.bind w).mono (fun a w1 => ?_) fun _ z => z.x)
  intro G1 H1 v S1 R1 dv
  cases e0 : a.2[i]? with
  | none => rw [e0] at w1; exact w1.elim
  | some s0 =>
    rw [e0] at w1
    cases s0 with
    | non => exact w1.elim
    | val d => exact w1.elim
    | exn x => exact w1.elim
    | own p0 o0 =>
      cases o0 with
      | ins C fs => exact w1.elim
      | dic es => exact w1.elim
      | lst ds0 =>
        obtain ⟨s1, _, _⟩ := R1.own i p0 _ e0
        refine ⟨_, s1, ?_⟩
        refine hi G1 as a.2 σ H1 _ R1 ((Wp.bind w1).mono (fun b w2 => ?_) fun _ z => XPost.on R1 S1 z.x)
        obtain ⟨dk, r2⟩ := b
        intro G2 H2 k S2 R2 dk'
        cases e1 : r2[i]? with
        | none => simp only [e1] at w2; exact w2.elim
        | some s' =>
          simp only [e1] at w2
          cases s' with
          | non => exact w2.elim
          | val d => exact w2.elim
          | exn x => exact w2.elim
          | own p' o' =>
            cases o' with
            | ins C fs => exact w2.elim
            | dic es => exact w2.elim
            | lst ds =>
              obtain ⟨t1, ⟨xs, t2, t4⟩, t3⟩ := R2.own i p' _ e1
              cases dk with
              | int kk =>
                obtain ⟨j, ej, w3⟩ := wp_bindO w2
                have ek : k = .int kk := by cases dk'; rfl
                refine ⟨as i, xs, kk, j, rfl, ek, t2, by rw [t4.length]; exact ej, ?_⟩
                have S12 := S1.trans R1 S2
                exact w3 G2 as σ _ (S12.trans R2 (Stp.chg R2 e1)) (R2.chg e1 ⟨_, upd_same, DPs.set (dv.mono S2.g) j t4⟩)
              | none => exact w2.elim
              | bool _ => exact w2.elim
              | str _ => exact w2.elim
              | list _ => exact w2.elim
              | tuple _ => exact w2.elim
              | dict _ => exact w2.elim
end
/-! ### a def: what it takes and what it leaves -/
/-- from the parameters' slots to the answer and the slots behind (those by reference) -/
abbrev Den := List Sl → Res (RV × List Sl)
def noFree (r : List Sl) : Prop := ∀ (i : Nat) (o : Own), r[i]? ≠ some (.own false o)
def spM (K : PySem.W.Frag) [TabC K] (n : Nat) (f : Den) : Sp := fun vs H Q E => vs.length = n ∧ ∃ G as r, Rel K G as r (vs.map some) H ∧ noFree r ∧ Wp (f r) (EPost K G as r (vs.map some) H Q) (XPost K G as r (vs.map some) H fun c d _ H' => E c d H')
/-- the slots by reference as they are behind, the others as they were -/
def out1 : Sl → Option Sl → Sl
  | .own true _, some s => s
  | r, _ => r
def outs : List Sl → List Sl → List Sl
  | [], _ => []
  | r :: rs, ss => out1 r ss.head? :: outs rs ss.tail
theorem outs_length : ∀ r s : List Sl, (outs r s).length = r.length
  | [], _ => rfl
  | _ :: rs, ss => congrArg (· + 1) (outs_length rs ss.tail)
theorem outs_at : ∀ (r s : List Sl) (i : Nat), (outs r s)[i]? = (r[i]?).map fun x => out1 x s[i]?
  | [], _, _ => by simp [outs]
  | r :: rs, ss, 0 => by simp [outs, List.head?_eq_getElem?]
  | r :: rs, ss, i + 1 => by
    simp only [outs, List.getElem?_cons_succ, outs_at rs ss.tail i, List.getElem?_tail]
theorem outs_get {r s : List Sl} {i : Nat} {x : Sl} (hs : ∀ (i : Nat) (o : Own), r[i]? = some (.own true o) → ∃ y, s[i]? = some y) (h : (outs r s)[i]? = some x) : (∃ o, r[i]? = some (.own true o) ∧ s[i]? = some x) ∨ (r[i]? = some x ∧ ∀ o, x ≠ .own true o) := by
  rw [outs_at] at h
  cases e : r[i]? with
  | none => rw [e] at h; cases h
  | some y =>
    rw [e] at h
    have h : out1 y s[i]? = x := Option.some.inj h
    cases y with
    | non => cases h; exact .inr ⟨rfl, fun o z => nomatch z⟩
    | val d => cases h; exact .inr ⟨rfl, fun o z => nomatch z⟩
    | exn x => cases h; exact .inr ⟨rfl, fun o z => nomatch z⟩
    | own p o =>
      cases p with
      | false => cases h; exact .inr ⟨rfl, fun o z => nomatch z⟩
      | true =>
        obtain ⟨y, hy⟩ := hs i o e
        rw [hy] at h
        cases h
        exact .inl ⟨o, rfl, hy⟩
/-- a def of n slots whose body is s -/
def outX {α : Type} (r : List Sl) : Res α → Res α
  | .ex x => .ex (x.1, outs r x.2)
  | .ok a => .ok a
  | .no => .no
theorem wp_outX {α : Type} {r : List Sl} {m : Res α} {P : α → Prop} {E : Exn × Rho → Prop} (h : Wp (outX r m) P E) : Wp m P (fun x => E (x.1, outs r x.2)) := by
  cases m with
  | ok a => exact h
  | ex x => exact h
  | no => exact h
def den (n : Nat) (s : SM) : Den := fun r => outX r ((s (r ++ List.replicate (n - r.length) .non)).bind fun a => match a.1 with
  | .rt rv => .ok (rv, outs r a.2)
  | .nx => .ok (.val .none, outs r a.2)
  | _ => .no)
section
variable {K : PySem.W.Frag} {tcK : TabC K} {E : XK}
theorem rep_get {α : Type} {n i : Nat} {a b : α} (h : (List.replicate n a)[i]? = some b) : b = a := by
  rw [List.getElem?_replicate] at h
  split at h
  · exact (Option.some.inj h).symm
  · cases h
theorem app_get {α : Type} {l l' : List α} {i : Nat} {x : α} (h : (l ++ l')[i]? = some x) : (i < l.length ∧ l[i]? = some x) ∨ (l.length ≤ i ∧ l'[i - l.length]? = some x) := by
  by_cases hi : i < l.length
  · rw [List.getElem?_append_left hi] at h; exact .inl ⟨hi, h⟩
  · rw [List.getElem?_append_right (by omega)] at h; exact .inr ⟨by omega, h⟩
/-- a def's body keeps the promise that its denotation makes -/
theorem body_ok {N : List Str} {t : TS} {s : SM} {k : Nat} (h : AbsS K (fun c d _ H => E c d H) t s) (hk : k ≤ N.length) {vs : List V} {H : Hp} {Q : VK} (hs : spM K k (den N.length s) vs H Q E) : t { nx := fun _ H' => Q .non H', rt := Q } (L2.start N vs) H := by
  obtain ⟨hvs, G, as, r, R, nf, w⟩ := hs
  have hl : r.length = vs.length := by rw [R.len, List.length_map]
  generalize hr0 : r ++ List.replicate (N.length - r.length) Sl.non = r0
  have g0 : ∀ (i : Nat) (x : Sl), r0[i]? = some x → x ≠ .non → i < r.length ∧ r[i]? = some x := by
    intro i x e hx
    rw [← hr0] at e
    rcases app_get e with z | ⟨_, z⟩
    · exact z
    · exact absurd (rep_get z) hx
  have g1 : ∀ (i : Nat) (x : Sl), r[i]? = some x → r0[i]? = some x := by
    intro i x e
    rw [← hr0, List.getElem?_append_left (List.getElem?_eq_some_iff.mp e).1]; exact e
  have gs : ∀ (i : Nat) (x : Option V), (vs.map some)[i]? = some x → (L2.start N vs)[i]? = some x := by
    intro i x e
    unfold L2.start
    rw [List.getElem?_append_left (List.getElem?_eq_some_iff.mp e).1]; exact e
  have R0 : Rel K G as r0 (L2.start N vs) H := by
    refine ⟨R.le, ?_, fun i d e => ?_, fun i p o e => ?_, fun i j p o q u e1 e2 e3 => ?_, R.tabs, fun i x e => by
      obtain ⟨hi, e⟩ := g0 i _ e (fun z => nomatch z)
      have q := R.exn i x e
      exact ⟨gs i _ q.at_, q.cls, q.fld⟩⟩
    · rw [← hr0]
      unfold L2.start
      simp only [List.length_append, List.length_replicate, List.length_map]
      omega
    · obtain ⟨hi, e⟩ := g0 i _ e (fun z => nomatch z)
      obtain ⟨v, h1, h2⟩ := R.val i d e
      exact ⟨v, gs i _ h1, h2⟩
    · obtain ⟨hi, e⟩ := g0 i _ e (fun z => nomatch z)
      obtain ⟨h1, h2, h3⟩ := R.own i p o e
      exact ⟨gs i _ h1, h2, h3⟩
    · exact R.inj i j p o q u (g0 i _ e1 (fun z => nomatch z)).2 (g0 j _ e2 (fun z => nomatch z)).2 e3
  have ow : ∀ a, Owned as r0 a → Owned as r a := fun a ⟨i, p, o, e, z⟩ => ⟨i, p, o, (g0 i _ e (fun z => nomatch z)).2, z⟩
  have ow' : ∀ a, Owned as r a → Owned as r0 a := fun a ⟨i, p, o, e, z⟩ => ⟨i, p, o, g1 i _ e, z⟩
  have ow0 : ∀ a, ¬ Owned0 as r0 a := fun a ⟨i, o, e, z⟩ => nf i o (g0 i _ e (fun z => nomatch z)).2
  have w : Wp ((s r0).bind fun a => match a.1 with
    | .rt rv => .ok (rv, outs r a.2)
    | .nx => .ok (.val .none, outs r a.2)
    | _ => .no) (EPost K G as r (vs.map some) H Q) (fun x => XPost K G as r (vs.map some) H (fun c d _ H' => E c d H') (x.1, outs r x.2)) := by
    unfold den at w
    rw [hr0] at w
    exact wp_outX w
  -- from the body's end to the caller's words
  have main : ∀ (r' : Rho) G' as' σ' H', Stp G as r0 H G' as' r' H' → Rel K G' as' r' σ' H' → Stp G as r H G' as (outs r r') H' ∧ Rel K G' as (outs r r') (vs.map some) H' ∧ ∀ a, Owned as (outs r r') a → Owned as' r' a := by
    intro r' G' as' σ' H' S' R'
    have hle : ∀ (i : Nat) (o : Own), r[i]? = some (.own true o) → ∃ y, r'[i]? = some y := fun i o e => by
      obtain ⟨_, o', z⟩ := S'.pin i o (g1 i _ e)
      exact ⟨_, z⟩
    have og : ∀ (i : Nat) (x : Sl), (outs r r')[i]? = some x → (∃ o, r[i]? = some (.own true o) ∧ r'[i]? = some x ∧ as' i = as i) ∨ (r[i]? = some x ∧ ∀ o, x ≠ .own true o) := by
      intro i x e
      rcases outs_get hle e with ⟨o, h1, h2⟩ | z
      · exact .inl ⟨o, h1, h2, (S'.pin i o (g1 i _ h1)).1⟩
      · exact .inr z
    have oo : ∀ (i : Nat) (p : Bool) (o : Own), (outs r r')[i]? = some (.own p o) → ∃ o0, r[i]? = some (.own true o0) ∧ r'[i]? = some (.own p o) ∧ as' i = as i := by
      intro i p o e
      rcases og i _ e with ⟨o0, h1, h2, h3⟩ | ⟨h1, h2⟩
      · exact ⟨o0, h1, h2, h3⟩
      · cases p with
        | true => exact absurd rfl (h2 o)
        | false => exact absurd h1 (nf i o)
    have Sr : Stp G as r H G' as (outs r r') H' := by
      refine ⟨S'.g, fun a ha => ?_, fun a o h1 h2 h3 => S'.keep a o h1 (fun z => h2 (ow a z)) h3, S'.alive, fun a ha => ?_, fun i o e => ⟨rfl, ?_⟩⟩
      · rcases S'.fr a ha with z | z | z
        · exact .inl z
        · exact .inr (.inl z)
        · exact absurd z (ow0 a)
      · obtain ⟨i, p, o, e, z⟩ := ha
        obtain ⟨o0, h1, _, _⟩ := oo i p o e
        exact .inl ⟨i, true, o0, h1, z⟩
      · obtain ⟨_, o', h1⟩ := S'.pin i o (g1 i _ e)
        refine ⟨o', ?_⟩
        have hi : i < (outs r r').length := by rw [outs_length]; exact (List.getElem?_eq_some_iff.mp e).1
        have e2 : (outs r r')[i]? = some ((outs r r')[i]) := by simp [hi]
        rcases og i _ e2 with ⟨o0, h2, h3, _⟩ | ⟨h2, h3⟩
        · rw [h1] at h3
          rw [e2, ← h3]
        · rw [e] at h2
          exact absurd (Option.some.inj h2).symm (h3 o)
    have Rr : Rel K G' as (outs r r') (vs.map some) H' := by
      refine ⟨R'.le, by rw [outs_length]; exact R.len, fun i d e => ?_, fun i p o e => ?_, fun i j p o q u e1 e2 e3 => ?_, R'.tabs, fun i x e => by
        rcases og i _ e with ⟨o0, h1, h2, _⟩ | ⟨h1, _⟩
        · obtain ⟨_, o', h3⟩ := S'.pin i o0 (g1 i _ h1)
          rw [h2] at h3; cases h3
        · exact (R.exn i x h1).mono S'.g⟩
      · rcases og i _ e with ⟨o0, h1, h2, _⟩ | ⟨h1, _⟩
        · obtain ⟨_, o', h3⟩ := S'.pin i o0 (g1 i _ h1)
          rw [h2] at h3; cases h3
        · obtain ⟨v, h2, h3⟩ := R.val i d h1
          exact ⟨v, h2, h3.mono S'.g⟩
      · obtain ⟨o0, h1, h2, h3⟩ := oo i p o e
        obtain ⟨q1, q2, q3⟩ := R'.own i p o h2
        rw [h3] at q2 q3
        exact ⟨(R.own i true o0 h1).1, q2, q3⟩
      · obtain ⟨o1, h1, _, _⟩ := oo i p o e1
        obtain ⟨o2, h2, _, _⟩ := oo j q u e2
        exact R.inj i j _ _ _ _ h1 h2 e3
    refine ⟨Sr, Rr, fun a z => ?_⟩
    obtain ⟨i, q, u, ei, ez⟩ := z
    obtain ⟨_, _, k1, k2⟩ := oo i q u ei
    exact ⟨i, q, u, k1, by rw [k2]; exact ez⟩
  have fin : ∀ (rv : RV) (r' : Rho) G' as' σ' H' v, EPost K G as r (vs.map some) H Q (rv, outs r r') → Stp G as r0 H G' as' r' H' → Rel K G' as' r' σ' H' → RVat K as r0 H G' as' r' H' v rv → Q v H' := by
    intro rv r' G' as' σ' H' v hq S' R' hv
    obtain ⟨Sr, Rr, oo⟩ := main r' G' as' σ' H' S' R'
    refine hq G' H' v Sr Rr ?_
    cases rv with
    | val d => exact hv
    | own o =>
      obtain ⟨p, e, h1, h2, h3, h4⟩ := hv
      refine ⟨p, e, h1, h2, fun z => h3 (oo p z), ?_⟩
      · rcases h4 with z | z
        · exact .inl z
        · exact absurd z (ow0 p)
  refine h G as r0 (L2.start N vs) H _ R0 ((Wp.bind w).mono (fun a w1 => ?_) fun x z => ?_)
  case refine_2 =>
    intro G' as' σ' H' xd S' R' e
    obtain ⟨Sr, Rr, oo⟩ := main x.2 G' as' σ' H' S' R'
    obtain ⟨v, e1, e2, e3, e4⟩ := e
    exact z G' H' xd Sr Rr ⟨v, e1, e2, fun y => e3 (oo xd y), e4⟩
  obtain ⟨f, r'⟩ := a
  cases f with
  | nx => exact fun G' as' σ' H' S' R' => fin (.val .none) r' G' as' σ' H' .non w1 S' R' .non
  | rt rv => exact fun G' as' σ' H' v S' R' hv => fin rv r' G' as' σ' H' v w1 S' R' hv
  | bk => exact w1.elim
  | ct => exact w1.elim
end
end DL
/-! # DL5: calls of defs; borrowing -/
namespace DL
open PySem PySem.Spec PyProof.Rows L2
inductive ASl where
  | val (d : D)
  | ref (i : Nat)
inductive ArgsAt (K : PySem.W.Frag) (G : Hp) (as : Nat → Addr) : List V → List ASl → Prop
  | nil : ArgsAt K G as [] []
  | val {v : V} {d : D} {vs : List V} {l : List ASl} : DP K G v d → ArgsAt K G as vs l → ArgsAt K G as (v :: vs) (.val d :: l)
  | ref {i : Nat} {vs : List V} {l : List ASl} : ArgsAt K G as vs l → ArgsAt K G as (.ref (as i) :: vs) (.ref i :: l)
section
variable {K : PySem.W.Frag} {tcK : TabC K} {G G' : Hp} {as : Nat → Addr}
theorem ArgsAt.mono (s : Same G G') : ∀ {vs : List V} {l : List ASl}, ArgsAt K G as vs l → ArgsAt K G' as vs l
  | _, _, .nil => .nil
  | _, _, .val h t => .val (h.mono s) (ArgsAt.mono s t)
  | _, _, .ref t => .ref (ArgsAt.mono s t)
theorem ArgsAt.length : ∀ {vs : List V} {l : List ASl}, ArgsAt K G as vs l → vs.length = l.length
  | _, _, .nil => rfl
  | _, _, .val _ t => congrArg (· + 1) (ArgsAt.length t)
  | _, _, .ref t => congrArg (· + 1) (ArgsAt.length t)
theorem ArgsAt.append : ∀ {vs ws : List V} {l l' : List ASl}, ArgsAt K G as vs l → ArgsAt K G as ws l' → ArgsAt K G as (vs ++ ws) (l ++ l')
  | _, _, _, _, .nil, h => h
  | _, _, _, _, .val h t, s => .val h (ArgsAt.append t s)
  | _, _, _, _, .ref t, s => .ref (ArgsAt.append t s)
theorem ArgsAt.get : ∀ {vs : List V} {l : List ASl} {i : Nat}, ArgsAt K G as vs l → (vs[i]? = none ∧ l[i]? = none) ∨ (∃ v d, vs[i]? = some v ∧ l[i]? = some (ASl.val d) ∧ DP K G v d) ∨ (∃ k, vs[i]? = some (V.ref (as k)) ∧ l[i]? = some (ASl.ref k))
  | _, _, _, .nil => .inl ⟨rfl, rfl⟩
  | _, _, 0, .val h _ => .inr (.inl ⟨_, _, rfl, rfl, h⟩)
  | _, _, 0, .ref _ => .inr (.inr ⟨_, rfl, rfl⟩)
  | _, _, i + 1, .val _ t => by simpa using ArgsAt.get (i := i) t
  | _, _, i + 1, .ref t => by simpa using ArgsAt.get (i := i) t
end
/-- the things at some places, in their order -/
def pick {α : Type} (ix : List Nat) (l : List α) : List α := ix.filterMap fun i => l[i]?
theorem ArgsAt.pick {K : PySem.W.Frag} {G : Hp} {as : Nat → Addr} {vs : List V} {l : List ASl} (h : ArgsAt K G as vs l) : ∀ ix : List Nat, ArgsAt K G as (pick ix vs) (pick ix l)
  | [] => .nil
  | i :: ix => by
    have ih := ArgsAt.pick h ix
    unfold DL.pick at ih ⊢
    rcases h.get (i := i) with ⟨e1, e2⟩ | ⟨v, d, e1, e2, e3⟩ | ⟨k, e1, e2⟩
    · rw [List.filterMap_cons_none e1, List.filterMap_cons_none e2]; exact ih
    · rw [List.filterMap_cons_some e1, List.filterMap_cons_some e2]; exact .val e3 ih
    · rw [List.filterMap_cons_some e1, List.filterMap_cons_some e2]; exact .ref ih
theorem vals_pick {vs : List V} {us : List Value} (h : Vals vs us) : ∀ ix : List Nat, Vals (pick ix vs) (pick ix us)
  | [] => .nil
  | i :: ix => by
    have ih := vals_pick h ix
    unfold DL.pick at ih ⊢
    cases e : vs[i]? with
    | none => rw [List.filterMap_cons_none e, List.filterMap_cons_none (h.none_of e)]; exact ih
    | some v =>
      obtain ⟨u, e2, r⟩ := h.get e
      rw [List.filterMap_cons_some e, List.filterMap_cons_some e2]; exact .cons r ih
def ArPost (K : PySem.W.Frag) [TabC K] (G : Hp) (as : Nat → Addr) (r : Rho) (σ : L2.St) (H : Hp) (Q : List V → Hp → Prop) (a : List ASl × Rho) : Prop :=
  ∀ G' H' vs, Stp G as r H G' as a.2 H' → Rel K G' as a.2 σ H' → ArgsAt K G' as vs a.1 → Q vs H'
def AbsAr (K : PySem.W.Frag) [TabC K] (E : WX) (t : TA) (m : M (List ASl)) : Prop :=
  ∀ G as r σ H Q, Rel K G as r σ H → Wp (m r) (ArPost K G as r σ H Q) (XPost K G as r σ H E) → t σ H Q
def arNil : M (List ASl) := fun r => .ok ([], r)
def arV (m : M D) (ms : M (List ASl)) : M (List ASl) := fun r => (m r).bind fun a => (ms a.2).bind fun b => .ok (.val a.1 :: b.1, b.2)
def arR (i : Nat) (ms : M (List ASl)) : M (List ASl) := fun r => match r[i]? with
  | some (.own _ _) => (ms r).bind fun b => .ok (.ref i :: b.1, b.2)
  | _ => .no
section
variable {K : PySem.W.Frag} {tcK : TabC K} {E : WX} {ta : TE} {ma : M D} {t tk : TA} {ms mk : M (List ASl)}
theorem absArNil : AbsAr K E tNil arNil := fun G as r σ H Q R w => w G H [] Stp.refl R .nil
theorem absArV (ha : AbsD K E ta ma) (hs : AbsAr K E t ms) : AbsAr K E (tCons ta t) (arV ma ms) := by
  intro G as r σ H Q R w
  refine ha G as r σ H _ R ((Wp.bind w).mono (fun a w1 => ?_) fun _ z => z)
  intro G1 H1 x S1 R1 dx
  refine hs G1 as a.2 σ H1 _ R1 ((Wp.bind w1).mono (fun b w2 => ?_) fun _ z => XPost.on R1 S1 z)
  intro G2 H2 ys S2 R2 dy
  exact w2 G2 H2 (x :: ys) (S1.trans R1 S2) R2 (.val (dx.mono S2.g) dy)
theorem absArR {i : Nat} (hs : AbsAr K E t ms) : AbsAr K E (tCons (tVar i) t) (arR i ms) := by
  intro G as r σ H Q R w
  unfold arR at w
  cases e : r[i]? with
  | none => rw [e] at w; exact w.elim
  | some s =>
    rw [e] at w
    cases s with
    | non => exact w.elim
    | val d => exact w.elim
    | exn x => exact w.elim
    | own p o =>
      refine ⟨_, (R.own i p o e).1, ?_⟩
      refine hs G as r σ H _ R ((Wp.bind w).mono (fun b w2 => ?_) fun _ z => z)
      intro G2 H2 ys S2 R2 dy
      exact w2 G2 H2 (_ :: ys) S2 R2 (.ref dy)
end
def isR (i : Nat) : ASl → Bool
  | .ref j => j == i
  | .val _ => false
/-- the callee's slots -/
def mkA : List ASl → Rho → Option (List Sl)
  | [], _ => some []
  | .val d :: l, r => (mkA l r).map (.val d :: ·)
  | .ref i :: l, r => match r[i]? with
    | some (.own _ o) => if l.any (isR i) = true then none else (mkA l r).map (.own true o :: ·)
    | _ => none
def setOwn (r : Rho) (i : Nat) (o : Own) : Rho := match r[i]? with
  | some (.own p _) => r.set i (.own p o)
  | _ => r
/-- what came of the own things -/
def wb : List ASl → List Sl → Rho → Rho
  | .ref i :: l, .own _ o :: s, r => wb l s (setOwn r i o)
  | _ :: l, _ :: s, r => wb l s r
  | _, _, r => r
def noRef (l : List ASl) (i : Nat) : Prop := ∀ (j : Nat), l[j]? ≠ some (ASl.ref i)
theorem noRef_of {l : List ASl} {i : Nat} (h : ¬ l.any (isR i) = true) : noRef l i := by
  intro j e
  apply h
  rw [List.any_eq_true]
  exact ⟨_, List.mem_of_getElem? e, by simp [isR]⟩
/-- each thing is handed in at one place only -/
def Once (l : List ASl) : Prop := ∀ (j k i : Nat), l[j]? = some (ASl.ref i) → l[k]? = some (ASl.ref i) → j = k
theorem mkA_get : ∀ {l : List ASl} {r : Rho} {sl : List Sl}, mkA l r = some sl → sl.length = l.length ∧ Once l ∧ (∀ (j : Nat) (x : Sl), sl[j]? = some x → (∃ d, l[j]? = some (ASl.val d) ∧ x = Sl.val d) ∨ (∃ (i : Nat) (p : Bool) (o : Own), l[j]? = some (ASl.ref i) ∧ r[i]? = some (Sl.own p o) ∧ x = Sl.own true o)) ∧
    (∀ (j i : Nat), l[j]? = some (ASl.ref i) → ∃ (p : Bool) (o : Own), r[i]? = some (Sl.own p o) ∧ sl[j]? = some (Sl.own true o))
  | [], r, sl, e => by
    cases e
    exact ⟨rfl, fun j k i h => by simp at h, fun j x h => by simp at h, fun j i h => by simp at h⟩
  | .val d :: l, r, sl, e => by
    unfold mkA at e
    cases e1 : mkA l r with
    | none => rw [e1] at e; cases e
    | some s =>
      rw [e1] at e
      cases e
      obtain ⟨h1, h2, h3, h4⟩ := mkA_get e1
      refine ⟨congrArg (· + 1) h1, fun j k i a b => ?_, fun j x h => ?_, fun j i h => ?_⟩
      · cases j with
        | zero => simp at a
        | succ j => cases k with
          | zero => simp at b
          | succ k => exact congrArg (· + 1) (h2 j k i (by simpa using a) (by simpa using b))
      · cases j with
        | zero => simp at h; exact .inl ⟨d, rfl, h.symm⟩
        | succ j => simpa using h3 j x (by simpa using h)
      · cases j with
        | zero => simp at h
        | succ j => simpa using h4 j i (by simpa using h)
  | .ref i0 :: l, r, sl, e => by
    unfold mkA at e
    cases e0 : r[i0]? with
    | none => rw [e0] at e; cases e
    | some s0 =>
      rw [e0] at e
      cases s0 with
      | non => cases e
      | val d => cases e
      | exn x => cases e
      | own p0 o0 =>
        have e : (if l.any (isR i0) = true then none else (mkA l r).map (Sl.own true o0 :: ·)) = some sl := e
        split at e
        · cases e
        · rename_i hn
          have hn := noRef_of hn
          cases e1 : mkA l r with
          | none => rw [e1] at e; cases e
          | some s =>
            rw [e1] at e
            cases e
            obtain ⟨h1, h2, h3, h4⟩ := mkA_get e1
            refine ⟨congrArg (· + 1) h1, fun j k i a b => ?_, fun j x h => ?_, fun j i h => ?_⟩
            · cases j with
              | zero =>
                simp at a; subst a
                cases k with
                | zero => rfl
                | succ k => exact absurd (by simpa using b) (hn k)
              | succ j => cases k with
                | zero => simp at b; subst b; exact absurd (by simpa using a) (hn j)
                | succ k => exact congrArg (· + 1) (h2 j k i (by simpa using a) (by simpa using b))
            · cases j with
              | zero => simp at h; exact .inr ⟨i0, p0, o0, rfl, e0, h.symm⟩
              | succ j => simpa using h3 j x (by simpa using h)
            · cases j with
              | zero => simp at h; subst h; exact ⟨p0, o0, e0, rfl⟩
              | succ j => simpa using h4 j i (by simpa using h)
theorem setOwn_get {r : Rho} {i0 : Nat} {o : Own} {p : Bool} {u : Own} (e : r[i0]? = some (.own p u)) (i : Nat) : (setOwn r i0 o)[i]? = if i0 = i then some (.own p o) else r[i]? := by
  have hl : i0 < r.length := (List.getElem?_eq_some_iff.mp e).1
  unfold setOwn
  rw [e]
  by_cases h : i0 = i
  · subst h; rw [if_pos rfl]; exact List.getElem?_set_self hl
  · rw [if_neg h]; exact List.getElem?_set_ne h
theorem wb_get : ∀ {l : List ASl} {s : List Sl} {r : Rho} {i : Nat}, Once l → (∀ (j i : Nat), l[j]? = some (ASl.ref i) → (∃ (p : Bool) (o : Own), r[i]? = some (Sl.own p o)) ∧ ∃ (q : Bool) (o : Own), s[j]? = some (Sl.own q o)) →
    (noRef l i ∧ (wb l s r)[i]? = r[i]?) ∨ ∃ (j : Nat) (p : Bool) (o : Own) (q : Bool) (o' : Own), l[j]? = some (ASl.ref i) ∧ r[i]? = some (Sl.own p o) ∧ s[j]? = some (Sl.own q o') ∧ (wb l s r)[i]? = some (Sl.own p o')
  | [], s, r, i, _, _ => .inl ⟨fun j h => by simp at h, by unfold wb; rfl⟩
  | .val d :: l, [], r, i, ho, hs => by
    refine .inl ⟨fun j h => ?_, by unfold wb; rfl⟩
    obtain ⟨_, q, o, e⟩ := hs j i h
    simp at e
  | .val d :: l, x :: s, r, i, ho, hs => by
    have ih := wb_get (l := l) (s := s) (r := r) (i := i) (fun j k i a b => Nat.succ.inj (ho (j + 1) (k + 1) i (by simpa using a) (by simpa using b))) fun j i h => by simpa using hs (j + 1) i (by simpa using h)
    have ew : wb (.val d :: l) (x :: s) r = wb l s r := by cases x <;> rfl
    rw [ew]
    rcases ih with ⟨h1, h2⟩ | ⟨j, p, o, q, o', h1, h2, h3, h4⟩
    · refine .inl ⟨fun j h => ?_, h2⟩
      cases j with
      | zero => simp at h
      | succ j => exact h1 j (by simpa using h)
    · exact .inr ⟨j + 1, p, o, q, o', by simpa using h1, h2, by simpa using h3, h4⟩
  | .ref i0 :: l, s, r, i, ho, hs => by
    obtain ⟨⟨p0, o0, e0⟩, q0, o1, e1⟩ := hs 0 i0 rfl
    cases s with
    | nil => simp at e1
    | cons x s =>
      simp at e1
      subst e1
      have ew : wb (.ref i0 :: l) (.own q0 o1 :: s) r = wb l s (setOwn r i0 o1) := rfl
      rw [ew]
      have nr : ∀ (j : Nat), l[j]? ≠ some (ASl.ref i0) := fun j h => by
        have := ho 0 (j + 1) i0 rfl (by simpa using h)
        cases this
      have ih := wb_get (l := l) (s := s) (r := setOwn r i0 o1) (i := i) (fun j k i a b => Nat.succ.inj (ho (j + 1) (k + 1) i (by simpa using a) (by simpa using b))) fun j i h => by
        obtain ⟨⟨p, o, h1⟩, h2⟩ := hs (j + 1) i (by simpa using h)
        refine ⟨⟨p, o, ?_⟩, by simpa using h2⟩
        rw [setOwn_get e0, if_neg (fun z => nr j (by rw [z]; exact h))]; exact h1
      rcases ih with ⟨h1, h2⟩ | ⟨j, p, o, q, o', h1, h2, h3, h4⟩
      · rw [setOwn_get e0] at h2
        by_cases hi : i0 = i
        · subst hi
          rw [if_pos rfl] at h2
          exact .inr ⟨0, p0, o0, q0, o1, rfl, e0, rfl, h2⟩
        · rw [if_neg hi] at h2
          refine .inl ⟨fun j h => ?_, h2⟩
          cases j with
          | zero => simp at h; exact hi h
          | succ j => exact h1 j (by simpa using h)
      · have hi : i0 ≠ i := fun z => nr j (by rw [z]; exact h1)
        rw [setOwn_get e0, if_neg hi] at h2
        exact .inr ⟨j + 1, p, o, q, o', by simpa using h1, h2, by simpa using h3, h4⟩
/-- the callee's end in the caller's slots -/
def backX {α : Type} (l : List ASl) (r : Rho) : Res (α × List Sl) → Res (α × Rho)
  | .ok c => .ok (c.1, wb l c.2 r)
  | .ex x => .ex (x.1, wb l x.2 r)
  | .no => .no
theorem wp_backX {α : Type} {l : List ASl} {r : Rho} {m : Res (α × List Sl)} {P : α × Rho → Prop} {E : Exn × Rho → Prop} (h : Wp (backX l r m) P E) : Wp m (fun c => P (c.1, wb l c.2 r)) (fun x => E (x.1, wb l x.2 r)) := by
  cases m with
  | ok a => exact h
  | ex x => exact h
  | no => exact h
def eCall (n : Nat) (f : Den) (ms : M (List ASl)) : M RV := fun r => (ms r).bind fun a => if a.1.length = n then ((ofO (mkA a.1 a.2)).bind fun sl => backX a.1 a.2 (f sl)) else .no
section
variable {K : PySem.W.Frag} {tcK : TabC K} {E : WX} {t tk : TA} {ms mk : M (List ASl)}
/-- the callee, from the caller's words -/
theorem call_core {n : Nat} {f : Den} {G0 G : Hp} {as : Nat → Addr} {r0 r : Rho} {σ : L2.St} {H0 H : Hp} {Q : VK} {l : List ASl} {vs : List V} (S : Stp G0 as r0 H0 G as r H) (R : Rel K G as r σ H) (ha : ArgsAt K G as vs l)
    (w : Wp (if l.length = n then ((ofO (mkA l r)).bind fun sl => backX l r (f sl)) else .no) (EPost K G0 as r0 σ H0 Q) (XPost K G0 as r0 σ H0 E)) : spM K n f vs H Q (WE E σ) := by
  split at w
  · rename_i hn
    refine ⟨ha.length.trans hn, ?_⟩
    obtain ⟨sl, em, w1⟩ := wp_bindO w
    obtain ⟨m1, m2, m3, m4⟩ := mkA_get em
    generalize hac : (fun j => match l[j]? with | some (.ref i) => as i | _ => 0 : Nat → Addr) = ac
    have ac_at : ∀ (j i : Nat), l[j]? = some (ASl.ref i) → ac j = as i := fun j i h => by rw [← hac]; simp only [h]
    have oc : ∀ (j : Nat) (p : Bool) (o : Own), sl[j]? = some (.own p o) → p = true ∧ ∃ (i : Nat) (q : Bool), l[j]? = some (ASl.ref i) ∧ r[i]? = some (Sl.own q o) := by
      intro j p o e
      rcases m3 j _ e with ⟨d, _, z⟩ | ⟨i, q, u, h1, h2, h3⟩
      · cases z
      · cases h3; exact ⟨rfl, i, q, h1, h2⟩
    have ow : ∀ a, Owned ac sl a → Owned as r a := by
      rintro a ⟨j, p, o, e, z⟩
      obtain ⟨_, i, q, h1, h2⟩ := oc j p o e
      exact ⟨i, q, o, h2, by rw [← ac_at j i h1]; exact z⟩
    have ow0 : ∀ a, ¬ Owned0 ac sl a := by
      rintro a ⟨j, o, e, z⟩
      have := (oc j false o e).1
      cases this
    have Rc : Rel K G ac sl (vs.map some) H := by
      refine ⟨R.le, by rw [List.length_map, m1]; exact ha.length.symm, fun j d e => ?_, fun j p o e => ?_, fun j k p o q u e1 e2 e3 => ?_, R.tabs, fun j x e => by
        rcases m3 j _ e with ⟨d', h1, z⟩ | ⟨i, q, u, h1, h2, z⟩ <;> cases z⟩
      · rcases m3 j _ e with ⟨d', h1, z⟩ | ⟨i, q, u, h1, h2, z⟩
        · cases z
          rcases ha.get (i := j) with ⟨_, z⟩ | ⟨v, d2, k1, k2, k3⟩ | ⟨k, _, z⟩
          · rw [h1] at z; cases z
          · rw [h1] at k2; cases k2
            exact ⟨v, by rw [List.getElem?_map, k1]; rfl, k3⟩
          · rw [h1] at z; cases z
        · cases z
      · obtain ⟨_, i, q, h1, h2⟩ := oc j p o e
        obtain ⟨g1, g2, g3⟩ := R.own i q o h2
        rw [ac_at j i h1]
        rcases ha.get (i := j) with ⟨_, z⟩ | ⟨v, d2, k1, k2, k3⟩ | ⟨k, k1, k2⟩
        · rw [h1] at z; cases z
        · rw [h1] at k2; cases k2
        · rw [h1] at k2; cases k2
          exact ⟨by rw [List.getElem?_map, k1]; rfl, g2, g3⟩
      · obtain ⟨_, i, q1, h1, h2⟩ := oc j p o e1
        obtain ⟨_, i', q2, h1', h2'⟩ := oc k q u e2
        rw [ac_at j i h1, ac_at k i' h1'] at e3
        have := R.inj i i' _ _ _ _ h2 h2' e3
        subst this
        exact m2 j k i h1 h1'
    have nfr : noFree sl := fun i o e => by
      have := (oc i false o e).1
      cases this
    have main : ∀ (s : List Sl) (G2 H2 : Hp), Stp G ac sl H G2 ac s H2 → Rel K G2 ac s (vs.map some) H2 → Stp G as r H G2 as (wb l s r) H2 ∧ Rel K G2 as (wb l s r) σ H2 ∧ ∀ a, Owned as (wb l s r) a → Owned as r a := by
      intro s G2 H2 Sc Rc2
      have hs : ∀ (j i : Nat), l[j]? = some (ASl.ref i) → (∃ (p : Bool) (o : Own), r[i]? = some (Sl.own p o)) ∧ ∃ (q : Bool) (o : Own), s[j]? = some (Sl.own q o) := by
        intro j i h
        obtain ⟨p, o, h1, h2⟩ := m4 j i h
        obtain ⟨_, o', h3⟩ := Sc.pin j o h2
        exact ⟨⟨p, o, h1⟩, true, o', h3⟩
      have key : ∀ i, (noRef l i ∧ (wb l s r)[i]? = r[i]?) ∨ ∃ (j : Nat) (p : Bool) (o : Own) (q : Bool) (o' : Own), l[j]? = some (ASl.ref i) ∧ r[i]? = some (Sl.own p o) ∧ s[j]? = some (Sl.own q o') ∧ (wb l s r)[i]? = some (Sl.own p o') := fun i => wb_get m2 hs
      -- slots of the state behind
      have back : ∀ (i : Nat) (p : Bool) (o : Own), (wb l s r)[i]? = some (.own p o) → ∃ o0, r[i]? = some (.own p o0) := by
        intro i p o e
        rcases key i with ⟨_, h⟩ | ⟨j, p', o', q, o2, h1, h2, h3, h4⟩
        · exact ⟨o, by rw [← h]; exact e⟩
        · rw [h4] at e; cases e; exact ⟨o', h2⟩
      have S2 : Stp G as r H G2 as (wb l s r) H2 := by
        refine ⟨Sc.g, fun a h => ?_, fun a o h1 h2 h3 => Sc.keep a o h1 (fun z => h2 (ow a z)) h3, Sc.alive, fun a h => ?_, fun i o e => ⟨rfl, ?_⟩⟩
        · rcases Sc.fr a h with z | z | z
          · exact .inl z
          · exact .inr (.inl z)
          · exact absurd z (ow0 a)
        · obtain ⟨i, p, o, e, z⟩ := h
          obtain ⟨o0, e0⟩ := back i p o e
          exact .inl ⟨i, p, o0, e0, z⟩
        · rcases key i with ⟨_, h⟩ | ⟨j, p', o', q, o2, h1, h2, h3, h4⟩
          · exact ⟨o, by rw [h]; exact e⟩
          · rw [e] at h2; cases h2; exact ⟨o2, h4⟩
      have Rw : Rel K G2 as (wb l s r) σ H2 := by
        refine ⟨Rc2.le, ?_, fun i d e => ?_, fun i p o e => ?_, fun i j p o q u e1 e2 e3 => ?_, Rc2.tabs, fun i x e => by
          rcases key i with ⟨_, h⟩ | ⟨j, p', o', q, o2, h1, h2, h3, h4⟩
          · rw [h] at e
            exact (R.exn i x e).mono Sc.g
          · rw [h4] at e; cases e⟩
        · have : ∀ (l : List ASl) (s : List Sl) (r : Rho), (wb l s r).length = r.length := by
            intro l
            induction l with
            | nil => intro s r; unfold wb; rfl
            | cons a l ih =>
              intro s r
              cases s with
              | nil => cases a <;> rfl
              | cons x s =>
                cases a with
                | val d =>
                  have : wb (.val d :: l) (x :: s) r = wb l s r := by cases x <;> rfl
                  rw [this]; exact ih s r
                | ref i =>
                  cases x with
                  | non => exact ih s r
                  | val d => exact ih s r
                  | exn x => exact ih s r
                  | own q o =>
                    show (wb l s (setOwn r i o)).length = r.length
                    rw [ih]
                    unfold setOwn
                    split
                    · rw [List.length_set]
                    · rfl
          rw [this]; exact R.len
        · rcases key i with ⟨_, h⟩ | ⟨j, p', o', q, o2, h1, h2, h3, h4⟩
          · rw [h] at e
            obtain ⟨v, h1, h2⟩ := R.val i d e
            exact ⟨v, h1, h2.mono Sc.g⟩
          · rw [h4] at e; cases e
        · rcases key i with ⟨hn, h⟩ | ⟨j, p', o', q, o2, h1, h2, h3, h4⟩
          · rw [h] at e
            obtain ⟨g1, g2, g3⟩ := R.own i p o e
            obtain ⟨u, hu, hnt⟩ := g2.thereN
            have nown : ¬ Owned ac sl (as i) := by
              rintro ⟨j, p2, o2, e2, z⟩
              obtain ⟨_, i2, q2, k1, k2⟩ := oc j p2 o2 e2
              rw [ac_at j i2 k1] at z
              have := R.inj i2 i _ _ _ _ k2 e z
              subst this
              exact hn j k1
            refine ⟨g1, g2.step Sc.g (by rw [hu]; exact Sc.keep _ _ hu nown hnt.1), ?_⟩
            cases q : G2 (as i) with
            | none => rfl
            | some y =>
              rcases Sc.fr (as i) (by rw [q]; exact fun z => nomatch z) with z | z | z
              · exact absurd g3 z
              · rw [hu] at z; cases z
              · exact absurd z (ow0 _)
          · rw [h4] at e; cases e
            obtain ⟨g1, _, _⟩ := R.own i p o' h2
            obtain ⟨_, k2, k3⟩ := Rc2.own j q _ h3
            rw [ac_at j i h1] at k2 k3
            exact ⟨g1, k2, k3⟩
        · obtain ⟨o1, f1⟩ := back i p o e1
          obtain ⟨o2, f2⟩ := back j q u e2
          exact R.inj i j _ _ _ _ f1 f2 e3
      refine ⟨S2, Rw, fun a z => ?_⟩
      obtain ⟨i, q, u, ei, ez⟩ := z
      obtain ⟨o0, e0⟩ := back i q u ei
      exact ⟨i, q, o0, e0, ez⟩
    refine ⟨G, ac, sl, Rc, nfr, Wp.mono (wp_backX w1) (fun c w2 => ?_) fun x z => ?_⟩
    · obtain ⟨rv, s⟩ := c
      intro G2 H2 v Sc Rc2 hv
      obtain ⟨S2, Rw, oo⟩ := main s G2 H2 Sc Rc2
      have hv2 : RVat K as r H G2 as (wb l s r) H2 v rv := by
        cases rv with
        | val d => exact hv
        | own o =>
          obtain ⟨p, e, h1, h2, h3, h4⟩ := hv
          rcases h4 with h4 | h4
          · refine ⟨p, e, h1, h2, fun z => ?_, .inl h4⟩
            obtain ⟨y, hy⟩ := R.owned_there (oo p z)
            rw [h4] at hy; cases hy
          · exact absurd h4 (ow0 p)
      exact w2 G2 H2 v (S.trans R S2) Rw (hv2.back R S)
    · intro G2 H2 xd Sc Rc2 e
      obtain ⟨S2, Rw, oo⟩ := main x.2 G2 H2 Sc Rc2
      obtain ⟨v, e1, e2, e3, e4⟩ := e
      refine z G2 H2 xd (S.trans R S2) Rw ⟨v, e1, ?_, fun y => ?_, e4⟩
      · cases e : H0 xd with
        | none => rfl
        | some o => exact absurd e2 (S.alive xd (by rw [e]; exact fun z => nomatch z))
      · obtain ⟨y, hy⟩ := R.owned_there (oo xd y)
        rw [e2] at hy; cases hy
  · exact w.elim
theorem absCall {n : Nat} {f : Den} (hs : AbsAr K E t ms) : AbsE K E (tCallS (spM K n f) (WE E) t) (eCall n f ms) := by
  intro G as r σ H Q R w
  refine hs G as r σ H _ R ((Wp.bind w).mono (fun a w1 => ?_) fun _ z => z)
  intro G1 H1 vs S1 R1 hv
  exact call_core S1 R1 hv w1
end
end DL
/-! # DL6: borrowing; operators and built-ins by data; what is walked -/
namespace DL
open PySem PySem.Spec PyProof.Rows L2
/-! ### borrowing: a list of a slot's own is read as data, and is the slot's own again -/
class PureM {α : Type} (m : M α) : Prop where
  pure : ∀ r a, m r = .ok a → a.2 = r
mutual
def listless : D → Bool
  | .none => true
  | .bool _ => true
  | .int _ => true
  | .str _ => true
  | .tuple ds => listlessA ds
  | .list _ => false
  | .dict _ => false
def listlessA : List D → Bool
  | [] => true
  | d :: ds => listless d && listlessA ds
end
def listlessF : List (Str × D) → Bool
  | [] => true
  | (_, d) :: fs => listless d && listlessF fs
def listlessK : List (D × D) → Bool
  | [] => true
  | (_, d) :: fs => listless d && listlessK fs
def bareSl : Sl → Bool
  | .own _ (.lst ds) => listlessA ds
  | .own _ (.ins _ fs) => listlessF fs
  | .own _ (.dic es) => listlessK es
  | _ => true
def othersBare : Rho → Nat → Bool
  | [], _ => true
  | _ :: r, 0 => r.all bareSl
  | s :: r, i + 1 => bareSl s && othersBare r i
def dBorrow (i : Nat) (m : M D) : M D := fun r => match r[i]? with
  | some (.own p (.lst ds)) => if othersBare r i = true then ((m (r.set i (.val (.list ds)))).bind fun a => if listless a.1 = true then .ok (a.1, r) else .no) else .no
  | _ => .no
section
variable {K : PySem.W.Frag} {tcK : TabC K} {E : WX} {te : TE} {m : M D}
end
/-- a name that holds data -/
def dVal (i : Nat) : M D := fun r => match r[i]? with
  | some (.val d) => .ok (d, r)
  | _ => .no
/-! ### a list of a slot's own: an item of it -/
/-- x[i] where x owns a list: the item is data -/
def dIxO (i : Nat) (mi : M D) : M D := fun r => match r[i]? with
  | some (.own _ (.lst _)) => (mi r).bind fun a => match a.2[i]?, a.1 with
    | some (.own _ (.lst ds)), .int k => (ofO (atI ds k)).bind fun d => .ok (d, a.2)
    | _, _ => .no
  | _ => .no
theorem atI_rel {K : PySem.W.Frag} {G : Hp} {vs : List V} {ds : List D} {k : Int} {d : D} (h : DPs K G vs ds) (e : atI ds k = some d) : ∃ v, atI vs k = some v ∧ DP K G v d := by
  unfold atI at e ⊢
  rw [h.length]
  cases q : ixN ds.length k with
  | none => rw [q] at e; cases e
  | some j =>
    rw [q] at e
    exact h.get e
theorem dp_int {K : PySem.W.Frag} {G : Hp} {v : V} {i : Int} (h : DP K G v (.int i)) : v = .int i := by cases h; rfl
theorem absIxO {K : PySem.W.Frag} {tcK : TabC K} {E : WX} {ti : TE} {mi : M D} {i : Nat} (h : AbsD K E ti mi) : AbsD K E (tOp (rIx K) (tVar i) ti) (dIxO i mi) := by
  intro G as r σ H Q R w
  unfold dIxO at w
  cases e : r[i]? with
  | none => rw [e] at w; exact w.elim
  | some s =>
    rw [e] at w
    cases s with
    | non => exact w.elim
    | val d => exact w.elim
    | exn x => exact w.elim
    | own p o =>
      cases o with
      | ins C fs => exact w.elim
      | dic es => exact w.elim
      | lst ds0 =>
        obtain ⟨s1, _, _⟩ := R.own i p _ e
        refine ⟨_, s1, ?_⟩
        refine h G as r σ H _ R ((Wp.bind w).mono (fun a w1 => ?_) fun _ z => z)
        obtain ⟨dk, r1⟩ := a
        intro G1 H1 k S1 R1 dk'
        cases e1 : r1[i]? with
        | none => simp only [e1] at w1; exact w1.elim
        | some s' =>
          simp only [e1] at w1
          cases s' with
          | non => exact w1.elim
          | val d => exact w1.elim
          | exn x => exact w1.elim
          | own p' o' =>
            cases o' with
            | ins C fs => exact w1.elim
            | dic es => exact w1.elim
            | lst ds =>
              obtain ⟨t1, ⟨xs, t2, t4⟩, t3⟩ := R1.own i p' _ e1
              cases dk with
              | int kk =>
                obtain ⟨d, ed, w2⟩ := wp_bindO w1
                obtain rfl := dp_int dk'
                obtain ⟨v, ev, dv⟩ := atI_rel t4 ed
                exact .inl ⟨as i, xs, kk, v, rfl, rfl, SqL.of t2, ev, w2 G1 H1 v S1 R1 dv⟩
              | none => exact w1.elim
              | bool _ => exact w1.elim
              | str _ => exact w1.elim
              | list _ => exact w1.elim
              | tuple _ => exact w1.elim
              | dict _ => exact w1.elim
/-! ### numbers -/
section
variable {K : PySem.W.Frag} {tcK : TabC K}
def pInt (g : Int → Int → D) : D → D → Option D
  | .int i, .int j => some (g i j)
  | _, _ => none
theorem dp_of_kD {G : Hp} (x : V) (d : D) (h : dCOk x d) : DP K G x d := by
  cases x <;> cases d <;> first | (cases h; constructor) | exact h.elim | constructor
theorem a2_I0 {g : Int → Int → V} {g' : Int → Int → D} (hg : ∀ i j, dCOk (g i j) (g' i j)) : A2 K (rI0 g) (pInt g') := by
  intro G H x y dx dy Q le hx hy d e q
  cases hx <;> cases hy <;> first
    | (cases e; exact ⟨_, _, rfl, rfl, q G H _ (Grow.refl le) (dp_of_kD _ _ (hg _ _))⟩)
    | cases e
def pIntC (C : Int → Int → Bool) (g : Int → Int → D) : D → D → Option D
  | .int i, .int j => if C i j = true then some (g i j) else none
  | _, _ => none
theorem a2_I {Cp : Int → Int → Prop} {C : Int → Int → Bool} {g : Int → Int → V} {g' : Int → Int → D} (hC : ∀ i j, C i j = true → Cp i j) (hg : ∀ i j, dCOk (g i j) (g' i j)) : A2 K (rI Cp g) (pIntC C g') := by
  intro G H x y dx dy Q le hx hy d e q
  have go : ∀ i j, (if C i j = true then some (g' i j) else none) = some d → x = .int i → y = .int j → rI Cp g x y H Q := by
    intro i j e1 e2 e3
    split at e1
    · rename_i hc
      cases e1
      exact ⟨i, j, e2, e3, hC i j hc, q G H _ (Grow.refl le) (dp_of_kD _ _ (hg _ _))⟩
    · cases e1
  cases hx <;> cases hy <;> first
    | exact go _ _ e rfl rfl
    | cases e
def pSub := pInt fun i j => .int (i - j)
def pLt := pInt fun i j => .bool (decide (i < j))
def pLe := pInt fun i j => .bool (decide (i ≤ j))
def pGt := pInt fun i j => .bool (decide (j < i))
def pGe := pInt fun i j => .bool (decide (j ≤ i))
/-- // by a positive number below 2 ^ 9000 -/
def pDiv := pIntC (fun _ j => decide (0 < j) && decide (j.natAbs.log2 < 9000)) fun i j => .int (i / j)
def pMod := pIntC (fun _ j => decide (0 < j)) fun i j => .int (i % j)
def pPow := pIntC (fun i j => decide (0 ≤ j) && decide (j ≤ 1000000) && decide (i.natAbs < 2 ^ 64)) fun i j => .int (i ^ j.toNat)
theorem a_sub : A2 K (rI0 fun i j => .int (i - j)) pSub := a2_I0 fun _ _ => rfl
theorem a_lt : A2 K (rI0 fun i j => .bl (decide (i < j))) pLt := a2_I0 fun _ _ => rfl
theorem a_le : A2 K (rI0 fun i j => .bl (decide (i ≤ j))) pLe := a2_I0 fun _ _ => rfl
theorem a_gt : A2 K (rI0 fun i j => .bl (decide (j < i))) pGt := a2_I0 fun _ _ => rfl
theorem a_ge : A2 K (rI0 fun i j => .bl (decide (j ≤ i))) pGe := a2_I0 fun _ _ => rfl
theorem a_div : A2 K (rI CDivW fun i j => .int (i / j)) pDiv := a2_I (fun i j h => by simp only [Bool.and_eq_true, decide_eq_true_eq] at h; exact h) fun _ _ => rfl
theorem a_mod : A2 K (rI (fun _ j => 0 < j) fun i j => .int (i % j)) pMod := a2_I (fun i j h => by simpa using h) fun _ _ => rfl
theorem a_pow : A2 K (rI CPow fun i j => .int (i ^ j.toNat)) pPow := a2_I (fun i j h => by simp only [Bool.and_eq_true, decide_eq_true_eq] at h; exact ⟨h.1.1, h.1.2, h.2⟩) fun _ _ => rfl
def pNeg : D → Option D
  | .int i => some (.int (-i))
  | _ => none
theorem a_neg : A1 K (rU fun i => .int (-i)) pNeg := by
  intro G H x dx Q le hx d e q
  cases hx <;> first
    | (cases e; exact ⟨_, rfl, q G H _ (Grow.refl le) (.int _)⟩)
    | cases e
end
/-! ### + and * of anything -/
section
variable {X : Cx} {tcX : TabC X.K}
def rCatL (K : PySem.W.Frag) : R2 := fun x y H Q => ∃ l b xs zs, x = .ref l ∧ y = .ref b ∧ SqL K H l xs ∧ SqL K H b zs ∧ xs.length + zs.length ≤ sizeLine ∧ ∀ p, H p = none → Q (.ref p) (upd H p (.lst (xs ++ zs)))
theorem op_catL : OpR X (binaryOp .Add) (rCatL X.K) := by
  intro pins s σ H x y v u Q I rx ry h
  obtain ⟨l, b, xs, zs, rfl, rfl, hH, hB, hz, q⟩ := h
  cases rx
  cases ry
  obtain ⟨its, r, hl, _⟩ := I.list hH
  obtain ⟨its2, r2, hl2, _⟩ := I.list hB
  obtain ⟨⟨cls, dd, data, sl⟩, ho, hc, n, hd⟩ := id hl.isList
  obtain ⟨⟨cls2, dd2, data2, sl2⟩, ho2, hc2, n2, hd2⟩ := id hl2.isList
  simp only at hc hd hc2 hd2
  subst hc hd hc2 hd2
  have e : its.toArray ++ its2.toArray = (its ++ its2).toArray := by simp
  have hsz : its.toArray.size + its2.toArray.size ≤ sizeLine := by
    rw [List.size_toArray, List.size_toArray, ← r.length, ← r2.length]; exact hz
  refine concat_meets ⟨_, ho, rfl⟩ ⟨_, ho2, rfl⟩ noFill_list_add seq_list_add PySem.F.slot_list_add PySem.F.entry_list_add (PySem.F.args_list_add_2 _ _) (list_addW l b its.toArray its2.toArray n n2 dd dd2 sl sl2 hsz) ⟨ho, ho2, ?_⟩
  rw [e]
  exact ⟨.ref _, _, I.lnew (t' := s.toks) (r.append r2) (by rw [List.length_append]; exact hz), rfl, q _ I.fresh⟩
def rAdd3 (K : PySem.W.Frag) : R2 := fun x y H Q => rI0 (fun i j => .int (i + j)) x y H Q ∨ (rCatL K x y H Q ∨ rCatA K x y H Q)
theorem op_add3 : OpR X (binaryOp .Add) (rAdd3 X.K) := op_add.or (op_catL.or op_catA)
end
section
variable {K : PySem.W.Frag} {tcK : TabC K}
def pAdd : D → D → Option RV
  | .int i, .int j => some (.val (.int (i + j)))
  | .list a, .list b => if a.length + b.length ≤ 16777216 then some (.own (.lst (a ++ b))) else none
  | .tuple a, .tuple b => if a.length + b.length ≤ 16777216 then some (.val (.tuple (a ++ b))) else none
  | _, _ => none
theorem a_add : A2R K (rAdd3 K) pAdd := by
  intro G H x y dx dy Q le hx hy d e q
  cases hx <;> cases hy <;> first
    | (cases e; exact .inl ⟨_, _, rfl, rfl, q G H _ (Grow.refl le) (DP.int _)⟩)
    | (rename_i a xs ds h1 h2 b ys es h3 h4
       have e : (if ds.length + es.length ≤ 16777216 then some (RV.own (.lst (ds ++ es))) else none) = some d := e
       split at e
       · rename_i hl
         cases e
         refine .inr (.inl ⟨a, b, xs, ys, rfl, rfl, le.seq h1, le.seq h3, by rw [sizeLine_eq, h2.length, h4.length]; exact hl, fun p hp => ?_⟩)
         exact q G _ _ (Grow.bare le hp _) ⟨p, rfl, hp, le.free hp, _, upd_same, h2.append h4⟩
       · cases e)
    | (rename_i a xs ds h1 h2 b ys es h3 h4
       have e : (if ds.length + es.length ≤ 16777216 then some (RV.val (.tuple (ds ++ es))) else none) = some d := e
       split at e
       · rename_i hl
         cases e
         refine .inr (.inr ⟨a, b, xs, ys, rfl, rfl, SqT.same le h1, SqT.same le h3, by rw [sizeLine_eq, h2.length, h4.length]; exact hl, fun hx => ?_, fun hx hy => ?_, fun hx hy p hp => ?_⟩)
         · have z := h2.length
           rw [hx] at z
           have z : ds = [] := List.eq_nil_of_length_eq_zero z.symm
           subst z
           exact q G H _ (Grow.refl le) (DP.tup h3 h4)
         · have z := h4.length
           rw [hy] at z
           have z : es = [] := List.eq_nil_of_length_eq_zero z.symm
           subst z
           rw [List.append_nil] at q
           exact q G H _ (Grow.refl le) (DP.tup h1 h2)
         · have g := Grow.new le hp (.tup (xs ++ ys))
           exact q _ _ _ g (DP.tup (.inl (.inl upd_same)) ((h2.append h4).mono g.g))
       · cases e)
    | cases e
/-- the product of two numbers of together less than a million bits, one of them perhaps great -/
def mulOk (i j : Int) : Bool := decide (-(2 ^ 64) < i ∧ i < 2 ^ 64) || decide (-(2 ^ 64) < j ∧ j < 2 ^ 64) || decide (i.natAbs.log2 + j.natAbs.log2 < 1000000)
end
section
variable {X : Cx} {tcX : TabC X.K}
theorem op_mulA : OpR X (binaryOp .Mult) (rI (fun i j => mulOk i j = true) fun i j => .int (i * j)) := by
  intro pins s σ H x y v u Q I rx ry h
  obtain ⟨i, j, e1, e2, hc, q⟩ := h
  unfold mulOk at hc
  simp only [Bool.or_eq_true, decide_eq_true_eq] at hc
  rcases hc with hc | hc
  · exact op_mul pins s σ H x y v u Q I rx ry ⟨i, j, e1, e2, hc, q⟩
  · exact op_mulW pins s σ H x y v u Q I rx ry ⟨i, j, e1, e2, hc, q⟩
/-! a frozen list, so many times: a new list -/
theorem rmul_listS (a : Int) (t : Tok) (l : Addr) (items : Array Value) (n : Nat) (sl : Array (Option Value)) :
    Meets (Builtin.«int.__rmul__» ⟨[.int a t, .ref l], []⟩) (fun _ R s => s.heap.get? l = some { cls := .type "list", dict := none, data := .seq items n, slots := sl } ∧ R (.ok (.ret Value.notImplemented)) s) :=
  .of_wp fun prog w A R s h => by obtain ⟨hp, g, d, tk, os⟩ := s; obtain ⟨hl, h⟩ := h; wp_walk; exact ⟨_, rfl, h⟩
theorem mul_listS (l : Addr) (items : Array Value) (n : Nat) (sl : Array (Option Value)) (x : Int) (u : Tok) (hc0 : ¬(!Builtin.List.listFitsIndex x) = true) (hc1 : ¬items.size * x.toNat > (2 ^ 63 - 1) / 8) (hc2 : ¬Builtin.List.listTooLong (items.size * x.toNat) = true) :
    Meets (Builtin.«list.__mul__» ⟨[.ref l, .int x u], []⟩) (fun _ R s => s.heap.get? l = some { cls := .type "list", dict := none, data := .seq items n, slots := sl } ∧ R (.ok (.ret (Value.ref s.heap.objs.size))) { s with heap := s.heap.push { cls := Value.type "list", data := Data.seq (List.foldl (fun x1 x2 => x1 ++ x2) #[] (List.replicate (if items.isEmpty = true then 0 else x.toNat) items)) }, toks := s.toks }) :=
  .of_wp fun prog w A R s h => by
    obtain ⟨hp, g, d, tk, os⟩ := s; obtain ⟨hl, h⟩ := h
    have hsz := AutoListH.joined_fits hc2
    wp_walk; refine wpAny_ite_false (decide_eq_false (Nat.not_lt.mpr hsz)) ?_; wp_walk; exact ⟨_, rfl, h⟩
def rRepF (K : PySem.W.Frag) : R2 := fun x y H Q => ∃ l k xs, x = .ref l ∧ y = .int k ∧ SqL K H l xs ∧ -(2 ^ 63) ≤ k ∧ k < 2 ^ 63 ∧ xs.length * k.toNat ≤ sizeLine ∧
  ∀ p, H p = none → Q (.ref p) (upd H p (.lst (List.replicate k.toNat xs).flatten))
theorem op_repF : OpR X (binaryOp .Mult) (rRepF X.K) := by
  intro pins s σ H x y v u Q I rx ry h
  obtain ⟨l, k, xs, rfl, rfl, hH, h1, h2, hz, q⟩ := h
  cases rx
  obtain ⟨t, rfl⟩ := ry
  obtain ⟨its, r, ⟨o, n, e, oc, od, oq⟩, z⟩ := I.list hH
  obtain ⟨c0, d0, q0, sl⟩ := o
  cases oc
  cases od
  cases oq
  have hl := r.length
  have hlen : its.toArray.size * k.toNat ≤ sizeLine := by rw [List.size_toArray, ← hl]; exact hz
  have hcap : ¬ its.toArray.size * k.toNat > (2 ^ 63 - 1) / 8 := by
    have : (sizeLine : Nat) ≤ (2 ^ 63 - 1) / 8 := by decide
    omega
  have hfit : ¬ (!Builtin.List.listFitsIndex k) = true := by
    rw [fitsIndex_both h1 h2]
    exact Bool.false_ne_true
  have hlong : ¬ Builtin.List.listTooLong (its.toArray.size * k.toNat) = true := by
    rw [notLongL hlen]
    exact Bool.false_ne_true
  have hnew : List.foldl (fun x1 x2 => x1 ++ x2) #[] (List.replicate (if its.toArray.isEmpty = true then 0 else k.toNat) its.toArray) = (List.replicate k.toNat its).flatten.toArray := by
    have f0 : ∀ m : Nat, List.foldl (fun x1 x2 => x1 ++ x2) #[] (List.replicate m its.toArray) = (List.replicate m its).flatten.toArray := fun m => by
      have := foldl_rep its m []
      rw [List.nil_append] at this
      exact this
    rw [f0]
    cases its with
    | nil => simp
    | cons a r' => rw [if_neg (by simp)]
  refine wpAny_binaryOp_repeat_ref (T := "list") (U := "int") (by decide) ⟨_, e, rfl⟩ (fun s' => typeIs_int s' k t) noFill_list_mul F.fills_int_mul F.slot_int_rmul repeat_list F.slot_int_index.lookup
    (call_meets F.slot_int_rmul (typeIs_int s k t) F.entry_int_rmul (F.args_int_rmul_2 _ _) (rmul_listS k t l its.toArray n sl)
      ⟨e, rfl, ⟨_, e, rfl⟩, call_meets F.slot_list_mul ⟨_, e, rfl⟩ F.entry_list_mul (F.args_list_mul_2 _ _) (mul_listS l its.toArray n sl k t hfit hcap hlong) ⟨e, ?_⟩⟩)
  rw [hnew]
  exact ⟨.ref _, _, I.lnew (t' := s.toks) (r.rep k.toNat) (by rw [PyProof.Rows.lm_len_rep_flat, Nat.mul_comm]; exact hz), rfl, q _ I.fresh⟩
def rMul2 (K : PySem.W.Frag) : R2 := fun x y H Q => rI (fun i j => mulOk i j = true) (fun i j => .int (i * j)) x y H Q ∨ rRepF K x y H Q
theorem op_mul2 : OpR X (binaryOp .Mult) (rMul2 X.K) := op_mulA.or op_repF
end
def repL {α : Type} (k : Nat) (l : List α) : List α := (List.replicate k l).flatten
theorem DPs.rep {K : PySem.W.Frag} {G : Hp} {vs : List V} {ds : List D} (h : DPs K G vs ds) : ∀ k : Nat, DPs K G (List.replicate k vs).flatten (repL k ds)
  | 0 => .nil
  | k + 1 => by
    unfold repL
    rw [List.replicate_succ, List.replicate_succ, List.flatten_cons, List.flatten_cons]
    exact h.append (DPs.rep h k)
def pMul : RV → D → Option RV
  | .val (.int i), .int j => if mulOk i j = true then some (.val (.int (i * j))) else none
  | .own (.lst ds), .int k => if (-(2 ^ 63) ≤ k ∧ k < 2 ^ 63) ∧ ds.length * k.toNat ≤ 16777216 then some (.own (.lst (repL k.toNat ds))) else none
  | .val (.list ds), .int k => if (-(2 ^ 63) ≤ k ∧ k < 2 ^ 63) ∧ ds.length * k.toNat ≤ 16777216 then some (.own (.lst (repL k.toNat ds))) else none
  | _, _ => none
def eMul (m : M RV) (n : M D) : M RV := fun r => (m r).bind fun a => (n a.2).bind fun b => (ofO (pMul a.1 b.1)).bind fun d => .ok (d, b.2)
theorem absMul {K : PySem.W.Frag} {tcK : TabC K} {E : WX} {ta tb : TE} {m : M RV} {n : M D} (ha : AbsE K E ta m) (hb : AbsD K E tb n) : AbsE K E (tOp (rMul2 K) ta tb) (eMul m n) := by
  intro G as r σ H Q R w
  refine ha G as r σ H _ R ((Wp.bind w).mono (fun a w1 => ?_) fun _ z => z)
  obtain ⟨rv, r1⟩ := a
  intro G1 H1 x S1 R1 hx
  refine hb G1 as r1 σ H1 _ R1 ((Wp.bind w1).mono (fun b w2 => ?_) fun _ z => XPost.on R1 S1 z)
  obtain ⟨db, r2⟩ := b
  intro G2 H2 y S2 R2 dy
  obtain ⟨d, e, w3⟩ := wp_bindO w2
  have hx2 := hx.carry S2
  have S12 := S1.trans R1 S2
  cases rv with
  | val dx =>
    cases dx with
    | int i =>
      cases db with
      | int j =>
        obtain rfl : x = .int i := dp_int hx2
        obtain rfl : y = .int j := dp_int dy
        have e : (if mulOk i j = true then some (RV.val (.int (i * j))) else none) = some d := e
        split at e
        · rename_i hm
          cases e
          exact .inl ⟨i, j, rfl, rfl, hm, w3 G2 H2 _ S12 R2 (DP.int _)⟩
        · cases e
      | none => cases e
      | bool _ => cases e
      | str _ => cases e
      | list _ => cases e
      | tuple _ => cases e
      | dict _ => cases e
    | none => cases e
    | bool _ => cases e
    | str _ => cases e
    | list ds =>
      cases db with
      | int k =>
        obtain rfl : y = .int k := dp_int dy
        have hx3 : DP K G2 x (.list ds) := hx2
        cases hx3 with
        | @lst p vs _ h1 h2 =>
        have e : (if (-(2 ^ 63) ≤ k ∧ k < 2 ^ 63) ∧ ds.length * k.toNat ≤ 16777216 then some (RV.own (.lst (repL k.toNat ds))) else none) = some d := e
        split at e
        · rename_i hm
          cases e
          refine .inr ⟨p, k, vs, rfl, rfl, R2.le.seq h1, hm.1.1, hm.1.2, by rw [sizeLine_eq, h2.length]; exact hm.2, fun q hq => ?_⟩
          have g := Grow.bare R2.le hq (.lst (List.replicate k.toNat vs).flatten)
          have hv : RVg K H2 G2 (upd H2 q (.lst (List.replicate k.toNat vs).flatten)) (.ref q) (.own (.lst (repL k.toNat ds))) := ⟨q, rfl, hq, R2.le.free hq, _, upd_same, h2.rep _⟩
          exact w3 G2 _ _ (S12.trans R2 (g.stp R2)) (g.rel R2) ((hv.at R2).back R2 S12)
        · cases e
      | none => cases e
      | bool _ => cases e
      | str _ => cases e
      | list _ => cases e
      | tuple _ => cases e
      | dict _ => cases e
    | tuple _ => cases e
    | dict _ => cases e
  | own o =>
    cases o with
    | ins C fs => cases e
    | dic es => cases e
    | lst ds =>
      cases db with
      | int k =>
        obtain ⟨p, rfl, ⟨vs, h1, h2⟩, h3, h4, h5⟩ := hx2
        obtain rfl : y = .int k := dp_int dy
        have e : (if (-(2 ^ 63) ≤ k ∧ k < 2 ^ 63) ∧ ds.length * k.toNat ≤ 16777216 then some (RV.own (.lst (repL k.toNat ds))) else none) = some d := e
        split at e
        · rename_i hm
          cases e
          refine .inr ⟨p, k, vs, rfl, rfl, SqL.of h1, hm.1.1, hm.1.2, by rw [sizeLine_eq, h2.length]; exact hm.2, fun q hq => ?_⟩
          have g := Grow.bare R2.le hq (.lst (List.replicate k.toNat vs).flatten)
          have hv : RVg K H2 G2 (upd H2 q (.lst (List.replicate k.toNat vs).flatten)) (.ref q) (.own (.lst (repL k.toNat ds))) := ⟨q, rfl, hq, R2.le.free hq, _, upd_same, h2.rep _⟩
          exact w3 G2 _ _ (S12.trans R2 (g.stp R2)) (g.rel R2) ((hv.at R2).back R2 S12)
        · cases e
      | none => cases e
      | bool _ => cases e
      | str _ => cases e
      | list _ => cases e
      | tuple _ => cases e
      | dict _ => cases e
/-! ### equality of data -/
mutual
theorem DP.dp {K : PySem.W.Frag} {G H : Hp} (le : Same G H) : ∀ {v : V} {d : D}, DP K G v d → SeqAt.shaped d = true → Dp K H v d
  | _, _, .non, _ => .non
  | _, _, .bl b, _ => .bl b
  | _, _, .int i, _ => .int i
  | _, _, .str x, _ => .str x
  | _, _, .lst h1 h2, h => .lst (le.seq h1) (DPs.dp le h2 (by
      have := PySem.SeqAt.canLay_of_shaped h
      simpa [PyData.canLay0] using this))
  | _, _, .tup h1 h2, h => .tup (SqT.same le h1) (DPs.dp le h2 (by
      have := PySem.SeqAt.canLay_of_shaped h
      simpa [PyData.canLay0] using this))
  | _, _, .dic _ _, h => by
    have := PySem.SeqAt.canLay_of_shaped h
    simp [PyData.canLay0] at this
theorem DPs.dp {K : PySem.W.Frag} {G H : Hp} (le : Same G H) : ∀ {vs : List V} {ds : List D}, DPs K G vs ds → PyData.canLayAll0 ds = true → DpAll K H vs ds
  | _, _, .nil, _ => .nil
  | _, _, .cons h1 h2, h => by
    simp only [PyData.canLayAll0, Bool.and_eq_true] at h
    exact .cons (DP.dp0 le h1 h.1) (DPs.dp le h2 h.2)
theorem DP.dp0 {K : PySem.W.Frag} {G H : Hp} (le : Same G H) : ∀ {v : V} {d : D}, DP K G v d → PyData.canLay0 d = true → Dp K H v d
  | _, _, .non, _ => .non
  | _, _, .bl b, _ => .bl b
  | _, _, .int i, _ => .int i
  | _, _, .str x, _ => .str x
  | _, _, .lst h1 h2, h => .lst (le.seq h1) (DPs.dp le h2 (by simpa [PyData.canLay0] using h))
  | _, _, .tup h1 h2, h => .tup (SqT.same le h1) (DPs.dp le h2 (by simpa [PyData.canLay0] using h))
  | _, _, .dic _ _, h => by simp [PyData.canLay0] at h
end
def pEq : D → D → Option D := fun a b => if (SeqAt.shaped a && SeqAt.shaped b) = true then some (.bool (PyData.eqv a b)) else none
def pNe : D → D → Option D := fun a b => if (SeqAt.shaped a && SeqAt.shaped b) = true then some (.bool (!PyData.eqv a b)) else none
theorem a_eq {K : PySem.W.Frag} : A2 K (rEqD K) pEq := by
  intro G H x y dx dy Q le hx hy d e q
  unfold pEq at e
  split at e
  · rename_i hs
    rw [Bool.and_eq_true] at hs
    cases e
    exact ⟨dx, dy, hx.dp le hs.1, hy.dp le hs.2, hs.1, hs.2, q G H _ (Grow.refl le) (.bl _)⟩
  · cases e
theorem a_ne {K : PySem.W.Frag} : A2 K (rNeD K) pNe := by
  intro G H x y dx dy Q le hx hy d e q
  unfold pNe at e
  split at e
  · rename_i hs
    rw [Bool.and_eq_true] at hs
    cases e
    exact ⟨dx, dy, hx.dp le hs.1, hy.dp le hs.2, hs.1, hs.2, q G H _ (Grow.refl le) (.bl _)⟩
  · cases e
/-- is None, is not None -/
def pIsN : D → D → Option D := fun a b => match b with
  | .none => some (.bool (match a with | .none => true | _ => false))
  | _ => none
def pNotN : D → D → Option D := fun a b => match b with
  | .none => some (.bool (match a with | .none => false | _ => true))
  | _ => none
theorem a_isN {K : PySem.W.Frag} : A2 K (fun x y H Q => y = .non ∧ Q (.bl (decide (x = .non))) H) pIsN := by
  intro G H x y dx dy Q le hx hy d e q
  cases hy with
  | non =>
    refine ⟨rfl, ?_⟩
    cases hx <;> (cases e; exact q G H _ (Grow.refl le) (.bl _))
  | bl _ => cases e
  | int _ => cases e
  | str _ => cases e
  | lst _ _ => cases e
  | tup _ _ => cases e
  | dic _ _ => cases e
theorem a_notN {K : PySem.W.Frag} : A2 K (fun x y H Q => y = .non ∧ Q (.bl (!decide (x = .non))) H) pNotN := by
  intro G H x y dx dy Q le hx hy d e q
  cases hy with
  | non =>
    refine ⟨rfl, ?_⟩
    cases hx <;> (cases e; exact q G H _ (Grow.refl le) (.bl _))
  | bl _ => cases e
  | int _ => cases e
  | str _ => cases e
  | lst _ _ => cases e
  | tup _ _ => cases e
  | dic _ _ => cases e
/-- in, not in a list or tuple of flat things -/
def flatD : D → Bool
  | .none => true
  | .bool _ => true
  | .int _ => true
  | .str _ => true
  | _ => false
def pIn (neg : Bool) : D → D → Option D := fun a b => match b with
  | .list ds => if (flatD a && ds.all flatD) = true then some (.bool (if neg then !(ds.any fun y => PyData.eqv y a) else ds.any fun y => PyData.eqv y a)) else none
  | .tuple ds => if (flatD a && ds.all flatD) = true then some (.bool (if neg then !(ds.any fun y => PyData.eqv y a) else ds.any fun y => PyData.eqv y a)) else none
  | _ => none
/-! ### items and slices -/
def pIx : D → D → Option D
  | .list ds, .int k => atI ds k
  | .tuple ds, .int k => atI ds k
  | _, _ => none
theorem a_ix {K : PySem.W.Frag} : A2 K (rIx K) pIx := by
  intro G H x y dx dy Q le hx hy d e q
  cases hx with
  | @lst a xs ds h1 h2 =>
    cases hy <;> first
      | (rename_i k
         obtain ⟨v, ev, dv⟩ := atI_rel h2 (show atI ds k = some d from e)
         exact .inl ⟨a, xs, k, v, rfl, rfl, le.seq h1, ev, q G H v (Grow.refl le) dv⟩)
      | cases e
  | @tup a xs ds h1 h2 =>
    cases hy <;> first
      | (rename_i k
         obtain ⟨v, ev, dv⟩ := atI_rel h2 (show atI ds k = some d from e)
         exact .inr (.inl ⟨a, xs, k, v, rfl, rfl, SqT.same le h1, ev, q G H v (Grow.refl le) dv⟩))
      | cases e
  | non => cases e
  | bl _ => cases e
  | int _ => cases e
  | str _ => cases e
  | dic _ _ => cases e
def OPost (K : PySem.W.Frag) [TabC K] (G : Hp) (as : Nat → Addr) (r : Rho) (σ : L2.St) (H : Hp) (Q : Option Int → Hp → Prop) (a : Option Int × Rho) : Prop :=
  ∀ G' H', Stp G as r H G' as a.2 H' → Rel K G' as a.2 σ H' → Q a.1 H'
def AbsO (K : PySem.W.Frag) [TabC K] (E : WX) (t : TO) (m : M (Option Int)) : Prop :=
  ∀ G as r σ H Q, Rel K G as r σ H → Wp (m r) (OPost K G as r σ H Q) (XPost K G as r σ H E) → t σ H Q
def oNone : M (Option Int) := fun r => .ok (none, r)
def oSome (m : M D) : M (Option Int) := fun r => (m r).bind fun a => match a.1 with
  | .int i => .ok (some i, a.2)
  | _ => .no
def cutD {α : Type} (ds : List α) (lo hi : Option Int) : List α := (ds.drop (HT.sIx ds.length 0 lo)).take (HT.sIx ds.length ds.length hi - HT.sIx ds.length 0 lo)
def pCut : D → Option Int → Option Int → Option RV
  | .list ds, lo, hi => some (.own (.lst (cutD ds lo hi)))
  | .tuple ds, lo, hi => some (.val (.tuple (cutD ds lo hi)))
  | _, _, _ => none
def eCut (m : M D) (lo hi : M (Option Int)) : M RV := fun r => (m r).bind fun a => (lo a.2).bind fun b => (hi b.2).bind fun c => (ofO (pCut a.1 b.1 c.1)).bind fun d => .ok (d, c.2)
theorem DPs.cut {K : PySem.W.Frag} {G : Hp} {vs : List V} {ds : List D} (h : DPs K G vs ds) (lo hi : Option Int) : DPs K G (cutV vs lo hi) (cutD ds lo hi) := by
  unfold cutV cutD
  rw [h.length]
  exact (h.drop _).take _
section
variable {K : PySem.W.Frag} {tcK : TabC K} {E : WX} {te : TE} {m : M D} {tl th : TO} {lo hi : M (Option Int)}
theorem absONone : AbsO K E tNoPart oNone := fun G as r σ H Q R w => w G H Stp.refl R
theorem absOSome (h : AbsD K E te m) : AbsO K E (tPart te) (oSome m) := by
  intro G as r σ H Q R w
  refine h G as r σ H _ R ((Wp.bind w).mono (fun a w1 => ?_) fun _ z => z)
  obtain ⟨d, r'⟩ := a
  intro G1 H1 v S1 R1 dv
  cases d with
  | int i =>
    obtain rfl : v = .int i := dp_int dv
    exact ⟨i, rfl, w1 G1 H1 S1 R1⟩
  | none => exact w1.elim
  | bool _ => exact w1.elim
  | str _ => exact w1.elim
  | list _ => exact w1.elim
  | tuple _ => exact w1.elim
  | dict _ => exact w1.elim
def rSl2 (K : PySem.W.Frag) : V → Option Int → Option Int → Hp → VK → Prop := fun x lo hi H Q => rSlL K x lo hi H Q ∨ rSlA K x lo hi H Q
theorem absCut (h : AbsD K E te m) (hl : AbsO K E tl lo) (hh : AbsO K E th hi) : AbsE K E (tSl (rSl2 K) te tl th) (eCut m lo hi) := by
  intro G as r σ H Q R w
  refine h G as r σ H _ R ((Wp.bind w).mono (fun a w1 => ?_) fun _ z => z)
  obtain ⟨dx, r1⟩ := a
  intro G1 H1 x S1 R1 hx
  refine hl G1 as r1 σ H1 _ R1 ((Wp.bind w1).mono (fun b w2 => ?_) fun _ z => XPost.on R1 S1 z)
  intro G2 H2 S2 R2
  have S12 := S1.trans R1 S2
  refine hh G2 as b.2 σ H2 _ R2 ((Wp.bind w2).mono (fun c w3 => ?_) fun _ z => XPost.on R2 S12 z)
  intro G3 H3 S3 R3
  have S13 := S12.trans R2 S3
  obtain ⟨d, e, w4⟩ := wp_bindO w3
  have hx3 := (hx.mono S2.g).mono S3.g
  cases hx3 with
  | @lst a xs ds h1 h2 =>
    cases e
    refine .inl ⟨a, xs, rfl, R3.le.seq h1, fun p hp => ?_⟩
    have g := Grow.bare R3.le hp (.lst (cutV xs b.1 c.1))
    have hv : RVg K H3 G3 (upd H3 p (.lst (cutV xs b.1 c.1))) (.ref p) (.own (.lst (cutD ds b.1 c.1))) := ⟨p, rfl, hp, R3.le.free hp, _, upd_same, h2.cut _ _⟩
    exact w4 G3 _ _ (S13.trans R3 (g.stp R3)) (g.rel R3) ((hv.at R3).back R3 S13)
  | @tup a xs ds h1 h2 =>
    cases e
    refine .inr ⟨a, xs, rfl, SqT.same R3.le h1, fun hw => ?_, fun _ p hp => ?_⟩
    · have ec : cutD ds b.1 c.1 = ds := by
        unfold cutD
        rw [← h2.length, hw.1, hw.2]
        simp only [List.drop_zero, Nat.sub_zero]
        rw [List.take_of_length_le (by rw [h2.length]; exact Nat.le_refl _)]
      exact w4 G3 H3 _ S13 R3 (show DP K G3 (.ref a) (.tuple (cutD ds b.1 c.1)) by rw [ec]; exact .tup h1 h2)
    · have g := Grow.new R3.le hp (.tup (cutV xs b.1 c.1))
      exact w4 _ _ _ (S13.trans R3 (g.stp R3)) (g.rel R3) (show DP K _ (.ref p) (.tuple (cutD ds b.1 c.1)) from .tup (.inl (.inl upd_same)) ((h2.cut _ _).mono g.g))
  | non => cases e
  | bl _ => cases e
  | int _ => cases e
  | str _ => cases e
  | dic _ _ => cases e
/-- x[::-1] of a list -/
def eRev (m : M D) : M RV := fun r => (m r).bind fun a => match a.1 with
  | .list ds => .ok (.own (.lst ds.reverse), a.2)
  | _ => .no
end
end DL
/-! # DL7: built-ins by data; what is walked -/
namespace DL
open PySem PySem.Spec PyProof.Rows L2
/-! ### lists of numbers, of truths -/
def ints? : List D → Option (List Int)
  | [] => some []
  | .int i :: l => (ints? l).map (i :: ·)
  | _ :: _ => none
theorem ints?_of (ns : List Int) : ints? (ns.map .int) = some ns := by
  induction ns with
  | nil => rfl
  | cons n ns ih => simp [ints?, ih]
theorem ints?_eq : ∀ {ds : List D} {ns : List Int}, ints? ds = some ns → ds = ns.map .int
  | [], ns, e => by cases e; rfl
  | .int i :: l, ns, e => by
    unfold ints? at e
    cases e1 : ints? l with
    | none => rw [e1] at e; cases e
    | some ms => rw [e1] at e; cases e; rw [ints?_eq e1]; rfl
  | .none :: _, _, e => by cases e
  | .bool _ :: _, _, e => by cases e
  | .str _ :: _, _, e => by cases e
  | .list _ :: _, _, e => by cases e
  | .tuple _ :: _, _, e => by cases e
  | .dict _ :: _, _, e => by cases e
def bools? : List D → Option (List Bool)
  | [] => some []
  | .bool i :: l => (bools? l).map (i :: ·)
  | _ :: _ => none
theorem bools?_of (ns : List Bool) : bools? (ns.map .bool) = some ns := by
  induction ns with
  | nil => rfl
  | cons n ns ih => simp [bools?, ih]
theorem bools?_eq : ∀ {ds : List D} {ns : List Bool}, bools? ds = some ns → ds = ns.map .bool
  | [], ns, e => by cases e; rfl
  | .bool i :: l, ns, e => by
    unfold bools? at e
    cases e1 : bools? l with
    | none => rw [e1] at e; cases e
    | some ms => rw [e1] at e; cases e; rw [bools?_eq e1]; rfl
  | .none :: _, _, e => by cases e
  | .int _ :: _, _, e => by cases e
  | .str _ :: _, _, e => by cases e
  | .list _ :: _, _, e => by cases e
  | .tuple _ :: _, _, e => by cases e
  | .dict _ :: _, _, e => by cases e
/-- the greatest, the least of some numbers -/
def maxI : List Int → Int
  | [] => 0
  | [a] => a
  | a :: l => if a < maxI l then maxI l else a
theorem maxI_mem : ∀ {l : List Int}, l ≠ [] → maxI l ∈ l ∧ ∀ y ∈ l, y ≤ maxI l
  | [], h => absurd rfl h
  | [a], _ => ⟨by simp [maxI], fun y hy => by simp at hy; subst hy; exact Int.le_refl _⟩
  | a :: b :: l, _ => by
    obtain ⟨h1, h2⟩ := maxI_mem (l := b :: l) (by simp)
    unfold maxI
    split
    · rename_i hlt
      exact ⟨List.mem_cons_of_mem _ h1, fun y hy => by
        rcases List.mem_cons.mp hy with rfl | hy
        · omega
        · exact h2 y hy⟩
    · rename_i hlt
      exact ⟨List.mem_cons_self, fun y hy => by
        rcases List.mem_cons.mp hy with rfl | hy
        · exact Int.le_refl _
        · have := h2 y hy; omega⟩
/-- some numbers, rising; falling -/
def sortI (ns : List Int) : List Int := ns.mergeSort (fun a b => decide (a ≤ b))
def sortB (b : Bool) (ns : List Int) : List Int := if b then (sortI ns).reverse else sortI ns
theorem sortI_perm (ns : List Int) : (sortI ns).Perm ns := List.mergeSort_perm ns _
theorem sortI_sorted (ns : List Int) : (sortI ns).Pairwise (· ≤ ·) := by
  have h := List.pairwise_mergeSort (le := fun a b : Int => decide (a ≤ b)) (fun a b c h1 h2 => by simp at *; omega) (fun a b => by simp; omega) ns
  exact h.imp fun h => by simpa using h
theorem sort_same {a b : List Int} (hp : a.Perm b) (ha : a.Pairwise (· ≤ ·)) (hb : b.Pairwise (· ≤ ·)) : a = b := hp.eq_of_pairwise (fun _ _ _ _ h1 h2 => Int.le_antisymm h1 h2) ha hb
theorem sortI_is {ns' ns : List Int} (hp : ns'.Perm ns) (h : ns'.Pairwise (· ≤ ·)) : ns' = sortI ns := sort_same (hp.trans (sortI_perm ns).symm) h (sortI_sorted ns)
section
variable {K : PySem.W.Frag} {tcK : TabC K}
def pLen : List D → Option D
  | [.list ds] => some (.int ds.length)
  | [.tuple ds] => some (.int ds.length)
  | _ => none
def rLen (K : PySem.W.Frag) : List V → Hp → VK → Prop := fun xs H Q => ∃ p ys, xs = [.ref p] ∧ (SqL K H p ys ∨ SqT K H p ys) ∧ Q (.int ys.length) H
theorem a_len : AN K (rLen K) pLen := by
  intro G H xs ds Q le h d e q
  cases h with
  | nil => cases e
  | cons h1 h2 =>
    cases h2 with
    | cons _ _ => cases h1 <;> cases e
    | nil =>
      cases h1 with
      | @lst a ys es k1 k2 => cases e; exact ⟨a, ys, rfl, .inl (le.seq k1), by rw [k2.length]; exact q G H _ (Grow.refl le) (.int _)⟩
      | @tup a ys es k1 k2 => cases e; exact ⟨a, ys, rfl, .inr (SqT.same le k1), by rw [k2.length]; exact q G H _ (Grow.refl le) (.int _)⟩
      | non => cases e
      | bl _ => cases e
      | int _ => cases e
      | str _ => cases e
      | dic _ _ => cases e
def pTwo (g : Int → Int → D) : List D → Option D
  | [.int i, .int j] => some (g i j)
  | _ => none
theorem two_of {G : Hp} {g : Int → Int → D} {xs : List V} {ds : List D} {d : D} (h : DPs K G xs ds) (e : pTwo g ds = some d) : ∃ i j, xs = [.int i, .int j] ∧ d = g i j := by
  cases h with
  | nil => cases e
  | cons h1 h2 =>
    cases h2 with
    | nil => cases h1 <;> cases e
    | cons h2 h3 =>
      cases h3 with
      | cons _ _ => cases h1 <;> cases h2 <;> cases e
      | nil => cases h1 <;> first | (cases h2 <;> first | (cases e; exact ⟨_, _, rfl, rfl⟩) | cases e) | cases e
def pMax2 := pTwo fun i j => .int (if j > i then j else i)
def pMin2 := pTwo fun i j => .int (if j < i then j else i)
theorem a_max2 : AN K (fun xs H Q => ∃ i j, xs = [.int i, .int j] ∧ Q (.int (if j > i then j else i)) H) pMax2 := by
  intro G H xs ds Q le h d e q
  obtain ⟨i, j, e1, e2⟩ := two_of h e
  subst e2
  exact ⟨i, j, e1, q G H _ (Grow.refl le) (.int _)⟩
theorem a_min2 : AN K (fun xs H Q => ∃ i j, xs = [.int i, .int j] ∧ Q (.int (if j < i then j else i)) H) pMin2 := by
  intro G H xs ds Q le h d e q
  obtain ⟨i, j, e1, e2⟩ := two_of h e
  subst e2
  exact ⟨i, j, e1, q G H _ (Grow.refl le) (.int _)⟩
def pDivmod : List D → Option D := fun ds => match ds with
  | [.int i, .int j] => if 0 < j ∧ j < 1073741824 then some (.tuple [.int (i / j), .int (i % j)]) else none
  | _ => none
theorem a_divmod : AN K (fun xs H Q => ∃ i j, xs = [.int i, .int j] ∧ CDiv i j ∧ ∀ p, H p = none → Q (.ref p) (upd H p (.tup [.int (i / j), .int (i % j)]))) pDivmod := by
  intro G H xs ds Q le h d e q
  have e' : ∃ i j, pTwo (fun i j => .int 0) ds = some (.int 0) ∧ ds = [.int i, .int j] := by
    unfold pDivmod at e
    split at e
    · rename_i i j
      exact ⟨i, j, rfl, rfl⟩
    · cases e
  obtain ⟨i, j, e1, e2⟩ := e'
  subst e2
  obtain ⟨i', j', e3, _⟩ := two_of h e1
  subst e3
  cases h with
  | cons h1 h2 => cases h2 with
    | cons h2 h3 =>
      cases h1; cases h2
      have e : (if 0 < j ∧ j < 1073741824 then some (PyData.tuple [.int (i / j), .int (i % j)]) else none) = some d := e
      split at e
      · rename_i hc
        cases e
        refine ⟨i, j, rfl, hc, fun p hp => ?_⟩
        exact q _ _ _ (Grow.new le hp _) (.tup (.inl (.inl upd_same)) (.cons (.int _) (.cons (.int _) .nil)))
      · cases e
/-- one list of numbers -/
def pL1 (g : List Int → Option D) : List D → Option D
  | [.list ds] => (ints? ds).bind g
  | _ => none
def pSum := pL1 fun ns => some (.int ns.sum)
def pB1 (g : List Bool → D) : List D → Option D
  | [.list ds] => (bools? ds).map g
  | _ => none
theorem b1_of {G : Hp} {g : List Bool → D} {xs : List V} {ds : List D} {d : D} (h : DPs K G xs ds) (e : pB1 g ds = some d) : ∃ a ns, xs = [.ref a] ∧ SqL K G a (ns.map V.bl) ∧ d = g ns := by
  cases h with
  | nil => cases e
  | cons h1 h2 =>
    cases h2 with
    | cons _ _ => cases h1 <;> cases e
    | nil =>
      cases h1 with
      | @lst a ys es k1 k2 =>
        have e : (bools? es).map g = some d := e
        cases ei : bools? es with
        | none => rw [ei] at e; cases e
        | some ns =>
          rw [ei] at e
          cases e
          have := bools?_eq ei
          subst this
          have := k2.bools
          subst this
          exact ⟨a, ns, rfl, k1, rfl⟩
      | tup _ _ => cases e
      | non => cases e
      | bl _ => cases e
      | int _ => cases e
      | str _ => cases e
      | dic _ _ => cases e
def pAll := pB1 fun bs => .bool (bs.all id)
theorem a_all : AN K (rAll K) pAll := by
  intro G H xs ds Q le h d e q
  obtain ⟨a, ns, e1, e2, e3⟩ := b1_of h e
  subst e3
  exact ⟨a, ns, e1, le.seq e2, q G H _ (Grow.refl le) (.bl _)⟩
def pL1R (g : List Int → RV) : List D → Option RV
  | [.list ds] => (ints? ds).map g
  | _ => none
def pSorted := pL1R fun ns => .own (.lst ((sortI ns).map .int))
/-- list(x), tuple(x) of a list or tuple -/
def pListOf : List D → Option RV
  | [.list ds] => some (.own (.lst ds))
  | [.tuple ds] => some (.own (.lst ds))
  | _ => none
def pTupOf : List D → Option D
  | [.list ds] => some (.tuple ds)
  | [.tuple ds] => some (.tuple ds)
  | _ => none
theorem a_tupOf : AN K (fun xs H Q => ∃ p ys, xs = [.ref p] ∧ ((SqL K H p ys ∧ ∀ l, H l = none → Q (.ref l) (upd H l (.tup ys))) ∨ (SqT K H p ys ∧ Q (.ref p) H))) pTupOf := by
  intro G H xs ds Q le h d e q
  cases h with
  | nil => cases e
  | cons h1 h2 =>
    cases h2 with
    | cons _ _ => cases h1 <;> cases e
    | nil =>
      cases h1 with
      | @lst a ys es k1 k2 =>
        cases e
        refine ⟨a, ys, rfl, .inl ⟨le.seq k1, fun l hl => ?_⟩⟩
        have g := Grow.new le hl (.tup ys)
        exact q _ _ _ g (.tup (.inl (.inl upd_same)) (k2.mono g.g))
      | @tup a ys es k1 k2 => cases e; exact ⟨a, ys, rfl, .inr ⟨SqT.same le k1, q G H _ (Grow.refl le) (.tup k1 k2)⟩⟩
      | non => cases e
      | bl _ => cases e
      | int _ => cases e
      | str _ => cases e
      | dic _ _ => cases e
end
/-! ### isinstance with built-in classes -/
def tyD : D → String
  | .none => "NoneType"
  | .bool _ => "bool"
  | .int _ => "int"
  | .str _ => "str"
  | .list _ => "list"
  | .tuple _ => "tuple"
  | .dict _ => "dict"
theorem tyX_of {K : PySem.W.Frag} {G H : Hp} {x : V} {d : D} (le : Same G H) (h : DP K G x d) : TyX K H x (.type (tyD d)) := by
  cases h with
  | non => exact .base .non
  | bl b => exact .base (.bl b)
  | int i => exact .base (.int i)
  | str x => exact .base (.str x)
  | lst h1 h2 =>
    rcases h1 with (h1 | ⟨o, h1⟩) | ⟨o, its, n, k1, k2, _⟩
    · exact .base (.lst (le _ _ h1))
    · exact .base (.frz (le _ _ h1))
    · exact .kList k1 k2
  | tup h1 h2 =>
    rcases h1 with (h1 | ⟨o, h1⟩) | ⟨o, its, n, k1, k2, _⟩
    · exact .base (.tup (le _ _ h1))
    · exact .fTuple (le _ _ h1)
    · exact .kTuple k1 k2
  | dic h1 h2 =>
    rcases h1 with h1 | ⟨o, h1⟩
    · exact .base (.dK (le _ _ h1))
    · exact .fDict (le _ _ h1)
def kitAnyB (a : String) : List String → Option Bool
  | [] => some false
  | b :: bs => match kitB a b with
    | some true => some true
    | some false => kitAnyB a bs
    | none => none
def dIsi (T : String) (m : M D) : M D := fun r => (m r).bind fun a => (ofO (kitB (tyD a.1) T)).bind fun b => .ok (.bool b, a.2)
def dIsiT (Ts : List String) (m : M D) : M D := fun r => (m r).bind fun a => (ofO (kitAnyB (tyD a.1) Ts)).bind fun b => .ok (.bool b, a.2)
section
variable {K : PySem.W.Frag} {tcK : TabC K} {E : WX} {ta : TE} {m : M D}
theorem absIsi {T : String} (h : AbsD K E ta m) : AbsD K E (tCB (rIsi K) (tCons ta (tCons (tC (.ty T)) tNil))) (dIsi T m) := by
  intro G as r σ H Q R w
  refine h G as r σ H _ R ((Wp.bind w).mono (fun a w1 => ?_) fun _ z => z)
  intro G1 H1 v S1 R1 dv
  obtain ⟨b, eb, w2⟩ := wp_bindO w1
  exact ⟨v, .ty T, _, _, b, rfl, .ty T, tyX_of R1.le dv, kit_ty eb, w2 G1 H1 _ S1 R1 (.bl _)⟩
end
/-! ### chains -/
section
variable {K : PySem.W.Frag} {tcK : TabC K} {E : WX} {ta tb tc : TE} {ma mb mc : M D}
theorem absChain {r r' : R2} {f g : D → D → Option D} (ha : AbsD K E ta ma) (hb : AbsD K E tb mb) (hc : AbsD K E tc mc) (h1 : A2 K r f) (h2 : A2 K r' g) : AbsD K E (tChain r r' ta tb tc) (dChain f g ma mb mc) := by
  intro G as r0 σ H Q R w
  refine ha G as r0 σ H _ R ((Wp.bind w).mono (fun a w1 => ?_) fun _ z => z)
  intro G1 H1 x S1 R1 dx
  refine hb G1 as a.2 σ H1 _ R1 ((Wp.bind w1).mono (fun b w2 => ?_) fun _ z => XPost.on R1 S1 z)
  intro G2 H2 y S2 R2 dy
  have S12 := S1.trans R1 S2
  obtain ⟨d, e, w3⟩ := wp_bindO w2
  refine h1 G2 H2 x y _ _ _ R2.le (dx.mono S2.g) dy d e fun G3 H3 v gr dv => ?_
  have R3 := gr.rel R2
  have S3 := S12.trans R2 (gr.stp R2)
  cases d with
  | bool k =>
    obtain rfl := dp_bool dv
    refine ⟨k, rfl, ?_⟩
    cases k with
    | true =>
      rw [if_pos rfl]
      have w3 : Wp ((mc b.2).bind fun c => (ofO (g b.1 c.1)).bind fun d => .ok (d, c.2)) (DPost K G as r0 σ H Q) (XPost K G as r0 σ H E) := w3
      refine hc G3 as b.2 σ H3 _ R3 ((Wp.bind w3).mono (fun c w4 => ?_) fun _ z => XPost.on R3 S3 z)
      intro G4 H4 z S4 R4 dz
      obtain ⟨d', e', w5⟩ := wp_bindO w4
      exact h2 G4 H4 y z _ _ _ R4.le ((dy.mono gr.g).mono S4.g) dz d' e' fun G5 H5 v' g5 dv' => w5 G5 H5 v' ((S3.trans R3 S4).trans R4 (g5.stp R4)) (g5.rel R4) dv'
    | false =>
      rw [if_neg Bool.false_ne_true]
      exact w3 G3 H3 _ S3 R3 (.bl _)
  | none => exact w3.elim
  | int _ => exact w3.elim
  | str _ => exact w3.elim
  | list _ => exact w3.elim
  | tuple _ => exact w3.elim
  | dict _ => exact w3.elim
end
/-! ### what is walked -/
section
variable {K : PySem.W.Frag} {tcK : TabC K} {G0 : Hp}
theorem it_at {xs : List V} {ds : List D} {J : It} {Gp : Hp → Prop} (w : Walk J xs.length Gp (YAt xs)) (hg : ∀ H, Same G0 H → Gp H) (h : DPs K G0 xs ds) : Iterates K G0 J ds := by
  refine ⟨Gp, YAt xs, by rw [← h.length]; exact w, hg, fun i H x H' G s1 s2 hi hy => ?_⟩
  obtain ⟨e, hx⟩ := hy
  subst e
  obtain ⟨d, hd, hp⟩ := h.getV hx
  exact ⟨G, d, hd, Grow.refl s2, hp.mono s1⟩
theorem it_list {a : Addr} {xs : List V} {ds : List D} (h1 : SqL K G0 a xs) (h : DPs K G0 xs ds) : Iterates K G0 (Itl K a) ds := it_at walk_list (fun _ s => s.seq h1) h
theorem it_tup {a : Addr} {xs : List V} {ds : List D} (h1 : SqT K G0 a xs) (h : DPs K G0 xs ds) : Iterates K G0 (Itt K a) ds := it_at walk_tup (fun _ s => SqT.same s h1) h
def rangeD (lo : Int) (n : Nat) : List D := (List.range n).map fun i => .int (lo + (i : Nat))
theorem rangeD_length (lo : Int) (n : Nat) : (rangeD lo n).length = n := by simp [rangeD]
theorem rangeD_get {lo : Int} {n i : Nat} (h : i < n) : (rangeD lo n)[i]? = some (.int (lo + i)) := by simp [rangeD, h]
theorem it_range {lo : Int} {n : Nat} : Iterates K G0 (Itr lo n) (rangeD lo n) := by
  refine ⟨fun _ => True, YFn fun i => .int (lo + i), by rw [rangeD_length]; exact walk_range, fun _ _ => trivial, fun i H x H' G s1 s2 hi hy => ?_⟩
  obtain ⟨e, hx⟩ := hy
  subst e hx
  rw [rangeD_length] at hi
  exact ⟨G, _, rangeD_get hi, Grow.refl s2, .int _⟩
def enumD (k : Int) : List D → List D
  | [] => []
  | d :: ds => .tuple [.int k, d] :: enumD (k + 1) ds
theorem enumD_length : ∀ (k : Int) (ds : List D), (enumD k ds).length = ds.length
  | _, [] => rfl
  | k, _ :: ds => congrArg (· + 1) (enumD_length (k + 1) ds)
theorem enumD_get : ∀ {k : Int} {ds : List D} {i : Nat} {d : D}, ds[i]? = some d → (enumD k ds)[i]? = some (.tuple [.int (k + i), d])
  | _, [], _, _, h => by simp at h
  | k, x :: ds, 0, d, h => by simp at h; subst h; simp [enumD]
  | k, x :: ds, i + 1, d, h => by
    have := enumD_get (k := k + 1) (ds := ds) (i := i) (d := d) (by simpa using h)
    simp only [enumD, List.getElem?_cons_succ, this]
    congr 4
    omega
theorem it_enum {a : Addr} {xs : List V} {ds : List D} (h1 : SqL K G0 a xs) (h : DPs K G0 xs ds) : Iterates K G0 (Ite K a) (enumD 0 ds) := by
  refine ⟨_, _, by rw [enumD_length, ← h.length]; exact walk_enum, fun _ s => s.seq h1, fun i H x H' G s1 s2 hi hy => ?_⟩
  obtain ⟨T, u, y, e1, e2, e3, e4, e5⟩ := hy
  subst e1 e3
  cases e4
  obtain ⟨d, hd, hp⟩ := h.getV e5
  have g := Grow.new s2 e2 (.tup [.int (i : Nat), y])
  refine ⟨_, _, enumD_get hd, g, .tup (.inl (.inl upd_same)) (.cons ?_ (.cons ((hp.mono s1).mono g.g) .nil))⟩
  rw [Int.zero_add]
  exact .int _
def zipD : List D → List D → List D := List.zipWith fun a b => .tuple [a, b]
theorem zipD_get {ds es : List D} {i : Nat} {d e : D} (h : ds[i]? = some d) (h' : es[i]? = some e) : (zipD ds es)[i]? = some (.tuple [d, e]) := by
  unfold zipD
  rw [List.getElem?_zipWith, h, h']
end
def iSeq (K : PySem.W.Frag) (tl : TE) : TI := fun σ H R => tl σ H fun x H1 => (∃ a, x = .ref a ∧ (∃ xs, SqL K H1 a xs) ∧ R (Itl K a) H1) ∨ (∃ a, x = .ref a ∧ (∃ xs, SqT K H1 a xs) ∧ R (Itt K a) H1)
theorem pi_seq {X : Cx} {tg l : Expr} {tl : TE} (hl : PE X l tl) : PI X tg l (iSeq X.K tl) := by
  refine ⟨fun pins s σ H R I h => ?_⟩
  refine thn (hl.run pins s σ H _ I h) fun v s1 ⟨x, H1, I1, r1, q1⟩ => ?_
  rcases q1 with q1 | q1
  · obtain ⟨a, e, ⟨xs, hq⟩, q⟩ := q1
    subst e
    cases r1
    obtain ⟨its, rv, p, hz⟩ := I1.list hq
    refine wpAny_pyIter_list p.isList ?_
    refine ⟨s1.heap.objs.size, [s1.heap.objs.size], _, _, H1, rfl, I1.kept (t' := s1.toks) fun b o e => Heap.get?_push_of_some _ e, turn_list a _, ⟨_, Heap.get?_push_size _ rfl, rfl, rfl⟩, fun b hb => ?_, q⟩
    have e : b = s1.heap.objs.size := by simpa using hb
    subst e
    exact I1.fpOk (Nat.le_refl _) (I1.hok.fresh (Nat.le_refl _))
  · obtain ⟨a, e, ⟨xs, hq⟩, q⟩ := q1
    subst e
    cases r1
    obtain ⟨its, rv, p, hz⟩ := I1.tuple hq
    refine wpAny_pyIter_tuple (show s1.heap.IsTuple a its.toArray from p) ?_
    refine ⟨s1.heap.objs.size, [s1.heap.objs.size], _, _, H1, rfl, I1.kept (t' := s1.toks) fun b o e => Heap.get?_push_of_some _ e, turn_tuple a _, ⟨_, Heap.get?_push_size _ rfl, rfl, rfl⟩, fun b hb => ?_, q⟩
    have e : b = s1.heap.objs.size := by simpa using hb
    subst e
    exact I1.fpOk (Nat.le_refl _) (I1.hok.fresh (Nat.le_refl _))
def iSeqM (m : M D) : M (List D) := fun r => (m r).bind fun a => match a.1 with
  | .list ds => .ok (ds, a.2)
  | .tuple ds => .ok (ds, a.2)
  | _ => .no
noncomputable def iRng1M (m : M D) : M (List D) := fun r => (m r).bind fun a => match a.1 with
  | .int j => @ite _ (-(2 ^ 62) ≤ j ∧ j < 2 ^ 62) (Classical.propDecidable _) (.ok (rangeD 0 j.toNat, a.2)) .no
  | _ => .no
noncomputable def iRng2M (ms : M (List D)) : M (List D) := fun r => (ms r).bind fun a => match a.1 with
  | [.int i, .int j] => @ite _ (-(2 ^ 62) ≤ i ∧ i < 2 ^ 62 ∧ -(2 ^ 62) ≤ j ∧ j < 2 ^ 62) (Classical.propDecidable _) (.ok (rangeD i (j - i).toNat, a.2)) .no
  | _ => .no
def iEnumM (m : M D) : M (List D) := fun r => (m r).bind fun a => match a.1 with
  | .list ds => .ok (enumD 0 ds, a.2)
  | _ => .no
def iZipM (m n : M D) : M (List D) := fun r => (m r).bind fun a => (n a.2).bind fun b => match a.1, b.1 with
  | .list ds, .list es => .ok (zipD ds es, b.2)
  | _, _ => .no
section
variable {K : PySem.W.Frag} {tcK : TabC K} {E : WX} {te tf : TE} {m n : M D} {t : TA} {ms : M (List D)}
theorem absISeq (h : AbsD K E te m) : AbsI K E (iSeq K te) (iSeqM m) := by
  intro G as r σ H Q R w
  refine h G as r σ H _ R ((Wp.bind w).mono (fun a w1 => ?_) fun _ z => z)
  obtain ⟨d, r1⟩ := a
  intro G1 H1 v S1 R1 dv
  cases dv with
  | @lst a xs ds h1 h2 => exact .inl ⟨a, rfl, ⟨xs, R1.le.seq h1⟩, w1 G1 H1 _ S1 R1 (it_list h1 h2)⟩
  | @tup a xs ds h1 h2 => exact .inr ⟨a, rfl, ⟨xs, SqT.same R1.le h1⟩, w1 G1 H1 _ S1 R1 (it_tup h1 h2)⟩
  | non => exact w1.elim
  | bl _ => exact w1.elim
  | int _ => exact w1.elim
  | str _ => exact w1.elim
  | dic _ _ => exact w1.elim
theorem absIRng1 (h : AbsD K E te m) : AbsI K E (iRng1 (tCons te tNil)) (iRng1M m) := by
  intro G as r σ H Q R w
  refine h G as r σ H _ R (Wp.mono (Wp.bind w) (fun a w1 => ?_) fun _ z => z)
  obtain ⟨d, r1⟩ := a
  intro G1 H1 v S1 R1 dv
  cases d with
  | int j =>
    obtain rfl : v = .int j := dp_int dv
    have w1 : Wp (@ite _ (-(2 ^ 62) ≤ j ∧ j < 2 ^ 62) (Classical.propDecidable _) (Res.ok (rangeD 0 j.toNat, r1)) Res.no) (IPost K G as r σ H Q) (XPost K G as r σ H E) := w1
    split at w1
    · rename_i hj
      exact ⟨j, rfl, hj.1, hj.2, w1 G1 H1 _ S1 R1 it_range⟩
    · exact w1.elim
  | none => exact w1.elim
  | bool _ => exact w1.elim
  | str _ => exact w1.elim
  | list _ => exact w1.elim
  | tuple _ => exact w1.elim
  | dict _ => exact w1.elim
theorem absIRng2 (h : AbsA K E t ms) : AbsI K E (iRng2 t) (iRng2M ms) := by
  intro G as r σ H Q R w
  refine h G as r σ H _ R (Wp.mono (Wp.bind w) (fun a w1 => ?_) fun _ z => z)
  obtain ⟨ds, r1⟩ := a
  intro G1 H1 vs S1 R1 dv
  split at w1
  · rename_i i j e
    have e : ds = [.int i, .int j] := e
    subst e
    cases dv with
    | cons d1 dv => cases dv with
      | cons d2 dv => cases dv with
        | nil =>
          obtain rfl := dp_int d1
          obtain rfl := dp_int d2
          split at w1
          · rename_i hj
            exact ⟨i, j, rfl, hj, w1 G1 H1 _ S1 R1 it_range⟩
          · exact w1.elim
  · exact w1.elim
end
end DL
/-! # DL8: the rules as they are written of a text -/
namespace DL
open PySem PySem.Spec PyProof.Rows L2
/-- what a denotation asks, as a reading -/
def tE (K : PySem.W.Frag) [TabC K] (E : WX) (m : M RV) : TE := fun σ H Q => ∃ G as r, Rel K G as r σ H ∧ Wp (m r) (EPost K G as r σ H Q) (XPost K G as r σ H E)
def tD (K : PySem.W.Frag) [TabC K] (E : WX) (m : M D) : TE := fun σ H Q => ∃ G as r, Rel K G as r σ H ∧ Wp (m r) (DPost K G as r σ H Q) (XPost K G as r σ H E)
def tA (K : PySem.W.Frag) [TabC K] (E : WX) (m : M (List D)) : TA := fun σ H Q => ∃ G as r, Rel K G as r σ H ∧ Wp (m r) (APost K G as r σ H Q) (XPost K G as r σ H E)
def tAr (K : PySem.W.Frag) [TabC K] (E : WX) (m : M (List ASl)) : TA := fun σ H Q => ∃ G as r, Rel K G as r σ H ∧ Wp (m r) (ArPost K G as r σ H Q) (XPost K G as r σ H E)
def tT (K : PySem.W.Frag) [TabC K] (E : WX) (m : M Bool) : TT := fun σ H Q => ∃ G as r, Rel K G as r σ H ∧ Wp (m r) (TPost K G as r σ H Q) (XPost K G as r σ H E)
def tS (K : PySem.W.Frag) [TabC K] (E : WX) (m : SM) : TS := fun D σ H => ∃ G as r, Rel K G as r σ H ∧ Wp (m r) (SPost K G as r H D) (YPost K G as r H E)
def tI (K : PySem.W.Frag) [TabC K] (E : WX) (m : M (List D)) : TI := fun σ H Q => ∃ G as r, Rel K G as r σ H ∧ Wp (m r) (IPost K G as r σ H Q) (XPost K G as r σ H E)
def tO (K : PySem.W.Frag) [TabC K] (E : WX) (m : M (Option Int)) : TO := fun σ H Q => ∃ G as r, Rel K G as r σ H ∧ Wp (m r) (OPost K G as r σ H Q) (XPost K G as r σ H E)
def tG (K : PySem.W.Frag) [TabC K] (ws : List Nat) (b : BM) : TG := fun v σ H Q => ∃ G as r d, Rel K G as r σ H ∧ DP K G v d ∧ ∃ r', b d r = some r' ∧ ∀ σ', But ws σ σ' → Stp G as r H G as r' H → Rel K G as r' σ' H → Q σ' H
section
variable {K : PySem.W.Frag} {tcK : TabC K} {E : WX}
theorem sE (m : M RV) : AbsE K E (tE K E m) m := fun G as r σ H Q R w => ⟨G, as, r, R, w⟩
theorem sD (m : M D) : AbsD K E (tD K E m) m := fun G as r σ H Q R w => ⟨G, as, r, R, w⟩
theorem sA (m : M (List D)) : AbsA K E (tA K E m) m := fun G as r σ H Q R w => ⟨G, as, r, R, w⟩
theorem sAr (m : M (List ASl)) : AbsAr K E (tAr K E m) m := fun G as r σ H Q R w => ⟨G, as, r, R, w⟩
theorem sT (m : M Bool) : AbsT K E (tT K E m) m := fun G as r σ H Q R w => ⟨G, as, r, R, w⟩
theorem sS (m : SM) : AbsS K E (tS K E m) m := fun G as r σ H Q R w => ⟨G, as, r, R, w⟩
theorem sI (m : M (List D)) : AbsI K E (tI K E m) m := fun G as r σ H Q R w => ⟨G, as, r, R, w⟩
theorem sO (m : M (Option Int)) : AbsO K E (tO K E m) m := fun G as r σ H Q R w => ⟨G, as, r, R, w⟩
theorem sG (ws : List Nat) (b : BM) : AbsG K ws (tG K ws b) b := fun G as r σ H v d Q R h r' e q => ⟨G, as, r, d, R, h, r', e, q⟩
end
section
variable {X : Cx} {tcX : TabC X.K} {E : WX}
theorem wE {e : Expr} {t : TE} {m : M RV} (h : PE X e t) (a : AbsE X.K E t m) : PE X e (tE X.K E m) := ⟨fun pins s σ H Q I ⟨G, as, r, R, w⟩ => h.run pins s σ H Q I (a G as r σ H Q R w)⟩
theorem wD {e : Expr} {t : TE} {m : M D} (h : PE X e t) (a : AbsD X.K E t m) : PE X e (tD X.K E m) := ⟨fun pins s σ H Q I ⟨G, as, r, R, w⟩ => h.run pins s σ H Q I (a G as r σ H Q R w)⟩
theorem wT {e : Expr} {t : TT} {m : M Bool} (h : PT X e t) (a : AbsT X.K E t m) : PT X e (tT X.K E m) := ⟨fun pins s σ H Q I ⟨G, as, r, R, w⟩ => h.run pins s σ H Q I (a G as r σ H Q R w)⟩
theorem wW {e : Expr} {t : TT} {m : M Bool} (h : PW X e t) (a : AbsT X.K E t m) : PW X e (tT X.K E m) := ⟨fun wh pins s σ H Q I ⟨G, as, r, R, w⟩ => h.run wh pins s σ H Q I (a G as r σ H Q R w)⟩
theorem wA {es : List Expr} {t : TA} {m : M (List D)} (h : PA X es t) (a : AbsA X.K E t m) : PA X es (tA X.K E m) := ⟨fun pos pins s σ H Q I ⟨G, as, r, R, w⟩ => h.run pos pins s σ H Q I (a G as r σ H Q R w)⟩
theorem wAr {es : List Expr} {t : TA} {m : M (List ASl)} (h : PA X es t) (a : AbsAr X.K E t m) : PA X es (tAr X.K E m) := ⟨fun pos pins s σ H Q I ⟨G, as, r, R, w⟩ => h.run pos pins s σ H Q I (a G as r σ H Q R w)⟩
theorem wK {ks : List Keyword} {t : TA} {m : M (List ASl)} (h : PK X ks t) (a : AbsAr X.K E t m) : PK X ks (tAr X.K E m) := ⟨fun pos pins s σ H Q I ⟨G, as, r, R, w⟩ => h.run pos pins s σ H Q I (a G as r σ H Q R w)⟩
theorem wS {st : Stmt} {t : TS} {m : SM} (h : PS X st t) (a : AbsS X.K E t m) : PS X st (tS X.K E m) := ⟨fun pins s σ H Q I ⟨G, as, r, R, w⟩ => h.run pins s σ H Q I (a G as r σ H Q R w)⟩
theorem wSs {st : List Stmt} {t : TS} {m : SM} (h : PSs X st t) (a : AbsS X.K E t m) : PSs X st (tS X.K E m) := ⟨fun pins s σ H Q I ⟨G, as, r, R, w⟩ => h.run pins s σ H Q I (a G as r σ H Q R w)⟩
theorem wI {tg e : Expr} {t : TI} {m : M (List D)} (h : PI X tg e t) (a : AbsI X.K E t m) : PI X tg e (tI X.K E m) := ⟨fun pins s σ H Q I ⟨G, as, r, R, w⟩ => h.run pins s σ H Q I (a G as r σ H Q R w)⟩
theorem wO {e : Option Expr} {t : TO} {m : M (Option Int)} (h : PO X e t) (a : AbsO X.K E t m) : PO X e (tO X.K E m) := ⟨fun pins s σ H Q I ⟨G, as, r, R, w⟩ => h.run pins s σ H Q I (a G as r σ H Q R w)⟩
theorem wG {tg : Expr} {ws : List Nat} {t : TG} {b : BM} (h : PG X tg t) (a : AbsG X.K ws t b) : PG X tg (tG X.K ws b) :=
  ⟨fun pins s σ H v u Q I r ⟨G, as, ρ, d, R, hd, r', e, q⟩ => h.run pins s σ H v u Q I r (a G as ρ σ H v d Q R hd r' e q)⟩
/-! ### expressions -/
variable {a b c : Expr} {ma mb mc : M D} {m n : M RV} {pos p p2 apos cpos : Pos}
theorem d_int {i : Int} {j} : PE X (.Constant (.int i) j pos) (tD X.K E (dC (.int i))) := wD pe_int (absC fun _ => .int i)
theorem d_bl {i : Bool} {j} : PE X (.Constant (.bool i) j pos) (tD X.K E (dC (.bool i))) := wD pe_bl (absC fun _ => .bl i)
theorem d_non {j} : PE X (.Constant .none j pos) (tD X.K E (dC .none)) := wD pe_non (absC fun _ => .non)
theorem d_str {x : Str} {j} : PE X (.Constant (.str x) j pos) (tD X.K E (dC (.str x))) := wD pe_str (absC fun _ => .str x)
theorem d_var (i : Nat) {x : Str} (hN : X.N[i]? = some x := by rfl) (hv : Vis X.env.scope x := by first | exact Or.inl rfl | exact Or.inr (Or.inl rfl) | exact Or.inr (Or.inr rfl)) (hd : (x == ("__debug__" : Str)) = false := by decide)
    (hcd : (x == ("__classdict__" : Str)) = false := by decide) : PE X (.Name x pos) (tD X.K E (dVar i)) := wD (pe_var hN hv hd hcd) (absVar i)
theorem e_mov (i : Nat) {x : Str} (hN : X.N[i]? = some x := by rfl) (hv : Vis X.env.scope x := by first | exact Or.inl rfl | exact Or.inr (Or.inl rfl) | exact Or.inr (Or.inr rfl)) (hd : (x == ("__debug__" : Str)) = false := by decide)
    (hcd : (x == ("__classdict__" : Str)) = false := by decide) : PE X (.Name x pos) (tE X.K E (eMove i)) := wE (pe_var hN hv hd hcd) (absMove i)
theorem d_fz (h : PE X a (tE X.K E m)) : PE X a (tD X.K E (fz m)) := wD h (sE m).fz
theorem e_rv (h : PE X a (tD X.K E ma)) : PE X a (tE X.K E (ofD ma)) := wE h (sD ma).rv
theorem d_glob {x : Str} {v : V} {u : Value} {d : D} (hm : X.mg x = some u) (hr : RelV v u) (hd : ∀ G, DP X.K G v d) (hg : Gl X x := by rfl) (hdb : (x == ("__debug__" : Str)) = false := by decide) : PE X (.Name x pos) (tD X.K E (dC d)) := wD (pe_glob hg hm hr hdb) (absC hd)
theorem d_op {op : Operator} {r : R2} {f : D → D → Option D} (ho : OpR X (binaryOp op) r) (hr : A2 X.K r f) (ha : PE X a (tD X.K E ma)) (hb : PE X b (tD X.K E mb)) : PE X (.BinOp a op b pos) (tD X.K E (dOp f ma mb)) := wD (pe_op ho ha hb) (absOp (sD _) (sD _) hr)
theorem e_add (ha : PE X a (tD X.K E ma)) (hb : PE X b (tD X.K E mb)) : PE X (.BinOp a .Add b pos) (tE X.K E (eOp pAdd ma mb)) := wE (pe_op op_add3 ha hb) (absOpR (sD _) (sD _) a_add)
theorem e_mul (ha : PE X a (tE X.K E m)) (hb : PE X b (tD X.K E mb)) : PE X (.BinOp a .Mult b pos) (tE X.K E (eMul m mb)) := wE (pe_op op_mul2 ha hb) (absMul (sE _) (sD _))
theorem d_sub (ha : PE X a (tD X.K E ma)) (hb : PE X b (tD X.K E mb)) : PE X (.BinOp a .Sub b pos) (tD X.K E (dOp pSub ma mb)) := d_op op_sub a_sub ha hb
theorem d_div (ha : PE X a (tD X.K E ma)) (hb : PE X b (tD X.K E mb)) : PE X (.BinOp a .FloorDiv b pos) (tD X.K E (dOp pDiv ma mb)) := d_op op_fdivW a_div ha hb
theorem d_mod (ha : PE X a (tD X.K E ma)) (hb : PE X b (tD X.K E mb)) : PE X (.BinOp a .Mod b pos) (tD X.K E (dOp pMod ma mb)) := d_op op_mod a_mod ha hb
theorem d_pow (ha : PE X a (tD X.K E ma)) (hb : PE X b (tD X.K E mb)) : PE X (.BinOp a .Pow b pos) (tD X.K E (dOp pPow ma mb)) := d_op op_pow a_pow ha hb
theorem d_neg (ha : PE X a (tD X.K E ma)) : PE X (.UnaryOp .USub a pos) (tD X.K E (dUn pNeg ma)) := wD (pe_un un_neg ha) (absUn (sD _) a_neg)
/-- a comparison as a value, as a test -/
theorem d_cmp {op : CmpOp} {r : R2} {f : D → D → Option D} (ho : OpR X (compareOp op) r) (hr : A2 X.K r f) (ha : PE X a (tD X.K E ma)) (hb : PE X b (tD X.K E mb)) (hm : behindInMarks op b = false := by first | exact nomark _ | rfl) : PE X (.Compare a [op] [b] pos) (tD X.K E (dOp f ma mb)) :=
  wD (pe_cmpR ho ha hb hm) (absOp (sD _) (sD _) hr)
theorem t_cmp {op : CmpOp} {r : R2} {f : D → D → Option D} (ho : OpR X (compareOp op) r) (hr : A2 X.K r f) (ha : PE X a (tD X.K E ma)) (hb : PE X b (tD X.K E mb)) (hm : behindInMarks op b = false := by first | exact nomark _ | rfl) : PT X (.Compare a [op] [b] pos) (tT X.K E (tBl (dOp f ma mb))) :=
  wT (pt_cmpR ho ha hb hm) (absTest (absOp (sD _) (sD _) hr))
/-- an expression of a truth as a test -/
theorem t_val (h : PE X a (tD X.K E ma)) (he : ∀ whole, isTrue a X.env whole = (do let v ← whole; standAt a.pos; holding [v] (truthy v)) := by intro _; rfl) : PT X a (tT X.K E (tBl ma)) := wT (pt_val h he) (absTest (sD _))
variable {ta tb : M Bool} {es rest : List Expr}
theorem w_and1 (ha : PT X a (tT X.K E ta)) : PW X (.BoolOp .And [a] pos) (tT X.K E ta) := pw_and1 ha
theorem w_or1 (ha : PT X a (tT X.K E ta)) : PW X (.BoolOp .Or [a] pos) (tT X.K E ta) := pw_or1 ha
theorem w_and (ha : PT X a (tT X.K E ta)) (hb : PW X (.BoolOp .And (b :: rest) pos) (tT X.K E tb)) : PW X (.BoolOp .And (a :: b :: rest) pos) (tT X.K E (tAndM ta tb)) := wW (pw_and ha hb) (absAnd (sT _) (sT _))
theorem w_or (ha : PT X a (tT X.K E ta)) (hb : PW X (.BoolOp .Or (b :: rest) pos) (tT X.K E tb)) : PW X (.BoolOp .Or (a :: b :: rest) pos) (tT X.K E (tOrM ta tb)) := wW (pw_or ha hb) (absOr (sT _) (sT _))
theorem t_w (h : PW X a (tT X.K E ta)) : PT X a (tT X.K E ta) := h.pt
theorem t_not (h : PT X a (tT X.K E ta)) : PT X (.UnaryOp .Not a pos) (tT X.K E (tNotM ta)) := wT (pt_not h) (absNot (sT _))
/-- and, or, not of truths as values -/
def dAnd (m n : M D) : M D := fun r => (m r).bind fun a => match a.1 with
  | .bool true => n a.2
  | .bool false => .ok (.bool false, a.2)
  | _ => .no
def dOr (m n : M D) : M D := fun r => (m r).bind fun a => match a.1 with
  | .bool true => .ok (.bool true, a.2)
  | .bool false => n a.2
  | _ => .no
def dNot (m : M D) : M D := fun r => (m r).bind fun a => match a.1 with
  | .bool b => .ok (.bool (!b), a.2)
  | _ => .no
theorem absAndV {K : PySem.W.Frag} {tcK : TabC K} {E : WX} {ta tb : TE} {ma mb : M D} (ha : AbsD K E ta ma) (hb : AbsD K E tb mb) : AbsD K E (tAndV ta tb) (dAnd ma mb) := by
  intro G as r σ H Q R w
  refine ha G as r σ H _ R ((Wp.bind w).mono (fun a w1 => ?_) fun _ z => z)
  obtain ⟨d, r1⟩ := a
  intro G1 H1 v S1 R1 dv
  cases d with
  | bool b =>
    obtain rfl := dp_bool dv
    refine ⟨b, rfl, ?_⟩
    cases b with
    | true => rw [if_pos rfl]; exact hb G1 as r1 σ H1 Q R1 (Wp.mono w1 (fun a z => DPost.on R1 S1 z) fun _ z => XPost.on R1 S1 z)
    | false => rw [if_neg Bool.false_ne_true]; exact w1 G1 H1 _ S1 R1 (.bl _)
  | none => exact w1.elim
  | int _ => exact w1.elim
  | str _ => exact w1.elim
  | list _ => exact w1.elim
  | tuple _ => exact w1.elim
  | dict _ => exact w1.elim
theorem absNotV {K : PySem.W.Frag} {tcK : TabC K} {E : WX} {ta : TE} {ma : M D} (ha : AbsD K E ta ma) : AbsD K E (tNotV ta) (dNot ma) := by
  intro G as r σ H Q R w
  refine ha G as r σ H _ R ((Wp.bind w).mono (fun a w1 => ?_) fun _ z => z)
  obtain ⟨d, r1⟩ := a
  intro G1 H1 v S1 R1 dv
  cases d with
  | bool b =>
    obtain rfl := dp_bool dv
    exact ⟨b, rfl, w1 G1 H1 _ S1 R1 (.bl _)⟩
  | none => exact w1.elim
  | int _ => exact w1.elim
  | str _ => exact w1.elim
  | list _ => exact w1.elim
  | tuple _ => exact w1.elim
  | dict _ => exact w1.elim
theorem d_one {op} (h : PE X a (tD X.K E ma)) : PE X (.BoolOp op [a] pos) (tD X.K E ma) := pe_one h
theorem d_and (ha : PE X a (tD X.K E ma)) (hb : PE X (.BoolOp .And (b :: rest) pos) (tD X.K E mb)) : PE X (.BoolOp .And (a :: b :: rest) pos) (tD X.K E (dAnd ma mb)) := wD (pe_and ha hb) (absAndV (sD _) (sD _))
theorem d_not (ha : PE X a (tD X.K E ma)) : PE X (.UnaryOp .Not a pos) (tD X.K E (dNot ma)) := wD (pe_not ha) (absNotV (sD _))
/-! ### lists, tuples, items, slices -/
variable {ms mk : M (List D)} {mr mkr : M (List ASl)}
theorem a_nil : PA X [] (tA X.K E dNil) := wA pa_nil absNil
theorem a_cons (ha : PE X a (tD X.K E ma)) (hs : PA X es (tA X.K E ms)) (h : starEach (a :: es) X.env = (false, eval a X.env) :: starEach es X.env := by rfl) : PA X (a :: es) (tA X.K E (dCons ma ms)) := wA (pa_cons ha hs h) (absCons (sD _) (sA _))
theorem e_lst (h : PA X es (tA X.K E ms)) : PE X (.List es pos) (tE X.K E (eLst ms)) := wE (pe_lst h) (absLst (sA _))
theorem d_tup {x1} (h : PA X es (tA X.K E ms)) : PE X (.Tuple es x1 pos) (tD X.K E (dTup ms)) := wD (pe_tup h) (absTup (sA _))
theorem d_ix (ha : PE X a (tD X.K E ma)) (hb : PE X b (tD X.K E mb)) (hs : PlainIx b := by exact fun _ _ => rfl) : PE X (.Subscript a b pos) (tD X.K E (dOp pIx ma mb)) := wD (pe_ix ix_seq ha hb hs) (absOp (sD _) (sD _) a_ix)
theorem d_ixO (i : Nat) {x : Str} (hb : PE X b (tD X.K E mb)) (hs : PlainIx b := by exact fun _ _ => rfl) (hN : X.N[i]? = some x := by rfl) (hv : Vis X.env.scope x := by first | exact Or.inl rfl | exact Or.inr (Or.inl rfl) | exact Or.inr (Or.inr rfl)) (hd : (x == ("__debug__" : Str)) = false := by decide)
    (hcd : (x == ("__classdict__" : Str)) = false := by decide) : PE X (.Subscript (.Name x p) b pos) (tD X.K E (dIxO i mb)) := wD (pe_ix ix_seq (pe_var hN hv hd hcd) hb hs) (absIxO (sD _))
theorem o_none : PO X none (tO X.K E oNone) := wO po_none absONone
theorem o_some (h : PE X a (tD X.K E ma)) : PO X (some a) (tO X.K E (oSome ma)) := wO (po_some h) (absOSome (sD _))
theorem e_cut {lo hi : Option Expr} {l h : M (Option Int)} (ha : PE X a (tD X.K E ma)) (hl : PO X lo (tO X.K E l)) (hh : PO X hi (tO X.K E h)) : PE X (.Subscript a (.Slice lo hi none p2) pos) (tE X.K E (eCut ma l h)) :=
  wE (pe_slice (sl_list.or sl_tupA) ha hl hh) (absCut (sD _) (sO _) (sO _))
/-! ### defs called -/
/-- the promise of a def that lets no exception out -/
theorem ar_nil : PA X [] (tAr X.K E arNil) := wAr pa_nil absArNil
theorem ar_v (ha : PE X a (tD X.K E ma)) (hs : PA X es (tAr X.K E mr)) (h : starEach (a :: es) X.env = (false, eval a X.env) :: starEach es X.env := by rfl) : PA X (a :: es) (tAr X.K E (arV ma mr)) := wAr (pa_cons ha hs h) (absArV (sD _) (sAr _))
theorem ar_r (i : Nat) {x : Str} (hs : PA X es (tAr X.K E mr)) (h : starEach (.Name x p :: es) X.env = (false, eval (.Name x p) X.env) :: starEach es X.env := by rfl) (hN : X.N[i]? = some x := by rfl) (hv : Vis X.env.scope x := by first | exact Or.inl rfl | exact Or.inr (Or.inl rfl) | exact Or.inr (Or.inr rfl)) (hd : (x == ("__debug__" : Str)) = false := by decide)
    (hcd : (x == ("__classdict__" : Str)) = false := by decide) : PA X (.Name x p :: es) (tAr X.K E (arR i mr)) := wAr (pa_cons (pe_var hN hv hd hcd) hs h) (absArR (sAr _))
theorem k_nil : PK X [] (tAr X.K E arNil) := wK pk_nil absArNil
theorem k_v {nm : Option Str} {kpos : Pos} {kws : List Keyword} (ha : PE X a (tD X.K E ma)) (hs : PK X kws (tAr X.K E mr)) : PK X (⟨nm, a, kpos⟩ :: kws) (tAr X.K E (arV ma mr)) := wK (pk_cons ha hs) (absArV (sD _) (sAr _))
/-! ### statements -/
section
variable {K : PySem.W.Frag} {tcK : TabC K} {st : Stmt} {rest body : List Stmt} {s1 s2 : SM}
theorem b_nil : PSs X [] (tS X.K E sNext) := wSs pss_nil absNext
theorem b_cons (h1 : PS X st (tS X.K E s1)) (h2 : PSs X rest (tS X.K E s2)) : PSs X (st :: rest) (tS X.K E (sSeq s1 s2)) := wSs (pss_cons h1 h2) (absSeq (sS _) (sS _))
theorem b_one (h : PS X st (tS X.K E s1)) : PSs X [st] (tS X.K E s1) := pss_one h
theorem s_never : PS X st (tS X.K E sNever) := wS ps_never absNever
theorem s_ret (h : PE X a (tE X.K E m)) : PS X (.Return (some a) pos) (tS X.K E (sRet m)) := wS (ps_ret h) (absRet (sE _))
theorem s_if {bd be : List Stmt} (hc : PT X c (tT X.K E ta)) (h1 : PSs X bd (tS X.K E s1)) (h2 : PSs X be (tS X.K E s2)) : PS X (.If c bd be pos) (tS X.K E (sIf ta s1 s2)) := wS (ps_if hc h1 h2) (absIfS (sT _) (sS _) (sS _))
theorem s_while (hp : PassesOwn (model X.prog X.w) X.A X.env X.xe) (hc : PT X c (tT X.K E ta)) (h : PSs X body (tS X.K E s1)) : PS X (.While c body [] pos) (tS X.K E (sWhile ta s1)) := wS (ps_while hp hc h) (absWhile (sT _) (sS _))
/-! targets -/
variable {ws us : List Nat} {bm : BM} {bms : BMs} {tg : Expr} {tgs : List Expr}
def tGs (K : PySem.W.Frag) [TabC K] (ws : List Nat) (b : BMs) : TGs := fun vs σ H Q => ∃ G as r ds, Rel K G as r σ H ∧ DPs K G vs ds ∧ ∃ r', b ds r = some r' ∧ ∀ σ', But ws σ σ' → Stp G as r H G as r' H → Rel K G as r' σ' H → Q σ' H
theorem sGs (ws : List Nat) (b : BMs) : AbsGs K ws (tGs K ws b) b := fun G as r σ H v d Q R h r' e q => ⟨G, as, r, d, R, h, r', e, q⟩
theorem wGs {t : TGs} (h : PGs X tgs t) (a : AbsGs X.K ws t bms) : PGs X tgs (tGs X.K ws bms) :=
  ⟨fun pins s σ H v u Q I r ⟨G, as, ρ, d, R, hd, r', e, q⟩ => h.run pins s σ H v u Q I r (a G as ρ σ H v d Q R hd r' e q)⟩
theorem g_nil : PGs X [] (tGs X.K [] bNil) := wGs pgs_nil absGNil
theorem g_cons (h1 : PG X tg (tG X.K ws bm)) (h2 : PGs X tgs (tGs X.K us bms)) (hs : (assignEach (tg :: tgs) X.env).map (·.2) = assign tg X.env :: (assignEach tgs X.env).map (·.2) := by rfl) : PGs X (tg :: tgs) (tGs X.K (ws ++ us) (bCons bm bms)) :=
  wGs (pgs_cons h1 h2 hs) (absGCons (sG _ _) (sGs _ _))
end
end
end DL
/-! # DL9: calls with keywords, calls with a new thing, pure denotations, methods of lists -/
namespace DL
open PySem PySem.Spec PyProof.Rows L2
/-! ### keywords -/
/-- f(e, .., k = v, ..): what is raised is wished for at the slots as they are -/
def tCallNS (n m : Nat) (sp : Sp) (gV : List V → List V → List V) (E : L2.St → XK) (t tk : TA) : TE := fun σ H Q => t σ H fun vs H1 => tk σ H1 fun zs H2 => vs.length = n ∧ zs.length = m ∧ sp (gV vs zs) H2 Q (E σ)
section
variable {X : Cx} {k n : Nat} {f : Addr} {fd : FuncData} {ps ks : List Str} {sp : Sp} {E : L2.St → XK} {x : Str} {p pos : Pos} {e : Expr} {es : List Expr} {kws : List Keyword} {t tk : TA} {g : List Value → List Value → List Value} {gV : List V → List V → List V}
theorem run_kwS {pins : List (Addr × Obj)} {σ : L2.St} {H : Hp} {s : Shared} {Q : VK} {us ws : List Value} {vs zs : List V} (F : FnG X.prog X.w X.K X.mg X.base k f fd ps sp) (hr : RoomG k X.A) (hb : KBn X.K fd ps n ks g gV) (hx : PassesAt (L2.CX X.prog X.w) X σ (E σ))
    (I : Inv X pins σ H s) (r : Vals vs us) (rz : Vals zs ws) (l1 : vs.length = n) (l2 : zs.length = ks.length) (h : sp (gV vs zs) H Q (E σ)) : wpAny (model X.prog X.w) X.A (call (.ref f) us (ks.zip ws)) (EP X pins σ Q) X.xe s := by
  have rr := hb.rel r rz
  refine wpAny_call (codeAny_mono (F.run X.A X.stack s H ⟨us, ks.zip ws⟩ (g us ws) (gV vs zs) Q (E σ) hr I.env0 (hb.to s us ws I.kIn (r.length.symm.trans l1) (rz.length.symm.trans l2)) rr h) fun re s' hq => ?_)
  match re, hq with
  | .error er, hq => exact hx pins H s er s' I hq
  | .ok (.ret u), hq => exact I.after hq
  | .ok .next, hq => exact (show False from hq).elim
  | .ok .brk, hq => exact (show False from hq).elim
  | .ok .cont, hq => exact (show False from hq).elim
theorem pe_callNS (F : FnG X.prog X.w X.K X.mg X.base k f fd ps sp) (hr : RoomG k X.A) (hg : Gl X x) (hm : X.mg x = some (.ref f)) (hk : PySem.W.keepIn X.K (.ref f) = true) (hb : KBn X.K fd ps n ks g gV) (hx : ∀ σ, PassesAt (L2.CX X.prog X.w) X σ (E σ))
    (ha : PA X (e :: es) t) (hkw : PK X kws tk) (hall : (backToKw pos (keywordEach kws X.env)).all (·.1.isSome) = true := by rfl) (hks : (backToKw pos (keywordEach kws X.env)).filterMap (·.1) = ks := by rfl)
    (hdb : (x == ("__debug__" : Str)) = false := by decide) (he : starEach (e :: es) X.env = (false, eval e X.env) :: starEach es X.env := by rfl)
    (hpl : ((backTo pos (starEach (e :: es) X.env)).any (·.1) || (backToKw pos (keywordEach kws X.env)).any (·.1.isNone)) = false := by rfl) :
    PE X (.Call (.Name x p) (e :: es) kws pos) (tCallNS n ks.length sp gV E t tk) := by
  refine ⟨fun pins s σ H Q I h => wpAny_Call_Name_kw (ld_glob I hg hm ?_ hdb)⟩
  refine PySem.W.callWith_KW (h₀ := X.base) I.ok.mod.kin hk hall (thn (ha.run pos pins s σ H _ I h) fun us s1 ⟨vs, H1, I1, r1, q1⟩ => ?_) hpl he
  refine thn (hkw.run pos pins s1 σ H1 _ I1 q1) fun ws s2 ⟨zs, H2, I2, r2, l1, l2, q2⟩ => ⟨I2.kIn, ?_⟩
  rw [hks]
  exact run_kwS F hr hb (hx σ) I2 r1 r2 l1 l2 q2
end
def eCallK (n a b : Nat) (ix : List Nat) (f : Den) (ms mk : M (List ASl)) : M RV := fun r => (ms r).bind fun u => (mk u.2).bind fun v => if u.1.length = a ∧ v.1.length = b ∧ (pick ix (u.1 ++ v.1)).length = n then ((ofO (mkA (pick ix (u.1 ++ v.1)) v.2)).bind fun sl => backX (pick ix (u.1 ++ v.1)) v.2 (f sl)) else .no
section
variable {K : PySem.W.Frag} {tcK : TabC K} {E : WX} {t tk : TA} {ms mk : M (List ASl)}
theorem absCallK {n a b : Nat} {ix : List Nat} {f : Den} (hs : AbsAr K E t ms) (hk : AbsAr K E tk mk) : AbsE K E (tCallNS a b (spM K n f) (fun vs zs => pick ix (vs ++ zs)) (WE E) t tk) (eCallK n a b ix f ms mk) := by
  intro G as r σ H Q R w
  refine hs G as r σ H _ R ((Wp.bind w).mono (fun u w1 => ?_) fun _ z => z)
  intro G1 H1 vs S1 R1 hv
  refine hk G1 as u.2 σ H1 _ R1 ((Wp.bind w1).mono (fun v w2 => ?_) fun _ z => XPost.on R1 S1 z)
  intro G2 H2 zs S2 R2 hz
  split at w2
  · rename_i hc
    refine ⟨hv.length.trans hc.1, hz.length.trans hc.2.1, ?_⟩
    exact call_core (S1.trans R1 S2) R2 (((hv.mono S2.g).append hz).pick ix) (by rw [if_pos hc.2.2]; exact w2)
  · exact w2.elim
end
/-- how keywords bind by places -/
theorem kbn_ix {K : PySem.W.Frag} {fd : FuncData} {ps ks : List Str} {n : Nat} {ix : List Nat} (h : ∀ us ws : List Value, us.length = n → ws.length = ks.length → bindArgs fd ⟨us, ks.zip ws⟩ = pure (ps.zip (pick ix (us ++ ws)))) :
    KBn K fd ps n ks (fun us ws => pick ix (us ++ ws)) (fun vs zs => pick ix (vs ++ zs)) :=
  ⟨fun s us ws _ l1 l2 => .of_eq (h us ws l1 l2), fun r1 r2 => vals_pick (r1.append r2) ix⟩
/-! ### f(e, ..), e a new thing that f changes -/
def valsOf : List ASl → Option (List Sl)
  | [] => some []
  | .val d :: l => (valsOf l).map (.val d :: ·)
  | .ref _ :: _ => none
def leaveX {α : Type} (r : Rho) : Res (α × List Sl) → Res (α × Rho)
  | .ok c => .ok (c.1, r)
  | .ex x => .ex (x.1, r)
  | .no => .no
def eCallT (n : Nat) (f : Den) (m : M RV) (ms : M (List ASl)) : M RV := fun r => (m r).bind fun a => match a.1 with
  | .own o => (ms a.2).bind fun b => if b.1.length + 1 = n then ((ofO (valsOf b.1)).bind fun sl => leaveX b.2 (f (.own true o :: sl))) else .no
  | .val _ => .no
section
variable {K : PySem.W.Frag} {tcK : TabC K} {E : WX} {te : TE} {t : TA} {m : M RV} {ms : M (List ASl)}
end
/-! ### pure denotations -/
theorem bind_ok {α β : Type} {m : Res α} {f : α → Res β} {b : β} (h : m.bind f = .ok b) : ∃ a, m = .ok a ∧ f a = .ok b := by
  cases m with
  | ok a => exact ⟨a, rfl, h⟩
  | ex x => cases h
  | no => cases h
instance pu_C (d : D) : PureM (dC d) := ⟨fun r a h => by cases h; rfl⟩
instance pu_Val (i : Nat) : PureM (dVal i) := ⟨fun r a h => by
  unfold dVal at h
  split at h
  · cases h; rfl
  · cases h⟩
instance pu_Op (f : D → D → Option D) (ma mb : M D) [ha : PureM ma] [hb : PureM mb] : PureM (dOp f ma mb) := ⟨fun r a h => by
  obtain ⟨u, h1, h2⟩ := bind_ok h
  obtain ⟨v, h3, h4⟩ := bind_ok h2
  obtain ⟨d, h5, h6⟩ := bind_ok h4
  cases h6
  show v.2 = r
  rw [hb.pure _ _ h3, ha.pure _ _ h1]⟩
instance pu_eOp (f : D → D → Option RV) (ma mb : M D) [ha : PureM ma] [hb : PureM mb] : PureM (eOp f ma mb) := ⟨fun r a h => by
  obtain ⟨u, h1, h2⟩ := bind_ok h
  obtain ⟨v, h3, h4⟩ := bind_ok h2
  obtain ⟨d, h5, h6⟩ := bind_ok h4
  cases h6
  show v.2 = r
  rw [hb.pure _ _ h3, ha.pure _ _ h1]⟩
instance pu_Un (f : D → Option D) (ma : M D) [ha : PureM ma] : PureM (dUn f ma) := ⟨fun r a h => by
  obtain ⟨u, h1, h2⟩ := bind_ok h
  obtain ⟨v, h3, h4⟩ := bind_ok h2
  cases h4
  show u.2 = r
  exact ha.pure _ _ h1⟩
instance pu_fz (m : M RV) [ha : PureM m] : PureM (fz m) := ⟨fun r a h => by
  obtain ⟨u, h1, h2⟩ := bind_ok h
  obtain ⟨v, h3, h4⟩ := bind_ok h2
  cases h4
  exact ha.pure _ _ h1⟩
instance pu_ofD (m : M D) [ha : PureM m] : PureM (ofD m) := ⟨fun r a h => by
  obtain ⟨u, h1, h2⟩ := bind_ok h
  cases h2
  exact ha.pure _ _ h1⟩
instance pu_Nil : PureM dNil := ⟨fun r a h => by cases h; rfl⟩
instance pu_Cons (ma : M D) (ms : M (List D)) [ha : PureM ma] [hb : PureM ms] : PureM (dCons ma ms) := ⟨fun r a h => by
  obtain ⟨u, h1, h2⟩ := bind_ok h
  obtain ⟨v, h3, h4⟩ := bind_ok h2
  cases h4
  show v.2 = r
  rw [hb.pure _ _ h3, ha.pure _ _ h1]⟩
instance pu_CB (f : List D → Option D) (ms : M (List D)) [ha : PureM ms] : PureM (dCB f ms) := ⟨fun r a h => by
  obtain ⟨u, h1, h2⟩ := bind_ok h
  obtain ⟨v, h3, h4⟩ := bind_ok h2
  cases h4
  exact ha.pure _ _ h1⟩
instance pu_eCB (f : List D → Option RV) (ms : M (List D)) [ha : PureM ms] : PureM (eCB f ms) := ⟨fun r a h => by
  obtain ⟨u, h1, h2⟩ := bind_ok h
  obtain ⟨v, h3, h4⟩ := bind_ok h2
  cases h4
  exact ha.pure _ _ h1⟩
instance pu_Tup (ms : M (List D)) [ha : PureM ms] : PureM (dTup ms) := ⟨fun r a h => by
  obtain ⟨u, h1, h2⟩ := bind_ok h
  split at h2
  · cases h2; exact ha.pure _ _ h1
  · cases h2⟩
instance pu_Lst (ms : M (List D)) [ha : PureM ms] : PureM (eLst ms) := ⟨fun r a h => by
  obtain ⟨u, h1, h2⟩ := bind_ok h
  split at h2
  · cases h2; exact ha.pure _ _ h1
  · cases h2⟩
instance pu_Not (m : M D) [ha : PureM m] : PureM (dNot m) := ⟨fun r a h => by
  obtain ⟨u, h1, h2⟩ := bind_ok h
  split at h2
  · cases h2
    show u.2 = r
    exact ha.pure _ _ h1
  · cases h2⟩
/-- arguments that are data alone -/
class PureAr (m : M (List ASl)) : Prop where
  pure : ∀ r a, m r = .ok a → a.2 = r ∧ ∀ (j i : Nat), a.1[j]? ≠ some (.ref i)
instance pr_Nil : PureAr arNil := ⟨fun r a h => by cases h; exact ⟨rfl, fun j i z => by simp at z⟩⟩
instance pr_V (m : M D) (ms : M (List ASl)) [ha : PureM m] [hb : PureAr ms] : PureAr (arV m ms) := ⟨fun r a h => by
  obtain ⟨u, h1, h2⟩ := bind_ok h
  obtain ⟨v, h3, h4⟩ := bind_ok h2
  cases h4
  obtain ⟨k1, k2⟩ := hb.pure _ _ h3
  refine ⟨?_, fun j i z => ?_⟩
  · show v.2 = r
    rw [k1, ha.pure _ _ h1]
  · cases j with
    | zero => simp at z
    | succ j => exact k2 j i (by simpa using z)⟩
theorem wb_pure : ∀ (l : List ASl) (s : List Sl) (r : Rho), (∀ (j i : Nat), l[j]? ≠ some (.ref i)) → wb l s r = r
  | [], s, r, _ => by unfold wb; rfl
  | .val d :: l, [], r, _ => rfl
  | .val d :: l, x :: s, r, h => by
    have : wb (.val d :: l) (x :: s) r = wb l s r := by cases x <;> rfl
    rw [this]
    exact wb_pure l s r fun j i => by simpa using h (j + 1) i
  | .ref i :: l, s, r, h => absurd rfl (h 0 i)
instance pu_Call (n : Nat) (f : Den) (ms : M (List ASl)) [hb : PureAr ms] : PureM (eCall n f ms) := ⟨fun r a h => by
  obtain ⟨u, h1, h2⟩ := bind_ok h
  obtain ⟨k1, k2⟩ := hb.pure _ _ h1
  split at h2
  · obtain ⟨sl, h3, h4⟩ := bind_ok h2
    unfold backX at h4
    split at h4
    · rename_i c _
      cases h4
      show wb u.1 c.2 u.2 = r
      rw [wb_pure _ _ _ k2, k1]
    · cases h4
    · cases h4
  · cases h2⟩
instance pu_Bor (i : Nat) (m : M D) : PureM (dBorrow i fun r => noEx (m r)) := ⟨fun r a h => by
  unfold dBorrow at h
  split at h
  · split at h
    · obtain ⟨u, h1, h2⟩ := bind_ok h
      split at h2
      · cases h2; rfl
      · cases h2
    · cases h
  · cases h⟩
/-! ### methods of lists -/
def mApp : List D → List D → Option (D × List D) := fun ds es => match es with
  | [d] => if ds.length < 16777216 then some (.none, ds ++ [d]) else none
  | _ => none
theorem am_app {K : PySem.W.Frag} : AM K rAppend mApp := by
  intro G H p xs ds ys es Q le hp hg hd he d ds' e q
  cases he with
  | nil => cases e
  | cons h1 h2 =>
    cases h2 with
    | cons _ _ => cases e
    | nil =>
      rename_i v d0
      have e : (if ds.length < 16777216 then some (PyData.none, ds ++ [d0]) else none) = some (d, ds') := e
      split at e
      · rename_i hl
        cases e
        exact ⟨p, xs, v, rfl, rfl, hp, by rw [sizeLine_eq, hd.length]; exact hl, q _ _ .non (hd.snoc h1)⟩
      · cases e
end DL
/-! # DLA: the end -/
namespace DL
open PySem PySem.Spec PyProof.Rows L2
theorem fun_kbn {K : PySem.W.Frag} {x qual : Str} {st : Stmt} {f : Addr} {fd : FuncData} {ps ks : List Str} {n : Nat} {ix : List Nat} (F : Fun K x qual st f fd)
    (h : ∀ (kV doc pm : Value) (an : Option Addr) (cdv ct : Value) (us ws : List Value), us.length = n → ws.length = ks.length → bindArgs (PySem.W.fnOf x qual (defArgs st) (defBody st) (defScope st) .none kV doc pm an cdv ct) ⟨us, ks.zip ws⟩ = pure (ps.zip (pick ix (us ++ ws)))) :
    KBn K fd ps n ks (fun us ws => pick ix (us ++ ws)) (fun vs zs => pick ix (vs ++ zs)) := by
  obtain ⟨oc, od, kV, doc, pm, an, cdv, ct, osl, rfl, lk, hcd⟩ := F.ex
  exact kbn_ix (h kV doc pm an cdv ct)
/-- the heap without its tables -/
def noTab (H : Hp) : Hp := fun a => match H a with
  | some (.tbl _) => none
  | o => o
theorem noTab_same (H : Hp) : Same (noTab H) H := fun a o e => by
  unfold noTab at e
  split at e
  · cases e
  · exact e
theorem noTab_of {H : Hp} {a : Addr} {o : HO} (h : H a = some o) (n : ∀ ps, o ≠ .tbl ps) : noTab H a = some o := by
  unfold noTab
  rw [h]
  cases o <;> first | rfl | exact absurd rfl (n _)
/-- the law's def, called with the script, gives True -/
theorem law_sp {K : PySem.W.Frag} {tcK : TabC K} {f : Den} {H : Hp} {a : Addr} {ns : List Int} (hT : LamX.Tabs (TabC.T K) H) (hS : SqL K H a (ns.map V.int)) (h : ∃ r', f [.val (.list (ns.map .int))] = .ok (.val (.bool true), r')) : spM K 1 f [.ref a] H (fun v _ => v = .bl true) fun _ _ _ => False := by
  obtain ⟨r', e⟩ := h
  have hS' : SqL K (noTab H) a (ns.map V.int) := by
    rcases hS with (q | ⟨o, q⟩) | q
    · exact .inl (.inl (noTab_of q fun _ z => nomatch z))
    · exact .inl (.inr ⟨o, noTab_of q fun _ z => nomatch z⟩)
    · exact .inr q
  refine ⟨rfl, noTab H, fun _ => 0, [.val (.list (ns.map .int))], ⟨noTab_same H, rfl, fun i d e => ?_, fun i p o e => ?_, fun i j p o q u e => ?_, ⟨hT, fun p hp => by
    obtain ⟨ps, h1, _⟩ := hT p hp
    unfold noTab
    simp [h1], fun a ps z => by
    unfold noTab at z
    split at z
    · cases z
    · rename_i hn
      exact hn ps z⟩, fun i x e => by cases i <;> simp at e⟩, fun i o e => ?_, ?_⟩
  · cases i with
    | zero => simp at e; subst e; exact ⟨_, rfl, .lst hS' (DPs.of_ints ns)⟩
    | succ i => simp at e
  · cases i <;> simp at e
  · cases i <;> simp at e
  · cases i <;> simp at e
  · rw [e]
    intro G' H' v S' R' hv
    exact dp_bool hv
/-- the tables of the code objects whose defs hold lambdas: cs, code object, table, the lambda's name -/
abbrev tabL (K : PySem.W.Frag) (cs : List (Addr × Addr × Str)) : TabC K := ⟨cs.map fun p => (p.2.1, p.2.2), errAt K, 0, 0, ""⟩
theorem law_walkG {f : Den} {k : Nat} {x : Str} {l : PySem.W.OpenLaw} {q : Program} {loose : List Str} {XP : (Str → Option Value) → Heap → Prop} {YP : World → Heap → Prop} {d : DefRec} {K : Params → PySem.W.Frag} (hf : ∀ ns : List Int, ns.length ≤ 63 → (∀ z ∈ ns, Builtin.Int.intBits z ≤ 1048576) → ∃ r', f [.val (.list (ns.map .int))] = .ok (.val (.bool true), r'))
    (hn : l.most = some 63) (hdf : d.params.defaults = []) (hr : RoomG k callerA)
    (hY : ∀ (w : World) (h : Heap), YP w h → (K w.params).In h)
    (F : ∀ (w : World) (mg : Str → Option Value) (fa : Addr) (h : Heap), YP w h → (K w.params).In h → h.Ns mainGlobals mg → mg d.name = some (.ref fa) →
      ∃ (fd : FuncData) (cs : List (Addr × Addr × Str)), (∀ p ∈ cs, h.get? p.2.1 = some { cls := .none, data := .fields #[] }) ∧ (∀ p ∈ cs, (K w.params).lookup p.2.1 = none) ∧ (∀ p ∈ cs, PySem.W.CodeHd h p.1 p.2.1) ∧ (∀ (s : Shared) (u : Value), BindsTo s fd ⟨[u], []⟩ [(x, u)]) ∧
        ∀ base : Heap, (K w.params).In base → base.Ns mainGlobals mg → (∀ p ∈ cs, LamX.TabB base mg p.1 p.2.1) → FnG l.prog w (K w.params) mg base k fa fd [x] (@spM (K w.params) (tabL (K w.params) cs) 1 f)) :
    PySem.W.WalkO q loose XP YP l.row.toRowW d [] (fun f vs => PySem.call f vs) := by
  refine walk_ofG (n := 63) (k := k) (x := x) hn (by decide) hdf hr hY fun w mg fa h Y KX N hmg => ?_
  obtain ⟨fd, cs, h1, h2, h3, h4, h5⟩ := F w mg fa h Y KX N hmg
  have up : ∀ {P : Addr × Addr → Prop}, (∀ p ∈ cs, P (p.1, p.2.1)) → ∀ p ∈ cs.map (fun p => (p.1, p.2.1)), P p := fun hp p hm => by
    obtain ⟨q, hq, rfl⟩ := List.mem_map.mp hm
    exact hp q hq
  have dn : ∀ {P : Addr × Addr → Prop}, (∀ p ∈ cs.map (fun p => (p.1, p.2.1)), P p) → ∀ p ∈ cs, P (p.1, p.2.1) := fun hp p hm => hp _ (List.mem_map.mpr ⟨p, hm, rfl⟩)
  refine ⟨fd, cs.map fun p => (p.1, p.2.1), @spM (K w.params) (tabL (K w.params) cs) 1 f, up (P := fun p => h.get? p.2 = some { cls := .none, data := .fields #[] }) h1, up (P := fun p => (K w.params).lookup p.2 = none) h2, up (P := fun p => PySem.W.CodeHd h p.1 p.2) h3, h4, fun H a ns hl hb hT hS => ?_, fun base X G T => h5 base X G (dn (P := fun p => LamX.TabB base mg p.1 p.2) T)⟩
  refine @law_sp _ (tabL (K w.params) cs) f _ a ns (fun p hp => ?_) hS (hf ns hl hb)
  obtain ⟨q, hq, rfl⟩ := List.mem_map.mp (show p ∈ cs.map (fun p => (p.2.1, p.2.2)) from hp)
  exact LamX.TabS.nil (dn (P := fun p => H p.2 = some (.tbl #[])) hT q hq)
end DL
/-! # DLB: more that leaves the slots as they are -/
namespace DL
open PySem PySem.Spec PyProof.Rows L2
instance pu_Isi (T : String) (m : M D) [ha : PureM m] : PureM (dIsi T m) := ⟨fun r a h => by
  obtain ⟨u, h1, h2⟩ := bind_ok h
  obtain ⟨v, h3, h4⟩ := bind_ok h2
  cases h4
  show u.2 = r
  exact ha.pure _ _ h1⟩
instance pu_IsiT (Ts : List String) (m : M D) [ha : PureM m] : PureM (dIsiT Ts m) := ⟨fun r a h => by
  obtain ⟨u, h1, h2⟩ := bind_ok h
  obtain ⟨v, h3, h4⟩ := bind_ok h2
  cases h4
  show u.2 = r
  exact ha.pure _ _ h1⟩
instance pu_Rev (m : M D) [ha : PureM m] : PureM (eRev m) := ⟨fun r a h => by
  obtain ⟨u, h1, h2⟩ := bind_ok h
  split at h2
  · cases h2; exact ha.pure _ _ h1
  · cases h2⟩
instance pu_oNone : PureM oNone := ⟨fun r a h => by cases h; rfl⟩
instance pu_oSome (m : M D) [ha : PureM m] : PureM (oSome m) := ⟨fun r a h => by
  obtain ⟨u, h1, h2⟩ := bind_ok h
  split at h2
  · cases h2; exact ha.pure _ _ h1
  · cases h2⟩
instance pu_Cut (m : M D) (lo hi : M (Option Int)) [ha : PureM m] [hb : PureM lo] [hc : PureM hi] : PureM (eCut m lo hi) := ⟨fun r a h => by
  obtain ⟨u, h1, h2⟩ := bind_ok h
  obtain ⟨v, h3, h4⟩ := bind_ok h2
  obtain ⟨w, h5, h6⟩ := bind_ok h4
  obtain ⟨x, h7, h8⟩ := bind_ok h6
  cases h8
  show w.2 = r
  rw [hc.pure _ _ h5, hb.pure _ _ h3, ha.pure _ _ h1]⟩
/-- list(x) of an own list: a copy of its own -/
def eCopy (i : Nat) : M RV := fun r => match r[i]? with | some (.own _ (.lst ds)) => .ok (.own (.lst ds), r) | _ => .no
end DL
/-! # DLC: built-ins over tuples as over lists -/
namespace DL
open PySem PySem.Spec PyProof.Rows L2
section
variable {X : Cx} {tcX : TabC X.K}
/-- sum of a list or a tuple of numbers -/
def rSumA (K : PySem.W.Frag) : List V → Hp → VK → Prop := fun vs H Q => ∃ (a : Addr) (ns : List Int), vs = [V.ref a] ∧ (SqL K H a (ns.map V.int) ∨ SqT K H a (ns.map V.int)) ∧ Q (.int ns.sum) H
theorem cr_sumA (hc : X.calm = true) : CallR X (.builtin "sum") (rSumA X.K) := by
  intro pins s σ H vs us Q I r h
  obtain ⟨a, ns, rfl, hs | hs, q⟩ := h
  · exact cr_sum hc pins s σ H _ us Q I r ⟨a, ns, rfl, hs, q⟩
  · obtain ⟨its, rv, ht, _⟩ := I.tuple hs
    rw [Vals.ref1 r]
    have hi := rv.ints
    have hl : s.heap.IsTuple a its.toArray := ht
    obtain ⟨xs, hx⟩ := hi.allInts.items
    have hn : numsOf its.toArray.toList = ns := by rw [show its.toArray.toList = its from rfl, hi.numsOf]
    rw [hx] at hl hn
    rw [nums_intItems] at hn
    refine PySem.W.ktm_sumG (I.ok.hd hc) hl fun h' tk t' hk => ?_
    rw [preSum_eq, List.take_of_length_le (by simp), hn]
    exact ⟨.int _, H, I.kept hk, ⟨_, rfl⟩, q⟩
end
section
variable {K : PySem.W.Frag} {tcK : TabC K}
/-- one list or tuple of numbers -/
def pA1 (g : List Int → Option D) : List D → Option D
  | [.list ds] => (ints? ds).bind g
  | [.tuple ds] => (ints? ds).bind g
  | _ => none
theorem a1_of {G : Hp} {g : List Int → Option D} {xs : List V} {ds : List D} {d : D} (h : DPs K G xs ds) (e : pA1 g ds = some d) : ∃ a ns, xs = [.ref a] ∧ ((∀ H, Same G H → SqL K H a (ns.map V.int)) ∨ (∀ H, Same G H → SqT K H a (ns.map V.int))) ∧ g ns = some d := by
  cases h with
  | nil => cases e
  | cons h1 h2 =>
    cases h2 with
    | cons _ _ => cases h1 <;> cases e
    | nil =>
      cases h1 with
      | @lst a ys es k1 k2 =>
        have e : (ints? es).bind g = some d := e
        cases ei : ints? es with
        | none => rw [ei] at e; cases e
        | some ns =>
          rw [ei] at e
          have := ints?_eq ei
          subst this
          have := k2.ints
          subst this
          exact ⟨a, ns, rfl, .inl fun H le => le.seq k1, by have e2 : (ints? (ns.map .int)).bind g = some d := e; rw [ints?_of] at e2; exact e2⟩
      | @tup a ys es k1 k2 =>
        have e : (ints? es).bind g = some d := e
        cases ei : ints? es with
        | none => rw [ei] at e; cases e
        | some ns =>
          rw [ei] at e
          have := ints?_eq ei
          subst this
          have := k2.ints
          subst this
          exact ⟨a, ns, rfl, .inr fun H le => SqT.same le k1, by have e2 : (ints? (ns.map .int)).bind g = some d := e; rw [ints?_of] at e2; exact e2⟩
      | non => cases e
      | bl _ => cases e
      | int _ => cases e
      | str _ => cases e
      | dic _ _ => cases e
def pSumA := pA1 fun ns => some (.int ns.sum)
theorem a_sumA : AN K (rSumA K) pSumA := by
  intro G H xs ds Q le h d e q
  obtain ⟨a, ns, e1, e2, e3⟩ := a1_of h e
  cases e3
  exact ⟨a, ns, e1, e2.imp (fun z => z H le) (fun z => z H le), q G H _ (Grow.refl le) (.int _)⟩
end
end DL
/-! # DLD: tuples gone through by sorted -/
namespace SrtR
open PySem PyProof.Rows Srt SrtO
section
variable {prog : Program} {w : World} {A : Around} {E : Value → Shared → Prop} {s : Shared}
theorem gather_tup {l : Addr} {ts : List Value} {Q : List Value → Shared → Prop} (tl : s.heap.IsTuple l ts.toArray) (tz : ts.length ≤ sizeLine)
    (done : Q ts { s with heap := (s.heap.push (seqObj "list" #[] 0)).update s.heap.objs.size (Obj.mapSeq (· ++ ts.toArray)) }) :
    wpAny (model prog w) A (collect (.ref l)) Q E s := by
  obtain ⟨o, ho, hc, n, hd⟩ := id tl; unfold collect
  refine wpAny_bind (wpAny_runValue (codeAny_builtin entry_proto_collect' ?_)); show wpAny _ _ (do again (.builtin "list.__iadd__" ⟨[← newList [], .ref l], []⟩)) _ _ s
  refine wpAny_bind (wpAny_newList (wpAny_pure ⟨Code.quiet_builtin _ (by decide +kernel), codeAny_builtin entry_list_iadd' ?_⟩)); show wpAny _ _ (Builtin.List.listExtendWith (.ref s.heap.objs.size) (.ref l) (.ref s.heap.objs.size)) _ _ { s with heap := s.heap.push (seqObj "list" #[] 0) }
  unfold Builtin.List.listExtendWith; have pushed : (s.heap.push (seqObj "list" #[] 0)).get? l = some o := Heap.get?_push_of_some _ ho
  refine wpAny_bind (wpAny_typeOf (T := "tuple") ⟨o, pushed, hc⟩ ?_)
  rw [if_pos (by simp)]
  refine wpAny_bind (listItems_at pushed hd ?_); refine wpAny_bind (listItems_at (xs := #[]) (n := 0) (Heap.get?_push_size _ rfl) rfl ?_)
  rw [if_neg (by simp)]
  refine wpAny_bind (listUpdate_at (xs := #[]) (n := 0) (Heap.get?_push_size _ rfl) rfl ?_ (Nat.zero_le _) (by show (#[] ++ ts.toArray).size ≤ sizeLine + 1; simp only [Array.size_append, List.size_toArray, List.length_nil]; omega)); refine wpAny_pure ?_
  show wpAny (model prog w) A (do let o ← load s.heap.objs.size
                                  match o.data with
                                  | .seq xs _ => pure xs.toList
                                  | _ => unsupported "internal:collect") Q E { s with heap := (s.heap.push (seqObj "list" #[] 0)).update s.heap.objs.size (Obj.mapSeq (· ++ ts.toArray)) }
  refine wpAny_bind (wpAny_load (get?_update_seq (Heap.get?_push_size _ rfl) _) ?_); show wpAny _ _ (pure ((#[] : Array Value) ++ ts.toArray).toList) Q E _
  rw [show ((#[] : Array Value) ++ ts.toArray).toList = ts by simp]; exact wpAny_pure done
end
end SrtR
namespace SrtR
open PySem PyProof.Rows Srt SrtO
end SrtR
namespace DL
open PySem PySem.Spec PyProof.Rows L2
section
variable {X : Cx} {tcX : TabC X.K}
end
end DL
/-! # DLE: sorted of lists and tuples of numbers, as denotations -/
namespace DL
open PySem PySem.Spec PyProof.Rows L2
section
variable {K : PySem.W.Frag} {tcK : TabC K}
def pSortA (b : Bool) : List D → Option RV
  | [.list ds] => (ints? ds).map fun ns => .own (.lst ((sortB b ns).map .int))
  | [.tuple ds] => (ints? ds).map fun ns => .own (.lst ((sortB b ns).map .int))
  | _ => none
end
theorem v_sumL (ns : List Int) : pSumA [.list (ns.map .int)] = some (.int ns.sum) := by
  show (ints? (ns.map .int)).bind _ = _
  rw [ints?_of]; rfl
theorem v_sumT (ns : List Int) : pSumA [.tuple (ns.map .int)] = some (.int ns.sum) := by
  show (ints? (ns.map .int)).bind _ = _
  rw [ints?_of]; rfl
theorem v_sortL (b : Bool) (ns : List Int) : pSortA b [.list (ns.map .int)] = some (.own (.lst ((sortB b ns).map .int))) := by
  show (ints? (ns.map .int)).map _ = _
  rw [ints?_of]; rfl
theorem v_sortT (b : Bool) (ns : List Int) : pSortA b [.tuple (ns.map .int)] = some (.own (.lst ((sortB b ns).map .int))) := by
  show (ints? (ns.map .int)).map _ = _
  rw [ints?_of]; rfl
end DL
/-! # DLF: more of what changes a list -/
namespace DL
open PySem PySem.Spec PyProof.Rows L2
/-! list(range(..)) -/
instance (a b : Int) : Decidable (RgOk a b) := by unfold RgOk; infer_instance
/-- (classical, so that the kernel never reckons at the far bounds) -/
noncomputable def pLR (a b : D) : Option RV := match a, b with
  | .int i, .int j => @ite _ (RgOk i j) (Classical.propDecidable _) (some (.own (.lst (rangeD i (j - i).toNat)))) none
  | _, _ => none
noncomputable def eLR1 (m : M D) : M RV := fun r => (m r).bind fun a => (ofO (pLR (.int 0) a.1)).bind fun d => .ok (d, a.2)
noncomputable def eLR2 (m n : M D) : M RV := fun r => (m r).bind fun a => (n a.2).bind fun b => (ofO (pLR a.1 b.1)).bind fun d => .ok (d, b.2)
instance pu_CallK (n a b : Nat) (ix : List Nat) (f : Den) (ms mk : M (List ASl)) [ha : PureAr ms] [hb : PureAr mk] : PureM (eCallK n a b ix f ms mk) := ⟨fun r x h => by
  obtain ⟨u, h1, h2⟩ := bind_ok h
  obtain ⟨v, h3, h4⟩ := bind_ok h2
  obtain ⟨k1, k2⟩ := ha.pure _ _ h1
  obtain ⟨k3, k4⟩ := hb.pure _ _ h3
  have np : ∀ (j i : Nat), (pick ix (u.1 ++ v.1))[j]? ≠ some (.ref i) := fun j i z => by
    have hm := List.mem_of_getElem? z
    unfold pick at hm
    obtain ⟨k, _, hk⟩ := List.mem_filterMap.mp hm
    rw [List.getElem?_append] at hk
    split at hk
    · exact k2 _ _ hk
    · exact k4 _ _ hk
  split at h4
  · obtain ⟨sl, h5, h6⟩ := bind_ok h4
    unfold backX at h6
    split at h6
    · rename_i c _
      cases h6
      show wb (pick ix (u.1 ++ v.1)) c.2 v.2 = r
      rw [wb_pure _ _ _ np, k3, k1]
    · cases h6
    · cases h6
  · cases h4⟩
end DL
/-! # DLG: enumerate of a tuple -/
namespace L2
open PySem PySem.Spec PyProof.Rows
def IteT (K : PySem.W.Frag) (a : Addr) : It :=
  ⟨fun i H => ∃ (xs : List V) (x : V), SqT K H a xs ∧ xs[i]? = some x, fun i H v H' => ∃ T x, v = .ref T ∧ H T = none ∧ H' = upd H T (.tup [.int (i : Nat), x]) ∧ ∀ xs, SqT K H a xs → xs[i]? = some x, fun i H => ∃ xs : List V, SqT K H a xs ∧ xs.length = i⟩
theorem turn_enumT {P : Program} {w : World} {K : PySem.W.Frag} {elts : List Expr} {kk : Nat} {tpos : Pos} (a e it : Addr) :
    Turn P w K (.Tuple elts kk tpos) (IteT K a) [e, it] e (fun i h => (∃ old, IsEnum h e it ((i : Nat) : Int) old) ∧ h.IsTupleIter it a i ∧ e ≠ it ∧ a ≠ it ∧ e ≠ a) where
  mem := by simp
  obj := fun i h st b hb => by
    obtain ⟨⟨old, he⟩, ⟨o, ho, hc, hd⟩, _⟩ := st
    rcases (show b = e ∨ b = it by simpa using hb) with z | z
    · rw [z]; exact ⟨_, he, fun v q => nomatch q⟩
    · rw [z]; exact ⟨o, ho, fun v q => by rw [hd] at q; cases q⟩
  keep := fun i h h' st k => let ⟨⟨old, he⟩, hi, hne⟩ := st; ⟨⟨old, k e (by simp) _ he⟩, hi.at fun o q => k it (by simp) o q, hne⟩
  item := by
    intro X hP hw hK hc i pins s σ H E I hf st hg
    subst hP hw hK; obtain ⟨⟨old, he⟩, hit, hne, hai, hea⟩ := st
    obtain ⟨xs, x, hq, hx⟩ := hg; obtain ⟨its, rv, p, hz⟩ := I.tuple hq; obtain ⟨u, hu, ru⟩ := rv.get hx
    have hel : e < s.heap.objs.size := Heap.lt_size he
    have hil : it < s.heap.objs.size := by obtain ⟨_, q, _⟩ := hit; exact Heap.lt_size q
    have pt : s.heap.IsTuple a its.toArray := p
    have hlt : i < its.toArray.size := by have := (List.getElem?_eq_some_iff.mp hu).1; simpa using this
    have D := Draws.tuple (prog := X.prog) (w := X.w) (A := X.A.in1) (I.ok.hd hc) it a hai its.toArray
    refine wpAny_pyNext_enum_itemD D he ⟨hit, pt⟩ hlt hne (by simp [hne, hea]) fun y h' tk hy ho hst' hT hsz hk => ?_
    have hyu : y = u := by have hy' : its[i]? = some y := by simpa using hy
                           rw [hu] at hy'; exact (Option.some.inj hy').symm
    subst hyu
    refine ⟨_, rfl, wpAny_letOwnedTupleGo_enum (s := { s with heap := h', toks := tk + 1 }) ho fun h'' he' sb => ?_⟩
    have hT2 : h''.get? s.heap.objs.size = some { cls := .type "tuple", data := .seq #[.int i tk, y] } := (sb.2 _ (Nat.ne_of_gt hel)).trans hT
    have new : ObjOk X.prog X.w (upd H s.heap.objs.size (.tup [.int (i : Nat), x])) h'' s.heap.objs.size (.tup [.int (i : Nat), x]) := ⟨by show 2 ≤ sizeLine; decide, [.int i tk, y], .cons ⟨_, rfl⟩ (.cons ru .nil), ⟨_, hT2, rfl, _, rfl⟩⟩
    have I1 : Inv X pins σ (upd H s.heap.objs.size (.tup [.int (i : Nat), x])) { s with heap := h'', toks := tk + 1 } :=
      I.turnedNew (ch := [e, it]) (fun b ob hb q => (sb.2 b (fun z => hb (by simp [z]))).trans (hk b ob (fun z => hb (by simp [z])) (fun z => hb (by simp [z])) q)) hf (Nat.le_refl _) new
    refine ⟨.ref s.heap.objs.size, _, I1, rfl, ⟨_, x, rfl, I.hok.fresh (Nat.le_refl _), rfl, fun ys hy => by rw [I.tuple_inj hy hq]; exact hx⟩, ⟨⟨y, ?_⟩, hst'.1.at fun o q => (sb.2 it (Ne.symm hne)).trans q, hne, hai, hea⟩, fun b hb => ?_⟩
    · rw [show ((i + 1 : Nat) : Int) = (i : Int) + 1 by omega]; exact he'
    · have hb' : b < s.heap.objs.size := by
        rcases (show b = e ∨ b = it by simpa using hb) with z | z
        · rw [z]; exact hel
        · rw [z]; exact hil
      rw [upd_ne (Nat.ne_of_lt hb')]; exact (hf b hb).1
  done := by
    intro X hP hw hK hc i pins s σ H E I hf st hg
    subst hP hw hK; obtain ⟨⟨old, he⟩, hit, hne, hai, hea⟩ := st
    obtain ⟨xs, hq, hx⟩ := hg; obtain ⟨its, rv, p, hz⟩ := I.tuple hq; obtain ⟨f0, f1, f2, f3, f4, f5⟩ := hf it (by simp)
    have hl := rv.length
    have e0 : i = its.toArray.size := by simp; omega
    have D := Draws.tuple (prog := X.prog) (w := X.w) (A := X.A.in1) (I.ok.hd hc) it a hai its.toArray
    have st0 : s.heap.IsTupleIter it a its.toArray.size ∧ s.heap.IsTuple a its.toArray := ⟨by rw [← e0]; exact hit, p⟩
    exact wpAny_pyNext_enum_endD D he st0 fun h' eb => ⟨rfl, I.turned (t' := s.toks) (fun b o hb q => eb b o hb q) f0 f1 f3 f4 f5⟩
  self := fun A i s Q E st h => let ⟨⟨_, he⟩, _⟩ := st; wpAny_pyIter_enum he h
end L2
namespace PySem
open Sem (wp)
theorem meets_enum_one {v : Value} {o : Obj} {H : Heap → Prop} (B : Begins v o H) :
    Meets (Builtin.«enumerate.__new__» ⟨[.type "enumerate", v], []⟩) (fun _ R s => H s.heap ∧ R (.ok (.ret (.ref (s.heap.push o).objs.size))) { s with heap := (s.heap.push o).push { cls := .type "enumerate", data := .fields #[.none, .bool false, .ref s.heap.objs.size, rawInt 0, .none, .none] } }) :=
  .of_wp fun prog w A R s h => by
    obtain ⟨hp, g, d, tk, os⟩ := s; obtain ⟨h1, h⟩ := h; have hsub := sub_enumerate
    have q1 : ∀ {A' : Around} {E : Value → Shared → Prop} {Q : Value → Shared → Prop}, Q (.ref hp.objs.size) ⟨hp.push o, g, d, tk, os⟩ → wpAny (model prog w) A' (pyIter v) Q E ⟨hp, g, d, tk, os⟩ := fun q => B.iter prog w _ _ ⟨hp, g, d, tk, os⟩ _ h1 q
    wp_walk using q1
    refine wpAny_stack_any fun st => wpAny_pure ?_; split
    · rename_i c _ _ _ _ _
      cases (c == Value.type "enumerate") <;> (wp_walk using q1; exact ⟨_, rfl, h⟩)
    · wp_walk using q1; exact ⟨_, rfl, h⟩
end PySem
namespace L2
open PySem PySem.Spec PyProof.Rows
section
variable {prog : Program} {w : World} {A : Around} {E : Value → Shared → Prop} {s : Shared}
theorem call_enum_tup {l : Addr} {items : Array Value} {Q : Value → Shared → Prop} (tl : s.heap.IsTuple l items)
    (done : ∀ h', IsEnum h' (s.heap.objs.size + 1) s.heap.objs.size 0 .none → h'.IsTupleIter s.heap.objs.size l 0 → h'.objs.size = s.heap.objs.size + 2 → (∀ b o, s.heap.get? b = some o → h'.get? b = some o) → Q (.ref (s.heap.objs.size + 1)) { s with heap := h' }) :
    wpAny (model prog w) A (call (.type "enumerate") [.ref l]) Q E s := by
  refine callType_new F.called_enumerate (by decide) (F.typeCall_enumerate_1 _) (F.newCall_enumerate_1 _) (fun obj => F.args_object_init_2 obj _) F.entry_enumerate_new (meets_enum_one (begins_tuple l items)) ⟨tl, ?_⟩
  have hz : (s.heap.push { cls := .type "tuple_iterator", data := .fields #[.ref l, .int 0 0] }).objs.size = s.heap.objs.size + 1 := Heap.size_push ..
  show _ ∧ _
  rw [hz]
  have he : IsEnum ((s.heap.push { cls := .type "tuple_iterator", data := .fields #[.ref l, .int 0 0] }).push { cls := .type "enumerate", data := .fields #[.none, .bool false, .ref s.heap.objs.size, rawInt 0, .none, .none] }) (s.heap.objs.size + 1) s.heap.objs.size 0 .none := by
    have z := Heap.get?_push_size (s.heap.push { cls := .type "tuple_iterator", data := .fields #[.ref l, .int 0 0] }) (o := { cls := .type "enumerate", data := .fields #[.none, .bool false, .ref s.heap.objs.size, rawInt 0, .none, .none] }) rfl
    rw [hz] at z; exact z
  refine ⟨⟨_, he, rfl⟩, done _ he ⟨_, Heap.get?_push_of_some _ (Heap.get?_push_size _ rfl), rfl, rfl⟩ (by rw [Heap.size_push, hz]) fun b o x => Heap.get?_push_of_some _ (Heap.get?_push_of_some _ x)⟩
end
def iEnumT (K : PySem.W.Frag) (ta : TA) : TI := fun σ H R => ta σ H fun vs H1 => ∃ a xs, vs = [.ref a] ∧ ((SqL K H1 a xs ∧ R (Ite K a) H1) ∨ (SqT K H1 a xs ∧ R (IteT K a) H1))
theorem pi_enumT {X : Cx} {e : Expr} {ta : TA} {p pos tpos : Pos} {elts : List Expr} {kk : Nat} (hg : Gl X "enumerate") (hm : X.mg "enumerate" = none) (ha : PA X [e] ta) (hs : starEach [e] X.env = [(false, eval e X.env)] := by rfl) :
    PI X (.Tuple elts kk tpos) (.Call (.Name "enumerate" p) [e] [] pos) (iEnumT X.K ta) := by
  refine ⟨fun pins s σ H R I h => ?_⟩
  refine Call_ (ld_blt I hg hm boot_enumerate (PyProof.Rows.callWith_type1 (thn (ha.run pos pins s σ H _ I h) fun us s1 ⟨vs, H1, I1, r1, q1⟩ => ?_) hs rfl))
  obtain ⟨a, xs, ex, hq⟩ := q1
  subst ex; cases r1 with
  | cons r rr =>
    cases rr; cases r
    rcases hq with ⟨hq, q⟩ | ⟨hq, q⟩
    · obtain ⟨its, rv, p', hz⟩ := I1.list hq
      refine call_enumerate_list p'.isList fun h' he hit hsz hk => wpAny_pyIter_enum he ?_
      have I2 : Inv X pins σ H1 { s1 with heap := h' } := I1.kept (t' := s1.toks) hk
      refine ⟨s1.heap.objs.size + 1, [s1.heap.objs.size + 1, s1.heap.objs.size], _, _, H1, rfl, I2, turn_enum a (s1.heap.objs.size + 1) s1.heap.objs.size, ⟨⟨.none, he⟩, hit, Nat.succ_ne_self _⟩, fun b hb => ?_, q⟩
      have hle : s1.heap.objs.size ≤ b := by
        rcases (show b = s1.heap.objs.size + 1 ∨ b = s1.heap.objs.size by simpa using hb) with z | z
        · rw [z]; exact Nat.le_add_right _ _
        · rw [z]; exact Nat.le_refl _
      exact I1.fpOk hle (I1.hok.fresh hle)
    · obtain ⟨its, rv, p', hz⟩ := I1.tuple hq
      have pt : s1.heap.IsTuple a its.toArray := p'
      have hlt : a < s1.heap.objs.size := by obtain ⟨_, z, _⟩ := pt; exact Heap.lt_size z
      refine call_enum_tup pt fun h' he hit hsz hk => wpAny_pyIter_enum he ?_
      have I2 : Inv X pins σ H1 { s1 with heap := h' } := I1.kept (t' := s1.toks) hk
      refine ⟨s1.heap.objs.size + 1, [s1.heap.objs.size + 1, s1.heap.objs.size], _, _, H1, rfl, I2, turn_enumT a (s1.heap.objs.size + 1) s1.heap.objs.size, ⟨⟨.none, he⟩, hit, Nat.succ_ne_self _, Nat.ne_of_lt hlt, Nat.ne_of_gt (Nat.lt_succ_of_lt hlt)⟩, fun b hb => ?_, q⟩
      have hle : s1.heap.objs.size ≤ b := by
        rcases (show b = s1.heap.objs.size + 1 ∨ b = s1.heap.objs.size by simpa using hb) with z | z
        · rw [z]; exact Nat.le_add_right _ _
        · rw [z]; exact Nat.le_refl _
      exact I1.fpOk hle (I1.hok.fresh hle)
end L2
/-! # DLH: enumerate of lists and tuples, as denotations -/
namespace DL
open PySem PySem.Spec PyProof.Rows L2
section
variable {K : PySem.W.Frag} {tcK : TabC K} {G0 : Hp} {E : WX} {te : TE} {m : M D}
theorem walk_enumT {a : Addr} {xs : List V} : Walk (IteT K a) xs.length (fun H => SqT K H a xs) (YPair (fun i => some (.int (i : Nat))) (fun i => xs[i]?)) := by
  refine ⟨fun i _ hi q => ⟨xs, xs[i], q, by simp [hi]⟩, fun _ q => ⟨xs, q, rfl⟩, fun i H v H' _ q ⟨T, x, y1, y2, y3, y4⟩ => ⟨T, .int (i : Nat), x, y1, y2, y3, rfl, y4 xs q⟩⟩
theorem it_enumT {a : Addr} {xs : List V} {ds : List D} (h1 : SqT K G0 a xs) (h : DPs K G0 xs ds) : Iterates K G0 (IteT K a) (enumD 0 ds) := by
  refine ⟨_, _, by rw [enumD_length, ← h.length]; exact walk_enumT, fun _ s => SqT.same s h1, fun i H x H' G s1 s2 hi hy => ?_⟩
  obtain ⟨T, u, y, e1, e2, e3, e4, e5⟩ := hy
  subst e1 e3
  cases e4
  obtain ⟨d, hd, hp⟩ := h.getV e5
  have g := Grow.new s2 e2 (.tup [.int (i : Nat), y])
  refine ⟨_, _, enumD_get hd, g, .tup (.inl (.inl upd_same)) (.cons ?_ (.cons ((hp.mono s1).mono g.g) .nil))⟩
  rw [Int.zero_add]
  exact .int _
def iEnumA (m : M D) : M (List D) := fun r => (m r).bind fun a => match a.1 with
  | .list ds => .ok (enumD 0 ds, a.2)
  | .tuple ds => .ok (enumD 0 ds, a.2)
  | _ => .no
theorem absIEnumA (h : AbsD K E te m) : AbsI K E (iEnumT K (tCons te tNil)) (iEnumA m) := by
  intro G as r σ H Q R w
  refine h G as r σ H _ R ((Wp.bind w).mono (fun a w1 => ?_) fun _ z => z)
  obtain ⟨d, r1⟩ := a
  intro G1 H1 v S1 R1 dv
  cases dv with
  | @lst a xs ds h1 h2 => exact ⟨a, xs, rfl, .inl ⟨R1.le.seq h1, w1 G1 H1 _ S1 R1 (it_enum h1 h2)⟩⟩
  | @tup a xs ds h1 h2 => exact ⟨a, xs, rfl, .inr ⟨SqT.same R1.le h1, w1 G1 H1 _ S1 R1 (it_enumT h1 h2)⟩⟩
  | non => exact w1.elim
  | bl _ => exact w1.elim
  | int _ => exact w1.elim
  | str _ => exact w1.elim
  | dic _ _ => exact w1.elim
end
end DL
/-! # DLI: zip of lists and tuples in any mixture, strict or not -/
namespace PySem
open Sem (wp)
/-- a zip's record, b: strict -/
abbrev ZipB (b : Bool) (h : Heap) (z TI TO : Addr) (f0 : Value) : Prop :=
  h.get? z = some { cls := .type "zip", dict := none, data := .fields #[f0, .bool false, .bool b, .ref TI, .ref TO], slots := #[] }
section
variable {prog : Program} {w : World} {A : Around} {E : Value → Shared → Prop} {s : Shared}
theorem orEnd_item {it : Addr} {fp : List Addr} {n : Nat} {P : Nat → Value → Prop} {St : Nat → Heap → Prop} {i : Nat} {Q : Option Value → Shared → Prop} (D : Draws prog w A it fp n P St) (hi : i < n) (st : St i s.heap)
    (h : ∀ x h' tk, P i x → St (i + 1) h' → Heap.SameBut it s.heap h' → Q (some x) { s with heap := h', toks := tk }) : wpAny (model prog w) A (Builtin.SmallTypes.nextOrEnd (.ref it)) Q E s := by
  unfold Builtin.SmallTypes.nextOrEnd
  exact wpAny_bind (wpAny_attempt (D.item i s _ _ hi st fun x h' tk p st' sb => wpAny_pure (h x h' tk p st' sb)))
theorem orEnd_done {it : Addr} {fp : List Addr} {n : Nat} {P : Nat → Value → Prop} {St : Nat → Heap → Prop} {Q : Option Value → Shared → Prop} (D : Draws prog w A it fp n P St) (st : St n s.heap)
    (h : ∀ h', Heap.ExtBut it s.heap h' → Q none { s with heap := h' }) : wpAny (model prog w) A (Builtin.SmallTypes.nextOrEnd (.ref it)) Q E s := by
  unfold Builtin.SmallTypes.nextOrEnd
  refine wpAny_bind (wpAny_attempt (D.done s _ _ st fun h' e hx he => ?_))
  obtain ⟨o, ho, hc⟩ := he
  refine wpAny_bind (wpAny_isInstance (T := "StopIteration") (b := true) ⟨o, ho, hc⟩ isSubtype_stop ?_)
  rw [if_pos rfl]
  exact wpAny_pure (h h' hx)
/-- a new StopIteration is raised -/
theorem stop_new {α : Type} {Q : α → Shared → Prop} (hh : A.handled = none) (hE : ∀ h' e, (∀ b o, s.heap.get? b = some o → h'.get? b = some o) → (∃ o, h'.get? e = some o ∧ o.cls = .type "StopIteration") → E (.ref e) { s with heap := h' }) :
    wpAny (model prog w) A (Builtin.SmallTypes.stopIteration : Sem α) Q E s := by
  show wpAny _ _ (newExc (.type "StopIteration") [] >>= _) _ _ _
  refine wpAny_bind ?_
  simp only [newExc, newTuple]
  refine wpAny_bind (wpAny_newObj_type ?_ (by size_fits))
  refine wpAny_bind (m := firstArgMember _ _) (wpAny_of_eq (a := Value.none) (by first | rfl | (simp only [firstArgMember]; rfl)) ?_)
  refine wpAny_newObj_type ?_ (by size_fits)
  simp only [raiseNew]
  refine wpAny_bind (wpAny_handled ?_)
  rw [hh]
  refine wpAny_bind (wpAny_pure (wpAny_throw ?_))
  exact hE _ _ (fun b o e => Heap.get?_push_of_some _ (Heap.get?_push_of_some _ e)) ⟨_, Heap.get?_push_size _ rfl, rfl⟩
variable {z TI TO i1 i2 : Addr} {fp1 fp2 : List Addr} {n1 n2 i : Nat} {P1 P2 : Nat → Value → Prop} {St1 St2 : Nat → Heap → Prop} {a1 a2 : Value}
theorem zipS_item {Q : Value → Shared → Prop} (S : ZipSep2 z TI TO i1 i2 fp1 fp2) (D1 : Draws prog w A i1 fp1 n1 P1 St1) (D2 : Draws prog w A i2 fp2 n2 P2 St2)
    (hz : ZipB true s.heap z TI TO .none) (hTI : IsTupOf2 s.heap TI (.ref i1) (.ref i2)) (hTO : IsTupOf2 s.heap TO a1 a2) (st1 : St1 i s.heap) (st2 : St2 i s.heap) (hlt1 : i < n1) (hlt2 : i < n2)
    (hQ : ∀ x1 x2 h' tk, P1 i x1 → P2 i x2 → ZipB true h' z TI TO (rawInt s.heap.objs.size) → IsTupOf2 h' TO x1 x2 → St1 (i + 1) h' → St2 (i + 1) h' → IsTupOf2 h' s.heap.objs.size x1 x2 → h'.objs.size = s.heap.objs.size + 1 →
      (∀ c o, c ≠ z → c ≠ TO → c ≠ i1 → c ≠ i2 → s.heap.get? c = some o → h'.get? c = some o) → Q (.ref s.heap.objs.size) { s with heap := h', toks := tk }) :
    wpAny (model prog w) A (Builtin.«zip.__next__» ⟨[.ref z], []⟩) (fun fin s' => ∃ v, fin = .done (.ret v) ∧ Q v s') E s := by
  obtain ⟨hp, g, d, tk0, os⟩ := s
  show wpAny _ _ (field (.ref z) 2 >>= _) _ _ _
  refine wpAny_bind (wpAny_field hz rfl (x := .bool true) rfl ?_)
  show wpAny _ _ (field (.ref z) 3 >>= _) _ _ _
  refine wpAny_bind (wpAny_field hz rfl (x := .ref TI) rfl (wpAny_bind (wpAny_seqItems hTI rfl ?_)))
  show wpAny _ _ (Builtin.SmallTypes.ownedTupleIsFree (.ref z) >>= _) _ _ _
  refine wpAny_bind ?_
  unfold Builtin.SmallTypes.ownedTupleIsFree
  refine wpAny_bind (wpAny_field hz rfl (x := .none) rfl (wpAny_pure ?_))
  simp only [if_true]
  refine wpAny_bind (wpAny_rule (wpAny_bind (wpAny_field hz rfl (x := .ref TO) rfl (wpAny_bind (wpAny_setField_rec hz (by simp) fun h0 z0 b0 => ?_)))))
  have z0' : ZipB true h0 z TI TO .ellipsis := z0
  have b0' : Heap.SameBut z hp h0 := b0
  refine wpAny_bind ?_
  simp only [List.zipIdx_cons, List.zipIdx_nil, List.forIn_cons, List.forIn_nil]
  refine wpAny_bind (wpAny_bind (wpAny_onRaise ?_))
  show wpAny _ _ (Builtin.SmallTypes.nextOrEnd (.ref i1)) _ _ ⟨h0, g, d, tk0, os⟩
  refine orEnd_item D1 hlt1 (D1.over st1 b0' S.zf1) fun x1 h1 t1 q1 u1 c1 => ?_
  have c1' : Heap.SameBut i1 h0 h1 := c1
  have o1 : IsTupOf2 h1 TO a1 a2 := c1'.extBut _ _ S.Ti1 (b0'.extBut _ _ S.TOz hTO)
  refine wpAny_bind (wpAny_seqItems (s := ⟨h1, g, d, t1, os⟩) o1 rfl (wpAny_bind (updateSeq_IsTupOf2 (s := ⟨h1, g, d, t1, os⟩) o1 fun h2 o2 c2 => ?_)))
  have o2' : IsTupOf2 h2 TO x1 a2 := o2
  have c2' : Heap.SameBut TO h1 h2 := c2
  refine wpAny_bind (wpAny_letGo (wpAny_pure (wpAny_bind (wpAny_bind (wpAny_onRaise ?_)))))
  show wpAny _ _ (Builtin.SmallTypes.nextOrEnd (.ref i2)) _ _ ⟨h2, g, d, t1, os⟩
  refine orEnd_item D2 hlt2 (D2.over (D2.over (D2.over st2 b0' S.zf2) c1' S.sep1_2) c2' S.Tf2) fun x2 h3 t3 q3 u3 c3 => ?_
  have c3' : Heap.SameBut i2 h2 h3 := c3
  have o3 : IsTupOf2 h3 TO x1 a2 := c3'.extBut _ _ S.Ti2 o2'
  refine wpAny_bind (wpAny_seqItems (s := ⟨h3, g, d, t3, os⟩) o3 rfl (wpAny_bind (updateSeq_IsTupOf2 (s := ⟨h3, g, d, t3, os⟩) o3 fun h4 o4 c4 => ?_)))
  have o4' : IsTupOf2 h4 TO x1 x2 := o4
  have c4' : Heap.SameBut TO h3 h4 := c4
  refine wpAny_bind (wpAny_letGo (wpAny_pure (wpAny_pure (wpAny_bind (wpAny_seqItems (s := ⟨h4, g, d, t3, os⟩) o4' rfl (wpAny_bind (wpAny_newTuple ?_)))))))
  have sz : h4.objs.size = hp.objs.size := by rw [c4'.1, c3'.1, c2'.1, c1'.1, b0'.1]
  have z4 : ZipB true h4 z TI TO .ellipsis := c4'.extBut _ _ S.TOz.symm (c3'.extBut _ _ S.zi2 (c2'.extBut _ _ S.TOz.symm (c1'.extBut _ _ S.zi1 z0')))
  have kk : ∀ c o, c ≠ z → c ≠ TO → c ≠ i1 → c ≠ i2 → hp.get? c = some o → h4.get? c = some o := fun c o k1 k2 k3 k4 e =>
    c4'.extBut _ _ k2 (c3'.extBut _ _ k4 (c2'.extBut _ _ k2 (c1'.extBut _ _ k3 (b0'.extBut _ _ k1 e))))
  have v1 : St1 (i + 1) h4 := D1.over (D1.over (D1.over u1 c2' S.Tf1) c3' S.sep2_1) c4' S.Tf1
  have v2 : St2 (i + 1) h4 := D2.over u3 c4' S.Tf2
  have zlt : z < h4.objs.size := Heap.lt_size z4
  show wpAny _ _ (Builtin.SmallTypes.ownedTupleHandOut (.ref z) (.ref h4.objs.size) >>= _) _ _ ⟨h4.push { cls := .type "tuple", data := .seq #[x1, x2] }, g, d, t3, os⟩
  refine wpAny_bind ?_
  unfold Builtin.SmallTypes.ownedTupleHandOut
  have z5 : ZipB true (h4.push { cls := .type "tuple", data := .seq #[x1, x2] }) z TI TO .ellipsis := Heap.get?_push_of_some _ z4
  refine wpAny_bind (wpAny_setField_rec z5 (by simp) fun h6 z6 c6 => ?_)
  have z6' : ZipB true h6 z TI TO (rawInt h4.objs.size) := z6
  refine wpAny_setField_rec z6' (by simp) fun h7 z7 c7 => ?_
  have z7' : ZipB true h7 z TI TO (rawInt h4.objs.size) := z7
  have c6' : Heap.SameBut z (h4.push { cls := .type "tuple", data := .seq #[x1, x2] }) h6 := c6
  have c7' : Heap.SameBut z h6 h7 := c7
  have up : ∀ c o, c ≠ z → h4.get? c = some o → h7.get? c = some o := fun c o k e => c7'.extBut _ _ k (c6'.extBut _ _ k (Heap.get?_push_of_some _ e))
  have tN : IsTupOf2 h7 h4.objs.size x1 x2 := c7'.extBut _ _ (Nat.ne_of_gt zlt) (c6'.extBut _ _ (Nat.ne_of_gt zlt) (Heap.get?_push_size _ rfl))
  have s7 : h7.objs.size = h4.objs.size + 1 := by rw [c7'.1, c6'.1, Heap.size_push]
  rw [sz] at z7' tN s7
  refine wpAny_pure ⟨_, rfl, ?_⟩
  show Q (.ref h4.objs.size) ⟨h7, g, d, t3, os⟩
  rw [sz]
  exact hQ x1 x2 h7 t3 q1 q3 z7' (up _ _ S.TOz o4') (D1.frame _ _ _ v1 fun b hb o e => up b o (fun q => S.zf1 (q ▸ hb)) e) (D2.frame _ _ _ v2 fun b hb o e => up b o (fun q => S.zf2 (q ▸ hb)) e) tN s7
    fun c o k1 k2 k3 k4 e => up c o k1 (kk c o k1 k2 k3 k4 e)
theorem zipS_end {n : Nat} {Q : Fin → Shared → Prop} (hh : A.handled = none) (S : ZipSep2 z TI TO i1 i2 fp1 fp2) (D1 : Draws prog w A i1 fp1 n P1 St1) (D2 : Draws prog w A i2 fp2 n P2 St2)
    (hz : ZipB true s.heap z TI TO .none) (hTI : IsTupOf2 s.heap TI (.ref i1) (.ref i2)) (hTO : IsTupOf2 s.heap TO a1 a2) (st1 : St1 n s.heap) (st2 : St2 n s.heap)
    (hE : ∀ h' e, (∀ c o, c ≠ z → c ≠ TO → c ≠ i1 → c ≠ i2 → s.heap.get? c = some o → h'.get? c = some o) → (∃ o, h'.get? e = some o ∧ o.cls = .type "StopIteration") → E (.ref e) { s with heap := h' }) :
    wpAny (model prog w) A (Builtin.«zip.__next__» ⟨[.ref z], []⟩) Q E s := by
  obtain ⟨hp, g, d, tk0, os⟩ := s
  show wpAny _ _ (field (.ref z) 2 >>= _) _ _ _
  refine wpAny_bind (wpAny_field hz rfl (x := .bool true) rfl ?_)
  show wpAny _ _ (field (.ref z) 3 >>= _) _ _ _
  refine wpAny_bind (wpAny_field hz rfl (x := .ref TI) rfl (wpAny_bind (wpAny_seqItems hTI rfl ?_)))
  show wpAny _ _ (Builtin.SmallTypes.ownedTupleIsFree (.ref z) >>= _) _ _ _
  refine wpAny_bind ?_
  unfold Builtin.SmallTypes.ownedTupleIsFree
  refine wpAny_bind (wpAny_field hz rfl (x := .none) rfl (wpAny_pure ?_))
  simp only [if_true]
  refine wpAny_bind (wpAny_rule (wpAny_bind (wpAny_field hz rfl (x := .ref TO) rfl (wpAny_bind (wpAny_setField_rec hz (by simp) fun h0 z0 b0 => ?_)))))
  have z0' : ZipB true h0 z TI TO .ellipsis := z0
  have b0' : Heap.SameBut z hp h0 := b0
  refine wpAny_bind ?_
  simp only [List.zipIdx_cons, List.zipIdx_nil, List.forIn_cons, List.forIn_nil]
  refine wpAny_bind (wpAny_bind (wpAny_onRaise ?_))
  show wpAny _ _ (Builtin.SmallTypes.nextOrEnd (.ref i1)) _ _ ⟨h0, g, d, tk0, os⟩
  refine orEnd_done D1 (D1.over st1 b0' S.zf1) fun h1 c1 => ?_
  have c1' : Heap.ExtBut i1 h0 h1 := c1
  have z1 : ZipB true h1 z TI TO .ellipsis := c1' _ _ S.zi1 z0'
  refine wpAny_bind (wpAny_setField_rec (s := ⟨h1, g, d, tk0, os⟩) z1 (by simp) fun h2 _ c2 => ?_)
  have c2' : Heap.SameBut z h1 h2 := c2
  refine wpAny_bind (wpAny_bind ?_)
  simp only [List.drop_succ_cons, List.drop_zero, List.zipIdx_cons, List.zipIdx_nil, List.forIn_cons, List.forIn_nil]
  have st2' : St2 n h2 := D2.over (D2.frame _ _ _ (D2.over st2 b0' S.zf2) fun b hb o e => c1' b o (fun q => S.sep1_2 (q ▸ hb)) e) c2' S.zf2
  refine wpAny_bind (wpAny_bind (orEnd_done (s := ⟨h2, g, d, tk0, os⟩) D2 st2' fun h3 c3 => ?_))
  have c3' : Heap.ExtBut i2 h2 h3 := c3
  simp only [Option.isSome_none, Bool.false_eq_true, if_false]
  refine wpAny_pure (wpAny_pure (wpAny_bind (wpAny_rule ?_)))
  refine stop_new hh fun h4 e k4 he => hE h4 e (fun c o k1 k2 k3 k5 eo => k4 _ _ (c3' _ _ k5 (c2'.extBut _ _ k1 (c1' _ _ k3 (b0'.extBut _ _ k1 eo))))) he
theorem nextS_item {Q : Option Value → Shared → Prop} (S : ZipSep2 z TI TO i1 i2 fp1 fp2) (D1 : Draws prog w A.in1 i1 fp1 n1 P1 St1) (D2 : Draws prog w A.in1 i2 fp2 n2 P2 St2)
    (hz : ZipB true s.heap z TI TO .none) (hTI : IsTupOf2 s.heap TI (.ref i1) (.ref i2)) (hTO : IsTupOf2 s.heap TO a1 a2) (st1 : St1 i s.heap) (st2 : St2 i s.heap) (hlt1 : i < n1) (hlt2 : i < n2)
    (hQ : ∀ x1 x2 h' tk, P1 i x1 → P2 i x2 → ZipB true h' z TI TO (rawInt s.heap.objs.size) → IsTupOf2 h' TO x1 x2 → St1 (i + 1) h' → St2 (i + 1) h' → IsTupOf2 h' s.heap.objs.size x1 x2 → h'.objs.size = s.heap.objs.size + 1 →
      (∀ c o, c ≠ z → c ≠ TO → c ≠ i1 → c ≠ i2 → s.heap.get? c = some o → h'.get? c = some o) → Q (some (.ref s.heap.objs.size)) { s with heap := h', toks := tk }) :
    wpAny (model prog w) A (pyNext (.ref z)) Q E s := by
  have hT : s.TypeIs (.ref z) "zip" := ⟨_, hz, rfl⟩
  unfold pyNext
  exact wpAny_bind (wpAny_attempt (wpAny_callSpecial?_slot (name := Str.ofString "__next__") hT F.slot_zip_next
    (wpAny_call_entry F.slot_zip_next hT F.entry_zip_next (zipS_item S D1 D2 hz hTI hTO st1 st2 hlt1 hlt2 fun x1 x2 h' tk y1 y2 b1 b2 d1 d2 b5 b6 b7 => wpAny_pure (hQ x1 x2 h' tk y1 y2 b1 b2 d1 d2 b5 b6 b7)) (F.args_zip_next_1 _))))
theorem nextS_end {n : Nat} {Q : Option Value → Shared → Prop} (hh : A.in1.handled = none) (S : ZipSep2 z TI TO i1 i2 fp1 fp2) (D1 : Draws prog w A.in1 i1 fp1 n P1 St1) (D2 : Draws prog w A.in1 i2 fp2 n P2 St2)
    (hz : ZipB true s.heap z TI TO .none) (hTI : IsTupOf2 s.heap TI (.ref i1) (.ref i2)) (hTO : IsTupOf2 s.heap TO a1 a2) (st1 : St1 n s.heap) (st2 : St2 n s.heap)
    (hQ : ∀ h', (∀ c o, c ≠ z → c ≠ TO → c ≠ i1 → c ≠ i2 → s.heap.get? c = some o → h'.get? c = some o) → Q none { s with heap := h' }) : wpAny (model prog w) A (pyNext (.ref z)) Q E s := by
  have hT : s.TypeIs (.ref z) "zip" := ⟨_, hz, rfl⟩
  unfold pyNext
  refine wpAny_bind (wpAny_attempt (wpAny_callSpecial?_slot (name := Str.ofString "__next__") hT F.slot_zip_next
    (wpAny_call_entry F.slot_zip_next hT F.entry_zip_next (zipS_end hh S D1 D2 hz hTI hTO st1 st2 fun h' e hk he => ?_) (F.args_zip_next_1 _))))
  obtain ⟨o, ho, hc⟩ := he
  exact wpAny_bind (wpAny_isInstance (T := "StopIteration") (b := true) ⟨o, ho, hc⟩ isSubtype_stop (wpAny_pure (hQ _ hk)))
/-- the step ahead of the store of the pair, b: strict -/
theorem letGo_zipB {b : Bool} {T : Addr} {x y : Expr} {elts : List Expr} {kk : Nat} {tpos : Pos} {Q : Unit → Shared → Prop} (hz : ZipB b s.heap z TI TO (rawInt T)) (hQ : ∀ h', ZipB b h' z TI TO .none → Heap.SameBut z s.heap h' → Q () { s with heap := h' }) :
    wpAny (model prog w) A (letOwnedTupleGo (.Tuple elts kk tpos) (.ref z) (.ref T)) Q E s := by
  unfold letOwnedTupleGo
  refine wpAny_bind (wpAny_load hz ?_)
  show wpAny _ _ (if (["enumerate", "zip", "dict_itemiterator", "dict_reverseitemiterator", "odict_iterator", "itertools.zip_longest", "itertools.pairwise"].contains "zip" &&
      (#[rawInt T, .bool false, .bool b, .ref TI, .ref TO] : Array Value)[0]? == some (rawInt T)) = true then _ else _) Q E s
  rw [if_pos (by simp)]
  exact wpAny_bind (wpAny_rule (wpAny_setField_rec hz (by simp) fun h' hz' hs' => hQ h' hz' hs'))
theorem iter_zipB {b : Bool} {f0 : Value} {Q : Value → Shared → Prop} (hz : ZipB b s.heap z TI TO f0) (h : Q (.ref z) s) : wpAny (model prog w) A (pyIter (.ref z)) Q E s := by
  have hT : s.TypeIs (.ref z) "zip" := ⟨_, hz, rfl⟩
  refine wpAny_pyIter_slot hT F.slot_zip_iter (wpAny_call_entry F.slot_zip_iter hT F.entry_zip_iter ?_ (F.args_zip_iter_1 _))
  show wpAny _ _ (ret (.ref z)) _ _ s
  exact wpAny_pure ⟨_, rfl, "zip", _, hT, F.slot_zip_next.lookup, h⟩
end
namespace F
theorem typeCall_zip_strict (a b v : Value) : checkTypeCall "zip" ⟨[a, b], [(Str.ofString "strict", v)]⟩ = pure () := by kernel_rfl
theorem newCall_zip_strict (a b v : Value) : checkBuiltinCall "zip.__new__" ⟨[.type "zip", a, b], [(Str.ofString "strict", v)]⟩ = pure () := by kernel_rfl
theorem args_init_strict (o a b v : Value) : argsOk "object.__init__" ⟨[o, a, b], [(Str.ofString "strict", v)]⟩ := by unfold argsOk; kernel_rfl
end F
/-- the heap behind zip(a, b), from the iterators' records -/
def zipped (b : Bool) (o1 o2 : Obj) (h : Heap) : Heap :=
  ((((h.push o1).push o2).push { cls := .type "tuple", data := .seq #[.ref h.objs.size, .ref (h.objs.size + 1)] }).push { cls := .type "tuple", data := .seq #[.none, .none] }).push { cls := .type "zip", data := .fields #[.none, .bool false, .bool b, .ref (h.objs.size + 2), .ref (h.objs.size + 3)] }
theorem meets_zipS {v1 v2 : Value} {o1 o2 : Obj} {H1 H2 : Heap → Prop} (B1 : Begins v1 o1 H1) (B2 : Begins v2 o2 H2) :
    Meets (Builtin.«zip.__new__» ⟨[.type "zip", v1, v2], [(Str.ofString "strict", .bool true)]⟩) (fun _ R s => H1 s.heap ∧ H2 (s.heap.push o1) ∧ R (.ok (.ret (.ref (s.heap.objs.size + 4)))) { s with heap := zipped true o1 o2 s.heap }) :=
  .of_wp fun prog w A R s h => by
    obtain ⟨hp, g, d, tk, os⟩ := s; obtain ⟨h1, h2, h⟩ := h
    have hsub := sub_zip
    have q1 : ∀ {A' : Around} {E : Value → Shared → Prop} {Q : Value → Shared → Prop}, Q (.ref hp.objs.size) ⟨hp.push o1, g, d, tk, os⟩ → wpAny (model prog w) A' (pyIter v1) Q E ⟨hp, g, d, tk, os⟩ := fun q => B1.iter prog w _ _ ⟨hp, g, d, tk, os⟩ _ h1 q
    have q2 : ∀ {A' : Around} {E : Value → Shared → Prop} {Q : Value → Shared → Prop}, Q (.ref (hp.push o1).objs.size) ⟨(hp.push o1).push o2, g, d, tk, os⟩ → wpAny (model prog w) A' (pyIter v2) Q E ⟨hp.push o1, g, d, tk, os⟩ := fun q => B2.iter prog w _ _ ⟨hp.push o1, g, d, tk, os⟩ _ h2 q
    have e1 : (Str.ofString "strict" != ("strict" : Str)) = false := by decide +kernel
    wp_walk using q1, q2
    refine ⟨_, rfl, ?_⟩
    unfold zipped at h
    simp only [Heap.size_push] at h ⊢
    exact h
end PySem
/-! # DLJ: walks over zip -/
namespace L2
open PySem PySem.Spec PyProof.Rows
/-- a list or a tuple -/
inductive SK where
  | L | T
def Sq (k : SK) (K : PySem.W.Frag) (H : Hp) (a : Addr) (xs : List V) : Prop := match k with
  | .L => SqL K H a xs
  | .T => SqT K H a xs
def SqO (k : SK) (h : Heap) (a : Addr) (its : Array Value) : Prop := match k with
  | .L => h.IsList a its
  | .T => h.IsTuple a its
def SqI (k : SK) (h : Heap) (it a : Addr) (i : Nat) : Prop := match k with
  | .L => h.IsListIter it a i
  | .T => h.IsTupleIter it a i
def itO (k : SK) (a : Addr) : Obj := match k with
  | .L => { cls := .type "list_iterator", data := .fields #[.ref a, .int 0 0] }
  | .T => { cls := .type "tuple_iterator", data := .fields #[.ref a, .int 0 0] }
theorem itO_free {k : SK} {a : Addr} : (itO k a).isFreed = false := by cases k <;> rfl
section
variable {X : Cx} {pins : List (Addr × Obj)} {σ : L2.St} {H : Hp} {s : Shared} {k : SK} {a it : Addr} {xs ys : List V}
theorem Inv.sq (I : Inv X pins σ H s) (h : Sq k X.K H a xs) : ∃ its : List Value, Vals xs its ∧ SqO k s.heap a its.toArray := by
  cases k with
  | L => obtain ⟨its, r, p, _⟩ := I.list h; exact ⟨its, r, p.isList⟩
  | T => obtain ⟨its, r, p, _⟩ := I.tuple h; exact ⟨its, r, p⟩
theorem Inv.sq_inj (I : Inv X pins σ H s) (h : Sq k X.K H a xs) (h' : Sq k X.K H a ys) : xs = ys := by
  cases k with
  | L => exact I.list_inj h h'
  | T => exact I.tuple_inj h h'
theorem SqO.lt {h : Heap} {its : Array Value} (q : SqO k h a its) : a < h.objs.size := by
  cases k with
  | L => obtain ⟨_, z, _⟩ := q; exact Heap.lt_size z
  | T => obtain ⟨_, z, _⟩ := q; exact Heap.lt_size z
theorem SqO.keep {h h' : Heap} {its : Array Value} (q : SqO k h a its) (e : ∀ o, h.get? a = some o → h'.get? a = some o) : SqO k h' a its := by
  cases k with
  | L => exact Heap.IsList.at q e
  | T => exact Heap.IsTuple.at q e
theorem SqI.keep {h h' : Heap} {i : Nat} (q : SqI k h it a i) (e : ∀ o, h.get? it = some o → h'.get? it = some o) : SqI k h' it a i := by
  cases k with
  | L => exact Heap.IsListIter.at q e
  | T => exact Heap.IsTupleIter.at q e
theorem SqI.obj {h : Heap} {i : Nat} (q : SqI k h it a i) : ∃ o, h.get? it = some o ∧ ∀ v, o.data ≠ .cell v := by
  cases k with
  | L => obtain ⟨o, e, _, d⟩ := q; exact ⟨o, e, fun v z => by rw [d] at z; cases z⟩
  | T => obtain ⟨o, e, _, d⟩ := q; exact ⟨o, e, fun v z => by rw [d] at z; cases z⟩
theorem SqI.new {h : Heap} (e : h.get? it = some (itO k a)) : SqI k h it a 0 := by
  cases k with
  | L => exact ⟨_, e, rfl, rfl⟩
  | T => exact ⟨_, e, rfl, rfl⟩
end
theorem draws_sq {prog : Program} {w : World} {A : Around} (hh : A.handled = none) (k : SK) (it a : Addr) (hne : a ≠ it) (items : Array Value) :
    Draws prog w A it [it, a] items.size (fun i v => items[i]? = some v) (fun i h => SqI k h it a i ∧ SqO k h a items) := by
  cases k with
  | L => exact Draws.list hh it a hne items
  | T => exact Draws.tuple hh it a hne items
theorem begins_sq (k : SK) (a : Addr) (items : Array Value) : Begins (.ref a) (itO k a) (fun h => SqO k h a items) := by
  cases k with
  | L => exact begins_list a items
  | T => exact begins_tuple a items
/-- pairs of what stands at a and at b, b: strict -/
def ItzB (K : PySem.W.Frag) (st : Bool) (k1 k2 : SK) (a b : Addr) : It :=
  ⟨fun i H => ∃ (xs ys : List V) (x y : V), Sq k1 K H a xs ∧ Sq k2 K H b ys ∧ xs[i]? = some x ∧ ys[i]? = some y,
    fun i H v H' => ∃ T x y, v = .ref T ∧ H T = none ∧ H' = upd H T (.tup [x, y]) ∧ (∀ xs, Sq k1 K H a xs → xs[i]? = some x) ∧ ∀ ys, Sq k2 K H b ys → ys[i]? = some y,
    fun i H => ∃ xs ys : List V, Sq k1 K H a xs ∧ Sq k2 K H b ys ∧ i ≤ xs.length ∧ i ≤ ys.length ∧ (i = xs.length ∨ i = ys.length) ∧ (st = true → i = xs.length ∧ i = ys.length)⟩
theorem turn_zipB {P : Program} {w : World} {K : PySem.W.Frag} {elts : List Expr} {kk : Nat} {tpos : Pos} {st : Bool} {k1 k2 : SK} {a b z TI TO i1 i2 : Addr} (S : ZipSep2 z TI TO i1 i2 [i1, a] [i2, b]) (h1 : a ≠ i1) (h2 : b ≠ i2) :
    Turn P w K (.Tuple elts kk tpos) (ItzB K st k1 k2 a b) [z, TI, TO, i1, i2] z (fun i h => ZipB st h z TI TO .none ∧ IsTupOf2 h TI (.ref i1) (.ref i2) ∧ (∃ x y, IsTupOf2 h TO x y) ∧ SqI k1 h i1 a i ∧ SqI k2 h i2 b i) where
  mem := by simp
  obj := fun i h q c hc => by
    obtain ⟨hz, hTI, ⟨x, y, hTO⟩, q1, q2⟩ := q
    have e' : c = z ∨ c = TI ∨ c = TO ∨ c = i1 ∨ c = i2 := by simpa using hc
    rcases e' with rfl | rfl | rfl | rfl | rfl
    · exact ⟨_, hz, fun v q => nomatch q⟩
    · exact ⟨_, hTI, fun v q => nomatch q⟩
    · exact ⟨_, hTO, fun v q => nomatch q⟩
    · exact q1.obj
    · exact q2.obj
  keep := fun i h h' q kp => by
    obtain ⟨hz, hTI, ⟨x, y, hTO⟩, q1, q2⟩ := q
    exact ⟨kp z (by simp) _ hz, kp TI (by simp) _ hTI, ⟨x, y, kp TO (by simp) _ hTO⟩, q1.keep fun o e => kp i1 (by simp) o e, q2.keep fun o e => kp i2 (by simp) o e⟩
  item := by
    intro X hP hw hK hc i pins s σ H E I hf q hg
    subst hP hw hK
    obtain ⟨hz, hTI, ⟨x0, y0, hTO⟩, q1, q2⟩ := q
    obtain ⟨xs, ys, x, y, hqx, hqy, hx, hy⟩ := hg
    obtain ⟨its, rv, p⟩ := I.sq hqx
    obtain ⟨its2, rv2, p2⟩ := I.sq hqy
    obtain ⟨u, hu, ru⟩ := rv.get hx
    obtain ⟨u2, hu2, ru2⟩ := rv2.get hy
    have hzl : z < s.heap.objs.size := Heap.lt_size hz
    have D1 := draws_sq (prog := X.prog) (w := X.w) (A := X.A.in1) (I.ok.hd hc) k1 i1 a h1 its.toArray
    have D2 := draws_sq (prog := X.prog) (w := X.w) (A := X.A.in1) (I.ok.hd hc) k2 i2 b h2 its2.toArray
    have l1 : i < its.toArray.size := by have := (List.getElem?_eq_some_iff.mp hu).1; simpa using this
    have l2 : i < its2.toArray.size := by have := (List.getElem?_eq_some_iff.mp hu2).1; simpa using this
    have key : ∀ (x1 x2 : Value) (h' : Heap) (tk : Nat), its.toArray[i]? = some x1 → its2.toArray[i]? = some x2 → ZipB st h' z TI TO (rawInt s.heap.objs.size) → IsTupOf2 h' TO x1 x2 → (SqI k1 h' i1 a (i + 1) ∧ SqO k1 h' a its.toArray) → (SqI k2 h' i2 b (i + 1) ∧ SqO k2 h' b its2.toArray) → IsTupOf2 h' s.heap.objs.size x1 x2 → h'.objs.size = s.heap.objs.size + 1 →
        (∀ c o, c ≠ z → c ≠ TO → c ≠ i1 → c ≠ i2 → s.heap.get? c = some o → h'.get? c = some o) →
        ∃ u, (some (Value.ref s.heap.objs.size)) = some u ∧ wpAny (model X.prog X.w) X.A (letOwnedTupleGo (.Tuple elts kk tpos) (.ref z) u) (fun _ s2 => ∃ x H', Inv X pins σ H' s2 ∧ RelV x u ∧ (ItzB X.K st k1 k2 a b).yld i H x H' ∧ (ZipB st s2.heap z TI TO .none ∧ IsTupOf2 s2.heap TI (.ref i1) (.ref i2) ∧ (∃ x y, IsTupOf2 s2.heap TO x y) ∧ SqI k1 s2.heap i1 a (i + 1) ∧ SqI k2 s2.heap i2 b (i + 1)) ∧ ∀ b ∈ [z, TI, TO, i1, i2], H' b = none) E { s with heap := h', toks := tk } := by
      intro x1 x2 h' tk e1 e2 z' TO' v1 v2 hT hsz hk
      have e1' : x1 = u := by have q : its[i]? = some x1 := by simpa using e1
                              rw [hu] at q; exact (Option.some.inj q).symm
      have e2' : x2 = u2 := by have q : its2[i]? = some x2 := by simpa using e2
                               rw [hu2] at q; exact (Option.some.inj q).symm
      subst e1' e2'
      refine ⟨_, rfl, letGo_zipB (s := { s with heap := h', toks := tk }) (x := .Constant .none 0 tpos) (y := .Constant .none 0 tpos) z' fun h'' z'' sb => ?_⟩
      have hT2 : h''.get? s.heap.objs.size = some { cls := .type "tuple", data := .seq #[x1, x2] } := (sb.2 _ (Nat.ne_of_gt hzl)).trans hT
      have new : ObjOk X.prog X.w (upd H s.heap.objs.size (.tup [x, y])) h'' s.heap.objs.size (.tup [x, y]) := ⟨by show 2 ≤ sizeLine; decide, [x1, x2], .cons ru (.cons ru2 .nil), ⟨_, hT2, rfl, _, rfl⟩⟩
      have I1 : Inv X pins σ (upd H s.heap.objs.size (.tup [x, y])) { s with heap := h'', toks := tk } :=
        I.turnedNew (t' := tk) (ch := [z, TI, TO, i1, i2]) (fun c o hb q => (sb.2 c (fun q' => hb (by simp [q']))).trans (hk c o (fun q' => hb (by simp [q'])) (fun q' => hb (by simp [q'])) (fun q' => hb (by simp [q'])) (fun q' => hb (by simp [q'])) q)) hf (Nat.le_refl _) new
      have nz1 : i1 ≠ z := S.zi1.symm
      have nz2 : i2 ≠ z := S.zi2.symm
      refine ⟨.ref s.heap.objs.size, _, I1, rfl, ⟨_, x, y, rfl, I.hok.fresh (Nat.le_refl _), rfl, fun l hl => by rw [I.sq_inj hl hqx]; exact hx, fun l hl => by rw [I.sq_inj hl hqy]; exact hy⟩, ⟨z'', (sb.2 _ S.TIz).trans (hk _ _ S.TIz S.TITO S.TIi1 S.TIi2 hTI), ⟨x1, x2, (sb.2 _ S.TOz).trans TO'⟩, v1.1.keep fun o q => (sb.2 _ nz1).trans q, v2.1.keep fun o q => (sb.2 _ nz2).trans q⟩, fun c hcm => ?_⟩
      have hlt : c < s.heap.objs.size := by
        have e' : c = z ∨ c = TI ∨ c = TO ∨ c = i1 ∨ c = i2 := by simpa using hcm
        rcases e' with rfl | rfl | rfl | rfl | rfl
        · exact hzl
        · exact Heap.lt_size hTI
        · exact Heap.lt_size hTO
        · obtain ⟨_, e1, _⟩ := q1.obj; exact Heap.lt_size e1
        · obtain ⟨_, e1, _⟩ := q2.obj; exact Heap.lt_size e1
      rw [upd_ne (Nat.ne_of_lt hlt)]
      exact (hf c hcm).1
    cases st with
    | false => exact wpAny_pyNext_zipD2_item S D1 D2 hz hTI hTO ⟨q1, p⟩ ⟨q2, p2⟩ l1 l2 key
    | true => exact nextS_item S D1 D2 hz hTI hTO ⟨q1, p⟩ ⟨q2, p2⟩ l1 l2 key
  done := by
    intro X hP hw hK hc i pins s σ H E I hf q hg
    subst hP hw hK
    obtain ⟨hz, hTI, ⟨x0, y0, hTO⟩, q1, q2⟩ := q
    obtain ⟨xs, ys, hqx, hqy, le1, le2, hend, hst⟩ := hg
    obtain ⟨its, rv, p⟩ := I.sq hqx
    obtain ⟨its2, rv2, p2⟩ := I.sq hqy
    have l1 := rv.length
    have l2 := rv2.length
    have D1 := draws_sq (prog := X.prog) (w := X.w) (A := X.A.in1) (I.ok.hd hc) k1 i1 a h1 its.toArray
    have D2 := draws_sq (prog := X.prog) (w := X.w) (A := X.A.in1) (I.ok.hd hc) k2 i2 b h2 its2.toArray
    have fin : ∀ (h' : Heap) (tk : Nat), (∀ c o, c ≠ z → c ≠ TO → c ≠ i1 → c ≠ i2 → s.heap.get? c = some o → h'.get? c = some o) → (none : Option Value) = none ∧ Inv X pins σ H { s with heap := h', toks := tk } := fun h' tk hk =>
      ⟨rfl, I.turnedL (t' := tk) (ch := [z, TI, TO, i1, i2]) (fun c o hb q => hk c o (fun q' => hb (by simp [q'])) (fun q' => hb (by simp [q'])) (fun q' => hb (by simp [q'])) (fun q' => hb (by simp [q'])) q) hf⟩
    cases st with
    | false => exact wpAny_pyNext_zipD2_end S D1 D2 hz hTI hTO ⟨q1, p⟩ ⟨q2, p2⟩ (by simp; omega) (by simp; omega) (by simp; omega) fun h' tk hk => fin h' tk hk
    | true =>
      obtain ⟨e1, e2⟩ := hst rfl
      have n1 : its.toArray.size = i := by simp; omega
      have n2 : its2.toArray.size = i := by simp; omega
      rw [n1] at D1
      rw [n2] at D2
      exact nextS_end (I.ok.hd hc) S D1 D2 hz hTI hTO ⟨q1, p⟩ ⟨q2, p2⟩ fun h' hk => fin h' s.toks hk
  self := fun A i s Q E q h => iter_zipB q.1 h
theorem walk_zipB {K : PySem.W.Frag} {st : Bool} {k1 k2 : SK} {a b : Addr} {xs ys : List V} {n : Nat} (hn : n = min xs.length ys.length) (hl : st = true → xs.length = ys.length) :
    Walk (ItzB K st k1 k2 a b) n (fun H => Sq k1 K H a xs ∧ Sq k2 K H b ys) (YPair (fun i => xs[i]?) (fun i => ys[i]?)) := by
  subst hn
  refine ⟨fun i _ hi q => ⟨xs, ys, xs[i]'(by omega), ys[i]'(by omega), q.1, q.2, List.getElem?_eq_getElem (by omega), List.getElem?_eq_getElem (by omega)⟩, fun _ q => ⟨xs, ys, q.1, q.2, by omega, by omega, by omega, fun h => by have := hl h; omega⟩, fun i H v H' _ q y => ?_⟩
  obtain ⟨T, x, z, h1, h2, h3, h4, h5⟩ := y
  exact ⟨T, x, z, h1, h2, h3, h4 xs q.1, h5 ys q.2⟩
theorem apart5 (n a b : Nat) (la : a < n) (lb : b < n) : n + 2 ≠ n + 4 ∧ n + 3 ≠ n + 4 ∧ n + 2 ≠ n + 3 ∧ n + 2 ≠ n ∧ n + 2 ≠ n + 1 ∧ ¬ (n + 4 = n ∨ n + 4 = a) ∧ ¬ (n + 3 = n ∨ n + 3 = a) ∧ ¬ (n + 4 = n + 1 ∨ n + 4 = b) ∧ ¬ (n + 3 = n + 1 ∨ n + 3 = b) ∧ ¬ (n = n + 1 ∨ n = b) ∧ ¬ (n + 1 = n ∨ n + 1 = a) := by omega
theorem le5 (n c : Nat) (h : c = n + 4 ∨ c = n + 2 ∨ c = n + 3 ∨ c = n ∨ c = n + 1) : n ≤ c := by omega
/-- zip(a, b) | zip(a, b, strict=True) -/
def iZipR (K : PySem.W.Frag) (st : Bool) (ta : TA) : TI := fun σ H R => ta σ H fun vs H1 => ∃ (a b : Addr) (k1 k2 : SK) (xs ys : List V), vs = [.ref a, .ref b] ∧ Sq k1 K H1 a xs ∧ Sq k2 K H1 b ys ∧ R (ItzB K st k1 k2 a b) H1
theorem callWith_tyK {M : Model} {A : Around} {E : Value → Shared → Prop} {s : Shared} {env : Env} {pos : Pos} {T : String} {Q : Value → Shared → Prop} {e : Expr} {rest : List Expr} {kws : List Keyword} (hall : (backToKw pos (keywordEach kws env)).all (·.1.isSome) = true)
    (h : wpAny M A (spliced (backTo pos (starEach (e :: rest) env))) (fun vs s₁ => wpAny M A (evalAll ((backToKw pos (keywordEach kws env)).map (·.2))) (fun ks s₂ => wpAny M A (call (.type T) ([] ++ vs) (((backToKw pos (keywordEach kws env)).filterMap (·.1)).zip ks)) Q E s₂) E s₁) E s)
    (hplain : ((backTo pos (starEach (e :: rest) env)).any (·.1) || (backToKw pos (keywordEach kws env)).any (·.1.isNone)) = false) (he : starEach (e :: rest) env = (false, eval e env) :: starEach rest env) :
    wpAny M A (callWith pos (.type T) [] (backTo pos (starEach (e :: rest) env)) (backToKw pos (keywordEach kws env))) Q E s := by
  refine PySem.W.callWith_of (P := fun _ => True) hplain (fun h _ => ⟨.machine, .inr (.inl rfl), PySem.W.Looks.now⟩) (PyProof.Rows.evalArgs_kw2 hall ?_ he)
  exact wpAny_mono h (fun vs s1 q => wpAny_mono q (fun ks s2 q2 => ⟨trivial, q2⟩) fun _ _ x => x) fun _ _ x => x
section
variable {X : Cx} {e e2 : Expr} {ta : TA} {p pos tpos : Pos} {elts : List Expr} {kk : Nat}
theorem zip_core {pins : List (Addr × Obj)} {σ : L2.St} {H : Hp} {s : Shared} {R : It → Hp → Prop} {st : Bool} {a b : Addr} {k1 k2 : SK} {xs ys : List V} (I : Inv X pins σ H s) (hqx : Sq k1 X.K H a xs) (hqy : Sq k2 X.K H b ys) (q : R (ItzB X.K st k1 k2 a b) H) (vs : List Value) (kw : List (Str × Value))
    (hc : ∀ (its its2 : Array Value) (Q : Value → Shared → Prop), SqO k1 s.heap a its → SqO k2 (s.heap.push (itO k1 a)) b its2 → (((zipped st (itO k1 a) (itO k2 b) s.heap).get? (s.heap.objs.size + 4) = some { cls := .type "zip", data := .fields #[.none, .bool false, .bool st, .ref (s.heap.objs.size + 2), .ref (s.heap.objs.size + 3)] }) → Q (.ref (s.heap.objs.size + 4)) { s with heap := zipped st (itO k1 a) (itO k2 b) s.heap }) → wpAny (model X.prog X.w) X.A (call (.type "zip") vs kw) Q X.xe s) :
    wpAny (model X.prog X.w) X.A (call (.type "zip") vs kw) (fun v s1 => wpAny (model X.prog X.w) X.A (pyIter v) (PIE X pins σ (.Tuple elts kk tpos) R) X.xe s1) X.xe s := by
  obtain ⟨its, rv, p1⟩ := I.sq hqx
  obtain ⟨its2, rv2, p2⟩ := I.sq hqy
  have la := p1.lt
  have lb := p2.lt
  have z1 : (s.heap.push (itO k1 a)).objs.size = s.heap.objs.size + 1 := Heap.size_push ..
  have z2 : ((s.heap.push (itO k1 a)).push (itO k2 b)).objs.size = s.heap.objs.size + 2 := by rw [Heap.size_push, z1]
  refine hc _ _ _ p1 (p2.keep fun o e => Heap.get?_push_of_some _ e) fun hz => ?_
  generalize hn : s.heap.objs.size = n at *
  have g3 : (zipped st (itO k1 a) (itO k2 b) s.heap).get? (n + 2) = some { cls := .type "tuple", data := .seq #[.ref n, .ref (n + 1)] } := by
    unfold zipped
    have q := Heap.get?_push_size ((s.heap.push (itO k1 a)).push (itO k2 b)) (o := { cls := .type "tuple", data := .seq #[.ref s.heap.objs.size, .ref (s.heap.objs.size + 1)] }) rfl
    rw [z2, hn] at q
    rw [hn]
    exact Heap.get?_push_of_some _ (Heap.get?_push_of_some _ q)
  have g4 : (zipped st (itO k1 a) (itO k2 b) s.heap).get? (n + 3) = some { cls := .type "tuple", data := .seq #[.none, .none] } := by
    unfold zipped
    have q := Heap.get?_push_size (((s.heap.push (itO k1 a)).push (itO k2 b)).push { cls := .type "tuple", data := .seq #[.ref s.heap.objs.size, .ref (s.heap.objs.size + 1)] }) (o := { cls := .type "tuple", data := .seq #[.none, .none] }) rfl
    rw [Heap.size_push, z2] at q
    exact Heap.get?_push_of_some _ q
  have g1 : (zipped st (itO k1 a) (itO k2 b) s.heap).get? n = some (itO k1 a) := by
    unfold zipped
    have q := Heap.get?_push_size s.heap (o := itO k1 a) itO_free
    rw [hn] at q
    exact Heap.get?_push_of_some _ (Heap.get?_push_of_some _ (Heap.get?_push_of_some _ (Heap.get?_push_of_some _ q)))
  have g2 : (zipped st (itO k1 a) (itO k2 b) s.heap).get? (n + 1) = some (itO k2 b) := by
    unfold zipped
    have q := Heap.get?_push_size (s.heap.push (itO k1 a)) (o := itO k2 b) itO_free
    rw [z1] at q
    exact Heap.get?_push_of_some _ (Heap.get?_push_of_some _ (Heap.get?_push_of_some _ q))
  have kp : ∀ c o, s.heap.get? c = some o → (zipped st (itO k1 a) (itO k2 b) s.heap).get? c = some o := fun c o e => by
    unfold zipped
    exact Heap.get?_push_of_some _ (Heap.get?_push_of_some _ (Heap.get?_push_of_some _ (Heap.get?_push_of_some _ (Heap.get?_push_of_some _ e))))
  refine iter_zipB (b := st) (TI := n + 2) (TO := n + 3) (f0 := .none) hz ?_
  have I2 : Inv X pins σ H { s with heap := zipped st (itO k1 a) (itO k2 b) s.heap } := I.kept (t' := s.toks) kp
  have S : ZipSep2 (n + 4) (n + 2) (n + 3) n (n + 1) [n, a] [n + 1, b] := by
    have o := apart5 n a b la lb
    refine ⟨o.1, o.2.1, o.2.2.1, o.2.2.2.1, by simp, ?_, ?_, o.2.2.2.2.1, by simp, ?_, ?_, ?_, ?_⟩ <;> (simp only [List.mem_cons, List.not_mem_nil, or_false]; first | exact o.2.2.2.2.2.1 | exact o.2.2.2.2.2.2.1 | exact o.2.2.2.2.2.2.2.1 | exact o.2.2.2.2.2.2.2.2.1 | exact o.2.2.2.2.2.2.2.2.2.1 | exact o.2.2.2.2.2.2.2.2.2.2)
  refine ⟨n + 4, [n + 4, n + 2, n + 3, n, n + 1], _, _, H, rfl, I2, turn_zipB S (Nat.ne_of_lt la) (Nat.ne_of_lt (Nat.lt_succ_of_lt lb)), ⟨hz, g3, ⟨_, _, g4⟩, SqI.new g1, SqI.new g2⟩, fun c hcm => ?_, q⟩
  have hle : s.heap.objs.size ≤ c := by
    have e' : c = n + 4 ∨ c = n + 2 ∨ c = n + 3 ∨ c = n ∨ c = n + 1 := by simpa using hcm
    rw [hn]
    exact le5 n c e'
  exact I.fpOk hle (I.hok.fresh hle)
theorem pi_zipS {kpos cp : Pos} {j : Nat} (hg : Gl X "zip") (hm : X.mg "zip" = none) (ha : PA X [e, e2] ta) (hpl : ((backTo pos (starEach [e, e2] X.env)).any (·.1) || (backToKw pos (keywordEach [⟨some "strict", .Constant (.bool true) j cp, kpos⟩] X.env)).any (·.1.isNone)) = false := by rfl)
    (hall : (backToKw pos (keywordEach [⟨some "strict", .Constant (.bool true) j cp, kpos⟩] X.env)).all (·.1.isSome) = true := by rfl)
    (hs : starEach [e, e2] X.env = (false, eval e X.env) :: starEach [e2] X.env := by rfl) :
    PI X (.Tuple elts kk tpos) (.Call (.Name "zip" p) [e, e2] [⟨some "strict", .Constant (.bool true) j cp, kpos⟩] pos) (iZipR X.K true ta) := by
  refine ⟨fun pins s σ H R I h => wpAny_Call_Name_kw (ld_blt I hg hm PyProof.Rows.boot_zip (callWith_tyK hall (thn (ha.run pos pins s σ H _ I h) fun us s1 ⟨vs, H1, I1, r1, q1⟩ => ?_) hpl hs))⟩
  refine thn ((pk_cons (pe_bl (b := true)) pk_nil).run pos pins s1 σ H1 (fun zs H2 => zs = [.bl true] ∧ H2 = H1) I1 ⟨rfl, rfl⟩) fun ws s2 ⟨zs, H2, I2, r2, ez, eH⟩ => ?_
  subst ez eH
  cases r2 with
  | cons rz rn =>
    cases rn
    obtain rfl : _ = Value.bool true := rz
    obtain ⟨a, b, k1, k2, xs, ys, ex, hqx, hqy, q⟩ := q1
    subst ex
    cases r1 with
    | cons r rr =>
      cases rr with
      | cons r' rr =>
        cases rr
        cases r
        cases r'
        refine zip_core I2 hqx hqy q _ _ fun its its2 Q o1 o2 hQ => callType_newKw F.called_zip (by decide) (F.typeCall_zip_strict _ _ _) (F.newCall_zip_strict _ _ _) (fun obj => F.args_init_strict obj _ _ _) F.entry_zip_new (meets_zipS (begins_sq k1 a its) (begins_sq k2 b its2)) ⟨o1, o2, ?_⟩
        have hz : (zipped true (itO k1 a) (itO k2 b) s2.heap).get? (s2.heap.objs.size + 4) = some { cls := .type "zip", data := .fields #[.none, .bool false, .bool true, .ref (s2.heap.objs.size + 2), .ref (s2.heap.objs.size + 3)] } := by
          unfold zipped
          rw [← show ((((s2.heap.push (itO k1 a)).push (itO k2 b)).push { cls := .type "tuple", data := .seq #[.ref s2.heap.objs.size, .ref (s2.heap.objs.size + 1)] }).push { cls := .type "tuple", data := .seq #[.none, .none] }).objs.size = s2.heap.objs.size + 4 by simp only [Heap.size_push]]
          exact Heap.get?_push_size _ rfl
        exact ⟨⟨_, hz, rfl⟩, hQ hz⟩
end
end L2
namespace DL
open PySem PySem.Spec PyProof.Rows L2
/-- a list's or a tuple's items -/
def seqD : D → Option (List D)
  | .list ds => some ds
  | .tuple ds => some ds
  | _ => none
theorem seqD_sq {K : PySem.W.Frag} {G H : Hp} {v : V} {d : D} {ds : List D} (le : Same G H) (h : DP K G v d) (e : seqD d = some ds) : ∃ a k xs, v = .ref a ∧ Sq k K G a xs ∧ Sq k K H a xs ∧ DPs K G xs ds := by
  cases h with
  | @lst a xs ds' h1 h2 => cases e; exact ⟨a, .L, xs, rfl, h1, le.seq h1, h2⟩
  | @tup a xs ds' h1 h2 => cases e; exact ⟨a, .T, xs, rfl, h1, SqT.same le h1, h2⟩
  | non => cases e
  | bl _ => cases e
  | int _ => cases e
  | str _ => cases e
  | dic _ _ => cases e
theorem Sq.same {k : SK} {K : PySem.W.Frag} {G G' : Hp} {a : Addr} {xs : List V} (s : Same G G') (h : Sq k K G a xs) : Sq k K G' a xs := by
  cases k with
  | L => exact s.seq h
  | T => exact SqT.same s h
theorem it_zipB {K : PySem.W.Frag} {G0 : Hp} {st : Bool} {k1 k2 : SK} {a b : Addr} {xs ys : List V} {ds es : List D} (h1 : Sq k1 K G0 a xs) (h2 : Sq k2 K G0 b ys) (h : DPs K G0 xs ds) (h' : DPs K G0 ys es) (hl : st = true → ds.length = es.length) : Iterates K G0 (ItzB K st k1 k2 a b) (zipD ds es) := by
  refine ⟨_, _, walk_zipB (xs := xs) (ys := ys) (by unfold zipD; rw [List.length_zipWith, h.length, h'.length]) (fun e => by rw [h.length, h'.length]; exact hl e), fun _ s => ⟨Sq.same s h1, Sq.same s h2⟩, fun i H x H' G s1 s2 hi hy => ?_⟩
  obtain ⟨T, u, y, e1, e2, e3, e4, e5⟩ := hy
  subst e1 e3
  obtain ⟨d, hd, hp⟩ := h.getV e4
  obtain ⟨d', hd', hp'⟩ := h'.getV e5
  have g := Grow.new s2 e2 (.tup [u, y])
  exact ⟨_, _, zipD_get hd hd', g, .tup (.inl (.inl upd_same)) (.cons ((hp.mono s1).mono g.g) (.cons ((hp'.mono s1).mono g.g) .nil))⟩
def pZip (st : Bool) (a b : D) : Option (List D) := (seqD a).bind fun ds => (seqD b).bind fun es => if st && (ds.length != es.length) then none else some (zipD ds es)
def iZipB (st : Bool) (m n : M D) : M (List D) := fun r => (m r).bind fun a => (n a.2).bind fun b => (ofO (pZip st a.1 b.1)).bind fun d => .ok (d, b.2)
theorem absZipB {K : PySem.W.Frag} {tcK : TabC K} {E : WX} {ta tb : TE} {m n : M D} {st : Bool} (ha : AbsD K E ta m) (hb : AbsD K E tb n) : AbsI K E (iZipR K st (tCons ta (tCons tb tNil))) (iZipB st m n) := by
  intro G as r σ H Q R w
  refine ha G as r σ H _ R ((Wp.bind w).mono (fun a w1 => ?_) fun _ z => z)
  intro G1 H1 x S1 R1 dx
  refine hb G1 as a.2 σ H1 _ R1 ((Wp.bind w1).mono (fun b w2 => ?_) fun _ z => XPost.on R1 S1 z)
  intro G2 H2 y S2 R2 dy
  obtain ⟨ds, e, w3⟩ := wp_bindO w2
  unfold pZip at e
  cases e1 : seqD a.1 with
  | none => rw [e1] at e; cases e
  | some xs =>
    rw [e1] at e
    cases e2 : seqD b.1 with
    | none => rw [e2] at e; cases e
    | some ys =>
      rw [e2] at e
      have e : (if st && (xs.length != ys.length) then none else some (zipD xs ys)) = some ds := e
      split at e
      · cases e
      · rename_i hne
        cases e
        obtain ⟨p, k1, us, rfl, q1, q1', d1⟩ := seqD_sq R2.le (dx.mono S2.g) e1
        obtain ⟨q, k2, vs, rfl, q2, q2', d2⟩ := seqD_sq R2.le dy e2
        refine ⟨p, q, k1, k2, us, vs, rfl, q1', q2', w3 G2 H2 _ (S1.trans R1 S2) R2 (it_zipB q1 q2 d1 d2 fun hs => ?_)⟩
        rw [hs] at hne
        simpa using hne
end DL
/-! # DLK: sorted of any data that are alike -/
namespace DL
open PySem PySem.Spec PySem.W PyProof.Rows L2
section
variable {X : Cx} {pins : List (Addr × Obj)} {σ : L2.St} {H G : Hp} {s : Shared}
mutual
/-- data without dicts, as the library reads them -/
theorem DP.reads (I : Inv X pins σ H s) (le : Same G H) : ∀ {v : V} {d : D} {u : Value}, DP X.K G v d → alike d d = true → RelV v u → ∃ as, Reads s.heap u d as
  | _, _, u, .non, _, r => by obtain rfl : u = Value.none := r; exact ⟨_, .none⟩
  | _, _, u, .bl b, _, r => by obtain rfl : u = Value.bool b := r; exact ⟨_, .bool b⟩
  | _, _, u, .int i, _, r => by obtain ⟨t, rfl⟩ := r; exact ⟨_, .int i t⟩
  | _, _, u, .str x, _, r => by obtain ⟨t, rfl⟩ := r; exact ⟨_, .str x t⟩
  | _, _, u, .lst (a := a) h1 h2, e, r => by
    obtain rfl : u = Value.ref a := r
    obtain ⟨its, rv, ⟨o, n, ho, hc, _, hd⟩, _⟩ := I.list (le.seq h1)
    obtain ⟨as, q⟩ := DPs.reads I le h2 (by simpa [alike] using e) rv
    exact ⟨_, .list ho hc hd q⟩
  | _, _, u, .tup (a := a) h1 h2, e, r => by
    obtain rfl : u = Value.ref a := r
    obtain ⟨its, rv, ⟨o, ho, hc, n, hd⟩, _⟩ := I.tuple (SqT.same le h1)
    obtain ⟨as, q⟩ := DPs.reads I le h2 (by simpa [alike] using e) rv
    exact ⟨_, .tuple ho hc hd q⟩
  | _, _, _, .dic _ _, e, _ => by simp [alike] at e
theorem DPs.reads (I : Inv X pins σ H s) (le : Same G H) : ∀ {vs : List V} {ds : List D} {us : List Value}, DPs X.K G vs ds → alikeAll ds ds = true → Vals vs us → ∃ as, ReadsAll s.heap us ds as
  | _, _, _, .nil, _, .nil => ⟨_, .nil⟩
  | _, _, _, .cons h1 h2, e, .cons r1 r2 => by
    simp only [alikeAll, Bool.and_eq_true] at e
    obtain ⟨as, q1⟩ := DP.reads I le h1 e.1 r1
    obtain ⟨bs, q2⟩ := DPs.reads I le h2 e.2 r2
    exact ⟨_, .cons q1 q2⟩
end
end
def isTup1 : D → Bool
  | .tuple (_ :: _) => true
  | _ => false
def notTN : D → Bool
  | .tuple _ => false
  | .none => false
  | _ => true
/-- what sorted takes -/
def okSort (ds : List D) : Bool := ds.all (fun d => ds.all fun e => alike d e) && (ds.all isTup1 || ds.all notTN) && ds.all fun d => decide (d.depth ≤ 40)
theorem okSort_of {ds : List D} (h : okSort ds = true) : AllAlike ds ∧ Sortable ds ∧ ∀ d ∈ ds, d.depth ≤ 40 := by
  unfold okSort at h
  simp only [Bool.and_eq_true, Bool.or_eq_true, List.all_eq_true, decide_eq_true_eq] at h
  obtain ⟨⟨h1, h2⟩, h3⟩ := h
  refine ⟨fun d hd e he => h1 d hd e he, ?_, h3⟩
  rcases h2 with h2 | h2
  · refine .inl fun d hd => ?_
    have q := h2 d hd
    unfold isTup1 at q
    split at q
    · exact ⟨_, _, rfl⟩
    · cases q
  · refine .inr fun d hd => ?_
    have q := h2 d hd
    unfold notTN at q
    split at q
    · cases q
    · cases q
    · rename_i n1 n2
      exact ⟨n2, fun xs z => n1 xs z⟩
/-- in order, like ones as they were -/
def sortD (b : Bool) (ds : List D) : List D := ds.mergeSort (dataLe b id)
theorem each_of {R : Value → D → Prop} : ∀ {us : List Value} {ds : List D}, EachIs R us ds → ∀ {P : Value → D → Prop}, (∀ u d, R u d → d ∈ ds → P u d) → EachIs P us ds
  | _, _, .nil, _, _ => .nil
  | _, _, .cons h1 h2, _, h => .cons (h _ _ h1 (List.mem_cons_self ..)) (each_of h2 fun u d q m => h u d q (List.mem_cons_of_mem _ m))
theorem each_vals {K : PySem.W.Frag} {G : Hp} : ∀ {vs : List V} {ds : List D} {us : List Value}, DPs K G vs ds → Vals vs us → EachIs (fun u d => ∃ v, RelV v u ∧ DP K G v d) us ds
  | _, _, _, .nil, .nil => .nil
  | _, _, _, .cons h1 h2, .cons r1 r2 => .cons ⟨_, r1, h1⟩ (each_vals h2 r2)
theorem vals_each {K : PySem.W.Frag} {G : Hp} : ∀ {us : List Value} {ds : List D}, EachIs (fun u d => ∃ v, RelV v u ∧ DP K G v d) us ds → ∃ vs, Vals vs us ∧ DPs K G vs ds
  | _, _, .nil => ⟨[], .nil, .nil⟩
  | _, _, .cons ⟨v, r, h⟩ hs => let ⟨vs, r2, h2⟩ := vals_each hs; ⟨v :: vs, .cons r r2, .cons h h2⟩
section
variable {prog : Program} {w : World} {A : Around} {E : Value → Shared → Prop} {s : Shared}
/-- sorted(x, ..) is the sort of a new list of x's items -/
theorem sorted_of_sq {k : SK} {l : Addr} {vs : List Value} {kw : List (Str × Value)} {Q : Value → Shared → Prop} (hl : SqO k s.heap l vs.toArray) (hL : vs.length ≤ sizeLine) (ha1 : argsOk "sorted" ⟨[.ref l], kw⟩) (ha2 : ∀ x, argsOk "list.sort" ⟨[.ref x], kw⟩)
    (body : ∀ E' : Value → Shared → Prop, wpAny (model prog w) A.in1.in1 (Builtin.«list.sort» ⟨[.ref (s.heap.objs.size + 1)], kw⟩) (fun f s' => f = .done (.ret .none) ∧ Q (.ref (s.heap.objs.size + 1)) s') E' { s with heap := copyHeap s.heap vs }) :
    wpAny (model prog w) A (call (.builtin "sorted") [.ref l] kw) Q E s := by
  cases k with
  | L => exact sorted_of_sort hl hL ha1 ha2 body
  | T =>
    refine call_function_entry_kw kind_sorted plain_sorted entry_sorted ha1 ?_; unfold Builtin.«sorted»
    refine wpAny_bind (m := checkCount "sorted" 1 1 _) (wpAny_pure (wpAny_bind (SrtR.gather_tup hl hL (wpAny_bind (wpAny_newList ?_ hL)))))
    have hsz : ((s.heap.push (seqObj "list" #[] 0)).update s.heap.objs.size (Obj.mapSeq (· ++ vs.toArray))).objs.size = s.heap.objs.size + 1 := by rw [Heap.size_update, size_push']
    show wpAny _ _ _ _ _ { s with heap := copyHeap s.heap vs }
    rw [hsz]; refine wpAny_bind (wpAny_holding (wpAny_call_entry_kw slot_list_sort ⟨_, copyHeap_at s.heap vs, rfl⟩ entry_list_sort ?_ (ha2 _)))
    refine wpAny_mono (body _) (fun f s' hf => ?_) fun _ _ e => e
    obtain ⟨rfl, hq⟩ := hf; exact ⟨_, rfl, wpAny_pure ⟨_, rfl, hq⟩⟩
end
section
variable {X : Cx}
def rSortD (K : PySem.W.Frag) (b : Bool) : List V → Hp → VK → Prop := fun vs H Q => ∃ (G : Hp) (v : V) (d : D) (ds : List D), vs = [v] ∧ Same G H ∧ DP K G v d ∧ seqD d = some ds ∧ okSort ds = true ∧
  ∀ (ws : List V) (p : Addr), DPs K G ws (sortD b ds) → H p = none → Q (.ref p) (upd H p (.lst ws))
theorem sortD_core {b : Bool} {kw : List (Str × Value)} {pins : List (Addr × Obj)} {s : Shared} {σ : L2.St} {H G : Hp} {v : V} {u : Value} {d : D} {ds : List D} {Q : VK} (hu : X.A.units + 64 < cLine) (I : Inv X pins σ H s) (le : Same G H) (hd : DP X.K G v d) (he : seqD d = some ds) (ok : okSort ds = true) (r : RelV v u)
    (k0 : ∀ a, Builtin.«list.sort» ⟨[.ref a], kw⟩ = Builtin.«list.sort» ⟨[.ref a], [(Str.ofString "reverse", .bool b)]⟩) (a1 : ∀ a, argsOk "sorted" ⟨[.ref a], kw⟩) (a2 : ∀ a, argsOk "list.sort" ⟨[.ref a], kw⟩)
    (q : ∀ (ws : List V) (p : Addr), DPs X.K G ws (sortD b ds) → H p = none → Q (.ref p) (upd H p (.lst ws))) : wpAny (model X.prog X.w) X.A (call (.builtin "sorted") [u] kw) (EP X pins σ Q) X.xe s := by
  obtain ⟨al, so, dp⟩ := okSort_of ok
  obtain ⟨a, k, xs, rfl, q1, q1', d1⟩ := seqD_sq le hd he
  obtain rfl : u = Value.ref a := r
  obtain ⟨its, rv, p1⟩ := I.sq q1'
  have hz : xs.length ≤ sizeLine := by
    cases k with
    | L => obtain ⟨_, _, _, z⟩ := I.list q1'; exact z
    | T => obtain ⟨_, _, _, z⟩ := I.tuple q1'; exact z
  have hl : its.length ≤ sizeLine := by rw [← rv.length]; exact hz
  have hE := each_vals d1 rv
  have eR : EachIs (fun u d => ∃ as, Reads s.heap u d as) its ds := each_of hE fun u d ⟨v, r, h⟩ m => DP.reads I le h (al d m d m) r
  have eR' : EachIs (fun u d => ∃ as, Reads (sortingHeap (copyHeap s.heap its) (s.heap.objs.size + 1) its) u d as) its ds := eR.mono fun _ _ ⟨as, z⟩ => ⟨as, PyProof.Rows.Reads.keeps (fun _ _ => sorting_copy_old) z⟩
  refine sorted_of_sq p1 hl (a1 _) (fun _ => a2 _) fun E' => ?_
  rw [k0]
  have S := SortsAt.data (prog := X.prog) (w := X.w) (A := X.A.in1.in1) (s := { s with heap := sortingHeap (copyHeap s.heap its) (s.heap.objs.size + 1) its }) eR' al so fun d m => by
    have := dp d m
    show X.A.units + 1 + 1 + d.depth < cLine
    omega
  refine list_sort_rev_vals (s := { s with heap := copyHeap s.heap its }) (copyHeap_at s.heap its) S hl ⟨rfl, ?_⟩
  have hk : EachIs (fun v b => ∃ as, Reads (sortingHeap (copyHeap s.heap its) (s.heap.objs.size + 1) its) v (id b) as) its ds := eR'
  have out := sortVals_data (enc := id) b hE hk (by rw [List.map_id]; exact al)
  rw [List.map_id] at out
  obtain ⟨ws, r2, d2⟩ := vals_each out
  obtain ⟨ep, he'⟩ := PyProof.Rows.sortedAll_at s.heap its (sortVals (dataKind (sortingHeap (copyHeap s.heap its) (s.heap.objs.size + 1) its) ds) b its its).toArray
  have hlen : ws.length ≤ sizeLine := by
    rw [r2.length, out.length, List.length_mergeSort, ← hE.length]
    exact hl
  exact ⟨.ref _, upd H (s.heap.objs.size + 1) (.lst ws), I.laid (t' := s.toks) (fun _ _ => PyProof.Rows.sortedAll_old) (Nat.le_succ _) ⟨hlen, _, ep, r2, he'⟩, rfl, q _ _ d2 (I.hok.fresh (Nat.le_succ _))⟩
theorem cr_sortDRev {b : Bool} (hu : X.A.units + 64 < cLine) : CallRK X (.builtin "sorted") [Str.ofString "reverse"] (fun vs zs H Q => zs = [.bl b] ∧ rSortD X.K b vs H Q) := by
  intro pins s σ H vs zs us ws Q I r rz h
  obtain ⟨rfl, G, v, d, ds, rfl, le, hd, he, ok, q⟩ := h
  obtain ⟨u, rfl, ru⟩ := vals1 r
  obtain ⟨w1, rfl, e1⟩ := vals1 rz
  obtain rfl : w1 = Value.bool b := e1
  exact sortD_core hu I le hd he ok ru (fun _ => rfl) (fun _ => PyProof.Rows.args_sorted_rev _ _) (fun _ => PyProof.Rows.args_list_sort_rev _ _) q
end
section
variable {K : PySem.W.Frag}
def pSortD (b : Bool) : List D → Option RV
  | [d] => (seqD d).bind fun ds => if okSort ds = true then some (.own (.lst (sortD b ds))) else none
  | _ => none
theorem a_sortD {b : Bool} : ANR K (rSortD K b) (pSortD b) := by
  intro G H xs ds Q le h rv e q
  cases h with
  | nil => cases e
  | cons h1 h2 =>
    cases h2 with
    | cons _ _ => cases e
    | nil =>
      rename_i v d
      have e : (seqD d).bind (fun ds => if okSort ds = true then some (RV.own (.lst (sortD b ds))) else none) = some rv := e
      cases e1 : seqD d with
      | none => rw [e1] at e; cases e
      | some ds =>
        rw [e1] at e
        have e : (if okSort ds = true then some (RV.own (.lst (sortD b ds))) else none) = some rv := e
        split at e
        · rename_i ok
          cases e
          refine ⟨G, v, d, ds, rfl, le, h1, e1, ok, fun ws p hw hp => ?_⟩
          exact q G _ _ (Grow.bare le hp _) ⟨p, rfl, hp, le.free hp, ws, upd_same, hw⟩
        · cases e
theorem absSortRD {tcK : TabC K} {E : WX} {t : TA} {ms : M (List D)} {b : Bool} (ha : AbsA K E t ms) : AbsE K E (tCKw (fun vs zs H Q => zs = [.bl b] ∧ rSortD K b vs H Q) t (tCons (tC (.bl b)) tNil)) (eCB (pSortD b) ms) := by
  intro G as r σ H Q R w
  refine ha G as r σ H _ R ((Wp.bind w).mono (fun a w1 => ?_) fun _ z => z)
  intro G1 H1 x S1 R1 dx
  obtain ⟨d, e, w3⟩ := wp_bindO w1
  exact ⟨rfl, a_sortD G1 H1 x _ _ R1.le dx d e fun G3 H3 v g dv => w3 G3 H3 v (S1.trans R1 (g.stp R1)) (g.rel R1) ((RVg.at R1 dv).back R1 S1)⟩
end
end DL
/-! # DLL: how many unlike numbers; extend; sorted numbers and pairs -/
namespace DL
open PySem PySem.Spec PySem.W PyProof.Rows L2
/-- each number once -/
def nubI : List Int → List Int
  | [] => []
  | x :: xs => if x ∈ xs then nubI xs else x :: nubI xs
def pLenSet : D → Option D := fun d => (seqD d).bind fun ds => (ints? ds).bind fun ns => if ns.length < 4000 then some (.int (nubI ns).length) else none
def dLenSet (m : M D) : M D := dUn pLenSet m
instance pu_LenSet (m : M D) [ha : PureM m] : PureM (dLenSet m) := inferInstanceAs (PureM (dUn pLenSet m))
/-! ### sorted numbers, sorted pairs -/
theorem okSort_ints (ns : List Int) : okSort (ns.map .int) = true := by
  unfold okSort
  simp only [Bool.and_eq_true, Bool.or_eq_true, List.all_eq_true, decide_eq_true_eq, List.mem_map]
  refine ⟨⟨?_, .inr ?_⟩, ?_⟩
  · rintro d ⟨a, _, rfl⟩ e ⟨b, _, rfl⟩; rfl
  · rintro d ⟨a, _, rfl⟩; rfl
  · rintro d ⟨a, _, rfl⟩; exact Nat.zero_le _
theorem sort_down (ns : List Int) : ns.mergeSort (fun a b => decide (b ≤ a)) = (sortI ns).reverse := by
  have h1 : (ns.mergeSort (fun a b : Int => decide (b ≤ a))).Pairwise (fun a b => b ≤ a) :=
    (List.pairwise_mergeSort (le := fun a b : Int => decide (b ≤ a)) (fun a b c h1 h2 => by simp at *; omega) (fun a b => by simp; omega) ns).imp fun h => by simpa using h
  have h2 : ((sortI ns).reverse).Pairwise (fun a b => b ≤ a) := List.pairwise_reverse.mpr (sortI_sorted ns)
  have hp : (ns.mergeSort (fun a b : Int => decide (b ≤ a))).Perm (sortI ns).reverse := (List.mergeSort_perm ns _).trans ((sortI_perm ns).symm.trans (List.reverse_perm _).symm)
  exact hp.eq_of_pairwise (fun a b _ _ h h' => Int.le_antisymm h' h) h1 h2
theorem sortD_ints (b : Bool) (ns : List Int) : sortD b (ns.map .int) = (sortB b ns).map .int := by
  unfold sortD sortB
  cases b with
  | false =>
    rw [if_neg Bool.false_ne_true]
    unfold sortI
    rw [List.map_mergeSort]
    intro a _ b _
    exact (congrFun (congrFun (dataLe_int (β := Int) fun p => p) a) b).symm
  | true =>
    rw [if_pos rfl, ← sort_down, List.map_mergeSort]
    intro a _ b _
    exact (congrFun (congrFun (dataGe_int (β := Int) fun p => p) a) b).symm
theorem v_sortDL (b : Bool) (ns : List Int) : pSortD b [.list (ns.map .int)] = some (.own (.lst ((sortB b ns).map .int))) := by
  show (if okSort (ns.map .int) = true then some (RV.own (.lst (sortD b (ns.map .int)))) else none) = _
  rw [if_pos (okSort_ints ns), sortD_ints]
theorem v_sortDT (b : Bool) (ns : List Int) : pSortD b [.tuple (ns.map .int)] = some (.own (.lst ((sortB b ns).map .int))) := by
  show (if okSort (ns.map .int) = true then some (RV.own (.lst (sortD b (ns.map .int)))) else none) = _
  rw [if_pos (okSort_ints ns), sortD_ints]
def pairD (p : Int × Int) : D := .tuple [.int p.1, .int p.2]
/-- pairs in order -/
def leP (p q : Int × Int) : Bool := decide (p.1 < q.1 ∨ (p.1 = q.1 ∧ p.2 ≤ q.2))
def sortP (ps : List (Int × Int)) : List (Int × Int) := ps.mergeSort leP
theorem okSort_pairs (ps : List (Int × Int)) : okSort (ps.map pairD) = true := by
  unfold okSort
  simp only [Bool.and_eq_true, Bool.or_eq_true, List.all_eq_true, decide_eq_true_eq, List.mem_map]
  refine ⟨⟨?_, .inl ?_⟩, ?_⟩
  · rintro d ⟨a, _, rfl⟩ e ⟨b, _, rfl⟩; rfl
  · rintro d ⟨a, _, rfl⟩; rfl
  · rintro d ⟨a, _, rfl⟩; show PyData.depth (.tuple [.int a.1, .int a.2]) ≤ 40; simp [PyData.depth, PyData.depthAll]
theorem sortD_pairs (ps : List (Int × Int)) : sortD false (ps.map pairD) = (sortP ps).map pairD := by
  unfold sortD sortP
  rw [List.map_mergeSort]
  intro a _ b _
  have := congrFun (congrFun (dataLe_ii (β := Int × Int) (fun p => p.1) (fun p => p.2)) a) b
  exact this.symm
theorem v_sortDP (ps : List (Int × Int)) : pSortD false [.list (ps.map pairD)] = some (.own (.lst ((sortP ps).map pairD))) := by
  show (if okSort (ps.map pairD) = true then some (RV.own (.lst (sortD false (ps.map pairD)))) else none) = _
  rw [if_pos (okSort_pairs ps), sortD_pairs]
end DL
/-! # DLM: a tuple so many times -/
namespace L2
open PySem PySem.Spec PyProof.Rows
theorem tuple_mul1 (l : Addr) (items : Array Value) (n : Nat) (dd : Option Addr) (sl : Array (Option Value)) (u : Tok) :
    Meets (Builtin.«tuple.__mul__» ⟨[.ref l, .int 1 u], []⟩) (fun _ R s => s.heap.get? l = some { cls := .type "tuple", dict := dd, data := .seq items n, slots := sl } ∧ R (.ok (.ret (Value.ref l))) s) :=
  .of_wp fun prog w A R s h => by
    obtain ⟨hp, g, d, tk, os⟩ := s
    obtain ⟨hl, h⟩ := h
    have f1 := AutoSeq1.idx_int
    have c0 : (decide ((1 : Int) < -(2 ^ 63)) || decide ((1 : Int) ≥ 2 ^ 63)) = false := by decide
    have c1 : (items.isEmpty || (1 : Int) == 1) = true := by simp
    wp_walk using wpAny_loadPart' hl
    repeat (first
      | (refine wpAny_ite_false (decide_eq_false (by rw [c0]; exact Bool.false_ne_true)) ?_; wp_walk using wpAny_loadPart' hl)
      | (refine wpAny_ite_true (decide_eq_true (by rw [c1])) ?_; wp_walk using wpAny_loadPart' hl))
    exact ⟨_, rfl, h⟩
def rRepT1 (K : PySem.W.Frag) : R2 := fun x y H Q => ∃ l xs, x = .ref l ∧ y = .int 1 ∧ SqT K H l xs ∧ Q (.ref l) H
theorem op_repT1 {X : Cx} : OpR X (binaryOp .Mult) (rRepT1 X.K) := by
  intro pins s σ H x y v u Q I rx ry h
  obtain ⟨l, xs, rfl, rfl, hT, q⟩ := h
  cases rx
  obtain ⟨t, rfl⟩ := ry
  obtain ⟨its, r, ⟨⟨cls, dd, data, sl⟩, ho, hc, n, hd⟩, hs⟩ := I.tuple hT
  simp only at hc hd
  subst hc hd
  refine wpAny_binaryOp_repeat_ref (T := "tuple") (U := "int") (by decide) ⟨_, ho, rfl⟩ (fun s' => typeIs_int s' 1 t) noFill_tuple_mul F.fills_int_mul F.slot_int_rmul repeat_tuple F.slot_int_index.lookup
    (call_meets F.slot_int_rmul (typeIs_int s 1 t) F.entry_int_rmul (F.args_int_rmul_2 _ _) (int_rmul_tuple 1 t l its.toArray n dd sl)
      ⟨ho, rfl, ⟨_, ho, rfl⟩, call_meets F.slot_tuple_mul ⟨_, ho, rfl⟩ F.entry_tuple_mul (F.args_tuple_mul_2 _ _) (tuple_mul1 l its.toArray n dd sl t) ⟨ho, ?_⟩⟩)
  exact ⟨.ref l, H, I, rfl, q⟩
end L2
namespace DL
open PySem PySem.Spec PyProof.Rows L2
/-- t * k, t a tuple -/
def rTM (K : PySem.W.Frag) : R2 := fun x y H Q => rRepT1 K x y H Q ∨ rRepT K x y H Q
def pTM : D → D → Option D
  | .tuple ds, .int k => if k = 1 then some (.tuple ds) else if (2 ≤ k ∧ k ≤ 1000) ∧ ds ≠ [] ∧ ds.length ≤ 1000 then some (.tuple (repL k.toNat ds)) else none
  | _, _ => none
theorem op_tm {X : Cx} : OpR X (binaryOp .Mult) (rTM X.K) := op_repT1.or op_repT
theorem a_tm {K : PySem.W.Frag} : A2 K (rTM K) pTM := by
  intro G H x y dx dy Q le hx hy d e q
  unfold pTM at e
  split at e
  · rename_i ds k
    obtain rfl : y = .int k := dp_int hy
    cases hx with
    | @tup a xs ds h1 h2 =>
      split at e
      · rename_i hk
        subst hk
        cases e
        exact .inl ⟨a, xs, rfl, rfl, SqT.same le h1, q G H _ (Grow.refl le) (.tup h1 h2)⟩
      · split at e
        · rename_i hk
          cases e
          have hl := h2.length
          refine .inr ⟨a, k, xs, rfl, rfl, SqT.same le h1, fun z => hk.2.1 (by rw [z] at hl; exact List.eq_nil_of_length_eq_zero hl.symm), hk.1.1, hk.1.2, by rw [hl]; exact hk.2.2, fun p hp => ?_⟩
          have g := Grow.new le hp (.tup (List.replicate k.toNat xs).flatten)
          exact q _ _ _ g (.tup (.inl (.inl upd_same)) ((h2.mono g.g).rep _))
        · cases e
  · cases e
theorem v_tm1 (x : D) (k : Int) (h : 1 ≤ k) (h2 : k ≤ 1000) : pTM (.tuple [x]) (.int k) = some (.tuple (List.replicate k.toNat x)) := by
  unfold pTM
  by_cases hk : k = 1
  · subst hk; rfl
  · show (if k = 1 then some (PyData.tuple [x]) else if (2 ≤ k ∧ k ≤ 1000) ∧ [x] ≠ [] ∧ [x].length ≤ 1000 then some (.tuple (repL k.toNat [x])) else none) = _
    rw [if_neg hk, if_pos ⟨⟨by omega, h2⟩, by simp, by simp⟩]
    unfold repL
    congr 2
    induction k.toNat with
    | zero => rfl
    | succ n ih => rw [List.replicate_succ, List.replicate_succ, List.flatten_cons, ih]; rfl
end DL
/-! # DLN: a list or a tuple turned round by a slice -/
namespace HT
open PySem PySem.Spec PyProof.Rows
section
variable {prog : Program} {w : World} {A : Around} {E : Value → Shared → Prop} {s : Shared}
end
end HT
namespace L2
open PySem PySem.Spec PyProof.Rows HT
section
variable {X : Cx}
end
end L2
namespace DL
open PySem PySem.Spec PyProof.Rows L2
section
variable {K : PySem.W.Frag} {tcK : TabC K} {E : WX} {te : TE} {m : M D}
/-- x[::-1] of a list or a tuple -/
def eRevA (m : M D) : M RV := fun r => (m r).bind fun a => match a.1 with
  | .list ds => .ok (.own (.lst ds.reverse), a.2)
  | .tuple ds => .ok (.val (.tuple ds.reverse), a.2)
  | _ => .no
end
instance pu_RevA (m : M D) [ha : PureM m] : PureM (eRevA m) := ⟨fun r a h => by
  obtain ⟨u, h1, h2⟩ := bind_ok h
  split at h2
  · cases h2; exact ha.pure _ _ h1
  · cases h2; exact ha.pure _ _ h1
  · cases h2⟩
section
variable {X : Cx} {tcX : TabC X.K} {E : WX} {a : Expr} {ma : M D} {pos p2 : Pos}
end
/-- the rest of a reading that must leave the slots as they were -/
noncomputable def keepK (r : Rho) (a : D × Rho) : Res (D × Rho) := @ite _ (a.2 = r) (Classical.propDecidable _) (.ok a) .no
noncomputable def keepM (m : M D) : M D := fun r => (m r).bind (keepK r)
instance pu_keep (m : M D) : PureM (keepM m) := ⟨fun r a h => by
  obtain ⟨u, h1, h2⟩ := bind_ok h
  unfold keepK at h2
  split at h2
  · cases h2; assumption
  · cases h2⟩
theorem v_keep (r : Rho) (d : D) : keepK r (d, r) = .ok (d, r) := by
  unfold keepK
  rw [if_pos rfl]
end DL
/-! # DLO: own errors that keep one thing: made and raised -/
namespace DL
open PySem PySem.Spec PyProof.Rows L2
section
variable {P : Program} {w : World} {K : PySem.W.Frag} {mg : Str → Option Value} {base : Heap}
end
/-- raise C(e) -/
def sRaise (x f : Str) (ms : M (List D)) : SM := fun r => (ms r).bind fun a => match a.1 with
  | [d] => .ex (⟨x, f, d⟩, a.2)
  | _ => .no
section
variable {K : PySem.W.Frag} {tcK : TabC K} {E : WX}
end
section
variable {X : Cx} {tcX : TabC X.K} {E : WX} {p pos : Pos} {a : Expr} {ms : M (List D)}
end
end DL
/-! # DLU: try .. except C as e, the error's field read in the suite -/
namespace DL
open PySem PySem.Spec PyProof.Rows L2
def noExn (r : Rho) : Bool := r.all fun s => match s with
  | .exn _ => false
  | _ => true
/-- the end of an except suite: its name goes -/
def endX (i : Nat) (m : Res (Fl × Rho)) : Res (Fl × Rho) := (noEx m).bind fun a => if noExn (a.2.set i .non) = true ∧ free a.2 i = true then .ok (a.1, a.2.set i .non) else .no
/-- try: mb except .. as e (slot i): msu; cat: what the clause catches -/
def sTry (i : Nat) (cat : Str → Option Bool) (mb msu : SM) : SM := fun r => match mb r with
  | .ok a => .ok a
  | .no => .no
  | .ex x => match cat x.1.C with
    | some true => if noExn x.2 = true ∧ free x.2 i = true then endX i (msu (x.2.set i (.exn x.1))) else .no
    | some false => .ex x
    | none => .no
section
variable {K : PySem.W.Frag} {tcK : TabC K}
end
/-- e.f, e the error at hand -/
def dExn (i : Nat) (f : Str) : M D := fun r => match r[i]? with
  | some (.exn x) => if x.fld = f then .ok (x.d, r) else .no
  | _ => .no
section
variable {X : Cx} {tcX : TabC X.K} {E : WX}
end
end DL
/-! # DLV: instances of own classes: fields, methods, making -/
namespace DL
open PySem PySem.Spec PyProof.Rows L2
/-! ### fields -/
def putD (f : Str) (v : D) : List (Str × D) → List (Str × D)
  | [] => [(f, v)]
  | (g, x) :: r => if g = f then (g, v) :: r else (g, x) :: putD f v r
section
variable {K : PySem.W.Frag} {G : Hp} {f : Str}
theorem Fld.lookup : ∀ {vs : List (Str × V)} {fs : List (Str × D)} {d : D}, Fld K G vs fs → fs.lookup f = some d → ∃ v, vs.lookup f = some v ∧ DP K G v d
  | [], [], _, _, e => by cases e
  | (x, v) :: vs, (y, d) :: ds, d0, ⟨h1, h2, h3⟩, e => by
    subst h1
    rw [List.lookup_cons] at e ⊢
    cases q : f == x with
    | true => rw [q] at e; cases e; exact ⟨v, rfl, h2⟩
    | false => rw [q] at e; exact Fld.lookup h3 e
  | [], _ :: _, _, h, _ => h.elim
  | _ :: _, [], _, h, _ => h.elim
theorem Fld.length : ∀ {vs : List (Str × V)} {fs : List (Str × D)}, Fld K G vs fs → vs.length = fs.length
  | [], [], _ => rfl
  | (_, _) :: _, (_, _) :: _, ⟨_, _, h⟩ => congrArg (· + 1) (Fld.length h)
  | [], _ :: _, h => h.elim
  | _ :: _, [], h => h.elim
theorem Fld.put {v : V} {d : D} (hd : DP K G v d) : ∀ {vs : List (Str × V)} {fs : List (Str × D)}, Fld K G vs fs → Fld K G (putF f v vs) (putD f d fs)
  | [], [], _ => ⟨rfl, hd, trivial⟩
  | (x, u) :: vs, (y, e) :: ds, ⟨h1, h2, h3⟩ => by
    subst h1
    unfold putF putD
    split
    · exact ⟨rfl, hd, h3⟩
    · exact ⟨rfl, h2, Fld.put hd h3⟩
  | [], _ :: _, h => h.elim
  | _ :: _, [], h => h.elim
end
/-- x.f, x a slot that owns an instance of C -/
def dFld (i : Nat) (C f : Str) : M D := fun r => match r[i]? with
  | some (.own _ (.ins C' fs)) => if C' = C then ((ofO (fs.lookup f)).bind fun d => .ok (d, r)) else .no
  | _ => .no
/-- x.f = e -/
def sFldM (i : Nat) (C f : Str) (m : M D) : SM := fun r => (m r).bind fun a => match a.2[i]? with
  | some (.own p (.ins C' fs)) => if C' = C ∧ fs.length < 1000 then .ok (.nx, a.2.set i (.own p (.ins C' (putD f a.1 fs)))) else .no
  | _ => .no
/-- x.f += e, whole numbers -/
def sFldAdd (i : Nat) (C f : Str) (m : M D) : SM := fun r => match r[i]? with
  | some (.own _ (.ins C' fs)) => if C' = C then (match fs.lookup f with
    | some (.int j) => (m r).bind fun a => match a.2[i]?, a.1 with
      | some (.own p (.ins C2 fs2)), .int k => if C2 = C ∧ fs2.length < 1000 then .ok (.nx, a.2.set i (.own p (.ins C2 (putD f (.int (j + k)) fs2)))) else .no
      | _, _ => .no
    | _ => .no) else .no
  | _ => .no
section
variable {K : PySem.W.Frag} {tcK : TabC K} {E : WX} {te : TE} {m : M D} {i : Nat} {C f : Str}
/-! ### x.f, y.g = .. -/
def bFld (i : Nat) (C f : Str) : BM := fun d r => match r[i]? with
  | some (.own p (.ins C' fs)) => if C' = C ∧ fs.length < 1000 then some (r.set i (.own p (.ins C' (putD f d fs)))) else none
  | _ => none
end
section
variable {X : Cx}
end
/-! ### methods -/
/-- x.m(..), x a slot that owns an instance of C -/
def eMeth (i : Nat) (C mn : Str) (n : Nat) (f : Den) (ms : M (List ASl)) : M RV := fun r => match r[i]? with
  | some (.own _ (.ins C' fs)) => if C' = C ∧ fs.lookup mn = none then eCall n f (arR i ms) r else .no
  | _ => .no
/-- (a new instance of C).m(..) -/
def eMethT (C mn : Str) (n : Nat) (f : Den) (m : M RV) (ms : M (List ASl)) : M RV := fun r => (m r).bind fun a => match a.1 with
  | .own (.ins C' fs) => if C' = C ∧ fs.lookup mn = none then eCallT n f (fun r => .ok (.own (.ins C' fs), r)) ms a.2 else .no
  | _ => .no
/-- C(..): a new instance, then __init__ -/
def eMake (C : Str) (n : Nat) (f : Den) (ms : M (List ASl)) : M RV := fun r => (ms r).bind fun b => if b.1.length + 1 = n then ((ofO (valsOf b.1)).bind fun sl => leaveX b.2 (match f (.own true (.ins C []) :: sl) with
  | .ok (.val .none, .own _ (.ins C' fs) :: _) => if C' = C then .ok (.own (.ins C' fs), []) else .no
  | .ok _ => .no
  | .ex x => .ex x
  | .no => .no)) else .no
section
variable {X : Cx} {k : Nat} {f C : Addr} {fd : FuncData} {ps : List Str} {sp : Sp} {E : L2.St → XK} {x m : Str} {p pos apos : Pos} {e o : Expr} {es : List Expr} {ta : TE} {t : TA}
end
section
variable {K : PySem.W.Frag} {tcK : TabC K} {E : WX} {te : TE} {t : TA} {ms : M (List ASl)} {i n : Nat} {C mn : Str} {f : Den}
end
end DL
/-! # DLW: methods' texts, tuples of texts, three names at once, ranges downwards, x += e, x[i] += e -/
namespace DL
open PySem PySem.Spec PyProof.Rows L2
/-! ### three names at once -/
def sPar3 (i j l : Nat) (a b c : M D) : SM := fun r => (a r).bind fun x => (b x.2).bind fun y => (c y.2).bind fun z =>
  if free z.2 i = true ∧ free z.2 j = true ∧ free z.2 l = true ∧ i ≠ j ∧ i ≠ l ∧ j ≠ l then .ok (.nx, ((z.2.set i (.val x.1)).set j (.val y.1)).set l (.val z.1)) else .no
section
variable {K : PySem.W.Frag} {tcK : TabC K} {E : WX} {ta tb tc : TE} {a b c : M D}
end
/-! ### ranges downwards -/
def downD (hi : Int) (n : Nat) : List D := (List.range n).map fun i => .int (hi - (i : Nat))
theorem downD_length (hi : Int) (n : Nat) : (downD hi n).length = n := by simp [downD]
theorem downD_at {hi : Int} {n i : Nat} {d : D} (h : (downD hi n)[i]? = some d) : i < n ∧ d = .int (hi - (i : Nat)) := by
  unfold downD at h
  rw [List.getElem?_map] at h
  by_cases hi' : i < n
  · rw [List.getElem?_range hi'] at h
    exact ⟨hi', by simpa using h.symm⟩
  · rw [List.getElem?_eq_none (by simpa using hi')] at h
    cases h
/-- range(i, j, -1) -/
noncomputable def iRngDn (ms : M (List D)) : M (List D) := fun r => (ms r).bind fun a => match a.1 with
  | [.int i, .int j, .int c] => @ite _ (c = -1 ∧ -(2 ^ 62) ≤ i ∧ i < 2 ^ 62 ∧ -(2 ^ 62) ≤ j ∧ j < 2 ^ 62) (Classical.propDecidable _) (.ok (downD i (i - j).toNat, a.2)) .no
  | _ => .no
section
variable {K : PySem.W.Frag} {tcK : TabC K} {E : WX} {t : TA} {ms : M (List D)}
theorem it_down {G0 : Hp} {hi : Int} {n : Nat} : Iterates K G0 (Itc hi (-1) n) (downD hi n) := by
  refine ⟨fun _ => True, YFn fun i => .int (hi + (i : Nat) * (-1)), by rw [downD_length]; exact walk_rangeC, fun _ _ => trivial, fun i H x H' G s1 s2 hi' hy => ?_⟩
  obtain ⟨e, hx⟩ := hy
  subst e hx
  rw [downD_length] at hi'
  refine ⟨G, .int (hi - (i : Nat)), by unfold downD; simp [hi'], Grow.refl s2, ?_⟩
  show DP K G (V.int (hi + (i : Nat) * (-1))) _
  rw [show hi + ((i : Nat) : Int) * (-1) = hi - (i : Nat) by omega]
  exact .int _
theorem absIRngDn (h : AbsA K E t ms) : AbsI K E (iRng3 t) (iRngDn ms) := by
  intro G as r σ H Q R w
  refine h G as r σ H _ R (Wp.mono (Wp.bind w) (fun a w1 => ?_) fun _ z => z)
  obtain ⟨ds, r1⟩ := a
  intro G1 H1 vs S1 R1 dv
  split at w1
  · rename_i i j c e
    have e : ds = [.int i, .int j, .int c] := e
    subst e
    cases dv with
    | cons d1 dv => cases dv with
      | cons d2 dv => cases dv with
        | cons d3 dv => cases dv with
          | nil =>
            obtain rfl := dp_int d1
            obtain rfl := dp_int d2
            obtain rfl := dp_int d3
            split at w1
            · rename_i hj
              obtain ⟨rfl, h1, h2, h3, h4⟩ := hj
              exact ⟨i, j, -1, _, rfl, RgC.neg h1 h2 h3 h4, w1 G1 H1 _ S1 R1 it_down⟩
            · exact w1.elim
  · exact w1.elim
end
/-! ### x[i] += e -/
section
variable {X : Cx}
end
/-- x[i] += e, whole numbers in a list of the slot's own -/
def sAugPut (i : Nat) (mi m : M D) : SM := fun r => match r[i]? with
  | some (.own _ (.lst _)) => (mi r).bind fun b => match b.2[i]?, b.1 with
    | some (.own _ (.lst ds)), .int k => (ofO (atI ds k)).bind fun old => (m b.2).bind fun a => match a.2[i]?, old, a.1 with
      | some (.own p (.lst es)), .int u, .int v => (ofO (ixD es.length k)).bind fun j => .ok (.nx, a.2.set i (.own p (.lst (es.set j (.int (u + v))))))
      | _, _, _ => .no
    | _, _ => .no
  | _ => .no
section
variable {K : PySem.W.Frag} {tcK : TabC K} {E : WX} {te ti : TE} {m mi : M D}
/-- x += e, whole numbers -/
def sAugN (i : Nat) (m : M D) : SM := fun r => match r[i]? with
  | some (.val (.int u)) => (m r).bind fun a => match a.1 with
    | .int v => if free a.2 i = true then .ok (.nx, a.2.set i (.val (.int (u + v)))) else .no
    | _ => .no
  | _ => .no
end
end DL
/-! # DLX: in, not in of any data without dicts -/
namespace DL
open PySem PySem.Spec PyProof.Rows L2
section
variable {X : Cx}
end
end DL
/-! # DLZ: enumerate(x, start=1) of lists and tuples -/
namespace L2
open PySem PySem.Spec PyProof.Rows
end L2
namespace DL
open PySem PySem.Spec PyProof.Rows L2
section
variable {K : PySem.W.Frag} {tcK : TabC K} {G0 : Hp} {E : WX} {te : TE} {m : M D}
def iEnumB (m : M D) : M (List D) := fun r => (m r).bind fun a => (ofO (seqD a.1)).bind fun ds => .ok (enumD 1 ds, a.2)
end
/-! tuple(range(n)) -/
noncomputable def pTR (d : D) : Option D := match d with
  | .int j => @ite _ (RgOk 0 j) (Classical.propDecidable _) (some (.tuple (rangeD 0 (j - 0).toNat))) none
  | _ => none
noncomputable def dTR1 (m : M D) : M D := fun r => (m r).bind fun a => (ofO (pTR a.1)).bind fun d => .ok (d, a.2)
/-! a name's own list, asked how long it is and whether it is another, where it stands -/
def dLenO (i : Nat) : M D := fun r => match r[i]? with | some (.own _ (.lst ds)) => .ok (.int ds.length, r) | _ => .no
def dNeO (i : Nat) (m : M D) : M D := fun r => match r[i]? with
  | some (.own _ (.lst _)) => (m r).bind fun b => (match b.2[i]? with
    | some (.own _ (.lst ds)) => (ofO (pNe (.list ds) b.1)).bind fun d => .ok (d, b.2)
    | _ => .no)
  | _ => .no
end DL
/-! # DLl: a lambda without parameters handed to a def that calls it in a try -/
namespace DL
open PySem PySem.Spec PyProof.Rows L2
/-! ### a state in which nothing is one's own -/
def hideS : Sl → Sl
  | .val d => .val d
  | _ => .non
def hideR (r : Rho) : Rho := r.map hideS
/-- nothing of one's own -/
def bareR (r : Rho) : Prop := ∀ (i : Nat), (∀ p o, r[i]? ≠ some (Sl.own p o)) ∧ ∀ x, r[i]? ≠ some (Sl.exn x)
theorem bareR.owned {r : Rho} (h : bareR r) {as : Nat → Addr} {a : Addr} : ¬ Owned as r a := fun ⟨i, p, o, e, _⟩ => (h i).1 p o e
/-- the heap has gone on, and nothing that stood is changed -/
structure Grw (T : List (Addr × Str)) (G H G' H' : Hp) : Prop where
  g : Same G G'
  fr : ∀ a, G' a ≠ none → G a ≠ none ∨ H a = none
  keep : ∀ a o, H a = some o → nT o → H' a = some o
  alive : ∀ a, H a ≠ none → H' a ≠ none
  le : Same G' H'
  tabs : TabR T G' H'
section
variable {K : PySem.W.Frag} {tcK : TabC K} {G G' G1 : Hp} {as as' as1 : Nat → Addr} {r r' r1 : Rho} {σ σ' : L2.St} {H H' H1 : Hp}
theorem Grw.stp (g : Grw (TabC.T K) G H G' H') : Stp G as r H G' as r H' :=
  ⟨g.g, fun a h => (g.fr a h).elim .inl fun z => .inr (.inl z), fun a o h _ n => g.keep a o h n, g.alive, fun a h => .inl h, fun i o h => ⟨rfl, o, h⟩⟩
theorem Grw.trans {T : List (Addr × Str)} {G2 H2 : Hp} (a : Grw T G H G1 H1) (b : Grw T G1 H1 G2 H2) : Grw T G H G2 H2 :=
  ⟨a.g.trans b.g, fun x h => by
    rcases b.fr x h with z | z
    · exact a.fr x z
    · refine .inr ?_
      cases e : H x with
      | none => rfl
      | some o => exact absurd z (a.alive x (by rw [e]; exact fun z => nomatch z)), fun x o h n => b.keep x o (a.keep x o h n) n, fun x h => b.alive x (a.alive x h), b.le, b.tabs⟩
/-- a state of data alone, in a later heap -/
theorem Rel.later {G0 : Hp} (hv : ∀ (i : Nat) (d : D), r[i]? = some (Sl.val d) → ∃ v, σ[i]? = some (some v) ∧ DP K G0 v d) (hl : r.length = σ.length) (hb : bareR r) (s : Same G0 G) (le : Same G H) (t : TabR (TabC.T K) G H) : Rel K G as r σ H :=
  ⟨le, hl, fun i d e => let ⟨v, h1, h2⟩ := hv i d e; ⟨v, h1, h2.mono s⟩, fun i p o e => absurd e ((hb i).1 p o), fun i j p o q u e => absurd e ((hb i).1 p o), t, fun i x e => absurd e ((hb i).2 x)⟩
end
/-! ### what is asked -/
/-- the call of what was handed in -/
def sAsk (o : Option Exn) : SM := fun r => match o with
  | none => .ok (.nx, r)
  | some x => .ex (x, r)
/-- how a lambda's reading ends: told, or by an error -/
def outO {α : Type} : Res α → Option (Option Exn)
  | .ok _ => some none
  | .ex x => some (some x.1)
  | .no => none
section
variable {K : PySem.W.Frag} {tcK : TabC K} {E : WX} {c : Value} {i : Nat} {cat : Str → Option Bool} {msu : SM}
end
/-- f(lambda: ..): mb, the lambda's reading -/
def eSaid (sd : Option Exn → Res D) (mb : M RV) : M D := fun r => (ofO (outO (mb (hideR r)))).bind fun o => (noEx (sd o)).bind fun d => .ok (d, r)
section
variable {X : Cx} {pins : List (Addr × Obj)} {σ : L2.St} {H : Hp} {s : Shared}
open LamX in
end
section
variable {X : Cx} {tcX : TabC X.K} {pins : List (Addr × Obj)} {σ : L2.St} {H : Hp} {s : Shared}
open LamX in
end
end DL
/-! # DLk: a sort's keys, called one by one, over a def's state -/
namespace L2
open PySem PySem.Spec PySem.Calls PyProof.Rows PySem.W
section
variable {X : Cx} {pins : List (Addr × Obj)} {σ : List (Option V)} {H : Hp} {s : Shared} {a : Addr} {o : HO}
end
section
variable {X : Cx} {A : Around} {E : Value → Shared → Prop} {pins : List (Addr × Obj)} {σ : List (Option V)} {H : Hp} {s : Shared} {a kS : Addr} {e1 : Nat} {b : Bool} {vs : List Value} {kz : List PyData} {f : Value} {J : List V → Hp → Prop} {P : PySem.Fin → Shared → Prop}
theorem FpOk.of {H' : Hp} {c : Addr} (h : FpOk X pins H c) (n : H' c = none) : FpOk X pins H' c := ⟨n, h.2⟩
end
/-! ### a lambda of one name, entered -/
/-- one parameter, else captured names and globals -/
structure Lam1 (sc scope : Scope) (pn : Str) : Prop where
  kind : scope.kind = .function
  co : scope.isCoroutine = false
  gen : scope.isGenerator = false
  par : scope.names.lookup pn = some .local
  own : ∀ y ∈ scope.names, y.2 = .local → y.1 = pn
  ncell : ∀ y ∈ scope.names, y.2 ≠ .cell
  free : ∀ y ∈ scope.names, y.2 = .free → sc.names.lookup y.1 = some .cell ∨ sc.names.lookup y.1 = some .free
theorem Lam1.has {X : Cx} {scope : Scope} {pn : Str} (L : Lam1 X.env.scope scope pn) (ok : X.Ok) : ∀ y ∈ scope.names, y.2 = .free → ∃ c, X.env.cells.lookup y.1 = some c := fun y hy e => by
  rcases L.free y hy e with k | k
  · exact ok.has _ (.inl k)
  · exact ok.has _ (.inr k)
section
variable {X : Cx} {pins : List (Addr × Obj)} {σ : L2.St} {H HZ : Hp} {s s1 : Shared}
open LamX in
end
section
variable {X : Cx} {pins : List (Addr × Obj)} {σ : L2.St} {H : Hp} {s : Shared}
open LamX in
end
end L2
namespace DL
open PySem PySem.Spec PySem.W PyProof.Rows L2
/-! ### the items of what is sorted -/
section
variable {X : Cx} {pins : List (Addr × Obj)} {σ : L2.St} {H G : Hp} {s : Shared}
end
theorem DPk.keys {K : PySem.W.Frag} {G : Hp} : ∀ {kvs : List (Key × V)} {es : List (D × D)}, DPk K G kvs es → DPs K G (kvs.map fun kv => kV kv.1) (es.map (·.1))
  | _, _, .nil => .nil
  | _, _, .cons (k := k) h1 h2 => .cons (by cases k <;> constructor) (DPk.keys h2)
/-! ### keys -/
/-- no own thing in the slot -/
def noOwnAt (r : Rho) (j : Nat) : Bool := match r[j]? with
  | some .non => true
  | some (.val _) => true
  | _ => false
theorem noOwnAt.free {r : Rho} {j : Nat} (h : noOwnAt r j = true) : free r j = true := by
  unfold noOwnAt at h
  unfold DL.free
  cases e : r[j]? with
  | none => rw [e] at h; cases h
  | some u =>
    rw [e] at h
    cases u with
    | own p o => cases h
    | exn x => cases h
    | non => rfl
    | val d => rfl
theorem noOwnAt.no {r : Rho} {j : Nat} (h : noOwnAt r j = true) : ∀ p o, r[j]? ≠ some (.own p o) := fun p o e => by
  unfold noOwnAt at h
  rw [e] at h
  cases h
section
variable {X : Cx} {tcX : TabC X.K} {pins : List (Addr × Obj)} {σ : L2.St} {H H1 H2 G G1 : Hp} {as : Nat → Addr} {r r1 : Rho} {s s2 : Shared} {mb : M D} {j k : Nat} {pn : Str} {params : Arguments} {body : Expr} {scope : Scope} {E : WX} {Q : VK}
open LamX in
open LamX in
open LamX in
end
end DL
/-! # DLr: a keyword-only parameter that is None where it is not told -/
namespace DL
open PySem PySem.Spec PyProof.Rows L2
theorem kbn_dflt {K : PySem.W.Frag} {fd : FuncData} {ps ks : List Str} {kn : Str} {n : Nat} {ix : List Nat} {Dk : Addr} (hD : PySem.W.nsIn K Dk kn = some (some .none))
    (h : ∀ us ws : List Value, us.length = n → ws.length = ks.length → KwChain Dk [(kn, .none)] (bindArgs fd ⟨us, ks.zip ws⟩) (ps.zip (pick ix (us ++ ws ++ [.none])))) :
    KBn K fd ps n ks (fun us ws => pick ix (us ++ ws ++ [.none])) (fun vs zs => pick ix (vs ++ zs ++ [.non])) :=
  ⟨fun s us ws X l1 l2 => BindsTo.of_looks fun M => KwChain.looks X (fun q hq => by rw [List.mem_singleton.mp hq]; exact hD) (h us ws l1 l2), fun r1 r2 => vals_pick ((r1.append r2).append (.cons (show RelV V.non Value.none from rfl) .nil)) ix⟩
/-- f(e, .., k = v, ..), the one name left out being None -/
def eCallKD (n a b : Nat) (ix : List Nat) (f : Den) (ms mk : M (List ASl)) : M RV := fun r => (ms r).bind fun u => (mk u.2).bind fun v => if u.1.length = a ∧ v.1.length = b ∧ (pick ix (u.1 ++ v.1 ++ [.val .none])).length = n then ((ofO (mkA (pick ix (u.1 ++ v.1 ++ [.val .none])) v.2)).bind fun sl => backX (pick ix (u.1 ++ v.1 ++ [.val .none])) v.2 (f sl)) else .no
section
variable {K : PySem.W.Frag} {tcK : TabC K} {E : WX} {t tk : TA} {ms mk : M (List ASl)}
theorem absCallKD {n a b : Nat} {ix : List Nat} {f : Den} (hs : AbsAr K E t ms) (hk : AbsAr K E tk mk) : AbsE K E (tCallNS a b (spM K n f) (fun vs zs => pick ix (vs ++ zs ++ [.non])) (WE E) t tk) (eCallKD n a b ix f ms mk) := by
  intro G as r σ H Q R w
  refine hs G as r σ H _ R ((Wp.bind w).mono (fun u w1 => ?_) fun _ z => z)
  intro G1 H1 vs S1 R1 hv
  refine hk G1 as u.2 σ H1 _ R1 ((Wp.bind w1).mono (fun v w2 => ?_) fun _ z => XPost.on R1 S1 z)
  intro G2 H2 zs S2 R2 hz
  split at w2
  · rename_i hc
    refine ⟨hv.length.trans hc.1, hz.length.trans hc.2.1, ?_⟩
    exact call_core (S1.trans R1 S2) R2 ((((hv.mono S2.g).append hz).append (.val .non .nil)).pick ix) (by rw [if_pos hc.2.2]; exact w2)
  · exact w2.elim
end
end DL
/-! # DLt: a list's items into several names; a loop over a display that holds a list of one's own -/
namespace DL
open PySem PySem.Spec PyProof.Rows L2
/-! ### (a, b) = a list -/
def gTupL (K : PySem.W.Frag) (n : Nat) (t : TGs) : TG := fun v σ H Q => ∃ a xs, v = .ref a ∧ SqL K H a xs ∧ xs.length = n ∧ t xs σ H Q
theorem pg_tupL {X : Cx} {es : List Expr} {k : Nat} {t : TGs} {n : Nat} {pos : Pos} (hc : X.calm = true) (h : PGs X es t)
    (hn : (assignEach es X.env).length = n := by rfl) (hst : (assignEach es X.env).findIdx? (·.1) = none := by rfl) : PG X (.Tuple es k pos) (gTupL X.K n t) := by
  refine ⟨fun pins s σ H v u Q I r hw => ?_⟩
  obtain ⟨a, xs, e1, hq, hl, hw⟩ := hw
  subst e1
  cases r
  obtain ⟨its, rv, pl, hz⟩ := I.list hq
  have hsz : (assignEach es X.env).length = its.toArray.size := by simp [hn, ← hl, rv.length]
  rw [assign_Tuple]
  refine wpAny_bind (wpAny_standAt ?_)
  unfold unpack
  rw [hsz, hst]
  refine wpAny_bind (wpAny_holding (PySem.W.kun_itemsOf (I.ok.hd hc) pl.isList fun h' hx => ?_))
  have I1 : Inv X pins σ H { s with heap := h' } := I.kept (t' := s.toks) fun b o e => hx b o (Nat.ne_of_lt (Heap.lt_size e)) e
  exact h.run pins _ σ H xs _ Q I1 (by simpa using rv) hw
def bTupL (n : Nat) (bs : BMs) : BM := fun d r => match d with
  | .list ds => if ds.length = n then bs ds r else none
  | _ => none
theorem absGTupL {K : PySem.W.Frag} {tcK : TabC K} {ws : List Nat} {n : Nat} {gs : TGs} {bs : BMs} (h : AbsGs K ws gs bs) : AbsG K ws (gTupL K n gs) (bTupL n bs) := by
  intro G as r σ H v d Q R hd r' e q
  cases hd with
  | @lst a xs ds hs hx =>
    have e : (if ds.length = n then bs ds r else none) = some r' := e
    split at e
    · rename_i hn
      exact ⟨a, xs, rfl, R.le.seq hs, hx.length.trans hn, h G as r σ H xs ds Q R hx r' e q⟩
    · cases e
  | non => cases e
  | bl _ => cases e
  | int _ => cases e
  | str _ => cases e
  | tup _ _ => cases e
  | dic _ _ => cases e
/-! ### a list of one's own read for a while -/
section
variable {K : PySem.W.Frag} {tcK : TabC K} {G G1 G2 : Hp} {as : Nat → Addr} {r : Rho} {σ σ2 : L2.St} {H H2 : Hp} {i : Nat} {p : Bool} {ds : List D} {vs : List V}
end
section
variable {K : PySem.W.Frag} {tcK : TabC K} {E : WX} {mi : M (List D)} {c : M Bool} {i v : Nat}
end
end DL
/-! # DLm: the text of a thing; empty dicts; the class of the error at hand -/
namespace DL
open PySem PySem.Spec PyProof.Rows L2
/-! ### data read off the heap, dicts and all -/
theorem keys_read {P : Program} {w : World} {h : Heap} {es : List DictEntry} {kvs : List (Key × Value)} (p : PySem.Pairs (mixKind P w) es kvs) : ReadsAll h (es.map (·.key)) (kvs.map fun kv => kD kv.1) [] := by
  induction p with
  | nil => exact .nil
  | @cons e kv es kvs h1 h2 _ ih =>
    have h1 : keyIs kv.1 e.key = true := h1
    rcases keyIs_shape h1 with ⟨i, t, e1, e2⟩ | ⟨x, t, e1, e2⟩
    · rw [List.map_cons, List.map_cons, e1, e2]
      exact ReadsAll.cons (as := []) (.int i t) ih
    · rw [List.map_cons, List.map_cons, e1, e2]
      exact ReadsAll.cons (as := []) (.str x t) ih
theorem vals_read {P : Program} {w : World} {es : List DictEntry} {kvs : List (Key × Value)} (p : PySem.Pairs (mixKind P w) es kvs) : es.map (·.val) = kvs.map (·.2) := by
  induction p with
  | nil => rfl
  | cons _ h2 _ ih => rw [List.map_cons, List.map_cons, ih, h2]
section
variable {X : Cx} {pins : List (Addr × Obj)} {σ : L2.St} {G H : Hp} {s : Shared}
mutual
theorem DP.readsD (I : Inv X pins σ H s) (le : Same G H) : ∀ {v : V} {d : D} {u : Value}, DP X.K G v d → RelV v u → ∃ as, Reads s.heap u d as
  | _, _, _, .non, r => by cases r; exact ⟨_, .none⟩
  | _, _, _, .bl b, r => by cases r; exact ⟨_, .bool b⟩
  | _, _, _, .int i, r => by obtain ⟨t, rfl⟩ := r; exact ⟨_, .int i t⟩
  | _, _, _, .str x, r => by obtain ⟨t, rfl⟩ := r; exact ⟨_, .str x t⟩
  | _, _, _, .lst hs ha, r => by
    cases r
    obtain ⟨its, rv, ⟨o, n, ho, hc, _, hd⟩, _⟩ := I.list (le.seq hs)
    obtain ⟨as, hr⟩ := DPs.readsD I le ha rv
    exact ⟨_, .list ho hc hd (by simpa using hr)⟩
  | _, _, _, .tup hs ha, r => by
    cases r
    obtain ⟨its, rv, ⟨o, ho, hc, n, hd⟩, _⟩ := I.tuple (SqT.same le hs)
    obtain ⟨as, hr⟩ := DPs.readsD I le ha rv
    exact ⟨_, .tuple ho hc hd (by simpa using hr)⟩
  | _, _, _, .dic hs ha, r => by
    cases r
    obtain ⟨_, hne, vs, kv, o, es, ep, ho, hx, hd, hk, hp, _⟩ := dk_rd I.hok (Rd.same le hs)
    obtain ⟨as, hr⟩ := DPk.readsD I le ha kv
    have e1 := keys_read (h := s.heap) hp
    rw [hr.2] at e1
    exact ⟨_, .dict ho hx.1 hd e1 (by rw [vals_read hp]; exact hr.1)⟩
theorem DPs.readsD (I : Inv X pins σ H s) (le : Same G H) : ∀ {vs : List V} {ds : List D} {us : List Value}, DPs X.K G vs ds → Vals vs us → ∃ as, ReadsAll s.heap us ds as
  | _, _, _, .nil, r => by cases r; exact ⟨_, .nil⟩
  | _, _, _, .cons h1 h2, r => by
    cases r with
    | cons r1 r2 =>
      obtain ⟨as, q1⟩ := DP.readsD I le h1 r1
      obtain ⟨bs, q2⟩ := DPs.readsD I le h2 r2
      exact ⟨_, .cons q1 q2⟩
theorem DPk.readsD (I : Inv X pins σ H s) (le : Same G H) : ∀ {kvs : List (Key × V)} {es : List (D × D)} {ws : List (Key × Value)}, DPk X.K G kvs es → KV kvs ws → ∃ as, ReadsAll s.heap (ws.map (·.2)) (es.map (·.2)) as ∧ (ws.map fun kv => kD kv.1) = es.map (·.1)
  | _, _, _, .nil, r => by cases r; exact ⟨_, .nil, rfl⟩
  | _, _, _, .cons h1 h2, r => by
    cases r with
    | cons r1 r2 =>
      obtain ⟨as, q1⟩ := DP.readsD I le h1 r1.2
      obtain ⟨bs, q2, q3⟩ := DPk.readsD I le h2 r2
      exact ⟨_, .cons q1 q2, by rw [List.map_cons, List.map_cons, q3, ← r1.1]⟩
end
/-! the texts, thing by thing -/
end
/-! ### repr -/
mutual
def txtOk : D → Bool
  | .str x => PyData.strOk x
  | .list ds => txtOkA ds
  | .tuple ds => txtOkA ds
  | .dict es => txtOkK es
  | _ => true
def txtOkA : List D → Bool
  | [] => true
  | d :: ds => txtOk d && txtOkA ds
def txtOkK : List (D × D) → Bool
  | [] => true
  | (k, d) :: es => txtOk k && txtOk d && txtOkK es
end
/-- data whose text can be told -/
def okR (d : D) : Bool := PyData.showable d && ((PyData.leavesShort 1000 d && decide (d.weight ≤ 15000)) || (PyData.leavesShort 100 d && decide (d.weight ≤ 150000))) && decide (d.depth ≤ 40) && txtOk d
/-! the text is one that may be laid -/
/-! ### {} -/
/-! ### the class of the error at hand -/
/-- isinstance(e, D): isx tells it by the class's name -/
def dIsE (i : Nat) (isx : Str → Option Bool) : M D := fun r => match r[i]? with
  | some (.exn x) => (ofO (isx x.C)).bind fun b => .ok (.bool b, r)
  | _ => .no
/-! ### two lists of which one is longer: no look at what they hold -/
def lensD : D → D → Bool
  | .list ds, .list es => ds.length != es.length
  | _, _ => false
def pEqE : D → D → Option D := fun a b => if lensD a b = true then some (.bool false) else pEq a b
def pNeE : D → D → Option D := fun a b => if lensD a b = true then some (.bool true) else pNe a b
theorem v_eqE0 (ds : List D) : pEqE (.list ds) (.list []) = some (.bool ds.isEmpty) := by
  cases ds with
  | nil => rfl
  | cons d ds => rfl
theorem v_neE0 (ds : List D) : pNeE (.list ds) (.list []) = some (.bool (!ds.isEmpty)) := by
  cases ds with
  | nil => rfl
  | cons d ds => rfl
end DL
/-! # DLn: methods of lists that are asked for a number -/
namespace DL
open PySem PySem.Spec PyProof.Rows L2
def dMt (f : List D → List D → Option D) (mx : M D) (ms : M (List D)) : M D := fun r => (mx r).bind fun a => match a.1 with
  | .list ds => (ms a.2).bind fun b => (ofO (f ds b.1)).bind fun d => .ok (d, b.2)
  | _ => .no
end DL
/-! # DLp: zip of three; unlike kinds told apart; what an error is none of -/
namespace PySem.SeqAt
open AutoSeq1 (wpAny_loadPart')
open MeetsSeq MeetsSeq2 MeetsSeq3 SeqRoads2
end PySem.SeqAt
namespace L2
open PySem PySem.Spec PyProof.Rows
end L2
namespace DL
open PySem PySem.Spec PyProof.Rows L2
/-- triples of data -/
def zipD3 : List D → List D → List D → List D
  | a :: as, b :: bs, c :: cs => .tuple [a, b, c] :: zipD3 as bs cs
  | _, _, _ => []
def pZip3 (a b c : D) : Option (List D) := (seqD a).bind fun ds => (seqD b).bind fun es => (seqD c).map fun fs => zipD3 ds es fs
def iZip3 (m n k : M D) : M (List D) := fun r => (m r).bind fun a => (n a.2).bind fun b => (k b.2).bind fun c => (ofO (pZip3 a.1 b.1 c.1)).bind fun d => .ok (d, c.2)
/-! ### a dict is no number -/
/-! ### isinstance(e, (c, c')) in a suite -/
def dIsE2 (i : Nat) (isx isy : Str → Option Bool) : M D := fun r => match r[i]? with
  | some (.exn x) => (ofO ((isx x.C).bind fun a => (isy x.C).map fun b => a || b)).bind fun b => .ok (.bool b, r)
  | _ => .no
theorem r_IsE2 (i : Nat) (isx isy : Str → Option Bool) (r : Rho) : dIsE2 i isx isy r = match r[i]? with
  | some (.exn x) => (ofO ((isx x.C).bind fun a => (isy x.C).map fun b => a || b)).bind fun b => .ok (.bool b, r)
  | _ => .no := rfl
theorem r_iZip3 (m n k : M D) (r : Rho) : iZip3 m n k r = (m r).bind fun a => (n a.2).bind fun b => (k b.2).bind fun c => (ofO (pZip3 a.1 b.1 c.1)).bind fun d => .ok (d, c.2) := rfl
theorem r_Mt (f : List D → List D → Option D) (mx : M D) (ms : M (List D)) (r : Rho) : dMt f mx ms r = (mx r).bind fun a => match a.1 with
  | .list ds => (ms a.2).bind fun b => (ofO (f ds b.1)).bind fun d => .ok (d, b.2)
  | _ => .no := rfl
/-! ### a name whose list is changed no more, laid fast ahead of a look -/
def dPre (i : Nat) (m : M D) : M D := fun r => (dVar i r).bind fun a => m a.2
theorem r_Pre (i : Nat) (m : M D) (r : Rho) : dPre i m r = (dVar i r).bind fun a => m a.2 := rfl
/-! ### a cut of a list that is still changed -/
def eCutO (i : Nat) (lo hi : M (Option Int)) : M RV := fun r => match r[i]? with
  | some (.own _ (.lst _)) => (lo r).bind fun b => (hi b.2).bind fun c => (match c.2[i]? with
    | some (.own _ (.lst ds)) => .ok (.own (.lst (cutD ds b.1 c.1)), c.2)
    | _ => .no)
  | _ => .no
theorem r_CutO (i : Nat) (lo hi : M (Option Int)) (r : Rho) : eCutO i lo hi r = match r[i]? with
  | some (.own _ (.lst _)) => (lo r).bind fun b => (hi b.2).bind fun c => (match c.2[i]? with
    | some (.own _ (.lst ds)) => .ok (.own (.lst (cutD ds b.1 c.1)), c.2)
    | _ => .no)
  | _ => .no := rfl
/-! ### a text times a number -/
end DL
/-! # DLP: denotations reckoned: equations for simp -/
namespace DL
open PySem PySem.Spec PyProof.Rows L2
theorem g0 {α : Type} {a0 : α} {l : List α} : (a0 :: l)[0]? = some a0 := rfl
theorem u0 {α : Type} {a0 x : α} {l : List α} : (a0 :: l).set 0 x = x :: l := rfl
theorem g1 {α : Type} {a0 a1 : α} {l : List α} : (a0 :: a1 :: l)[1]? = some a1 := rfl
theorem u1 {α : Type} {a0 a1 x : α} {l : List α} : (a0 :: a1 :: l).set 1 x = a0 :: x :: l := rfl
theorem g2 {α : Type} {a0 a1 a2 : α} {l : List α} : (a0 :: a1 :: a2 :: l)[2]? = some a2 := rfl
theorem u2 {α : Type} {a0 a1 a2 x : α} {l : List α} : (a0 :: a1 :: a2 :: l).set 2 x = a0 :: a1 :: x :: l := rfl
theorem g3 {α : Type} {a0 a1 a2 a3 : α} {l : List α} : (a0 :: a1 :: a2 :: a3 :: l)[3]? = some a3 := rfl
theorem u3 {α : Type} {a0 a1 a2 a3 x : α} {l : List α} : (a0 :: a1 :: a2 :: a3 :: l).set 3 x = a0 :: a1 :: a2 :: x :: l := rfl
theorem g4 {α : Type} {a0 a1 a2 a3 a4 : α} {l : List α} : (a0 :: a1 :: a2 :: a3 :: a4 :: l)[4]? = some a4 := rfl
theorem u4 {α : Type} {a0 a1 a2 a3 a4 x : α} {l : List α} : (a0 :: a1 :: a2 :: a3 :: a4 :: l).set 4 x = a0 :: a1 :: a2 :: a3 :: x :: l := rfl
theorem g5 {α : Type} {a0 a1 a2 a3 a4 a5 : α} {l : List α} : (a0 :: a1 :: a2 :: a3 :: a4 :: a5 :: l)[5]? = some a5 := rfl
theorem u5 {α : Type} {a0 a1 a2 a3 a4 a5 x : α} {l : List α} : (a0 :: a1 :: a2 :: a3 :: a4 :: a5 :: l).set 5 x = a0 :: a1 :: a2 :: a3 :: a4 :: x :: l := rfl
theorem g6 {α : Type} {a0 a1 a2 a3 a4 a5 a6 : α} {l : List α} : (a0 :: a1 :: a2 :: a3 :: a4 :: a5 :: a6 :: l)[6]? = some a6 := rfl
theorem u6 {α : Type} {a0 a1 a2 a3 a4 a5 a6 x : α} {l : List α} : (a0 :: a1 :: a2 :: a3 :: a4 :: a5 :: a6 :: l).set 6 x = a0 :: a1 :: a2 :: a3 :: a4 :: a5 :: x :: l := rfl
theorem g7 {α : Type} {a0 a1 a2 a3 a4 a5 a6 a7 : α} {l : List α} : (a0 :: a1 :: a2 :: a3 :: a4 :: a5 :: a6 :: a7 :: l)[7]? = some a7 := rfl
theorem u7 {α : Type} {a0 a1 a2 a3 a4 a5 a6 a7 x : α} {l : List α} : (a0 :: a1 :: a2 :: a3 :: a4 :: a5 :: a6 :: a7 :: l).set 7 x = a0 :: a1 :: a2 :: a3 :: a4 :: a5 :: a6 :: x :: l := rfl
theorem g8 {α : Type} {a0 a1 a2 a3 a4 a5 a6 a7 a8 : α} {l : List α} : (a0 :: a1 :: a2 :: a3 :: a4 :: a5 :: a6 :: a7 :: a8 :: l)[8]? = some a8 := rfl
theorem u8 {α : Type} {a0 a1 a2 a3 a4 a5 a6 a7 a8 x : α} {l : List α} : (a0 :: a1 :: a2 :: a3 :: a4 :: a5 :: a6 :: a7 :: a8 :: l).set 8 x = a0 :: a1 :: a2 :: a3 :: a4 :: a5 :: a6 :: a7 :: x :: l := rfl
theorem g9 {α : Type} {a0 a1 a2 a3 a4 a5 a6 a7 a8 a9 : α} {l : List α} : (a0 :: a1 :: a2 :: a3 :: a4 :: a5 :: a6 :: a7 :: a8 :: a9 :: l)[9]? = some a9 := rfl
theorem u9 {α : Type} {a0 a1 a2 a3 a4 a5 a6 a7 a8 a9 x : α} {l : List α} : (a0 :: a1 :: a2 :: a3 :: a4 :: a5 :: a6 :: a7 :: a8 :: a9 :: l).set 9 x = a0 :: a1 :: a2 :: a3 :: a4 :: a5 :: a6 :: a7 :: a8 :: x :: l := rfl
theorem g10 {α : Type} {a0 a1 a2 a3 a4 a5 a6 a7 a8 a9 a10 : α} {l : List α} : (a0 :: a1 :: a2 :: a3 :: a4 :: a5 :: a6 :: a7 :: a8 :: a9 :: a10 :: l)[10]? = some a10 := rfl
theorem u10 {α : Type} {a0 a1 a2 a3 a4 a5 a6 a7 a8 a9 a10 x : α} {l : List α} : (a0 :: a1 :: a2 :: a3 :: a4 :: a5 :: a6 :: a7 :: a8 :: a9 :: a10 :: l).set 10 x = a0 :: a1 :: a2 :: a3 :: a4 :: a5 :: a6 :: a7 :: a8 :: a9 :: x :: l := rfl
theorem g11 {α : Type} {a0 a1 a2 a3 a4 a5 a6 a7 a8 a9 a10 a11 : α} {l : List α} : (a0 :: a1 :: a2 :: a3 :: a4 :: a5 :: a6 :: a7 :: a8 :: a9 :: a10 :: a11 :: l)[11]? = some a11 := rfl
theorem u11 {α : Type} {a0 a1 a2 a3 a4 a5 a6 a7 a8 a9 a10 a11 x : α} {l : List α} : (a0 :: a1 :: a2 :: a3 :: a4 :: a5 :: a6 :: a7 :: a8 :: a9 :: a10 :: a11 :: l).set 11 x = a0 :: a1 :: a2 :: a3 :: a4 :: a5 :: a6 :: a7 :: a8 :: a9 :: a10 :: x :: l := rfl
theorem g12 {α : Type} {a0 a1 a2 a3 a4 a5 a6 a7 a8 a9 a10 a11 a12 : α} {l : List α} : (a0 :: a1 :: a2 :: a3 :: a4 :: a5 :: a6 :: a7 :: a8 :: a9 :: a10 :: a11 :: a12 :: l)[12]? = some a12 := rfl
theorem u12 {α : Type} {a0 a1 a2 a3 a4 a5 a6 a7 a8 a9 a10 a11 a12 x : α} {l : List α} : (a0 :: a1 :: a2 :: a3 :: a4 :: a5 :: a6 :: a7 :: a8 :: a9 :: a10 :: a11 :: a12 :: l).set 12 x = a0 :: a1 :: a2 :: a3 :: a4 :: a5 :: a6 :: a7 :: a8 :: a9 :: a10 :: a11 :: x :: l := rfl
theorem g13 {α : Type} {a0 a1 a2 a3 a4 a5 a6 a7 a8 a9 a10 a11 a12 a13 : α} {l : List α} : (a0 :: a1 :: a2 :: a3 :: a4 :: a5 :: a6 :: a7 :: a8 :: a9 :: a10 :: a11 :: a12 :: a13 :: l)[13]? = some a13 := rfl
theorem u13 {α : Type} {a0 a1 a2 a3 a4 a5 a6 a7 a8 a9 a10 a11 a12 a13 x : α} {l : List α} : (a0 :: a1 :: a2 :: a3 :: a4 :: a5 :: a6 :: a7 :: a8 :: a9 :: a10 :: a11 :: a12 :: a13 :: l).set 13 x = a0 :: a1 :: a2 :: a3 :: a4 :: a5 :: a6 :: a7 :: a8 :: a9 :: a10 :: a11 :: a12 :: x :: l := rfl
theorem g14 {α : Type} {a0 a1 a2 a3 a4 a5 a6 a7 a8 a9 a10 a11 a12 a13 a14 : α} {l : List α} : (a0 :: a1 :: a2 :: a3 :: a4 :: a5 :: a6 :: a7 :: a8 :: a9 :: a10 :: a11 :: a12 :: a13 :: a14 :: l)[14]? = some a14 := rfl
theorem u14 {α : Type} {a0 a1 a2 a3 a4 a5 a6 a7 a8 a9 a10 a11 a12 a13 a14 x : α} {l : List α} : (a0 :: a1 :: a2 :: a3 :: a4 :: a5 :: a6 :: a7 :: a8 :: a9 :: a10 :: a11 :: a12 :: a13 :: a14 :: l).set 14 x = a0 :: a1 :: a2 :: a3 :: a4 :: a5 :: a6 :: a7 :: a8 :: a9 :: a10 :: a11 :: a12 :: a13 :: x :: l := rfl
theorem g15 {α : Type} {a0 a1 a2 a3 a4 a5 a6 a7 a8 a9 a10 a11 a12 a13 a14 a15 : α} {l : List α} : (a0 :: a1 :: a2 :: a3 :: a4 :: a5 :: a6 :: a7 :: a8 :: a9 :: a10 :: a11 :: a12 :: a13 :: a14 :: a15 :: l)[15]? = some a15 := rfl
theorem u15 {α : Type} {a0 a1 a2 a3 a4 a5 a6 a7 a8 a9 a10 a11 a12 a13 a14 a15 x : α} {l : List α} : (a0 :: a1 :: a2 :: a3 :: a4 :: a5 :: a6 :: a7 :: a8 :: a9 :: a10 :: a11 :: a12 :: a13 :: a14 :: a15 :: l).set 15 x = a0 :: a1 :: a2 :: a3 :: a4 :: a5 :: a6 :: a7 :: a8 :: a9 :: a10 :: a11 :: a12 :: a13 :: a14 :: x :: l := rfl
theorem g16 {α : Type} {a0 a1 a2 a3 a4 a5 a6 a7 a8 a9 a10 a11 a12 a13 a14 a15 a16 : α} {l : List α} : (a0 :: a1 :: a2 :: a3 :: a4 :: a5 :: a6 :: a7 :: a8 :: a9 :: a10 :: a11 :: a12 :: a13 :: a14 :: a15 :: a16 :: l)[16]? = some a16 := rfl
theorem u16 {α : Type} {a0 a1 a2 a3 a4 a5 a6 a7 a8 a9 a10 a11 a12 a13 a14 a15 a16 x : α} {l : List α} : (a0 :: a1 :: a2 :: a3 :: a4 :: a5 :: a6 :: a7 :: a8 :: a9 :: a10 :: a11 :: a12 :: a13 :: a14 :: a15 :: a16 :: l).set 16 x = a0 :: a1 :: a2 :: a3 :: a4 :: a5 :: a6 :: a7 :: a8 :: a9 :: a10 :: a11 :: a12 :: a13 :: a14 :: a15 :: x :: l := rfl
theorem g17 {α : Type} {a0 a1 a2 a3 a4 a5 a6 a7 a8 a9 a10 a11 a12 a13 a14 a15 a16 a17 : α} {l : List α} : (a0 :: a1 :: a2 :: a3 :: a4 :: a5 :: a6 :: a7 :: a8 :: a9 :: a10 :: a11 :: a12 :: a13 :: a14 :: a15 :: a16 :: a17 :: l)[17]? = some a17 := rfl
theorem u17 {α : Type} {a0 a1 a2 a3 a4 a5 a6 a7 a8 a9 a10 a11 a12 a13 a14 a15 a16 a17 x : α} {l : List α} : (a0 :: a1 :: a2 :: a3 :: a4 :: a5 :: a6 :: a7 :: a8 :: a9 :: a10 :: a11 :: a12 :: a13 :: a14 :: a15 :: a16 :: a17 :: l).set 17 x = a0 :: a1 :: a2 :: a3 :: a4 :: a5 :: a6 :: a7 :: a8 :: a9 :: a10 :: a11 :: a12 :: a13 :: a14 :: a15 :: a16 :: x :: l := rfl
theorem g18 {α : Type} {a0 a1 a2 a3 a4 a5 a6 a7 a8 a9 a10 a11 a12 a13 a14 a15 a16 a17 a18 : α} {l : List α} : (a0 :: a1 :: a2 :: a3 :: a4 :: a5 :: a6 :: a7 :: a8 :: a9 :: a10 :: a11 :: a12 :: a13 :: a14 :: a15 :: a16 :: a17 :: a18 :: l)[18]? = some a18 := rfl
theorem u18 {α : Type} {a0 a1 a2 a3 a4 a5 a6 a7 a8 a9 a10 a11 a12 a13 a14 a15 a16 a17 a18 x : α} {l : List α} : (a0 :: a1 :: a2 :: a3 :: a4 :: a5 :: a6 :: a7 :: a8 :: a9 :: a10 :: a11 :: a12 :: a13 :: a14 :: a15 :: a16 :: a17 :: a18 :: l).set 18 x = a0 :: a1 :: a2 :: a3 :: a4 :: a5 :: a6 :: a7 :: a8 :: a9 :: a10 :: a11 :: a12 :: a13 :: a14 :: a15 :: a16 :: a17 :: x :: l := rfl
theorem g19 {α : Type} {a0 a1 a2 a3 a4 a5 a6 a7 a8 a9 a10 a11 a12 a13 a14 a15 a16 a17 a18 a19 : α} {l : List α} : (a0 :: a1 :: a2 :: a3 :: a4 :: a5 :: a6 :: a7 :: a8 :: a9 :: a10 :: a11 :: a12 :: a13 :: a14 :: a15 :: a16 :: a17 :: a18 :: a19 :: l)[19]? = some a19 := rfl
theorem u19 {α : Type} {a0 a1 a2 a3 a4 a5 a6 a7 a8 a9 a10 a11 a12 a13 a14 a15 a16 a17 a18 a19 x : α} {l : List α} : (a0 :: a1 :: a2 :: a3 :: a4 :: a5 :: a6 :: a7 :: a8 :: a9 :: a10 :: a11 :: a12 :: a13 :: a14 :: a15 :: a16 :: a17 :: a18 :: a19 :: l).set 19 x = a0 :: a1 :: a2 :: a3 :: a4 :: a5 :: a6 :: a7 :: a8 :: a9 :: a10 :: a11 :: a12 :: a13 :: a14 :: a15 :: a16 :: a17 :: a18 :: x :: l := rfl
def fre (o : Option Sl) : Bool := match o with | some (.own true _) => false | some _ => true | none => false
theorem f_non : fre (some .non) = true := rfl
theorem f_val (d : D) : fre (some (.val d)) = true := rfl
theorem f_own (o : Own) : fre (some (.own false o)) = true := rfl
theorem f_pin (o : Own) : fre (some (.own true o)) = false := rfl
theorem rb {α β : Type} (m : Res α) (f : α → Res β) : m.bind f = (match m with | .ok a => f a | .ex x => .ex x | .no => .no) := by cases m <;> rfl
theorem r_ofO {α : Type} (o : Option α) : ofO o = (match o with | some a => .ok a | none => .no) := by cases o <;> rfl
section
variable (i j n k a b : Nat) (d : D) (ds : List D) (r : Rho) (m m' : M RV) (x y z : M D) (c c' : M Bool) (s s' : SM) (ms mk : M (List D)) (us vs : M (List ASl)) (f g : D → D → Option D) (f2 : D → D → Option RV) (f1 : D → Option D) (fl : List D → Option D) (fe : List D → Option RV) (F : Den) (bm : BM) (bs : BMs) (l : List Sl) (it : M (List D)) (lo hi : M (Option Int))
theorem r_den : den n s l = outX l ((s (l ++ List.replicate (n - l.length) .non)).bind fun a => match a.1 with | .rt rv => .ok (rv, outs l a.2) | .nx => .ok (.val .none, outs l a.2) | _ => .no) := rfl
theorem r_oX1 {α : Type} (l : List Sl) (a : α) : outX l (.ok a) = .ok a := rfl
theorem r_oX2 {α : Type} (l : List Sl) (x : Exn × Rho) : outX (α := α) l (.ex x) = .ex (x.1, outs l x.2) := rfl
theorem r_bX1 {α : Type} (l : List ASl) (r : Rho) (c : α × List Sl) : backX l r (.ok c) = .ok (c.1, wb l c.2 r) := rfl
theorem r_bX2 {α : Type} (l : List ASl) (r : Rho) (x : Exn × Rho) : backX (α := α) l r (.ex x) = .ex (x.1, wb l x.2 r) := rfl
theorem r_lX1 {α : Type} (r : Rho) (c : α × List Sl) : leaveX r (.ok c) = .ok (c.1, r) := rfl
theorem r_lX2 {α : Type} (r : Rho) (x : Exn × Rho) : leaveX (α := α) r (.ex x) = .ex (x.1, r) := rfl
theorem r_C : dC d r = .ok (d, r) := rfl
theorem r_Var : dVar i r = (match r[i]? with | some (.val d) => .ok (d, r) | some (.own false (.lst ds)) => .ok (.list ds, r.set i (.val (.list ds))) | some (.own false (.dic es)) => .ok (.dict es, r.set i (.val (.dict es))) | _ => .no) := rfl
theorem r_Val : dVal i r = (match r[i]? with | some (.val d) => .ok (d, r) | _ => .no) := rfl
theorem r_Move : eMove i r = (match r[i]? with | some (.val d) => .ok (.val d, r) | some (.own false o) => .ok (.own o, r.set i .non) | _ => .no) := rfl
theorem r_fz : fz m r = (m r).bind fun a => (fzR a.1).bind fun d => .ok (d, a.2) := rfl
theorem r_ofD : ofD x r = (x r).bind fun a => .ok (.val a.1, a.2) := rfl
theorem r_Op : dOp f x y r = (x r).bind fun a => (y a.2).bind fun b => (ofO (f a.1 b.1)).bind fun d => .ok (d, b.2) := rfl
theorem r_eOp : eOp f2 x y r = (x r).bind fun a => (y a.2).bind fun b => (ofO (f2 a.1 b.1)).bind fun d => .ok (d, b.2) := rfl
theorem r_Un : dUn f1 x r = (x r).bind fun a => (ofO (f1 a.1)).bind fun d => .ok (d, a.2) := rfl
theorem r_CB : dCB fl ms r = (ms r).bind fun a => (ofO (fl a.1)).bind fun d => .ok (d, a.2) := rfl
theorem r_eCB : eCB fe ms r = (ms r).bind fun a => (ofO (fe a.1)).bind fun d => .ok (d, a.2) := rfl
theorem r_Mul : eMul m x r = (m r).bind fun a => (x a.2).bind fun b => (ofO (pMul a.1 b.1)).bind fun d => .ok (d, b.2) := rfl
theorem r_Nil : dNil r = .ok ([], r) := rfl
theorem r_Cons : dCons x ms r = (x r).bind fun a => (ms a.2).bind fun b => .ok (a.1 :: b.1, b.2) := rfl
theorem r_Lst : eLst ms r = (ms r).bind fun a => if a.1.length ≤ 16777216 then .ok (.own (.lst a.1), a.2) else .no := rfl
theorem r_Tup : dTup ms r = (ms r).bind fun a => if a.1.length ≤ 16777216 then .ok (.tuple a.1, a.2) else .no := rfl
theorem r_Bl : tBl x r = (x r).bind fun a => match a.1 with | .bool b => .ok (b, a.2) | _ => .no := rfl
theorem r_And : tAndM c c' r = (c r).bind fun a => if a.1 = true then c' a.2 else .ok (false, a.2) := rfl
theorem r_Or : tOrM c c' r = (c r).bind fun a => if a.1 = true then .ok (true, a.2) else c' a.2 := rfl
theorem r_NotM : tNotM c r = (c r).bind fun a => .ok (!a.1, a.2) := rfl
theorem r_Yes : tYesM r = .ok (true, r) := rfl
theorem r_If : eIf c m m' r = (c r).bind fun a => if a.1 = true then m a.2 else m' a.2 := rfl
theorem r_Chain : dChain f g x y z r = (x r).bind fun a => (y a.2).bind fun b => (ofO (f a.1 b.1)).bind fun d => match d with | .bool true => (z b.2).bind fun c => (ofO (g b.1 c.1)).bind fun d => .ok (d, c.2) | .bool false => .ok (.bool false, b.2) | _ => .no := rfl
theorem r_Next : sNext r = .ok (.nx, r) := rfl
theorem r_Seq : sSeq s s' r = (s r).bind fun a => match a.1 with | .nx => s' a.2 | .bk => .ok (.bk, a.2) | .ct => .ok (.ct, a.2) | .rt rv => .ok (.rt rv, a.2) := rfl
theorem r_Bk : sBk r = .ok (.bk, r) := rfl
theorem r_Ct : sCt r = .ok (.ct, r) := rfl
theorem r_Never : sNever r = .no := rfl
theorem r_Ret : sRet m r = (m r).bind fun a => .ok (.rt a.1, a.2) := rfl
theorem r_RetN : sRetN r = .ok (.rt (.val .none), r) := rfl
theorem r_Expr : sExpr m r = (m r).bind fun a => .ok (.nx, a.2) := rfl
theorem r_sIf : sIf c s s' r = (c r).bind fun a => if a.1 = true then s a.2 else s' a.2 := rfl
theorem r_Set : sSet i m r = (m r).bind fun a => if free a.2 i = true then .ok (.nx, a.2.set i (toSl a.1)) else .no := rfl
theorem r_Asg : sAsg bm x r = (x r).bind fun a => (ofO (bm a.1 a.2)).bind fun r' => .ok (.nx, r') := rfl
theorem r_Par : sPar i j m m' r = (m r).bind fun a => (m' a.2).bind fun b => if free b.2 i = true then (if free (b.2.set i (toSl a.1)) j = true then .ok (.nx, (b.2.set i (toSl a.1)).set j (toSl b.1)) else .no) else .no := rfl
theorem r_bName : bName i d r = if free r i = true then some (r.set i (.val d)) else none := rfl
theorem r_bNil : bNil ds r = (match ds with | [] => some r | _ => none) := rfl
theorem r_bCons : bCons bm bs ds r = (match ds with | [] => none | d :: ds => (match bm d r with | some r' => bs ds r' | none => none)) := by cases ds with | nil => rfl | cons d ds => show (bm d r).bind _ = (match bm d r with | some r' => bs ds r' | none => none); cases bm d r <;> rfl
theorem r_bTup : bTup n bs d r = (match d with | .tuple ds => if ds.length = n then bs ds r else none | _ => none) := rfl
theorem r_free : free r i = fre r[i]? := rfl
theorem r_toSl (v : RV) : toSl v = (match v with | .val d => .val d | .own o => .own false o) := rfl
theorem r_fzR (v : RV) : fzR v = (match v with | .val d => .ok d | .own (.lst ds) => .ok (.list ds) | .own (.dic es) => .ok (.dict es) | .own (.ins _ _) => .no) := by cases v with | val d => rfl | own o => cases o <;> rfl
theorem r_dAnd : dAnd x y r = (x r).bind fun a => match a.1 with | .bool true => y a.2 | .bool false => .ok (.bool false, a.2) | _ => .no := rfl
theorem r_dOr : dOr x y r = (x r).bind fun a => match a.1 with | .bool true => .ok (.bool true, a.2) | .bool false => y a.2 | _ => .no := rfl
theorem r_dNot : dNot x r = (x r).bind fun a => match a.1 with | .bool b => .ok (.bool (!b), a.2) | _ => .no := rfl
theorem r_ixO : dIxO i x r = (match r[i]? with | some (.own _ (.lst _)) => (x r).bind fun a => (match a.2[i]?, a.1 with | some (.own _ (.lst ds)), .int k => (ofO (atI ds k)).bind fun d => .ok (d, a.2) | _, _ => .no) | _ => .no) := rfl
theorem r_Put : sPut i x y r = (y r).bind fun a => match a.2[i]? with
  | some (.own _ (.lst _)) => (x a.2).bind fun b => (match b.2[i]? with
    | some (.own p (.lst ds)) => (match b.1 with
      | .int k => (ofO (ixD ds.length k)).bind fun j => .ok (.nx, b.2.set i (.own p (.lst (ds.set j a.1))))
      | _ => .no)
    | _ => .no)
  | _ => .no := rfl
theorem r_Mut (h : List D → List D → Option (D × List D)) : eMut i h ms r = (match r[i]? with
  | some (.own _ (.lst _)) => (ms r).bind fun a => (match a.2[i]? with
    | some (.own p (.lst ds)) => (ofO (h ds a.1)).bind fun x => .ok (.val x.1, a.2.set i (.own p (.lst x.2)))
    | _ => .no)
  | _ => .no) := rfl
theorem r_arNil : arNil r = .ok ([], r) := rfl
theorem r_arV : arV x us r = (x r).bind fun a => (us a.2).bind fun b => .ok (.val a.1 :: b.1, b.2) := rfl
theorem r_arR : arR i us r = (match r[i]? with | some (.own _ _) => (us r).bind fun b => .ok (.ref i :: b.1, b.2) | _ => .no) := rfl
theorem r_Call : eCall n F us r = (us r).bind fun a => if a.1.length = n then ((ofO (mkA a.1 a.2)).bind fun sl => backX a.1 a.2 (F sl)) else .no := rfl
theorem r_CallK (ix : List Nat) : eCallK n a b ix F us vs r = (us r).bind fun u => (vs u.2).bind fun v => if u.1.length = a ∧ v.1.length = b ∧ (pick ix (u.1 ++ v.1)).length = n then ((ofO (mkA (pick ix (u.1 ++ v.1)) v.2)).bind fun sl => backX (pick ix (u.1 ++ v.1)) v.2 (F sl)) else .no := rfl
theorem r_CallKD (ix : List Nat) : eCallKD n a b ix F us vs r = (us r).bind fun u => (vs u.2).bind fun v => if u.1.length = a ∧ v.1.length = b ∧ (pick ix (u.1 ++ v.1 ++ [.val .none])).length = n then ((ofO (mkA (pick ix (u.1 ++ v.1 ++ [.val .none])) v.2)).bind fun sl => backX (pick ix (u.1 ++ v.1 ++ [.val .none])) v.2 (F sl)) else .no := rfl
theorem r_CallT : eCallT n F m us r = (m r).bind fun a => match a.1 with
  | .own o => (us a.2).bind fun b => if b.1.length + 1 = n then ((ofO (valsOf b.1)).bind fun sl => leaveX b.2 (F (.own true o :: sl))) else .no
  | .val _ => .no := rfl
theorem r_For : sFor it bm s r = (it r).bind fun a => forD bm s a.1 a.2 := rfl
theorem r_Lc (ws : List Nat) : eLc it ws bm c x r = (it r).bind fun a => (ofO (wipeR a.2 ws)).bind fun r1 => (lcD ws bm c x a.1 [] r1).bind fun x => .ok (.own (.lst x.1), x.2) := rfl
theorem r_iSeq : iSeqM x r = (x r).bind fun a => match a.1 with | .list ds => .ok (ds, a.2) | .tuple ds => .ok (ds, a.2) | _ => .no := rfl
theorem r_iRng1 : iRng1M x r = (x r).bind fun a => match a.1 with | .int j => @ite _ (-(2 ^ 62) ≤ j ∧ j < 2 ^ 62) (Classical.propDecidable _) (.ok (rangeD 0 j.toNat, a.2)) .no | _ => .no := rfl
theorem r_iRng2 : iRng2M ms r = (ms r).bind fun a => match a.1 with | [.int i, .int j] => @ite _ (-(2 ^ 62) ≤ i ∧ i < 2 ^ 62 ∧ -(2 ^ 62) ≤ j ∧ j < 2 ^ 62) (Classical.propDecidable _) (.ok (rangeD i (j - i).toNat, a.2)) .no | _ => .no := rfl
theorem r_iEnum : iEnumM x r = (x r).bind fun a => match a.1 with | .list ds => .ok (enumD 0 ds, a.2) | _ => .no := rfl
theorem r_iZip : iZipM x y r = (x r).bind fun a => (y a.2).bind fun b => match a.1, b.1 with | .list ds, .list es => .ok (zipD ds es, b.2) | _, _ => .no := rfl
theorem r_oNone : oNone r = .ok (none, r) := rfl
theorem r_oSome : oSome x r = (x r).bind fun a => match a.1 with | .int i => .ok (some i, a.2) | _ => .no := rfl
theorem r_Cut : eCut x lo hi r = (x r).bind fun a => (lo a.2).bind fun b => (hi b.2).bind fun c => (ofO (pCut a.1 b.1 c.1)).bind fun d => .ok (d, c.2) := rfl
theorem r_Rev : eRev x r = (x r).bind fun a => match a.1 with | .list ds => .ok (.own (.lst ds.reverse), a.2) | _ => .no := rfl
theorem r_Isi (T : String) : dIsi T x r = (x r).bind fun a => (ofO (kitB (tyD a.1) T)).bind fun b => .ok (.bool b, a.2) := rfl
theorem r_IsiT (Ts : List String) : dIsiT Ts x r = (x r).bind fun a => (ofO (kitAnyB (tyD a.1) Ts)).bind fun b => .ok (.bool b, a.2) := rfl
theorem r_Bor : dBorrow i x r = (match r[i]? with
  | some (.own p (.lst ds)) => if othersBare r i = true then ((x (r.set i (.val (.list ds)))).bind fun a => if listless a.1 = true then .ok (a.1, r) else .no) else .no
  | _ => .no) := rfl
theorem r_noEx {α : Type} (m : Res α) : noEx m = (match m with | .ok a => .ok a | .ex _ => .no | .no => .no) := by cases m <;> rfl
theorem r_wipe0 : wipeR r [] = some r := rfl
theorem r_wipe1 (v : Nat) (w : List Nat) : wipeR r (v :: w) = (match wipeR r w with | some r' => if free r' v = true then some (r'.set v .non) else none | none => none) := by show (wipeR r w).bind _ = _; cases wipeR r w <;> rfl
theorem r_outs0 : outs [] l = [] := rfl
theorem r_outs1 (s : Sl) (q : List Sl) : outs (s :: q) l = out1 s l.head? :: outs q l.tail := rfl
theorem r_out1 (o : Own) (t : Sl) : out1 (.own true o) (some t) = t := rfl
theorem r_out2 (t : Option Sl) : out1 (.val d) t = .val d := rfl
theorem r_mkA0 : mkA [] r = some [] := rfl
theorem r_mkA1 (q : List ASl) : mkA (.val d :: q) r = (match mkA q r with | some s => some (.val d :: s) | none => none) := by show (mkA q r).map _ = _; cases mkA q r <;> rfl
theorem r_mkA2 (q : List ASl) : mkA (.ref i :: q) r = (match r[i]? with | some (Sl.own _ o) => if q.any (isR i) = true then none else (match mkA q r with | some s => some (Sl.own true o :: s) | none => none) | _ => none) := by
  show (match r[i]? with | some (Sl.own _ o) => if q.any (isR i) = true then none else (mkA q r).map (Sl.own true o :: ·) | _ => none) = _
  cases mkA q r <;> rfl
theorem r_wb0 (s : List Sl) : wb [] s r = r := by unfold wb; rfl
theorem r_wb1 (q : List ASl) (t : Sl) (s : List Sl) : wb (.val d :: q) (t :: s) r = wb q s r := by cases t <;> rfl
theorem r_wb2 (q : List ASl) (p : Bool) (o : Own) (s : List Sl) : wb (.ref i :: q) (.own p o :: s) r = wb q s (setOwn r i o) := rfl
theorem r_setOwn (o : Own) : setOwn r i o = (match r[i]? with | some (.own p _) => r.set i (.own p o) | _ => r) := rfl
theorem r_pick0 {α : Type} (l : List α) : pick [] l = [] := rfl
theorem r_pick1 {α : Type} (q : List Nat) (l : List α) : pick (i :: q) l = (match l[i]? with | some x => x :: pick q l | none => pick q l) := by
  unfold pick
  rw [List.filterMap_cons]
  cases l[i]? <;> rfl
theorem r_val0 : valsOf [] = some [] := rfl
theorem r_val1 (q : List ASl) : valsOf (.val d :: q) = (match valsOf q with | some s => some (.val d :: s) | none => none) := by show (valsOf q).map _ = _; cases valsOf q <;> rfl
end
/-! operators on numbers -/
section
variable (i j : Int)
theorem v_add : pAdd (.int i) (.int j) = some (.val (.int (i + j))) := rfl
theorem v_sub : pSub (.int i) (.int j) = some (.int (i - j)) := rfl
theorem v_neg : pNeg (.int i) = some (.int (-i)) := rfl
theorem v_lt : pLt (.int i) (.int j) = some (.bool (decide (i < j))) := rfl
theorem v_le : pLe (.int i) (.int j) = some (.bool (decide (i ≤ j))) := rfl
theorem v_gt : pGt (.int i) (.int j) = some (.bool (decide (j < i))) := rfl
theorem v_ge : pGe (.int i) (.int j) = some (.bool (decide (j ≤ i))) := rfl
theorem v_eq : pEq (.int i) (.int j) = some (.bool (i == j)) := rfl
theorem v_ne : pNe (.int i) (.int j) = some (.bool (!(i == j))) := rfl
theorem v_max2 : pMax2 [.int i, .int j] = some (.int (max i j)) := by
  show some (PyData.int (if j > i then j else i)) = _
  congr 2
  split <;> omega
theorem v_min2 : pMin2 [.int i, .int j] = some (.int (min i j)) := by
  show some (PyData.int (if j < i then j else i)) = _
  congr 2
  split <;> omega
theorem v_mod (h : 0 < j) : pMod (.int i) (.int j) = some (.int (i % j)) := by
  show (if decide (0 < j) = true then some (PyData.int (i % j)) else none) = _
  rw [if_pos (by simpa using h)]
theorem log2_9000 {n : Nat} (h : n < 2 ^ 128) : n.log2 < 9000 := by
  by_cases h0 : n = 0
  · subst h0; decide
  · exact Nat.lt_of_lt_of_le ((Nat.log2_lt h0).mpr h) (by decide)
theorem v_div (h : 0 < j) (h2 : j < 340282366920938463463374607431768211456) : pDiv (.int i) (.int j) = some (.int (i / j)) := by
  show (if (decide (0 < j) && decide (j.natAbs.log2 < 9000)) = true then some (PyData.int (i / j)) else none) = _
  have h3 : j.natAbs < 2 ^ 128 := by
    have : (2 : Nat) ^ 128 = 340282366920938463463374607431768211456 := by decide
    omega
  rw [if_pos (by simp only [Bool.and_eq_true, decide_eq_true_eq]; exact ⟨h, log2_9000 h3⟩)]
theorem v_pow (h1 : 0 ≤ j) (h2 : j ≤ 1000000) (h3 : i.natAbs < 2 ^ 64) : pPow (.int i) (.int j) = some (.int (i ^ j.toNat)) := by
  show (if (decide (0 ≤ j) && decide (j ≤ 1000000) && decide (i.natAbs < 2 ^ 64)) = true then some (PyData.int (i ^ j.toNat)) else none) = _
  rw [if_pos (by simp only [Bool.and_eq_true, decide_eq_true_eq]; exact ⟨⟨h1, h2⟩, h3⟩)]
theorem v_pow9 : pPow (.int 10) (.int 9) = some (.int 1000000000) := (v_pow 10 9 (by decide) (by decide) (by decide)).trans (congrArg (fun z => some (PyData.int z)) (by decide : (10 : Int) ^ (9 : Int).toNat = 1000000000))
theorem v_pow18 : pPow (.int 10) (.int 18) = some (.int 1000000000000000000) := (v_pow 10 18 (by decide) (by decide) (by decide)).trans (congrArg (fun z => some (PyData.int z)) (by decide : (10 : Int) ^ (18 : Int).toNat = 1000000000000000000))
theorem v_pow39 : pPow (.int 10) (.int 39) = some (.int 1000000000000000000000000000000000000000) := (v_pow 10 39 (by decide) (by decide) (by decide)).trans (congrArg (fun z => some (PyData.int z)) (by decide : (10 : Int) ^ (39 : Int).toNat = 1000000000000000000000000000000000000000))
theorem v_mulL (h1 : -18446744073709551616 < i) (h2 : i < 18446744073709551616) : pMul (.val (.int i)) (.int j) = some (.val (.int (i * j))) := by
  show (if mulOk i j = true then some (RV.val (.int (i * j))) else none) = _
  rw [if_pos (by unfold mulOk; simp only [Bool.or_eq_true, decide_eq_true_eq]; exact .inl (.inl ⟨by omega, by omega⟩))]
theorem v_mulR (h1 : -18446744073709551616 < j) (h2 : j < 18446744073709551616) : pMul (.val (.int i)) (.int j) = some (.val (.int (i * j))) := by
  show (if mulOk i j = true then some (RV.val (.int (i * j))) else none) = _
  rw [if_pos (by unfold mulOk; simp only [Bool.or_eq_true, decide_eq_true_eq]; exact .inl (.inr ⟨by omega, by omega⟩))]
theorem repL_one {α : Type} (a : α) : ∀ k : Nat, repL k [a] = List.replicate k a
  | 0 => rfl
  | k + 1 => by
    have ih := repL_one a k
    unfold repL at ih ⊢
    rw [List.replicate_succ, List.flatten_cons, ih]
    rfl
theorem v_rep1 (d : D) (h1 : j ≤ 16777216) (h0 : -9223372036854775808 ≤ j) : pMul (.own (.lst [d])) (.int j) = some (.own (.lst (List.replicate j.toNat d))) := by
  show (if (-(2 ^ 63) ≤ j ∧ j < 2 ^ 63) ∧ ([d] : List D).length * j.toNat ≤ 16777216 then some (RV.own (.lst (repL j.toNat [d]))) else none) = _
  rw [if_pos ⟨⟨by omega, by omega⟩, by simp; omega⟩, repL_one]
theorem v_divmod (h1 : 0 < j) (h2 : j < 1073741824) : pDivmod [.int i, .int j] = some (.tuple [.int (i / j), .int (i % j)]) := by
  show (if 0 < j ∧ j < 1073741824 then some (PyData.tuple [.int (i / j), .int (i % j)]) else none) = _
  rw [if_pos ⟨h1, h2⟩]
theorem v_catL (a b : List D) (h : a.length + b.length ≤ 16777216) : pAdd (.list a) (.list b) = some (.own (.lst (a ++ b))) := by
  show (if a.length + b.length ≤ 16777216 then some (RV.own (.lst (a ++ b))) else none) = _
  rw [if_pos h]
theorem v_catT (a b : List D) (h : a.length + b.length ≤ 16777216) : pAdd (.tuple a) (.tuple b) = some (.val (.tuple (a ++ b))) := by
  show (if a.length + b.length ≤ 16777216 then some (RV.val (.tuple (a ++ b))) else none) = _
  rw [if_pos h]
theorem v_lenL (a : List D) : pLen [.list a] = some (.int a.length) := rfl
theorem v_lenT (a : List D) : pLen [.tuple a] = some (.int a.length) := rfl
theorem v_sum (ns : List Int) : pSum [.list (ns.map .int)] = some (.int ns.sum) := by
  show (ints? (ns.map .int)).bind _ = _
  rw [ints?_of]; rfl
theorem v_sorted (ns : List Int) : pSorted [.list (ns.map .int)] = some (.own (.lst ((sortI ns).map .int))) := by
  show (ints? (ns.map .int)).map _ = _
  rw [ints?_of]; rfl
theorem v_all (bs : List Bool) : pAll [.list (bs.map .bool)] = some (.bool (bs.all id)) := by
  show (bools? (bs.map .bool)).map _ = _
  rw [bools?_of]; rfl
theorem v_app (ds : List D) (d : D) (h : ds.length < 16777216) : mApp ds [d] = some (.none, ds ++ [d]) := if_pos h
/-! items -/
theorem atI_ofNat {α : Type} (l : List α) (k : Nat) : atI l (k : Int) = l[k]? := by
  unfold atI ixN
  rw [if_pos (by omega)]
  by_cases h : k < l.length
  · rw [if_pos (by omega)]
    show l[(k : Int).toNat]? = _
    rw [Int.toNat_natCast]
  · rw [if_neg (by omega), List.getElem?_eq_none (by omega)]
    rfl
theorem v_atN {α : Type} (l : List α) (k : Int) (h : 0 ≤ k) : atI l k = l[k.toNat]? := by
  have : k = (k.toNat : Int) := by omega
  rw [this, atI_ofNat]
  rfl
theorem v_at_1 {α : Type} (l : List α) : atI l (-1) = l[l.length - 1]? := by
  unfold atI ixN
  rw [if_neg (by omega)]
  by_cases h : 1 ≤ l.length
  · rw [if_pos (by omega)]
    show l[(-1 + (l.length : Int)).toNat]? = _
    congr 1
    omega
  · rw [if_neg (by omega)]
    have : l = [] := List.eq_nil_of_length_eq_zero (by omega)
    subst this
    rfl
theorem v_ixL (ds : List D) (k : Int) : pIx (.list ds) (.int k) = atI ds k := rfl
theorem v_ixT (ds : List D) (k : Int) : pIx (.tuple ds) (.int k) = atI ds k := rfl
theorem v_ixD0 (n : Nat) (k : Int) (h : 0 ≤ k) (h2 : k < n) : ixD n k = some k.toNat := by
  unfold ixD ixN
  rw [if_pos h, if_pos h2]
theorem v_cutL (ds : List D) (lo hi : Option Int) : pCut (.list ds) lo hi = some (.own (.lst (cutD ds lo hi))) := rfl
theorem v_cutT (ds : List D) (lo hi : Option Int) : pCut (.tuple ds) lo hi = some (.val (.tuple (cutD ds lo hi))) := rfl
theorem cut_to {α : Type} (l : List α) (k : Nat) : cutD l none (some (k : Int)) = l.take k := by
  unfold cutD
  rw [HT.sIx_none, HT.sIx_nat]
  rw [List.drop_zero, Nat.sub_zero]
  by_cases h : k ≤ l.length
  · rw [Nat.min_eq_left h]
  · rw [Nat.min_eq_right (by omega), List.take_of_length_le (Nat.le_refl _), List.take_of_length_le (by omega)]
theorem cut_to' {α : Type} (l : List α) (k : Int) (h : 0 ≤ k) : cutD l none (some k) = l.take k.toNat := by
  have : k = (k.toNat : Int) := by omega
  rw [this, cut_to]
  rfl
theorem cut_from {α : Type} (l : List α) (k : Nat) : cutD l (some (k : Int)) none = l.drop k := by
  unfold cutD
  rw [HT.sIx_none, HT.sIx_nat]
  by_cases h : k ≤ l.length
  · rw [Nat.min_eq_left h, List.take_of_length_le (by simp)]
  · rw [Nat.min_eq_right (by omega), List.drop_of_length_le (Nat.le_refl _), List.drop_of_length_le (by omega), List.take_nil]
end
/-! isinstance -/
theorem k_ii : kitB "int" "int" = some true := by decide +kernel
theorem k_ib : kitB "int" "bool" = some false := by decide +kernel
theorem k_bi : kitB "bool" "int" = some true := by decide +kernel
theorem k_bb : kitB "bool" "bool" = some true := by decide +kernel
theorem k_ll : kitB "list" "list" = some true := by decide +kernel
theorem k_lt : kitB "list" "tuple" = some false := by decide +kernel
theorem k_tl : kitB "tuple" "list" = some false := by decide +kernel
theorem k_tt : kitB "tuple" "tuple" = some true := by decide +kernel
theorem t_i (i : Int) : tyD (.int i) = "int" := rfl
theorem t_b (b : Bool) : tyD (.bool b) = "bool" := rfl
theorem t_l (l : List D) : tyD (.list l) = "list" := rfl
theorem t_t (l : List D) : tyD (.tuple l) = "tuple" := rfl
/-! equality of data -/
theorem lay_ints : ∀ ns : List Int, PyData.canLayAll0 (ns.map .int) = true
  | [] => rfl
  | n :: ns => by
    show (PyData.canLay0 (.int n) && PyData.canLayAll0 (ns.map .int)) = true
    rw [lay_ints ns]; rfl
theorem eqvAll_ints : ∀ a b : List Int, PyData.eqvAll (a.map .int) (b.map .int) = decide (a = b)
  | [], [] => by simp [PyData.eqvAll]
  | [], _ :: _ => by simp [PyData.eqvAll]
  | _ :: _, [] => by simp [PyData.eqvAll]
  | x :: a, y :: b => by
    show (PyData.eqv (.int x) (.int y) && PyData.eqvAll (a.map .int) (b.map .int)) = _
    rw [eqvAll_ints a b]
    show ((x == y) && decide (a = b)) = _
    by_cases h : x = y <;> by_cases h2 : a = b <;> simp [h, h2]
theorem dep_ints : ∀ ns : List Int, PyData.depthAll (ns.map .int) ≤ 1
  | [] => by simp [PyData.depthAll]
  | n :: ns => by
    have := dep_ints ns
    have h : PyData.depth (.int n) ≤ 1 := by simp [PyData.depth]
    simp only [List.map_cons, PyData.depthAll]
    omega
theorem shp_ints (ns : List Int) : SeqAt.shaped (.list (ns.map .int)) = true := by
  have h := dep_ints ns
  unfold SeqAt.shaped
  rw [Bool.and_eq_true, decide_eq_true_eq]
  refine ⟨lay_ints ns, ?_⟩
  simp only [PyData.depth]
  omega
theorem v_eqL (a b : List Int) : pEq (.list (a.map .int)) (.list (b.map .int)) = some (.bool (decide (a = b))) := by
  unfold pEq
  rw [if_pos (by rw [shp_ints a, shp_ints b]; rfl)]
  show some (PyData.bool (PyData.eqvAll (a.map .int) (b.map .int))) = _
  rw [eqvAll_ints]
theorem v_neL (a b : List Int) : pNe (.list (a.map .int)) (.list (b.map .int)) = some (.bool (!decide (a = b))) := by
  unfold pNe
  rw [if_pos (by rw [shp_ints a, shp_ints b]; rfl)]
  show some (PyData.bool (!PyData.eqvAll (a.map .int) (b.map .int))) = _
  rw [eqvAll_ints]
/-! items of written lists; a source of draws -/
theorem at0 {α : Type} (a : α) (l : List α) : atI (a :: l) 0 = some a := by rw [v_atN _ _ (by omega)]; rfl
theorem at1 {α : Type} (a b : α) (l : List α) : atI (a :: b :: l) 1 = some b := by rw [v_atN _ _ (by omega)]; rfl
theorem at2 {α : Type} (a b c : α) (l : List α) : atI (a :: b :: c :: l) 2 = some c := by rw [v_atN _ _ (by omega)]; rfl
theorem ixD0 (n : Nat) : ixD (n + 1) 0 = some 0 := v_ixD0 _ _ (by omega) (by omega)
theorem ixD2 (n : Nat) : ixD (n + 3) 2 = some 2 := v_ixD0 _ _ (by omega) (by omega)
def mixed (c k : Int) : Int :=
  let a := (c % 2147483646 + 1) * (k * 7919 + 104729) % 2147483647
  let b := (a + c / 2147483646 % 1000003 * (k + 31)) * 48271 % 2147483629
  let d := b * (b / 1013 + 69621 + k) % 2147483587
  d * (d / 2003 + 40692) % 2147483563
abbrev Src := Int × Int × Int
def srcO (s : Src) : Own := .lst [.int s.1, .int s.2.1, .int s.2.2]
def tkV (s : Src) (m : Int) : Int := if 1000000000000000000 ≤ s.1 then s.1 % m else mixed s.2.1 (s.2.2 + 1) % m
def tkS (s : Src) (m : Int) : Src := if 1000000000000000000 ≤ s.1 then (s.1 / m, s.2.1, s.2.2) else (s.1, s.2.1, s.2.2 + 1)
theorem tkV_nn (s : Src) {m : Int} (h : 0 < m) : 0 ≤ tkV s m := by
  unfold tkV
  split <;> exact Int.emod_nonneg _ (by omega)
theorem tkV_lt (s : Src) {m : Int} (h : 0 < m) : tkV s m < m := by
  unfold tkV
  split <;> exact Int.emod_lt_of_pos _ h
/-- what the many greatest of even shares are together -/
def topI (t c m : Int) : Int := t / c * m + min (t % c) m
/-! loops -/
theorem lcD_ix {vs : List Nat} {b : BM} {c : M Bool} {m : M D} {r : Rho} (G : Nat → D) : ∀ (items acc : List D) (k : Nat), (∀ (i : Nat) (d : D), items[i]? = some d → ∃ r1 r2 r3, b d r = some r1 ∧ c r1 = .ok (true, r2) ∧ m r2 = .ok (G (k + i), r3) ∧ wipeR r3 vs = some r) → acc.length + items.length ≤ 16777216 →
    lcD vs b c m items acc r = .ok (acc ++ (List.range items.length).map (fun i => G (k + i)), r)
  | [], acc, k, _, _ => by simp [lcD]
  | d :: items, acc, k, h, hl => by
    obtain ⟨r1, r2, r3, e1, e2, e3, e4⟩ := h 0 d rfl
    have ih := lcD_ix (vs := vs) (b := b) (c := c) (m := m) (r := r) G items (acc ++ [G k]) (k + 1) (fun i d' e => by
      have z := h (i + 1) d' (by simpa using e)
      rw [show k + 1 + i = k + (i + 1) by omega]
      exact z) (by simp at hl ⊢; omega)
    have hl2 : acc.length < 16777216 := by simp at hl; omega
    unfold lcD
    simp only [e1, e2, e3, e4, ofO, Res.bind, noEx, if_true, hl2, Nat.add_zero]
    rw [ih]
    congr 2
    rw [List.append_assoc, List.length_cons, List.range_succ_eq_map, List.map_cons, List.map_map]
    congr 1
    rw [List.singleton_append]
    congr 1
    apply List.map_congr_left
    intro i _
    show G (k + 1 + i) = G (k + (i + 1))
    congr 1
    omega
theorem forD_cons {b : BM} {body : SM} {d : D} {ds : List D} {r : Rho} : forD b body (d :: ds) r = (ofO (b d r)).bind fun r1 => (body r1).bind fun a => match a.1 with
    | .nx => forD b body ds a.2
    | .ct => forD b body ds a.2
    | .bk => .ok (.nx, a.2)
    | .rt rv => .ok (.rt rv, a.2) := rfl
theorem forD_inv' {b : BM} {body : SM} (P : Nat → Rho → Prop) : ∀ (items : List D) (k : Nat) (r : Rho), P k r → (∀ (i : Nat) (d : D), items[i]? = some d → ∀ r, P (k + i) r → ∃ r2, (((ofO (b d r)).bind body = .ok (.nx, r2)) ∨ ((ofO (b d r)).bind body = .ok (.ct, r2))) ∧ P (k + i + 1) r2) → ∃ r', forD b body items r = .ok (.nx, r') ∧ P (k + items.length) r'
  | [], k, r, hp, _ => ⟨r, rfl, hp⟩
  | d :: items, k, r, hp, h => by
    obtain ⟨r2, e2, hp2⟩ := h 0 d rfl r hp
    obtain ⟨r', e, hp'⟩ := forD_inv' (b := b) (body := body) P items (k + 1) r2 hp2 (fun i d' e r hr => by
      have z := h (i + 1) d' (by simpa using e) r (by rw [show k + (i + 1) = k + 1 + i by omega]; exact hr)
      rw [show k + 1 + i = k + (i + 1) by omega]
      exact z)
    refine ⟨r', ?_, by rw [show k + (d :: items).length = k + 1 + items.length by simp; omega]; exact hp'⟩
    rw [← e, forD_cons]
    cases hb : b d r with
    | none => rw [hb] at e2; rcases e2 with e2 | e2 <;> cases e2
    | some r1 =>
      rw [hb] at e2
      have e3 : body r1 = .ok (.nx, r2) ∨ body r1 = .ok (.ct, r2) := e2
      rcases e3 with e3 | e3 <;> simp only [e3, ofO, Res.bind]
theorem forD_inv {b : BM} {body : SM} (P : Nat → Rho → Prop) (items : List D) (r : Rho) (h0 : P 0 r) (h : ∀ (i : Nat) (d : D), items[i]? = some d → ∀ r, P i r → ∃ r2, (((ofO (b d r)).bind body = .ok (.nx, r2)) ∨ ((ofO (b d r)).bind body = .ok (.ct, r2))) ∧ P (i + 1) r2) : ∃ r', forD b body items r = .ok (.nx, r') ∧ P items.length r' := by
  obtain ⟨r', e, hp⟩ := forD_inv' (b := b) (body := body) P items 0 r h0 (fun i d e r hr => by
    rw [Nat.zero_add] at hr ⊢
    exact h i d e r hr)
  exact ⟨r', e, by rwa [Nat.zero_add] at hp⟩
theorem atI_map {α β : Type} (f : α → β) (l : List α) (k : Int) : atI (l.map f) k = (atI l k).map f := by
  unfold atI
  rw [List.length_map]
  cases ixN l.length k with
  | none => rfl
  | some j => show (l.map f)[j]? = (l[j]?).map f; rw [List.getElem?_map]
theorem v_atG (l : List Int) (k : Int) (h : 0 ≤ k) (h2 : k < l.length) : atI (l.map PyData.int) k = some (.int (l.getD k.toNat 0)) := by
  rw [atI_map, v_atN _ _ h]
  have : k.toNat < l.length := by omega
  rw [List.getElem?_eq_getElem this, List.getD_eq_getElem?_getD, List.getElem?_eq_getElem this]
  rfl
theorem getD_nn {l : List Int} (h : ∀ x ∈ l, 0 ≤ x) (k : Nat) : 0 ≤ l.getD k 0 := by
  rw [List.getD_eq_getElem?_getD]
  cases e : l[k]? with
  | none => exact Int.le_refl _
  | some x => exact h x (List.mem_of_getElem? e)
theorem rangeD_at {lo : Int} {n i : Nat} {d : D} (h : (rangeD lo n)[i]? = some d) : i < n ∧ d = .int (lo + i) := by
  have hi : i < n := by
    have := (List.getElem?_eq_some_iff.mp h).1
    rwa [rangeD_length] at this
  rw [rangeD_get hi] at h
  exact ⟨hi, (Option.some.inj h).symm⟩
/-! the table -/
theorem topI_le {t c m : Int} (h1 : 0 ≤ t) (h2 : 1 ≤ c) (h4 : 0 ≤ m) (h5 : m ≤ c) : topI t c m ≤ t := by
  unfold topI
  have e := Int.emod_add_mul_ediv t c
  have q : 0 ≤ t / c := Int.ediv_nonneg h1 (by omega)
  have hm : t / c * m ≤ c * (t / c) := by
    rw [Int.mul_comm c]
    exact Int.mul_le_mul_of_nonneg_left h5 q
  omega
theorem topI_nn {t c m : Int} (h1 : 0 ≤ t) (h2 : 1 ≤ c) (h4 : 0 ≤ m) : 0 ≤ topI t c m := by
  unfold topI
  have q : 0 ≤ t / c * m := Int.mul_nonneg (Int.ediv_nonneg h1 (by omega)) h4
  have := Int.emod_nonneg t (show c ≠ 0 by omega)
  omega
def leastI (n g p : Int) (row : List Int) (j : Int) : Int := row.getD (min (j + p) (n - p) - 1).toNat 0 + g - topI (row.getD (min (j + p) (n - p) - 1).toNat 0 + g) (j + p) p
def firstI (n g p : Int) (row : List Int) : List Int := (List.range (n - p).toNat).map fun i => leastI n g p row (1 + (i : Nat))
def nextI (n g p : Int) (row : List Int) : List Int := firstI n g p row ++ List.replicate p.toNat ((firstI n g p row).getD ((n - p).toNat - 1) 0)
/-- a row of the table -/
structure RowOk (n : Int) (row : List Int) : Prop where
  len : (row.length : Int) = n
  nn : ∀ x ∈ row, 0 ≤ x
theorem leastI_nn {n g p : Int} {row : List Int} {j : Int} (R : RowOk n row) (hg : 0 ≤ g) (hp : 1 ≤ p) (hj : 1 ≤ j) : 0 ≤ leastI n g p row j := by
  unfold leastI
  have := getD_nn R.nn (min (j + p) (n - p) - 1).toNat
  have := topI_le (t := row.getD (min (j + p) (n - p) - 1).toNat 0 + g) (c := j + p) (m := p) (by omega) (by omega) (by omega) (by omega)
  omega
theorem firstI_length (n g p : Int) (row : List Int) : (firstI n g p row).length = (n - p).toNat := by simp [firstI]
theorem firstI_nn {n g p : Int} {row : List Int} (R : RowOk n row) (hg : 0 ≤ g) (hp : 1 ≤ p) : ∀ x ∈ firstI n g p row, 0 ≤ x := by
  intro x hx
  obtain ⟨i, _, rfl⟩ := List.mem_map.mp hx
  exact leastI_nn R hg hp (by omega)
theorem nextI_ok {n g p : Int} {row : List Int} (R : RowOk n row) (hg : 0 ≤ g) (hp : 1 ≤ p) (hpn : p ≤ n - 1) : RowOk n (nextI n g p row) := by
  refine ⟨?_, fun x hx => ?_⟩
  · unfold nextI
    rw [List.length_append, firstI_length, List.length_replicate]
    omega
  · unfold nextI at hx
    rcases List.mem_append.mp hx with h | h
    · exact firstI_nn R hg hp x h
    · rw [(List.mem_replicate.mp h).2]
      exact getD_nn (firstI_nn R hg hp) _
def zeroI (n : Int) : List Int := List.replicate n.toNat 0
theorem zero_ok {n : Int} (h : 0 ≤ n) : RowOk n (zeroI n) := ⟨by unfold zeroI; rw [List.length_replicate]; omega, fun x hx => by unfold zeroI at hx; rw [(List.mem_replicate.mp hx).2]; exact Int.le_refl _⟩
/-- the row behind t beats -/
def rowI (n g p : Int) : Nat → List Int
  | 0 => zeroI n
  | t + 1 => nextI n g p (rowI n g p t)
theorem row_ok {n g p : Int} (h : 2 ≤ n) (hg : 0 ≤ g) (hp : 1 ≤ p) (hpn : p ≤ n - 1) : ∀ t, RowOk n (rowI n g p t)
  | 0 => zero_ok (by omega)
  | t + 1 => nextI_ok (row_ok h hg hp hpn t) hg hp hpn
/-- where a row stands still all later ones are the same -/
theorem row_still {n g p : Int} {t : Nat} (h : rowI n g p (t + 1) = rowI n g p t) : ∀ k, rowI n g p (t + k) = rowI n g p t
  | 0 => rfl
  | k + 1 => by
    show nextI n g p (rowI n g p (t + k)) = _
    rw [row_still h k]
    exact h
/-- a written list, picked from -/
theorem pick_ok {α : Type} (P : α → Prop) (l : List α) (k : Int) (h0 : 0 ≤ k) (h1 : k < l.length) (h : ∀ x ∈ l, P x) : ∃ v, atI l k = some v ∧ P v := by
  rw [v_atN _ _ h0]
  have : k.toNat < l.length := by omega
  exact ⟨l[k.toNat], List.getElem?_eq_getElem this, h _ (List.getElem_mem this)⟩
theorem pickI (P : Int → Prop) (l : List Int) (k : Int) (h0 : 0 ≤ k) (h1 : k < l.length) (h : ∀ x ∈ l, P x) : ∃ v, atI (l.map PyData.int) k = some (.int v) ∧ P v := by
  obtain ⟨v, e, hv⟩ := pick_ok P l k h0 h1 h
  exact ⟨v, by rw [atI_map, e]; rfl, hv⟩
/-- rows told as data -/
def rowsD (n g p : Int) (t : Nat) : List D := (List.range (t + 1)).map fun i => .list ((rowI n g p i).map .int)
theorem rowsD_length (n g p : Int) (t : Nat) : (rowsD n g p t).length = t + 1 := by simp [rowsD]
theorem ints_at {ns : List Int} {i : Nat} {d : D} (h : (ns.map PyData.int)[i]? = some d) : ∃ z ∈ ns, d = .int z := by
  rw [List.getElem?_map] at h
  cases e : ns[i]? with
  | none => rw [e] at h; cases h
  | some z => rw [e] at h; cases h; exact ⟨z, List.mem_of_getElem? e, rfl⟩
/-- the cells of a script that are gone through -/
theorem cut_ints (ns : List Int) (k : Nat) (ks : Int) (hk : ks = (k : Int)) : cutD (ns.map PyData.int ++ [PyData.int 0]) none (some ks) = ((ns ++ [0]).take k).map PyData.int := by
  rw [hk, cut_to, List.map_take, List.map_append]
  rfl
/-! the table: it rises, it is bounded, it comes to stand still -/
theorem lag_mono {c m a b : Int} (hc : 1 ≤ c) (hm : 0 ≤ m) (hmc : m ≤ c) (h : a ≤ b) : a - topI a c m ≤ b - topI b c m := by
  unfold topI
  have ea := Int.emod_add_mul_ediv a c
  have eb := Int.emod_add_mul_ediv b c
  have ra := Int.emod_nonneg a (show c ≠ 0 by omega)
  have rb := Int.emod_nonneg b (show c ≠ 0 by omega)
  have la := Int.emod_lt_of_pos a (show 0 < c by omega)
  have lb := Int.emod_lt_of_pos b (show 0 < c by omega)
  have hq : a / c ≤ b / c := Int.ediv_le_ediv (by omega) h
  generalize a / c = qa at *
  generalize b / c = qb at *
  generalize a % c = x at *
  generalize b % c = y at *
  by_cases e : qa = qb
  · subst e
    omega
  · have hz := Int.mul_nonneg (show 0 ≤ qb - qa - 1 by omega) (show 0 ≤ c - m by omega)
    have hx : (qb - qa - 1) * (c - m) = c * qb - qb * m - c * qa + qa * m - c + m := by
      rw [Int.mul_sub, Int.sub_mul, Int.sub_mul, Int.sub_mul, Int.sub_mul, Int.mul_comm qb c, Int.mul_comm qa c]
      omega
    omega
theorem firstI_get (n g p : Int) (row : List Int) (k : Nat) (hk : k < (n - p).toNat) : (firstI n g p row).getD k 0 = leastI n g p row (1 + (k : Nat)) := by
  unfold firstI
  rw [List.getD_eq_getElem?_getD, List.getElem?_map, List.getElem?_range hk]
  rfl
theorem nextI_get {n g p : Int} (row : List Int) (hp : 1 ≤ p) (hpn : p ≤ n - 1) (k : Nat) (hk : (k : Int) < n) : (nextI n g p row).getD k 0 = leastI n g p row (min (1 + (k : Nat)) (n - p)) := by
  unfold nextI
  by_cases h : k < (n - p).toNat
  · rw [List.getD_eq_getElem?_getD, List.getElem?_append_left (by rw [firstI_length]; exact h), ← List.getD_eq_getElem?_getD, firstI_get _ _ _ _ _ h]
    congr 1
    omega
  · rw [List.getD_eq_getElem?_getD, List.getElem?_append_right (by rw [firstI_length]; omega), firstI_length, List.getElem?_replicate, if_pos (by omega)]
    show (firstI n g p row).getD ((n - p).toNat - 1) 0 = _
    rw [firstI_get _ _ _ _ _ (by omega)]
    congr 1
    omega
theorem getD_out {row : List Int} {n : Int} (R : RowOk n row) (k : Nat) (h : n ≤ k) : row.getD k 0 = 0 := by
  have := R.len
  rw [List.getD_eq_getElem?_getD, List.getElem?_eq_none (by omega)]
  rfl
theorem leastI_mono {n g p : Int} {a b : List Int} (hp : 1 ≤ p) (h : ∀ k, a.getD k 0 ≤ b.getD k 0) {j : Int} (hj : 1 ≤ j) : leastI n g p a j ≤ leastI n g p b j := by
  have := h (min (j + p) (n - p) - 1).toNat
  exact lag_mono (by omega) (by omega) (by omega) (by omega)
theorem nextI_mono {n g p : Int} {a b : List Int} (A : RowOk n a) (B : RowOk n b) (hg : 0 ≤ g) (hp : 1 ≤ p) (hpn : p ≤ n - 1) (h : ∀ k, a.getD k 0 ≤ b.getD k 0) (k : Nat) : (nextI n g p a).getD k 0 ≤ (nextI n g p b).getD k 0 := by
  by_cases hk : (k : Int) < n
  · rw [nextI_get a hp hpn k hk, nextI_get b hp hpn k hk]
    exact leastI_mono hp h (by omega)
  · rw [getD_out (nextI_ok A hg hp hpn) k (by omega), getD_out (nextI_ok B hg hp hpn) k (by omega)]
    exact Int.le_refl _
theorem zeroI_get (n : Int) (k : Nat) : (zeroI n).getD k 0 = 0 := by
  unfold zeroI
  rw [List.getD_eq_getElem?_getD, List.getElem?_replicate]
  split <;> rfl
theorem row_rises {n g p : Int} (hn : 2 ≤ n) (hg : 0 ≤ g) (hp : 1 ≤ p) (hpn : p ≤ n - 1) : ∀ t k, (rowI n g p t).getD k 0 ≤ (rowI n g p (t + 1)).getD k 0
  | 0, k => by
    show (zeroI n).getD k 0 ≤ _
    rw [zeroI_get]
    exact getD_nn (row_ok hn hg hp hpn 1).nn k
  | t + 1, k => nextI_mono (row_ok hn hg hp hpn t) (row_ok hn hg hp hpn (t + 1)) hg hp hpn (row_rises hn hg hp hpn t) k
theorem row_rise {n g p : Int} (hn : 2 ≤ n) (hg : 0 ≤ g) (hp : 1 ≤ p) (hpn : p ≤ n - 1) (s k : Nat) : ∀ d, (rowI n g p s).getD k 0 ≤ (rowI n g p (s + d)).getD k 0
  | 0 => Int.le_refl _
  | d + 1 => Int.le_trans (row_rise hn hg hp hpn s k d) (row_rises hn hg hp hpn (s + d) k)
/-- the first beat, from k on, at most f further, from which on the table stands still; else the last one -/
def stopI (n g p : Int) : Nat → Nat → Nat
  | 0, k => k
  | f + 1, k => if rowI n g p (k + 1) = rowI n g p k then k else stopI n g p f (k + 1)
theorem stop_row (n g p : Int) : ∀ f k, rowI n g p (stopI n g p f k) = rowI n g p (k + f)
  | 0, k => rfl
  | f + 1, k => by
    unfold stopI
    split
    · rename_i h
      exact (row_still h (f + 1)).symm
    · rw [stop_row n g p f (k + 1), show k + 1 + f = k + (f + 1) by omega]
end DL
/-! # DLQ: the plain laws of the program's numbers -/
namespace DL
open PySem PySem.Spec PyProof.Rows L2
theorem r_Copy (i : Nat) (r : Rho) : eCopy i r = (match r[i]? with | some (.own _ (.lst ds)) => .ok (.own (.lst ds), r) | _ => .no) := rfl
theorem sortB_f (ns : List Int) : sortB false ns = sortI ns := rfl
theorem sortB_t (ns : List Int) : sortB true ns = (sortI ns).reverse := rfl
theorem r_iEnumA (x : M D) (r : Rho) : iEnumA x r = (x r).bind fun a => match a.1 with | .list ds => .ok (enumD 0 ds, a.2) | .tuple ds => .ok (enumD 0 ds, a.2) | _ => .no := rfl
/-! what is borrowed -/
theorem ob_nil (i : Nat) : othersBare [] i = true := by cases i <;> rfl
theorem ob_zero (s : Sl) (r : Rho) : othersBare (s :: r) 0 = r.all bareSl := rfl
theorem ob_1 (s : Sl) (r : Rho) : othersBare (s :: r) 1 = (bareSl s && othersBare r 0) := rfl
theorem ob_2 (s : Sl) (r : Rho) : othersBare (s :: r) 2 = (bareSl s && othersBare r 1) := rfl
theorem ob_3 (s : Sl) (r : Rho) : othersBare (s :: r) 3 = (bareSl s && othersBare r 2) := rfl
theorem ob_4 (s : Sl) (r : Rho) : othersBare (s :: r) 4 = (bareSl s && othersBare r 3) := rfl
theorem ob_5 (s : Sl) (r : Rho) : othersBare (s :: r) 5 = (bareSl s && othersBare r 4) := rfl
theorem ob_6 (s : Sl) (r : Rho) : othersBare (s :: r) 6 = (bareSl s && othersBare r 5) := rfl
theorem ob_7 (s : Sl) (r : Rho) : othersBare (s :: r) 7 = (bareSl s && othersBare r 6) := rfl
theorem ob_8 (s : Sl) (r : Rho) : othersBare (s :: r) 8 = (bareSl s && othersBare r 7) := rfl
theorem ll_n : listless .none = true := by unfold listless; rfl
theorem ll_b (b : Bool) : listless (.bool b) = true := by unfold listless; rfl
theorem ll_i (i : Int) : listless (.int i) = true := by unfold listless; rfl
theorem ll_s (s : Str) : listless (.str s) = true := by unfold listless; rfl
theorem bs_n : bareSl .non = true := rfl
theorem bs_v (d : D) : bareSl (.val d) = true := rfl
theorem bs_l (p : Bool) (ds : List D) : bareSl (.own p (.lst ds)) = listlessA ds := rfl
theorem bs_s (p : Bool) (s : Src) : bareSl (.own p (srcO s)) = true := by show listlessA _ = true; simp [listlessA, listless]
theorem llA_ints : ∀ ns : List Int, listlessA (ns.map .int) = true
  | [] => by simp [listlessA]
  | n :: ns => by rw [List.map_cons, listlessA, llA_ints ns]; simp [listless]
/-! the first beat with an amount -/
theorem v_isN0 : pIsN .none .none = some (.bool true) := rfl
theorem v_isNi (i : Int) : pIsN (.int i) .none = some (.bool false) := rfl
theorem v_notN0 : pNotN .none .none = some (.bool false) := rfl
theorem v_notNi (i : Int) : pNotN (.int i) .none = some (.bool true) := rfl
theorem v_pow40 : pPow (.int 10) (.int 40) = some (.int 10000000000000000000000000000000000000000) := (v_pow 10 40 (by decide) (by decide) (by decide)).trans (congrArg (fun z => some (PyData.int z)) (by decide : (10 : Int) ^ (40 : Int).toNat = 10000000000000000000000000000000000000000))
/-! how soon the table stands still -/
theorem topI_step {c m a q : Int} (hc : 1 ≤ c) : topI (a + c * q) c m = topI a c m + q * m := by
  unfold topI
  rw [Int.add_mul_ediv_left a q (show c ≠ 0 by omega), Int.add_mul_emod_self_left, Int.add_mul]
  omega
theorem sum_gap : ∀ (a b : List Int) (m : Int), a.length = b.length → 0 ≤ m → (∀ k, b.getD k 0 - a.getD k 0 ≤ m) → b.sum ≤ a.sum + m * a.length
  | [], [], m, _, _, _ => by simp
  | x :: a, y :: b, m, hl, h0, h => by
    have ih := sum_gap a b m (by simpa using hl) h0 (fun k => by simpa using h (k + 1))
    have hx : y - x ≤ m := by simpa using h 0
    rw [List.sum_cons, List.sum_cons, List.length_cons, Int.natCast_succ, Int.mul_add, Int.mul_one]
    omega
/-! even shares; lists put otherwise -/
theorem v_inT2 (x a b : Int) : pIn true (.int x) (.tuple [.int a, .int b]) = some (.bool (!(decide (x = a) || decide (x = b)))) := by
  show (if (flatD (.int x) && [PyData.int a, PyData.int b].all flatD) = true then some (PyData.bool (!([PyData.int a, PyData.int b].any fun y => PyData.eqv y (.int x)))) else none) = _
  rw [if_pos (show (flatD (.int x) && [PyData.int a, PyData.int b].all flatD) = true from rfl)]
  show some (PyData.bool (!((a == x) || ((b == x) || false)))) = _
  have e1 : (a == x) = decide (x = a) := by by_cases h : x = a <;> simp [h]; omega
  have e2 : (b == x) = decide (x = b) := by by_cases h : x = b <;> simp [h]; omega
  rw [e1, e2, Bool.or_false]
theorem v_listOf (ds : List D) : pListOf [.list ds] = some (.own (.lst ds)) := rfl
theorem sum_rep (k : Nat) (x : Int) : (List.replicate k x).sum = k * x := by
  induction k with
  | zero => simp
  | succ k ih => rw [List.replicate_succ, List.sum_cons, ih, Int.natCast_succ, Int.add_mul, Int.one_mul]; omega
def evenI (t c : Int) : List Int := List.replicate (t % c).toNat (t / c + 1) ++ List.replicate (c - t % c).toNat (t / c)
theorem evenI_length {t c : Int} (hc : 1 ≤ c) : ((evenI t c).length : Int) = c := by
  have r0 := Int.emod_nonneg t (show c ≠ 0 by omega)
  have r1 := Int.emod_lt_of_pos t (show 0 < c by omega)
  unfold evenI
  rw [List.length_append, List.length_replicate, List.length_replicate]
  omega
theorem even_top {t c m : Int} (hc : 1 ≤ c) (h0 : 0 ≤ m) (hm : m ≤ c) : ((evenI t c).take m.toNat).sum = topI t c m := by
  have r0 := Int.emod_nonneg t (show c ≠ 0 by omega)
  have r1 := Int.emod_lt_of_pos t (show 0 < c by omega)
  unfold evenI topI
  generalize t / c = q
  generalize t % c = x at *
  rw [List.take_append, List.take_replicate, List.take_replicate, List.sum_append, sum_rep, sum_rep, List.length_replicate]
  by_cases h : x ≤ m
  · have a1 : ((min m.toNat x.toNat : Nat) : Int) = x := by omega
    have a2 : ((min (m.toNat - x.toNat) (c - x).toNat : Nat) : Int) = m - x := by omega
    rw [a1, a2, Int.min_eq_left h, Int.mul_add, Int.mul_one, Int.mul_comm x, Int.mul_comm (m - x), Int.mul_sub]
    omega
  · have a1 : ((min m.toNat x.toNat : Nat) : Int) = m := by omega
    have a2 : ((min (m.toNat - x.toNat) (c - x).toNat : Nat) : Int) = 0 := by omega
    rw [a1, a2, Int.min_eq_right (by omega), Int.zero_mul, Int.mul_add, Int.mul_one, Int.mul_comm m]
    omega
theorem topI_all {t c : Int} (hc : 1 ≤ c) : topI t c c = t := by
  have ea := Int.emod_add_mul_ediv t c
  have r1 := Int.emod_lt_of_pos t (show 0 < c by omega)
  unfold topI
  rw [Int.min_eq_left (by omega), Int.mul_comm]
  omega
theorem topI_none {t c : Int} (hc : 1 ≤ c) : topI t c 0 = 0 := by
  have r0 := Int.emod_nonneg t (show c ≠ 0 by omega)
  unfold topI
  rw [Int.mul_zero, Int.min_eq_right r0]
  rfl
theorem even_sum {t c : Int} (hc : 1 ≤ c) : (evenI t c).sum = t := by
  have h := even_top (t := t) (m := c) hc (by omega) (Int.le_refl _)
  rw [topI_all hc, List.take_of_length_le (by have := evenI_length (t := t) hc; omega)] at h
  exact h
theorem even_falls (t c : Int) : (evenI t c).Pairwise (· ≥ ·) := by
  unfold evenI
  rw [List.pairwise_append]
  refine ⟨List.pairwise_replicate.mpr (.inr (Int.le_refl _)), List.pairwise_replicate.mpr (.inr (Int.le_refl _)), fun a ha b hb => ?_⟩
  rw [(List.mem_replicate.mp ha).2, (List.mem_replicate.mp hb).2]
  show t / c ≤ t / c + 1
  omega
theorem sum_ge_of : ∀ (l : List Int) (x : Int), (∀ y ∈ l, x ≤ y) → l.length * x ≤ l.sum
  | [], x, _ => by simp
  | y :: l, x, h => by
    have ih := sum_ge_of l x (fun z hz => h z (List.mem_cons_of_mem _ hz))
    have h0 := h y List.mem_cons_self
    rw [List.sum_cons, List.length_cons, Int.natCast_succ, Int.add_mul, Int.one_mul]
    omega
theorem sum_le_all : ∀ (l : List Int) (x : Int), (∀ y ∈ l, y ≤ x) → l.sum ≤ l.length * x
  | [], x, _ => by simp
  | y :: l, x, h => by
    have ih := sum_le_all l x (fun z hz => h z (List.mem_cons_of_mem _ hz))
    have h0 := h y List.mem_cons_self
    rw [List.sum_cons, List.length_cons, Int.natCast_succ, Int.add_mul, Int.one_mul]
    omega
/-- no shares leave the greatest ones less than even ones do -/
theorem even_best {l : List Int} {t c m : Int} (hc : 1 ≤ c) (h0 : 0 ≤ m) (hm : m ≤ c) (hl : (l.length : Int) = c) (hs : l.sum = t) (hf : l.Pairwise (· ≥ ·)) : topI t c m ≤ (l.take m.toNat).sum := by
  by_cases hz : m = 0
  · subst hz
    rw [topI_none hc]
    exact Int.le_refl _
  have ea := Int.emod_add_mul_ediv t c
  have r0 := Int.emod_nonneg t (show c ≠ 0 by omega)
  have r1 := Int.emod_lt_of_pos t (show 0 < c by omega)
  have hk : m.toNat - 1 < l.length := by omega
  have hsum : (l.take m.toNat).sum + (l.drop m.toNat).sum = t := by rw [← List.sum_append, List.take_append_drop, hs]
  have hlt : (l.take m.toNat).length = m.toNat := by rw [List.length_take]; omega
  have hld : ((l.drop m.toNat).length : Int) = c - m := by rw [List.length_drop]; omega
  have pw := List.pairwise_iff_getElem.mp hf
  have hx1 : ∀ y ∈ l.take m.toNat, l[m.toNat - 1] ≤ y := by
    intro y hy
    obtain ⟨i, hi, rfl⟩ := List.mem_iff_getElem.mp hy
    rw [List.getElem_take]
    rw [hlt] at hi
    by_cases e : i = m.toNat - 1
    · subst e; exact Int.le_refl _
    · exact pw i (m.toNat - 1) (by omega) hk (by omega)
  have hx2 : ∀ y ∈ l.drop m.toNat, y ≤ l[m.toNat - 1] := by
    intro y hy
    obtain ⟨i, hi, rfl⟩ := List.mem_iff_getElem.mp hy
    rw [List.getElem_drop]
    rw [List.length_drop] at hi
    exact pw (m.toNat - 1) (m.toNat + i) hk (by omega) (by omega)
  generalize l[m.toNat - 1] = x at *
  unfold topI
  generalize t / c = q at *
  generalize t % c = r at *
  by_cases hxq : q + 1 ≤ x
  · have g1 := sum_ge_of (l.take m.toNat) (q + 1) (fun y hy => Int.le_trans hxq (hx1 y hy))
    rw [hlt, show ((m.toNat : Nat) : Int) = m by omega, Int.mul_add, Int.mul_one, Int.mul_comm] at g1
    omega
  · have g1 := sum_le_all (l.drop m.toNat) q (fun y hy => Int.le_trans (hx2 y hy) (by omega))
    rw [hld, Int.sub_mul, Int.mul_comm m] at g1
    omega
theorem cut_ints_to (l : List Int) (k : Int) (h : 0 ≤ k) : cutD (l.map PyData.int) none (some k) = (l.take k.toNat).map PyData.int := by
  rw [cut_to' _ _ h, List.map_take]
end DL
/-! # DLR: reckoning, further -/
namespace DL
open PySem PySem.Spec PyProof.Rows L2
section
variable {r : Rho} {m n : M D} {me : M RV}
theorem r_iZipB (st : Bool) : iZipB st m n r = (m r).bind fun a => (n a.2).bind fun b => (ofO (pZip st a.1 b.1)).bind fun d => .ok (d, b.2) := rfl
theorem r_LenSet : dLenSet m r = dUn pLenSet m r := rfl
theorem pZip_of {st : Bool} {a b : D} {ds es : List D} (ha : seqD a = some ds) (hb : seqD b = some es) (h : ds.length = es.length) : pZip st a b = some (zipD ds es) := by
  unfold pZip
  rw [ha, hb]
  show (if st && (ds.length != es.length) then none else some (zipD ds es)) = _
  rw [h, bne_self_eq_false, Bool.and_false, if_neg Bool.false_ne_true]
theorem v_zipLT (st : Bool) (ds es : List D) (h : ds.length = es.length) : pZip st (.list ds) (.tuple es) = some (zipD ds es) := pZip_of rfl rfl h
theorem v_zipTT (st : Bool) (ds es : List D) (h : ds.length = es.length) : pZip st (.tuple ds) (.tuple es) = some (zipD ds es) := pZip_of rfl rfl h
theorem zipD_ints (as bs : List Int) : zipD (as.map .int) (bs.map .int) = (as.zip bs).map pairD := by
  unfold zipD
  rw [List.zipWith_map, List.map_zip_eq_zipWith]
  rfl
end
/-! ### comprehensions, turn by turn -/
/-- one turn: what comes of it, if anything -/
def lcStep (vs : List Nat) (b : BM) (c : M Bool) (m : M D) (r : Rho) (d : D) : Res (Option D × Rho) :=
  (ofO (b d r)).bind fun r1 => (noEx (c r1)).bind fun t => if t.1 = true then ((noEx (m t.2)).bind fun x => (ofO (wipeR x.2 vs)).bind fun r2 => .ok (some x.1, r2)) else (ofO (wipeR t.2 vs)).bind fun r2 => .ok (none, r2)
theorem r_step (vs : List Nat) (b : BM) (c : M Bool) (m : M D) (r : Rho) (d : D) : lcStep vs b c m r d = (ofO (b d r)).bind fun r1 => (noEx (c r1)).bind fun t => if t.1 = true then ((noEx (m t.2)).bind fun x => (ofO (wipeR x.2 vs)).bind fun r2 => .ok (some x.1, r2)) else (ofO (wipeR t.2 vs)).bind fun r2 => .ok (none, r2) := rfl
theorem lcD_cons_some {vs : List Nat} {b : BM} {c : M Bool} {m : M D} {r r' : Rho} {d e : D} {ds acc : List D} (h : lcStep vs b c m r d = .ok (some e, r')) (hl : acc.length < 16777216) : lcD vs b c m (d :: ds) acc r = lcD vs b c m ds (acc ++ [e]) r' := by
  show (ofO (b d r)).bind _ = _
  unfold lcStep at h
  cases h1 : b d r with
  | none => rw [h1] at h; cases h
  | some r1 =>
    rw [h1] at h
    have h : ((noEx (c r1)).bind fun t => if t.1 = true then ((noEx (m t.2)).bind fun x => (ofO (wipeR x.2 vs)).bind fun r2 => .ok (some x.1, r2)) else (ofO (wipeR t.2 vs)).bind fun r2 => .ok (none, r2)) = .ok (some e, r') := h
    show ((noEx (c r1)).bind fun t => if t.1 = true then ((noEx (m t.2)).bind fun x => if acc.length < 16777216 then (ofO (wipeR x.2 vs)).bind fun r2 => lcD vs b c m ds (acc ++ [x.1]) r2 else .no) else (ofO (wipeR t.2 vs)).bind fun r2 => lcD vs b c m ds acc r2) = _
    obtain ⟨t, h2, h3⟩ := bind_ok h
    rw [h2]
    show (if t.1 = true then ((noEx (m t.2)).bind fun x => if acc.length < 16777216 then (ofO (wipeR x.2 vs)).bind fun r2 => lcD vs b c m ds (acc ++ [x.1]) r2 else .no) else (ofO (wipeR t.2 vs)).bind fun r2 => lcD vs b c m ds acc r2) = _
    split at h3
    · rename_i ht
      rw [if_pos ht]
      obtain ⟨x, h4, h5⟩ := bind_ok h3
      obtain ⟨r2, h6, h7⟩ := bind_ok h5
      cases h7
      rw [h4]
      show (if acc.length < 16777216 then (ofO (wipeR x.2 vs)).bind fun r2 => lcD vs b c m ds (acc ++ [x.1]) r2 else .no) = _
      rw [if_pos hl, h6]
      rfl
    · obtain ⟨r2, h6, h7⟩ := bind_ok h3
      cases h7
/-- over numbers, numbers -/
theorem lcD_mapI {α : Type} {vs : List Nat} {b : BM} {c : M Bool} {m : M D} {r : Rho} (e : α → D) (g : α → D) (items : List α) (h : ∀ z ∈ items, lcStep vs b c m r (e z) = .ok (some (g z), r)) (hl : items.length ≤ 16777216) : lcD vs b c m (items.map e) [] r = .ok (items.map g, r) := by
  have key : ∀ (items : List α) (acc : List D), (∀ z ∈ items, lcStep vs b c m r (e z) = .ok (some (g z), r)) → acc.length + items.length ≤ 16777216 → lcD vs b c m (items.map e) acc r = .ok (acc ++ items.map g, r) := by
    intro items
    induction items with
    | nil => intro acc _ _; rw [List.map_nil, List.map_nil, List.append_nil]; rfl
    | cons z zs ih =>
      intro acc h hl
      simp only [List.length_cons] at hl
      rw [List.map_cons, lcD_cons_some (h z (List.mem_cons_self ..)) (by omega), ih (acc ++ [g z]) (fun y hy => h y (List.mem_cons_of_mem _ hy)) (by simp; omega), List.append_assoc]
      rfl
  exact key items [] h (by simpa using hl)
/-- a comprehension whose turns change the slots: what holds of each item made, and of the slots -/
theorem lcD_all {vs : List Nat} {b : BM} {c : M Bool} {m : M D} (I : Rho → Prop) (Q : D → Prop) : ∀ (items acc : List D) (r : Rho), I r → (∀ d ∈ items, ∀ r, I r → ∃ e r', lcStep vs b c m r d = .ok (some e, r') ∧ Q e ∧ I r') → acc.length + items.length ≤ 16777216 →
    ∃ es r', lcD vs b c m items acc r = .ok (acc ++ es, r') ∧ es.length = items.length ∧ (∀ e ∈ es, Q e) ∧ I r'
  | [], acc, r, h0, _, _ => ⟨[], r, by rw [List.append_nil]; rfl, rfl, fun _ z => (nomatch z), h0⟩
  | d :: ds, acc, r, h0, h, hl => by
    simp only [List.length_cons] at hl
    obtain ⟨e, r1, h1, h2, h3⟩ := h d (List.mem_cons_self ..) r h0
    obtain ⟨es, r2, k1, k2, k3, k4⟩ := lcD_all I Q ds (acc ++ [e]) r1 h3 (fun d hd => h d (List.mem_cons_of_mem _ hd)) (by simp; omega)
    refine ⟨e :: es, r2, ?_, by simp [k2], fun x hx => ?_, k4⟩
    · rw [lcD_cons_some h1 (by omega), k1, List.append_assoc]; rfl
    · rcases List.mem_cons.mp hx with rfl | hx
      · exact h2
      · exact k3 x hx
/-- data that are numbers with a property -/
theorem ints_all {P : Int → Prop} : ∀ {es : List D}, (∀ e ∈ es, ∃ z, e = .int z ∧ P z) → ∃ zs : List Int, es = zs.map .int ∧ ∀ z ∈ zs, P z
  | [], _ => ⟨[], rfl, fun _ z => (nomatch z)⟩
  | e :: es, h => by
    obtain ⟨z, rfl, hz⟩ := h e (List.mem_cons_self ..)
    obtain ⟨zs, rfl, h2⟩ := ints_all fun x hx => h x (List.mem_cons_of_mem _ hx)
    exact ⟨z :: zs, rfl, fun y hy => (List.mem_cons.mp hy).elim (fun q => q ▸ hz) (h2 y)⟩
/-- all of a list of tests -/
theorem v_allM {α : Type} (f : α → Bool) (l : List α) : pAll [.list (l.map fun a => PyData.bool (f a))] = some (.bool (l.all f)) := by
  have := v_all (l.map f)
  rw [List.map_map] at this
  rw [show (l.map fun a => PyData.bool (f a)) = l.map (PyData.bool ∘ f) from rfl, this, List.all_map]
  rfl
end DL
/-! # DLS: standings, what is over what -/
namespace DL
open PySem PySem.Spec PyProof.Rows L2
/-- a standing -/
structure Stg (l : List Int) : Prop where
  nn : ∀ z ∈ l, 0 ≤ z
  lo : 2 ≤ l.length
  hi : l.length ≤ 40
def addI (a b : List Int) : List Int := (a.zip b).map fun p => p.1 + p.2
theorem addI_len {a b : List Int} (h : b.length = a.length) : (addI a b).length = a.length := by unfold addI; rw [List.length_map, List.length_zip]; omega
theorem addI_at {a b : List Int} (h : b.length = a.length) (i : Nat) : (addI a b).getD i 0 = a.getD i 0 + b.getD i 0 := by
  unfold addI
  by_cases hi : i < a.length
  · rw [List.getD_eq_getElem?_getD, List.getD_eq_getElem?_getD, List.getD_eq_getElem?_getD, List.getElem?_map, List.getElem?_eq_getElem (by rw [List.length_zip]; omega), List.getElem?_eq_getElem hi, List.getElem?_eq_getElem (by omega)]
    simp
  · rw [List.getD_eq_getElem?_getD, List.getD_eq_getElem?_getD, List.getD_eq_getElem?_getD, List.getElem?_eq_none (by rw [List.length_map, List.length_zip]; omega), List.getElem?_eq_none (by omega), List.getElem?_eq_none (by omega)]
    rfl
theorem addI_nn {a b : List Int} (ha : ∀ z ∈ a, 0 ≤ z) (hb : ∀ z ∈ b, 0 ≤ z) : ∀ z ∈ addI a b, 0 ≤ z := fun z hz => by
  unfold addI at hz
  obtain ⟨p, hp, rfl⟩ := List.mem_map.mp hz
  have h1 := ha _ (List.of_mem_zip hp).1
  have h2 := hb _ (List.of_mem_zip hp).2
  omega
theorem sortB_perm (b : Bool) (l : List Int) : (sortB b l).Perm l := by
  unfold sortB
  split
  · exact (List.reverse_perm _).trans (sortI_perm l)
  · exact sortI_perm l
theorem sortB_len (b : Bool) (l : List Int) : (sortB b l).length = l.length := (sortB_perm b l).length_eq
theorem sortB_down (l : List Int) : (sortB true l).Pairwise (· ≥ ·) := by
  show ((sortI l).reverse).Pairwise (fun a b => a ≥ b)
  exact List.pairwise_reverse.mpr (sortI_sorted l)
theorem sortB_nn {b : Bool} {l : List Int} (h : ∀ z ∈ l, 0 ≤ z) : ∀ z ∈ sortB b l, 0 ≤ z := fun z hz => h z ((sortB_perm b l).mem_iff.mp hz)
theorem Stg.sort {a : List Int} (S : Stg a) (b : Bool) : Stg (sortB b a) := ⟨sortB_nn S.nn, by rw [sortB_len]; exact S.lo, by rw [sortB_len]; exact S.hi⟩
/-- what is left, falling, noughts behind, where the k greatest go -/
def staysI (l : List Int) (k : Nat) : List Int := (sortB true l).drop k ++ List.replicate k 0
theorem staysI_len (l : List Int) {k : Nat} (h : k ≤ l.length) : (staysI l k).length = l.length := by
  unfold staysI
  rw [List.length_append, List.length_drop, List.length_replicate, sortB_len]; omega
theorem staysI_nn {l : List Int} {k : Nat} (h : ∀ z ∈ l, 0 ≤ z) : ∀ z ∈ staysI l k, 0 ≤ z := fun z hz => by
  unfold staysI at hz
  rcases List.mem_append.mp hz with q | q
  · exact sortB_nn h z (List.mem_of_mem_drop q)
  · have := (List.mem_replicate.mp q).2; omega
theorem Stg.stays {a : List Int} (S : Stg a) {k : Nat} (h : k ≤ a.length) : Stg (staysI a k) := ⟨staysI_nn S.nn, by rw [staysI_len _ h]; exact S.lo, by rw [staysI_len _ h]; exact S.hi⟩
/-- is_over -/
def overB (a b : List Int) : Bool := ((sortB true a).zip (sortB true b)).all fun p => decide (p.2 ≤ p.1)
/-! ### by counting -/
def cnt (t : Int) (l : List Int) : Nat := l.countP fun z => decide (t ≤ z)
structure Ov (a b : List Int) : Prop where
  len : a.length = b.length
  le : ∀ t, cnt t b ≤ cnt t a
theorem cnt_perm {t : Int} {a b : List Int} (p : a.Perm b) : cnt t a = cnt t b := p.countP_eq _
theorem cnt_app (t : Int) (a b : List Int) : cnt t (a ++ b) = cnt t a + cnt t b := List.countP_append
theorem cnt_le (t : Int) (a : List Int) : cnt t a ≤ a.length := List.countP_le_length
theorem cnt_low {t : Int} {a : List Int} (h : ∀ z ∈ a, t ≤ z) : cnt t a = a.length := List.countP_eq_length.mpr fun z hz => decide_eq_true (h z hz)
theorem cnt_none {t : Int} {a : List Int} (h : ∀ z ∈ a, z < t) : cnt t a = 0 := List.countP_eq_zero.mpr fun z hz => by
  have := h z hz
  simp; omega
theorem Ov.refl (a : List Int) : Ov a a := ⟨rfl, fun _ => Nat.le_refl _⟩
theorem Ov.trans {a b c : List Int} (h : Ov a b) (k : Ov b c) : Ov a c := ⟨h.len.trans k.len, fun t => Nat.le_trans (k.le t) (h.le t)⟩
theorem down_at {l : List Int} (h : l.Pairwise (· ≥ ·)) {i j : Nat} (hij : i ≤ j) (hj : j < l.length) : l[j] ≤ l[i]'(by omega) := by
  by_cases e : i = j
  · subst e; exact Int.le_refl _
  · exact List.pairwise_iff_getElem.mp h i j (by omega) hj (by omega)
theorem cnt_down {l : List Int} (h : l.Pairwise (· ≥ ·)) {i : Nat} (hi : i < l.length) (t : Int) : t ≤ l[i] ↔ i < cnt t l := by
  have hsp : cnt t l = cnt t (l.take i) + cnt t (l.drop i) := by rw [← cnt_app, List.take_append_drop]
  constructor
  · intro ht
    have e : cnt t (l.take (i + 1)) = i + 1 := by
      rw [cnt_low, List.length_take, Nat.min_eq_left (by omega)]
      intro z hz
      obtain ⟨j, hj, rfl⟩ := List.mem_iff_getElem.mp hz
      rw [List.getElem_take]
      rw [List.length_take] at hj
      exact Int.le_trans ht (down_at h (by omega) hi)
    have e2 : cnt t l = cnt t (l.take (i + 1)) + cnt t (l.drop (i + 1)) := by rw [← cnt_app, List.take_append_drop]
    omega
  · intro hc
    refine Int.not_lt.mp fun hlt => ?_
    have e : cnt t (l.drop i) = 0 := cnt_none fun z hz => by
      obtain ⟨j, hj, rfl⟩ := List.mem_iff_getElem.mp hz
      rw [List.getElem_drop]
      rw [List.length_drop] at hj
      have := down_at h (i := i) (j := i + j) (by omega) (by omega)
      omega
    have := cnt_le t (l.take i)
    rw [List.length_take] at this
    omega
theorem over_of {a b : List Int} (h : Ov a b) : overB a b = true := by
  unfold overB
  rw [List.all_eq_true]
  intro p hp
  obtain ⟨i, hi, e⟩ := List.mem_iff_getElem.mp hp
  rw [List.length_zip] at hi
  rw [List.getElem_zip] at e
  subst e
  have ha := sortB_down a
  have hb := sortB_down b
  have h1 : i < cnt ((sortB true b)[i]'(by omega)) (sortB true b) := (cnt_down hb (by omega) _).mp (Int.le_refl _)
  rw [cnt_perm (sortB_perm true b)] at h1
  have h2 := h.le ((sortB true b)[i]'(by omega))
  rw [← cnt_perm (sortB_perm true a)] at h2
  have h3 : i < cnt ((sortB true b)[i]'(by omega)) (sortB true a) := by omega
  exact decide_eq_true ((cnt_down ha (by omega) _).mpr h3)
theorem cnt_drop {l : List Int} (h : l.Pairwise (· ≥ ·)) (t : Int) (k : Nat) : cnt t (l.drop k) = cnt t l - k := by
  have hsp : cnt t l = cnt t (l.take k) + cnt t (l.drop k) := by rw [← cnt_app, List.take_append_drop]
  have hle := cnt_le t (l.take k)
  rw [List.length_take] at hle
  by_cases hk : k < l.length
  · by_cases hc : k < cnt t l
    · have e : cnt t (l.take k) = k := by
        rw [cnt_low, List.length_take, Nat.min_eq_left (by omega)]
        intro z hz
        obtain ⟨j, hj, rfl⟩ := List.mem_iff_getElem.mp hz
        rw [List.length_take] at hj
        rw [List.getElem_take]
        exact (cnt_down h (by omega) t).mpr (by omega)
      omega
    · have e : cnt t (l.drop k) = 0 := cnt_none fun z hz => by
        obtain ⟨j, hj, rfl⟩ := List.mem_iff_getElem.mp hz
        rw [List.length_drop] at hj
        rw [List.getElem_drop]
        refine Int.not_le.mp fun q => ?_
        have := (cnt_down h (i := k + j) (by omega) t).mp q
        omega
      omega
  · have e : l.drop k = [] := List.drop_eq_nil_of_le (by omega)
    rw [e] at hsp ⊢
    have : cnt t l ≤ l.length := cnt_le t l
    have e0 : cnt t ([] : List Int) = 0 := rfl
    omega
theorem cnt_rep0 {t : Int} (h : 0 < t) (k : Nat) : cnt t (List.replicate k 0) = 0 := cnt_none fun z hz => by
  have := (List.mem_replicate.mp hz).2; omega
theorem cnt_stays {l : List Int} {t : Int} (ht : 0 < t) (k : Nat) : cnt t (staysI l k) = cnt t l - k := by
  unfold staysI
  rw [cnt_app, cnt_rep0 ht, cnt_drop (sortB_down l), cnt_perm (sortB_perm true l), Nat.add_zero]
/-- what is left of more is over what is left of less -/
theorem Ov.stays {a b : List Int} (h : Ov a b) (ha : ∀ z ∈ a, 0 ≤ z) {j k : Nat} (hj : j ≤ k) (hk : k ≤ b.length) : Ov (staysI a j) (staysI b k) := by
  have l1 := staysI_len a (k := j) (by rw [h.len]; omega)
  have l2 := staysI_len b hk
  refine ⟨by rw [l1, l2, h.len], fun t => ?_⟩
  by_cases ht : 0 < t
  · rw [cnt_stays ht, cnt_stays ht]
    have := h.le t
    omega
  · rw [cnt_low fun z hz => Int.le_trans (by omega) (staysI_nn ha z hz), l1, h.len, ← l2]
    exact cnt_le _ _
/-- whichever cups go -/
def goneI (l : List Int) (g : List Int) : List Int := (List.range l.length).map fun (i : Nat) => if (i : Int) ∈ g then 0 else l.getD i 0
theorem goneI_len (l g : List Int) : (goneI l g).length = l.length := by unfold goneI; rw [List.length_map, List.length_range]
theorem goneI_nn {l g : List Int} (h : ∀ z ∈ l, 0 ≤ z) : ∀ z ∈ goneI l g, 0 ≤ z := fun z hz => by
  unfold goneI at hz
  obtain ⟨i, hi, rfl⟩ := List.mem_map.mp hz
  have hi := List.mem_range.mp hi
  by_cases q : (i : Int) ∈ g
  · show 0 ≤ (if (i : Int) ∈ g then 0 else l.getD i 0)
    rw [if_pos q]; exact Int.le_refl 0
  · show 0 ≤ (if (i : Int) ∈ g then 0 else l.getD i 0)
    rw [if_neg q, List.getD_eq_getElem?_getD, List.getElem?_eq_getElem hi]
    exact h _ (List.getElem_mem _)
theorem countP_cover {α : Type} (p q r : α → Bool) : ∀ l : List α, (∀ x ∈ l, p x = true → q x = true ∨ r x = true) → l.countP p ≤ l.countP q + l.countP r
  | [], _ => Nat.zero_le _
  | x :: l, h => by
    have ih := countP_cover p q r l fun y hy => h y (List.mem_cons_of_mem _ hy)
    have hx := h x (List.mem_cons_self ..)
    rw [List.countP_cons, List.countP_cons, List.countP_cons]
    cases hp : p x with
    | false => rw [if_neg Bool.false_ne_true]; omega
    | true =>
      rw [if_pos rfl]
      rcases hx hp with q | q
      · rw [if_pos q]; omega
      · rw [if_pos q]; omega
theorem count_in {n : Nat} : ∀ g : List Int, (List.range n).countP (fun (i : Nat) => decide ((i : Int) ∈ g)) ≤ g.length
  | [] => by simp
  | x :: g => by
    have ih := count_in (n := n) g
    have h1 : (List.range n).countP (fun (i : Nat) => decide ((i : Int) ∈ x :: g)) ≤ (List.range n).countP (fun (i : Nat) => decide ((i : Int) = x)) + (List.range n).countP (fun (i : Nat) => decide ((i : Int) ∈ g)) :=
      countP_cover _ _ _ _ fun i _ h => by
        rcases List.mem_cons.mp (of_decide_eq_true h) with q | q
        · exact .inl (decide_eq_true q)
        · exact .inr (decide_eq_true q)
    have h2 : (List.range n).countP (fun (i : Nat) => decide ((i : Int) = x)) ≤ 1 := by
      have e : (List.range n).countP (fun (i : Nat) => decide ((i : Int) = x)) ≤ (List.range n).count x.toNat := by
        unfold List.count
        apply List.countP_mono_left
        intro y _ hy
        have := of_decide_eq_true hy
        simp; omega
      exact Nat.le_trans e (List.nodup_iff_count.mp List.nodup_range _)
    rw [List.length_cons]; omega
theorem range_getD (l : List Int) : (List.range l.length).map (fun i => l.getD i 0) = l := by
  apply List.ext_getElem
  · simp
  · intro i h1 h2
    simp [List.getD_eq_getElem?_getD, h2]
theorem gone_over {l g : List Int} {k : Nat} (hn : ∀ z ∈ l, 0 ≤ z) (hg : g.length ≤ k) (hk : k ≤ l.length) : Ov (goneI l g) (staysI l k) := by
  have l1 := goneI_len l g
  have l2 := staysI_len l hk
  refine ⟨by rw [l1, l2], fun t => ?_⟩
  by_cases ht : 0 < t
  · rw [cnt_stays ht]
    have e1 : cnt t l = (List.range l.length).countP (fun (i : Nat) => decide (t ≤ l.getD i 0)) := by
      unfold cnt
      conv => lhs; rw [← range_getD l]
      rw [List.countP_map]; rfl
    have e2 : cnt t (goneI l g) = (List.range l.length).countP (fun (i : Nat) => decide (t ≤ if (i : Int) ∈ g then 0 else l.getD i 0)) := by
      unfold cnt goneI
      rw [List.countP_map]; rfl
    have h3 : (List.range l.length).countP (fun (i : Nat) => decide (t ≤ l.getD i 0)) ≤ (List.range l.length).countP (fun (i : Nat) => decide (t ≤ if (i : Int) ∈ g then 0 else l.getD i 0)) + (List.range l.length).countP (fun (i : Nat) => decide ((i : Int) ∈ g)) :=
      countP_cover _ _ _ _ fun i _ h => by
        by_cases q : (i : Int) ∈ g
        · exact .inr (decide_eq_true q)
        · refine .inl ?_
          rw [if_neg q]; exact h
    have h4 := count_in (n := l.length) g
    omega
  · rw [cnt_low fun z hz => Int.le_trans (by omega) (goneI_nn hn z hz), l1, ← l2]
    exact cnt_le _ _
/-! ### little things -/
theorem v_tupL (ds : List D) : pTupOf [.list ds] = some (.tuple ds) := rfl
theorem v_tupT (ds : List D) : pTupOf [.tuple ds] = some (.tuple ds) := rfl
/-- what follows when a range's end is known -/
noncomputable def lrK (x : D) (b : D × Rho) : Res (RV × Rho) := (ofO (pLR x b.1)).bind fun d => .ok (d, b.2)
section
variable {r : Rho} {m n : M D}
theorem r_Raise {x f : Str} {ms : M (List D)} : sRaise x f ms r = (ms r).bind fun a => match a.1 with | [d] => .ex (⟨x, f, d⟩, a.2) | _ => .no := rfl
theorem r_Try {i : Nat} {cat : Str → Option Bool} {mb msu : SM} : sTry i cat mb msu r = match mb r with | .ok a => .ok a | .no => .no | .ex x => (match cat x.1.C with | some true => if noExn x.2 = true ∧ free x.2 i = true then endX i (msu (x.2.set i (.exn x.1))) else .no | some false => .ex x | none => .no) := rfl
theorem r_endX {i : Nat} {m : Res (Fl × Rho)} : endX i m = (noEx m).bind fun a => if noExn (a.2.set i .non) = true ∧ free a.2 i = true then .ok (a.1, a.2.set i .non) else .no := rfl
theorem r_Exn {i : Nat} {f : Str} : dExn i f r = match r[i]? with | some (.exn x) => if x.fld = f then .ok (x.d, r) else .no | _ => .no := rfl
theorem f_exn (x : Exn) : fre (some (.exn x)) = true := rfl
theorem nx_nil : noExn [] = true := rfl
theorem nx_n : noExn (.non :: r) = noExn r := rfl
theorem nx_v (d : D) : noExn (.val d :: r) = noExn r := rfl
theorem nx_o (p : Bool) (o : Own) : noExn (.own p o :: r) = noExn r := rfl
theorem nx_x (x : Exn) : noExn (.exn x :: r) = false := rfl
theorem r_keep {x : M D} : keepM x r = (x r).bind (keepK r) := rfl
theorem r_RevA {x : M D} : eRevA x r = (x r).bind fun a => match a.1 with | .list ds => .ok (.own (.lst ds.reverse), a.2) | .tuple ds => .ok (.val (.tuple ds.reverse), a.2) | _ => .no := rfl
theorem r_LR1 : eLR1 m r = (m r).bind (lrK (.int 0)) := rfl
theorem r_LR2 : eLR2 m n r = (m r).bind fun a => (n a.2).bind (lrK a.1) := rfl
end
def rangeI (lo : Int) (n : Nat) : List Int := (List.range n).map fun i => lo + (i : Nat)
theorem rangeD_I (lo : Int) (n : Nat) : rangeD lo n = (rangeI lo n).map .int := by unfold rangeD rangeI; rw [List.map_map]; rfl
theorem rangeI_len (lo : Int) (n : Nat) : (rangeI lo n).length = n := by unfold rangeI; rw [List.length_map, List.length_range]
theorem shpT_ints (ns : List Int) : SeqAt.shaped (.tuple (ns.map .int)) = true := by
  have h := dep_ints ns
  unfold SeqAt.shaped
  rw [Bool.and_eq_true, decide_eq_true_eq]
  refine ⟨lay_ints ns, ?_⟩
  simp only [PyData.depth]
  omega
theorem v_eqT (a b : List Int) : pEq (.tuple (a.map .int)) (.tuple (b.map .int)) = some (.bool (decide (a = b))) := by
  unfold pEq
  rw [if_pos (by rw [shpT_ints a, shpT_ints b]; rfl)]
  show some (PyData.bool (PyData.eqvAll (a.map .int) (b.map .int))) = _
  rw [eqvAll_ints]
theorem sortB_eq {a b : List Int} (p : a.Perm b) : sortB true a = sortB true b :=
  List.Perm.eq_of_pairwise (le := fun x y : Int => x ≥ y) (fun x y _ _ h1 h2 => by omega) (sortB_down a) (sortB_down b) (((sortB_perm true a).trans p).trans (sortB_perm true b).symm)
end DL
/-! # DLT: running sums, the fullest ones in order -/
namespace DL
open PySem PySem.Spec PyProof.Rows L2
theorem mem_rangeI {k : Int} {n : Nat} : k ∈ rangeI 0 n ↔ 0 ≤ k ∧ k < n := by
  unfold rangeI
  rw [List.mem_map]
  constructor
  · rintro ⟨i, hi, rfl⟩
    have := List.mem_range.mp hi
    omega
  · intro ⟨h1, h2⟩
    exact ⟨k.toNat, List.mem_range.mpr (by omega), by omega⟩
theorem rangeI_up (n : Nat) : (rangeI 0 n).Pairwise (· < ·) := by
  unfold rangeI
  rw [List.pairwise_map]
  exact List.pairwise_lt_range.imp fun {a b} h => by omega
/-- the pairs by which the fullest are ordered -/
def prs (l : List Int) : List (Int × Int) := ((List.range l.length).zip l).map fun p => (-p.2, ((p.1 : Nat) : Int))
theorem prs_len (l : List Int) : (prs l).length = l.length := by unfold prs; rw [List.length_map, List.length_zip, List.length_range, Nat.min_self]
theorem prs_at (l : List Int) (i : Nat) (h : i < l.length) : (prs l)[i]'(by rw [prs_len]; exact h) = (-(l.getD i 0), (i : Int)) := by
  unfold prs
  rw [List.getElem_map, List.getElem_zip, List.getElem_range, List.getD_eq_getElem?_getD, List.getElem?_eq_getElem h]
  rfl
theorem prs_mem (l : List Int) (p : Int × Int) : p ∈ prs l ↔ ∃ i : Nat, i < l.length ∧ p = (-(l.getD i 0), (i : Int)) := by
  rw [List.mem_iff_getElem]
  constructor
  · rintro ⟨i, hi, rfl⟩
    rw [prs_len] at hi
    exact ⟨i, hi, prs_at l i hi⟩
  · rintro ⟨i, hi, rfl⟩
    exact ⟨i, by rw [prs_len]; exact hi, prs_at l i hi⟩
theorem prs_snd (l : List Int) : (prs l).map (·.2) = rangeI 0 l.length := by
  apply List.ext_getElem
  · rw [List.length_map, prs_len, rangeI_len]
  · intro i h1 h2
    rw [List.length_map, prs_len] at h1
    rw [List.getElem_map, prs_at l i h1]
    have e : (rangeI 0 l.length)[i] = 0 + (i : Int) := by simp only [rangeI, List.getElem_map, List.getElem_range]
    rw [e, Int.zero_add]
theorem prs_fst (l : List Int) : (prs l).map (fun p => -p.1) = l := by
  apply List.ext_getElem
  · rw [List.length_map, prs_len]
  · intro i h1 h2
    rw [List.getElem_map, prs_at l i h2, Int.neg_neg, List.getD_eq_getElem?_getD, List.getElem?_eq_getElem h2]
    rfl
def ordP (l : List Int) : List (Int × Int) := sortP (prs l)
theorem ordP_perm (l : List Int) : (ordP l).Perm (prs l) := List.mergeSort_perm _ _
theorem ordP_len (l : List Int) : (ordP l).length = l.length := by rw [(ordP_perm l).length_eq, prs_len]
theorem ordP_up (l : List Int) : (ordP l).Pairwise fun p q => leP p q = true :=
  List.pairwise_mergeSort (fun a b c h1 h2 => by unfold leP at *; simp only [decide_eq_true_eq] at *; omega) (fun a b => by unfold leP; simp only [Bool.or_eq_true, decide_eq_true_eq]; omega) _
theorem ordP_nodup (l : List Int) : ((ordP l).map (·.2)).Nodup := by
  have h : ((ordP l).map (·.2)).Perm (rangeI 0 l.length) := by rw [← prs_snd]; exact (ordP_perm l).map _
  exact h.nodup_iff.mpr ((rangeI_up _).imp fun {a b} h => by omega)
theorem ordP_fst (l : List Int) : (ordP l).map (fun p => -p.1) = sortB true l := by
  refine List.Perm.eq_of_pairwise (le := fun x y : Int => x ≥ y) (fun x y _ _ h1 h2 => by omega) ?_ (sortB_down l) ?_
  · rw [List.pairwise_map]
    exact (ordP_up l).imp fun {a b} h => by unfold leP at h; simp only [decide_eq_true_eq] at h; omega
  · have h := (ordP_perm l).map fun p => -p.1
    rw [prs_fst] at h
    exact h.trans (sortB_perm true l).symm
/-- the numbers of the k fullest, the fullest first -/
def numsP (l : List Int) (k : Nat) : List Int := ((ordP l).take k).map (·.2)
theorem numsP_len (l : List Int) (k : Nat) (h : k ≤ l.length) : (numsP l k).length = k := by unfold numsP; rw [List.length_map, List.length_take, ordP_len]; omega
theorem numsP_mem {l : List Int} {k : Nat} {z : Int} (h : z ∈ numsP l k) : 0 ≤ z ∧ z < l.length := by
  unfold numsP at h
  obtain ⟨p, hp, rfl⟩ := List.mem_map.mp h
  obtain ⟨i, hi, rfl⟩ := (prs_mem l p).mp ((ordP_perm l).mem_iff.mp (List.mem_of_mem_take hp))
  show 0 ≤ (i : Int) ∧ (i : Int) < _
  omega
theorem numsP_held (l : List Int) (k : Nat) : (numsP l k).map (fun z => l.getD z.toNat 0) = (sortB true l).take k := by
  unfold numsP
  rw [List.map_map, ← ordP_fst, ← List.map_take]
  apply List.map_congr_left
  intro p hp
  obtain ⟨i, hi, rfl⟩ := (prs_mem l p).mp ((ordP_perm l).mem_iff.mp (List.mem_of_mem_take hp))
  show l.getD ((i : Int)).toNat 0 = - -(l.getD i 0)
  rw [Int.neg_neg]
  rfl
theorem sum_perm {a b : List Int} (p : a.Perm b) : a.sum = b.sum := by
  induction p with
  | nil => rfl
  | cons x _ ih => rw [List.sum_cons, List.sum_cons, ih]
  | swap x y l => simp only [List.sum_cons]; omega
  | trans _ _ h1 h2 => rw [h1, h2]
theorem draws (X1 : M D) (n : Int) (h0 : 0 ≤ n) (h1 : n ≤ 1000) (P : Int → Prop) (R : Src → Rho) (bm : BM) (vs : List Nat) (hstep : ∀ (s : Src) (k : Int), ∃ s' z, lcStep vs bm tYesM X1 (R s) (.int k) = .ok (some (.int z), R s') ∧ P z) (s : Src) :
    ∃ (s' : Src) (zs : List Int), lcD vs bm tYesM X1 (rangeD 0 n.toNat) [] (R s) = .ok (zs.map .int, R s') ∧ (zs.length : Int) = n ∧ ∀ z ∈ zs, P z := by
  obtain ⟨es, r', e, hl, hq, s', rfl⟩ := lcD_all (fun r => ∃ s, r = R s) (fun e => ∃ z, e = .int z ∧ P z) (rangeD 0 n.toNat) [] (R s) ⟨s, rfl⟩ (fun d hd r ⟨s, hr⟩ => by
    subst hr
    obtain ⟨i, hi, rfl⟩ := List.mem_map.mp (show d ∈ (List.range n.toNat).map fun i => PyData.int (0 + (i : Nat)) from hd)
    obtain ⟨s', z, h1, h2⟩ := hstep s (0 + (i : Nat))
    exact ⟨_, _, h1, ⟨z, rfl, h2⟩, s', rfl⟩) (by rw [rangeD_length]; simp; omega)
  obtain ⟨zs, rfl, hz⟩ := ints_all hq
  refine ⟨s', zs, by rw [e, List.nil_append], ?_, hz⟩
  rw [List.length_map, rangeD_length] at hl
  omega
theorem forD_nx {b : BM} {body : SM} {d : D} {ds : List D} {r r2 : Rho} (h : (ofO (b d r)).bind body = .ok (.nx, r2)) : forD b body (d :: ds) r = forD b body ds r2 := by
  rw [forD_cons]
  cases hb : b d r with
  | none => rw [hb] at h; cases h
  | some r1 =>
    rw [hb] at h
    have e3 : body r1 = .ok (.nx, r2) := h
    simp only [e3, ofO, Res.bind]
end DL
/-! # DLY: turns, rows that go round, the last beat of a cup, even shares in order (plain) -/
namespace DL
open PySem PySem.Spec PyProof.Rows L2
/-- row k of the turns -/
def trRow (n p : Int) (k : Nat) : List Int := (List.range p.toNat).map fun (i : Nat) => ((k : Int) * p + (i : Nat)) % n
def trF (n p : Int) : Nat → Nat → Nat
  | 0, k => k
  | f + 1, k => if ((k : Int) * p) % n = 0 then k else trF n p f (k + 1)
/-- how many rows the turns have -/
def trN (n p : Int) : Nat := trF n p n.toNat 1
theorem trF_ok {n p : Int} (hn : 0 < n) : ∀ f k : Nat, (k : Int) ≤ n → n ≤ k + f → (((trF n p f k : Nat) : Int) * p) % n = 0 ∧ k ≤ trF n p f k ∧ ((trF n p f k : Nat) : Int) ≤ n
  | 0, k, h1, h2 => by
    unfold trF
    have : (k : Int) = n := by omega
    rw [this, Int.mul_emod_right]
    exact ⟨rfl, Nat.le_refl _, Int.le_refl _⟩
  | f + 1, k, h1, h2 => by
    unfold trF
    split
    · rename_i h
      exact ⟨h, Nat.le_refl _, h1⟩
    · rename_i h
      have hk : (k : Int) ≠ n := fun z => h (by rw [z, Int.mul_emod_right])
      obtain ⟨a, b, c⟩ := trF_ok hn f (k + 1) (by omega) (by omega)
      exact ⟨a, by omega, c⟩
theorem trN_ok {n : Int} (p : Int) (hn : 1 ≤ n) : (((trN n p : Nat) : Int) * p) % n = 0 ∧ 1 ≤ trN n p ∧ ((trN n p : Nat) : Int) ≤ n := trF_ok (by omega) _ _ (by omega) (by omega)
theorem trRow_mod {n p : Int} {T : Nat} (hT : ((T : Int) * p) % n = 0) (i : Nat) : trRow n p (i % T) = trRow n p i := by
  obtain ⟨c, hc⟩ := Int.dvd_of_emod_eq_zero hT
  unfold trRow
  apply List.map_congr_left
  intro j _
  have e1 : ((i : Nat) : Int) = (T : Int) * ((i / T : Nat) : Int) + ((i % T : Nat) : Int) := by
    have := Nat.div_add_mod i T
    omega
  have e2 : (i : Int) * p + (j : Nat) = ((i % T : Nat) : Int) * p + (j : Nat) + n * (c * ((i / T : Nat) : Int)) := by
    rw [e1, Int.add_mul, show (T : Int) * ((i / T : Nat) : Int) * p = ((T : Int) * p) * ((i / T : Nat) : Int) by rw [Int.mul_assoc, Int.mul_comm ((i / T : Nat) : Int) p, ← Int.mul_assoc], hc, Int.mul_assoc]
    omega
  rw [e2, Int.add_mul_emod_self_left]
/-- the turns' rows -/
def trRows (n p : Int) : List (List Int) := (List.range (trN n p)).map (trRow n p)
theorem trRows_len (n p : Int) : (trRows n p).length = trN n p := by simp [trRows]
theorem trRows_at {n p : Int} {k : Nat} (h : k < trN n p) : (trRows n p).getD k [] = trRow n p k := by
  unfold trRows
  rw [List.getD_eq_getElem?_getD, List.getElem?_map, List.getElem?_range h]
  rfl
/-! ### the last beat in which a cup is emptied -/
def lastK (rows : List (List Int)) (c t : Int) : Nat → Int
  | 0 => 0
  | k + 1 => if c ∈ rows.getD k [] ∧ (k : Int) < t then max (lastK rows c t k) (t - (t - (k : Int) - 1) % rows.length) else lastK rows c t k
def lastI (rows : List (List Int)) (c t : Int) : Int := lastK rows c t rows.length
theorem lastK_ok {rows : List (List Int)} {c t : Int} (ht : 0 ≤ t) (hL : 0 < rows.length) : ∀ k ≤ rows.length, 0 ≤ lastK rows c t k ∧ lastK rows c t k ≤ t ∧ (lastK rows c t k = 0 ∨ (1 ≤ lastK rows c t k ∧ c ∈ rows.getD ((lastK rows c t k - 1) % rows.length).toNat []))
  | 0, _ => ⟨Int.le_refl _, ht, .inl rfl⟩
  | k + 1, hk => by
    obtain ⟨h1, h2, h3⟩ := lastK_ok (c := c) ht hL k (by omega)
    unfold lastK
    split
    · rename_i h
      obtain ⟨hc, hkt⟩ := h
      have m0 := Int.emod_nonneg (t - (k : Int) - 1) (b := (rows.length : Int)) (by omega)
      have m1 : (t - (k : Int) - 1) % rows.length ≤ t - k - 1 := by
        have := Int.emod_add_mul_ediv (t - (k : Int) - 1) rows.length
        have h5 : 0 ≤ (t - (k : Int) - 1) / rows.length := Int.ediv_nonneg (by omega) (by omega)
        have h6 : 0 ≤ (rows.length : Int) * ((t - (k : Int) - 1) / rows.length) := Int.mul_nonneg (by omega) h5
        omega
      have hs : (t - (t - (k : Int) - 1) % rows.length - 1) % rows.length = k := by
        have e := Int.emod_add_mul_ediv (t - (k : Int) - 1) rows.length
        rw [show t - (t - (k : Int) - 1) % rows.length - 1 = k + rows.length * ((t - (k : Int) - 1) / rows.length) by omega, Int.add_mul_emod_self_left]
        exact Int.emod_eq_of_lt (by omega) (by omega)
      rcases Int.le_total (lastK rows c t k) (t - (t - (k : Int) - 1) % rows.length) with hm | hm
      · rw [Int.max_eq_right hm]
        refine ⟨by omega, by omega, .inr ⟨by omega, ?_⟩⟩
        rw [hs]
        exact hc
      · rw [Int.max_eq_left hm]
        exact ⟨h1, h2, h3⟩
    · exact ⟨h1, h2, h3⟩
theorem lastK_mono {rows : List (List Int)} {c t : Int} (k : Nat) : ∀ d : Nat, lastK rows c t k ≤ lastK rows c t (k + d)
  | 0 => Int.le_refl _
  | d + 1 => by
    have ih := lastK_mono (rows := rows) (c := c) (t := t) k d
    have : lastK rows c t (k + d) ≤ lastK rows c t (k + d + 1) := by
      conv => rhs; unfold lastK
      split
      · exact Int.le_max_left _ _
      · exact Int.le_refl _
    exact Int.le_trans ih this
theorem last_ge {rows : List (List Int)} {c t s : Int} (hL : 0 < rows.length) (h1 : 1 ≤ s) (h2 : s ≤ t) (hc : c ∈ rows.getD ((s - 1) % rows.length).toNat []) : s ≤ lastI rows c t := by
  have m0 := Int.emod_nonneg (s - 1) (b := (rows.length : Int)) (by omega)
  have m1 := Int.emod_lt_of_pos (s - 1) (b := (rows.length : Int)) (by omega)
  generalize hk : ((s - 1) % rows.length).toNat = k at hc
  have hk' : (s - 1) % rows.length = k := by omega
  have hkl : k < rows.length := by omega
  have e := Int.emod_add_mul_ediv (s - 1) rows.length
  have h5 : 0 ≤ (s - 1) / rows.length := Int.ediv_nonneg (by omega) (by omega)
  have h6 : 0 ≤ (rows.length : Int) * ((s - 1) / rows.length) := Int.mul_nonneg (by omega) h5
  have hkt : (k : Int) < t := by omega
  have m2 : (t - (k : Int) - 1) % rows.length ≤ t - s := by
    rw [show t - (k : Int) - 1 = (t - s) + rows.length * ((s - 1) / rows.length) by omega, Int.add_mul_emod_self_left]
    have := Int.emod_add_mul_ediv (t - s) rows.length
    have h7 : 0 ≤ (t - s) / rows.length := Int.ediv_nonneg (by omega) (by omega)
    have h8 : 0 ≤ (rows.length : Int) * ((t - s) / rows.length) := Int.mul_nonneg (by omega) h7
    omega
  have h9 : t - (t - (k : Int) - 1) % rows.length ≤ lastK rows c t (k + 1) := by
    unfold lastK
    rw [if_pos ⟨hc, hkt⟩]
    exact Int.le_max_right _ _
  have h10 := lastK_mono (rows := rows) (c := c) (t := t) (k + 1) (rows.length - (k + 1))
  rw [show k + 1 + (rows.length - (k + 1)) = rows.length by omega] at h10
  unfold lastI
  omega
theorem last_ok {rows : List (List Int)} {c t : Int} (ht : 0 ≤ t) (hL : 0 < rows.length) : 0 ≤ lastI rows c t ∧ lastI rows c t ≤ t ∧ (lastI rows c t = 0 ∨ (1 ≤ lastI rows c t ∧ c ∈ rows.getD ((lastI rows c t - 1) % rows.length).toNat [])) := lastK_ok ht hL _ (Nat.le_refl _)
/-- how long some cup is left, of n cups, behind beat t -/
def leftFor (rows : List (List Int)) (n t : Int) : Int := maxI ((rangeI 0 n.toNat).map fun c => t - lastI rows c t)
/-! ### even shares, rising -/
/-! ### rules as data -/
theorem t_s (x : Str) : tyD (.str x) = "str" := rfl
/-- a row put in order, as a tuple -/
def rsD (rows : List (List Int)) : List D := rows.map fun l => .tuple ((sortI l).map .int)
theorem mem_sortI {c : Int} {l : List Int} : c ∈ sortI l ↔ c ∈ l := (sortI_perm l).mem_iff
/-! ### equations: instances, three at once, x += e -/
section
variable (i j l n b : Nat) (C f mn : Str) (r : Rho) (m : M RV) (x y z : M D) (ms : M (List ASl)) (F : Den) (d : D)
theorem r_Fld : dFld i C f r = (match r[i]? with | some (.own _ (.ins C' fs)) => if C' = C then ((ofO (fs.lookup f)).bind fun d => .ok (d, r)) else .no | _ => .no) := rfl
theorem r_FldM : sFldM i C f x r = (x r).bind fun a => match a.2[i]? with | some (.own p (.ins C' fs)) => if C' = C ∧ fs.length < 1000 then .ok (.nx, a.2.set i (.own p (.ins C' (putD f a.1 fs)))) else .no | _ => .no := rfl
theorem r_FldAdd : sFldAdd i C f x r = (match r[i]? with
  | some (.own _ (.ins C' fs)) => if C' = C then (match fs.lookup f with
    | some (.int j) => (x r).bind fun a => (match a.2[i]?, a.1 with
      | some (.own p (.ins C2 fs2)), .int k => if C2 = C ∧ fs2.length < 1000 then .ok (.nx, a.2.set i (.own p (.ins C2 (putD f (.int (j + k)) fs2)))) else .no
      | _, _ => .no)
    | _ => .no) else .no
  | _ => .no) := rfl
theorem r_bFld : bFld i C f d r = (match r[i]? with | some (.own p (.ins C' fs)) => if C' = C ∧ fs.length < 1000 then some (r.set i (.own p (.ins C' (putD f d fs)))) else none | _ => none) := rfl
theorem r_Meth : eMeth i C mn n F ms r = (match r[i]? with | some (.own _ (.ins C' fs)) => if C' = C ∧ fs.lookup mn = none then eCall n F (arR i ms) r else .no | _ => .no) := rfl
theorem r_MethT : eMethT C mn n F m ms r = (m r).bind fun a => match a.1 with | .own (.ins C' fs) => if C' = C ∧ fs.lookup mn = none then eCallT n F (fun r => .ok (.own (.ins C' fs), r)) ms a.2 else .no | _ => .no := rfl
theorem r_Make : eMake C n F ms r = (ms r).bind fun b => if b.1.length + 1 = n then ((ofO (valsOf b.1)).bind fun sl => leaveX b.2 (match F (.own true (.ins C []) :: sl) with
  | .ok (.val .none, .own _ (.ins C' fs) :: _) => if C' = C then .ok (.own (.ins C' fs), []) else .no
  | .ok _ => .no
  | .ex x => .ex x
  | .no => .no)) else .no := rfl
theorem r_Par3 : sPar3 i j l x y z r = (x r).bind fun a => (y a.2).bind fun b => (z b.2).bind fun c =>
  if free c.2 i = true ∧ free c.2 j = true ∧ free c.2 l = true ∧ i ≠ j ∧ i ≠ l ∧ j ≠ l then .ok (.nx, ((c.2.set i (.val a.1)).set j (.val b.1)).set l (.val c.1)) else .no := rfl
theorem r_iEnumB {m : M D} : iEnumB m r = (m r).bind fun a => (ofO (seqD a.1)).bind fun ds => .ok (enumD 1 ds, a.2) := rfl
theorem r_TR1 {m : M D} : dTR1 m r = (m r).bind fun a => (ofO (pTR a.1)).bind fun d => .ok (d, a.2) := rfl
theorem v_TR (j : Int) (h0 : 0 ≤ j) (h1 : j ≤ 100000) : pTR (.int j) = some (.tuple ((rangeI 0 j.toNat).map .int)) := by
  show @ite _ (RgOk 0 j) (Classical.propDecidable _) (some (PyData.tuple (rangeD 0 (j - 0).toNat))) none = _
  rw [if_pos ⟨by omega, by omega, by omega, by omega, by omega⟩, rangeD_I, Int.sub_zero]
theorem r_LenO : dLenO i r = (match r[i]? with | some (.own _ (.lst ds)) => .ok (.int ds.length, r) | _ => .no) := rfl
theorem r_NeO {m : M D} : dNeO i m r = (match r[i]? with
  | some (.own _ (.lst _)) => (m r).bind fun b => (match b.2[i]? with
    | some (.own _ (.lst ds)) => (ofO (pNe (.list ds) b.1)).bind fun d => .ok (d, b.2)
    | _ => .no)
  | _ => .no) := rfl
theorem r_AugN : sAugN i x r = (match r[i]? with | some (.val (.int u)) => (x r).bind fun a => (match a.1 with | .int v => if free a.2 i = true then .ok (.nx, a.2.set i (.val (.int (u + v)))) else .no | _ => .no) | _ => .no) := rfl
theorem r_AugPut : sAugPut i x y r = (match r[i]? with
  | some (.own _ (.lst _)) => (x r).bind fun b => (match b.2[i]?, b.1 with
    | some (.own _ (.lst ds)), .int k => (ofO (atI ds k)).bind fun old => (y b.2).bind fun a => (match a.2[i]?, old, a.1 with
      | some (.own p (.lst es)), .int u, .int v => (ofO (ixD es.length k)).bind fun j => .ok (.nx, a.2.set i (.own p (.lst (es.set j (.int (u + v))))))
      | _, _, _ => .no)
    | _, _ => .no)
  | _ => .no) := rfl
end
/-! ### a keeper -/
def kp1 (n : Int) : List (Str × D) := [("cups", .int n)]
def kp2 (n p : Int) : List (Str × D) := [("cups", .int n), ("scoops", .int p)]
def kp3 (n p : Int) (R : List (List Int)) : List (Str × D) := [("cups", .int n), ("scoops", .int p), ("rows", .list (rsD R))]
def kp4 (n p : Int) (R : List (List Int)) (L : Bool) : List (Str × D) := [("cups", .int n), ("scoops", .int p), ("rows", .list (rsD R)), ("looks_at_all", .bool L)]
def kp5 (n p : Int) (R : List (List Int)) (L : Bool) (h : List Int) : List (Str × D) := [("cups", .int n), ("scoops", .int p), ("rows", .list (rsD R)), ("looks_at_all", .bool L), ("held", .tuple (h.map .int))]
def kpF (n p : Int) (R : List (List Int)) (L : Bool) (h : List Int) (t : Int) : List (Str × D) := [("cups", .int n), ("scoops", .int p), ("rows", .list (rsD R)), ("looks_at_all", .bool L), ("held", .tuple (h.map .int)), ("done", .int t)]
section
variable (n p : Int) (R : List (List Int)) (L : Bool) (h h' : List Int) (t u : Int)
theorem kp_p1 : putD "cups" (.int n) [] = kp1 n := rfl
theorem kp_p2 : putD "scoops" (.int p) (kp1 n) = kp2 n p := rfl
theorem kp_p3 : putD "rows" (.list (rsD R)) (kp2 n p) = kp3 n p R := rfl
theorem kp_p4 : putD "looks_at_all" (.bool L) (kp3 n p R) = kp4 n p R L := rfl
theorem kp_p5 : putD "held" (.tuple (h.map .int)) (kp4 n p R L) = kp5 n p R L h := rfl
theorem kp_p6 : putD "done" (.int t) (kp5 n p R L h) = kpF n p R L h t := rfl
theorem kp_h : putD "held" (.tuple (h'.map .int)) (kpF n p R L h t) = kpF n p R L h' t := rfl
theorem kp_d : putD "done" (.int u) (kpF n p R L h t) = kpF n p R L h u := rfl
theorem kp_l1 : ((kp1 n).length < 1000) = True := eq_true (by show 1 < 1000; omega)
theorem kp_l2 : ((kp2 n p).length < 1000) = True := eq_true (by show 2 < 1000; omega)
theorem kp_l3 : ((kp3 n p R).length < 1000) = True := eq_true (by show 3 < 1000; omega)
theorem kp_l4 : ((kp4 n p R L).length < 1000) = True := eq_true (by show 4 < 1000; omega)
theorem kp_l5 : ((kp5 n p R L h).length < 1000) = True := eq_true (by show 5 < 1000; omega)
theorem kp_l6 : ((kpF n p R L h t).length < 1000) = True := eq_true (by show 6 < 1000; omega)
theorem kp_cups : List.lookup ("cups" : Str) (kpF n p R L h t) = some (.int n) := rfl
theorem kp_scoops : List.lookup ("scoops" : Str) (kpF n p R L h t) = some (.int p) := rfl
theorem kp_rows : List.lookup ("rows" : Str) (kpF n p R L h t) = some (.list (rsD R)) := rfl
theorem kp_looks : List.lookup ("looks_at_all" : Str) (kpF n p R L h t) = some (.bool L) := rfl
theorem kp_held : List.lookup ("held" : Str) (kpF n p R L h t) = some (.tuple (h.map .int)) := rfl
theorem kp_done : List.lookup ("done" : Str) (kpF n p R L h t) = some (.int t) := rfl
theorem kp_choose : List.lookup ("choose" : Str) (kpF n p R L h t) = none := rfl
theorem kp_nums : List.lookup ("numbers_for" : Str) (kpF n p R L h t) = none := rfl
theorem kp_stand : List.lookup ("standing" : Str) (kpF n p R L h t) = none := rfl
end
/-! ### pours -/
theorem rangeI_app (lo : Int) (a b : Nat) : rangeI lo (a + b) = rangeI lo a ++ rangeI (lo + a) b := by
  unfold rangeI
  rw [List.range_add, List.map_append, List.map_map]
  congr 1
  apply List.map_congr_left
  intro i _
  simp only [Function.comp]
  push_cast
  omega
theorem rangeI_shift (lo c : Int) (n : Nat) : (rangeI lo n).map (fun k => k + c) = rangeI (lo + c) n := by
  unfold rangeI
  rw [List.map_map]
  apply List.map_congr_left
  intro i _
  simp only [Function.comp]
  omega
/-- turned round by a place -/
theorem turned {n a : Int} (h0 : 0 ≤ a) (h1 : a < n) : ((rangeI 0 n.toNat).map fun k => (k - a) % n).Perm (rangeI 0 n.toNat) := by
  have e1 : n.toNat = a.toNat + (n - a).toNat := by omega
  have e2 : n.toNat = (n - a).toNat + a.toNat := by omega
  have ea : ((a.toNat : Nat) : Int) = a := by omega
  have eb : (((n - a).toNat : Nat) : Int) = n - a := by omega
  have p1 : (rangeI 0 a.toNat).map (fun k => (k - a) % n) = rangeI (n - a) a.toNat := by
    have := rangeI_shift 0 (n - a) a.toNat
    rw [show (0 : Int) + (n - a) = n - a by omega] at this
    rw [← this]
    apply List.map_congr_left
    intro k hk
    have hk := mem_rangeI.mp hk
    rw [← Int.add_emod_right (k - a) n, Int.emod_eq_of_lt (by omega) (by omega)]
    omega
  have p2 : (rangeI a (n - a).toNat).map (fun k => (k - a) % n) = rangeI 0 (n - a).toNat := by
    have := rangeI_shift a (-a) (n - a).toNat
    rw [show a + -a = 0 by omega] at this
    rw [← this]
    apply List.map_congr_left
    intro k hk
    unfold rangeI at hk
    obtain ⟨i, hi, rfl⟩ := List.mem_map.mp hk
    have := List.mem_range.mp hi
    rw [Int.emod_eq_of_lt (by omega) (by omega)]
    omega
  have q1 := rangeI_app 0 a.toNat (n - a).toNat
  have q2 := rangeI_app 0 (n - a).toNat a.toNat
  rw [← e1, ea, Int.zero_add] at q1
  rw [← e2, eb, Int.zero_add] at q2
  have key : ((rangeI 0 n.toNat).map fun k => (k - a) % n) = rangeI (n - a) a.toNat ++ rangeI 0 (n - a).toNat := by
    rw [q1, List.map_append, p1, p2]
  rw [key, q2]
  exact List.perm_append_comm
/-! ### what is taken out and what is left -/
theorem gone_nil (l : List Int) : goneI l [] = l := by
  unfold goneI
  refine Eq.trans (List.map_congr_left fun i _ => ?_) (range_getD l)
  rw [if_neg (by simp)]
theorem gone_cons (l g : List Int) (x : Int) (h0 : 0 ≤ x) : goneI l (x :: g) = (goneI l g).set x.toNat 0 := by
  unfold goneI
  apply List.ext_getElem
  · simp
  · intro i h1 h2
    simp only [List.length_map, List.length_range] at h1
    rw [List.getElem_set]
    simp only [List.getElem_map, List.getElem_range, List.mem_cons]
    by_cases hx : x.toNat = i
    · rw [if_pos hx, if_pos (.inl (by omega))]
    · rw [if_neg hx]
      by_cases hg : (i : Int) ∈ g
      · rw [if_pos (.inr hg), if_pos hg]
      · rw [if_neg (fun z => z.elim (fun q => hx (by omega)) hg), if_neg hg]
theorem gone_at0 (l g : List Int) (i : Nat) (h : i < l.length) : (goneI l g).getD i 0 = if (i : Int) ∈ g then 0 else l.getD i 0 := by
  unfold goneI
  rw [List.getD_eq_getElem?_getD, List.getElem?_map, List.getElem?_range h]
  rfl
theorem set_perm : ∀ (l : List Int) (i : Nat), i < l.length → (l.getD i 0 :: l.set i 0).Perm (0 :: l)
  | [], _, h => absurd h (Nat.not_lt_zero _)
  | a :: l, 0, _ => by
    show (a :: 0 :: l).Perm (0 :: a :: l)
    exact List.Perm.swap _ _ _
  | a :: l, i + 1, h => by
    have ih := set_perm l i (by simpa using h)
    show (l.getD i 0 :: a :: l.set i 0).Perm (0 :: a :: l)
    exact ((List.Perm.swap _ _ _).trans (ih.cons a)).trans (List.Perm.swap _ _ _)
theorem gone_perm (l : List Int) : ∀ g : List Int, g.Nodup → (∀ z ∈ g, 0 ≤ z ∧ z < l.length) → ((g.map fun z => l.getD z.toNat 0) ++ goneI l g).Perm (List.replicate g.length 0 ++ l)
  | [], _, _ => by
    rw [gone_nil]
    exact List.Perm.refl _
  | x :: g, hn, h => by
    rw [List.nodup_cons] at hn
    have hx := h x (by simp)
    have ih := gone_perm l g hn.2 fun z hz => h z (List.mem_cons_of_mem _ hz)
    have e : (goneI l g).getD x.toNat 0 = l.getD x.toNat 0 := by
      rw [gone_at0 l g x.toNat (by omega), if_neg (by rw [show ((x.toNat : Nat) : Int) = x by omega]; exact hn.1)]
    have sp := set_perm (goneI l g) x.toNat (by rw [goneI_len]; omega)
    rw [e, ← gone_cons l g x hx.1] at sp
    rw [List.map_cons, List.length_cons, List.replicate_succ, List.cons_append, List.cons_append]
    refine List.Perm.trans ?_ (ih.cons 0)
    refine List.Perm.trans List.perm_middle.symm ?_
    refine List.Perm.trans (List.Perm.append_left _ sp) ?_
    exact List.perm_middle
theorem gone_sum {l g : List Int} (hn : g.Nodup) (h : ∀ z ∈ g, 0 ≤ z ∧ z < l.length) : (g.map fun z => l.getD z.toNat 0).sum + (goneI l g).sum = l.sum := by
  have := sum_perm (gone_perm l g hn h)
  rw [List.sum_append, List.sum_append, sum_rep] at this
  omega
theorem over_at {a b : List Int} (h : Ov a b) (i : Nat) : (sortB true b).getD i 0 ≤ (sortB true a).getD i 0 := by
  have e := over_of h
  unfold overB at e
  rw [List.all_eq_true] at e
  have l1 := sortB_len true a
  have l2 := sortB_len true b
  have hl := h.len
  by_cases hi : i < a.length
  · have := e ((sortB true a)[i]'(by omega), (sortB true b)[i]'(by omega)) (by
      rw [List.mem_iff_getElem]
      exact ⟨i, by rw [List.length_zip]; omega, by simp⟩)
    rw [List.getD_eq_getElem?_getD, List.getD_eq_getElem?_getD, List.getElem?_eq_getElem (by omega), List.getElem?_eq_getElem (by omega)]
    exact of_decide_eq_true this
  · rw [List.getD_eq_getElem?_getD, List.getD_eq_getElem?_getD, List.getElem?_eq_none (by omega), List.getElem?_eq_none (by omega)]
    exact Int.le_refl _
theorem over_pref {a b : List Int} (h : Ov a b) (k : Nat) : ((sortB true b).take k).sum ≤ ((sortB true a).take k).sum := by
  have l1 := sortB_len true a
  have l2 := sortB_len true b
  have hl := h.len
  have := sum_gap ((sortB true a).take k) ((sortB true b).take k) 0 (by rw [List.length_take, List.length_take]; omega) (by omega) fun i => by
    have q := over_at h i
    rw [List.getD_eq_getElem?_getD, List.getD_eq_getElem?_getD] at q ⊢
    rw [List.getElem?_take, List.getElem?_take]
    split
    · omega
    · simp
  omega
theorem over_sum {a b : List Int} (h : Ov a b) : b.sum ≤ a.sum := by
  have q := over_pref h a.length
  rw [List.take_of_length_le (by rw [sortB_len, h.len]; omega), List.take_of_length_le (by rw [sortB_len]; omega), sum_perm (sortB_perm true b), sum_perm (sortB_perm true a)] at q
  exact q
/-! ### comprehensions whose slots move on, and freezing filters -/
/-! ### when a cup was emptied last -/
theorem last_zero (R : List (List Int)) (c : Int) (hL : 0 < R.length) : lastI R c 0 = 0 := by
  obtain ⟨a, b, _⟩ := last_ok (rows := R) (c := c) (t := 0) (by omega) hL
  omega
theorem last_step {R : List (List Int)} (hL : 0 < R.length) (c : Int) (t : Nat) : lastI R c ((t + 1 : Nat) : Int) = if c ∈ R.getD (t % R.length) [] then ((t + 1 : Nat) : Int) else lastI R c (t : Int) := by
  obtain ⟨a1, a2, a3⟩ := last_ok (rows := R) (c := c) (t := ((t + 1 : Nat) : Int)) (by omega) hL
  obtain ⟨b1, b2, b3⟩ := last_ok (rows := R) (c := c) (t := (t : Int)) (by omega) hL
  have hk : ((((t + 1 : Nat) : Int) - 1) % R.length).toNat = t % R.length := by
    rw [show ((t + 1 : Nat) : Int) - 1 = (t : Int) by omega, ← Int.natCast_emod]
    rfl
  split
  · rename_i hc
    have := last_ge (rows := R) (c := c) (t := ((t + 1 : Nat) : Int)) (s := ((t + 1 : Nat) : Int)) hL (by omega) (by omega) (by rw [hk]; exact hc)
    omega
  · rename_i hc
    have h1 : lastI R c ((t + 1 : Nat) : Int) ≤ t := by
      rcases a3 with z | ⟨z1, z2⟩
      · omega
      · by_cases q : lastI R c ((t + 1 : Nat) : Int) = ((t + 1 : Nat) : Int)
        · rw [q, hk] at z2
          exact absurd z2 hc
        · omega
    have h2 : lastI R c ((t + 1 : Nat) : Int) ≤ lastI R c t := by
      rcases a3 with z | ⟨z1, z2⟩
      · omega
      · exact last_ge hL z1 h1 z2
    have h3 : lastI R c t ≤ lastI R c ((t + 1 : Nat) : Int) := by
      rcases b3 with z | ⟨z1, z2⟩
      · omega
      · exact last_ge hL z1 (by omega) z2
    omega
theorem left_ge {R : List (List Int)} {n t c : Int} (h0 : 0 ≤ c) (h1 : c < n) : t - lastI R c t ≤ leftFor R n t := by
  have hm : (t - lastI R c t) ∈ (rangeI 0 n.toNat).map fun c => t - lastI R c t := List.mem_map.mpr ⟨c, mem_rangeI.mpr ⟨h0, by omega⟩, rfl⟩
  exact (maxI_mem (List.ne_nil_of_mem hm)).2 _ hm
theorem left_nn {R : List (List Int)} {n t : Int} (hn : 1 ≤ n) (hL : 0 < R.length) (ht : 0 ≤ t) : 0 ≤ leftFor R n t := by
  have := left_ge (R := R) (n := n) (t := t) (c := 0) (by omega) (by omega)
  have := (last_ok (rows := R) (c := 0) ht hL).2.1
  omega
/-! ### all grains into one cup -/
theorem ext_getD {a b : List Int} (hl : a.length = b.length) (h : ∀ i, i < a.length → a.getD i 0 = b.getD i 0) : a = b := by
  apply List.ext_getElem hl
  intro i h1 h2
  have := h i h1
  rwa [List.getD_eq_getElem?_getD, List.getD_eq_getElem?_getD, List.getElem?_eq_getElem h1, List.getElem?_eq_getElem h2] at this
theorem sortB_dn {l s : List Int} (hp : l.Perm s) (h : s.Pairwise (· ≥ ·)) : sortB true l = s := by
  have h2 : s.reverse = sortI l := sortI_is ((List.reverse_perm s).trans hp.symm) (List.pairwise_reverse.mpr h)
  rw [sortB_t, ← h2, List.reverse_reverse]
/-! ### no more than the grains of the beats that a cup was left -/
theorem sum_map_le {α : Type} (f a b : α → Int) : ∀ l : List α, (∀ z ∈ l, f z ≤ a z + b z) → (l.map f).sum ≤ (l.map a).sum + (l.map b).sum
  | [], _ => by simp
  | z :: l, h => by
    have ih := sum_map_le f a b l fun y hy => h y (List.mem_cons_of_mem _ hy)
    have := h z (List.mem_cons_self ..)
    simp only [List.map_cons, List.sum_cons]
    omega
theorem range_all (l : List Int) {n : Int} (h : (l.length : Int) = n) : (rangeI 0 n.toNat).map (fun c => l.getD c.toNat 0) = l := by
  have e := range_getD l
  rw [show l.length = n.toNat by omega] at e
  unfold rangeI
  rw [List.map_map]
  refine Eq.trans (List.map_congr_left fun i _ => ?_) e
  show l.getD ((0 : Int) + (i : Nat)).toNat 0 = _
  rw [Int.zero_add]
  rfl
/-- what the cups hold that were emptied within so many beats -/
def win (R : List (List Int)) (n : Int) (h : List Int) (t k : Nat) : Int := ((rangeI 0 n.toNat).map fun c => if (t : Int) - k ≤ lastI R c t then h.getD c.toNat 0 else 0).sum
def Win (R : List (List Int)) (n g : Int) (h : List Int) (t : Nat) : Prop := ∀ k : Nat, win R n h t k ≤ g * k
theorem Win.zero {R : List (List Int)} {n g : Int} (hg : 0 ≤ g) : Win R n g (List.replicate n.toNat 0) 0 := fun k => by
  have : ((rangeI 0 n.toNat).map fun c => if ((0 : Nat) : Int) - k ≤ lastI R c ((0 : Nat) : Int) then (List.replicate n.toNat (0 : Int)).getD c.toNat 0 else 0).sum ≤ 0 := by
    have := sum_le_all ((rangeI 0 n.toNat).map fun c => if ((0 : Nat) : Int) - k ≤ lastI R c ((0 : Nat) : Int) then (List.replicate n.toNat (0 : Int)).getD c.toNat 0 else 0) 0 fun z hz => by
      obtain ⟨c, _, rfl⟩ := List.mem_map.mp hz
      split
      · rw [List.getD_eq_getElem?_getD, List.getElem?_replicate]
        split <;> simp
      · exact Int.le_refl _
    omega
  exact Int.le_trans this (Int.mul_nonneg hg (by omega))
theorem Win.step {R : List (List Int)} {n g : Int} {h q : List Int} {t : Nat} (hL : 0 < R.length) (hn : ∀ z ∈ q, 0 ≤ z) (hh : ∀ z ∈ h, 0 ≤ z) (hl : (h.length : Int) = n) (hq : (q.length : Int) = n) (hs : q.sum = g) (W : Win R n g h t) :
    Win R n g (goneI (addI h q) (sortI (R.getD (t % R.length) []))) (t + 1) := fun k => by
  have la : (addI h q).length = h.length := addI_len (by omega)
  have hv : ∀ c ∈ rangeI 0 n.toNat, (goneI (addI h q) (sortI (R.getD (t % R.length) []))).getD c.toNat 0 = if c ∈ R.getD (t % R.length) [] then 0 else h.getD c.toNat 0 + q.getD c.toNat 0 := fun c hc => by
    have := mem_rangeI.mp hc
    rw [gone_at0 _ _ _ (by omega), addI_at (by omega), show ((c.toNat : Nat) : Int) = c by omega]
    simp only [mem_sortI]
  have hqs : ((rangeI 0 n.toNat).map fun c => q.getD c.toNat 0).sum = g := by rw [range_all q hq, hs]
  cases k with
  | zero =>
    have := sum_le_all ((rangeI 0 n.toNat).map fun c => if ((t + 1 : Nat) : Int) - ((0 : Nat) : Int) ≤ lastI R c ((t + 1 : Nat) : Int) then (goneI (addI h q) (sortI (R.getD (t % R.length) []))).getD c.toNat 0 else 0) 0 fun z hz => by
      obtain ⟨c, hc, rfl⟩ := List.mem_map.mp hz
      rw [hv c hc, last_step hL]
      by_cases hm : c ∈ R.getD (t % R.length) []
      · rw [if_pos hm, if_pos hm]
        split <;> omega
      · rw [if_neg hm]
        have := (last_ok (rows := R) (c := c) (t := (t : Int)) (by omega) hL).2.1
        rw [if_neg (by omega)]
        exact Int.le_refl _
    show win R n _ (t + 1) 0 ≤ g * ((0 : Nat) : Int)
    unfold win
    omega
  | succ k =>
    have key := sum_map_le (fun c => if ((t + 1 : Nat) : Int) - ((k + 1 : Nat) : Int) ≤ lastI R c ((t + 1 : Nat) : Int) then (goneI (addI h q) (sortI (R.getD (t % R.length) []))).getD c.toNat 0 else 0)
      (fun c => if (t : Int) - k ≤ lastI R c t then h.getD c.toNat 0 else 0) (fun c => q.getD c.toNat 0) (rangeI 0 n.toNat) fun c hc => by
        have q0 : 0 ≤ q.getD c.toNat 0 := getD_nn hn _
        have h0 : 0 ≤ h.getD c.toNat 0 := getD_nn hh _
        rw [hv c hc, last_step hL]
        by_cases hm : c ∈ R.getD (t % R.length) []
        · rw [if_pos hm, if_pos hm]
          split <;> split <;> omega
        · rw [if_neg hm, if_neg hm]
          by_cases hc2 : (t : Int) - k ≤ lastI R c t
          · rw [if_pos hc2, if_pos (by omega)]
            omega
          · rw [if_neg hc2, if_neg (by omega)]
            omega
    have := W k
    unfold win at this
    rw [hqs] at key
    have e : g * ((k + 1 : Nat) : Int) = g * k + g := by
      rw [show ((k + 1 : Nat) : Int) = (k : Int) + 1 by omega, Int.mul_add, Int.mul_one]
    show win R n _ (t + 1) (k + 1) ≤ g * ((k + 1 : Nat) : Int)
    unfold win
    omega
theorem Win.all {R : List (List Int)} {n g : Int} {h : List Int} {t : Nat} (hn : 1 ≤ n) (hL : 0 < R.length) (hl : (h.length : Int) = n) (W : Win R n g h t) : h.sum ≤ g * leftFor R n t := by
  have h0 := left_nn (R := R) (n := n) (t := (t : Int)) hn hL (by omega)
  have hw := W (leftFor R n t).toNat
  unfold win at hw
  have e : ((rangeI 0 n.toNat).map fun c => if (t : Int) - ((leftFor R n t).toNat : Nat) ≤ lastI R c t then h.getD c.toNat 0 else 0) = h := by
    refine Eq.trans (List.map_congr_left fun c hc => ?_) (range_all h hl)
    have := mem_rangeI.mp hc
    have := left_ge (R := R) (n := n) (t := (t : Int)) (c := c) (by omega) (by omega)
    rw [if_pos (by omega)]
  rw [e] at hw
  rwa [show (((leftFor R n t).toNat : Nat) : Int) = leftFor R n t by omega] at hw
/-! ### as many are empty -/
/-! ### of turns -/
/-! ### the sums of the fullest, and who looks at the pour -/
theorem stays_sum (l : List Int) (k : Nat) : (staysI l k).sum = ((sortB true l).drop k).sum := by
  unfold staysI
  rw [List.sum_append, sum_rep]
  omega
theorem some_le {l g : List Int} (hn : ∀ z ∈ l, 0 ≤ z) (hg : g.Nodup) (h : ∀ z ∈ g, 0 ≤ z ∧ z < l.length) {k : Nat} (hk : g.length ≤ k) (hk2 : k ≤ l.length) : (g.map fun z => l.getD z.toNat 0).sum ≤ ((sortB true l).take k).sum := by
  have a := gone_sum hg h
  have b := over_sum (gone_over hn hk hk2)
  rw [stays_sum] at b
  have c := sum_perm (sortB_perm true l)
  rw [← List.take_append_drop k (sortB true l), List.sum_append] at c
  omega
theorem nums_nd (l : List Int) (k : Nat) : (numsP l k).Nodup := by
  have := ordP_nodup l
  unfold numsP
  rw [List.map_take]
  exact this.sublist (List.take_sublist _ _)
/-- the fullest of two put together hold no more than those of each -/
theorem pref_add {a b : List Int} (ha : ∀ z ∈ a, 0 ≤ z) (hb : ∀ z ∈ b, 0 ≤ z) (hl : b.length = a.length) (k : Nat) (hk : k ≤ a.length) : ((sortB true (addI a b)).take k).sum ≤ ((sortB true a).take k).sum + ((sortB true b).take k).sum := by
  have lA : (addI a b).length = a.length := addI_len hl
  have h1 := numsP_held (addI a b) k
  have h2 := numsP_len (addI a b) k (by omega)
  have h3 := nums_nd (addI a b) k
  have h4 : ∀ z ∈ numsP (addI a b) k, 0 ≤ z ∧ z < a.length := fun z hz => by
    have := numsP_mem hz
    omega
  rw [← h1]
  have h5 := some_le ha h3 h4 (k := k) (by omega) hk
  have h6 := some_le hb h3 (fun z hz => by have := h4 z hz; omega) (k := k) (by omega) (by omega)
  generalize numsP (addI a b) k = N at *
  have := sum_map_le (fun z => (addI a b).getD z.toNat 0) (fun z => a.getD z.toNat 0) (fun z => b.getD z.toNat 0) N fun z _ => by rw [addI_at hl]; exact Int.le_refl _
  omega
/-! ### the table is no greater -/
/-! ### the same pour again and again -/
/-! ### two rules that are one -/
structure RS (R1 R2 : List (List Int)) : Prop where
  ne1 : R1 ≠ []
  ne2 : R2 ≠ []
  same : ∀ s : Nat, sortI (R1.getD (s % R1.length) []) = sortI (R2.getD (s % R2.length) [])
theorem RS.last {R1 R2 : List (List Int)} (h : RS R1 R2) (c : Int) : ∀ t : Nat, lastI R1 c t = lastI R2 c t
  | 0 => by
    rw [show ((0 : Nat) : Int) = 0 from rfl, last_zero R1 c (List.length_pos_iff.mpr h.ne1), last_zero R2 c (List.length_pos_iff.mpr h.ne2)]
  | t + 1 => by
    rw [last_step (List.length_pos_iff.mpr h.ne1), last_step (List.length_pos_iff.mpr h.ne2), RS.last h c t]
    have e : c ∈ R1.getD (t % R1.length) [] ↔ c ∈ R2.getD (t % R2.length) [] := by rw [← mem_sortI, h.same t, mem_sortI]
    simp only [e]
theorem RS.left {R1 R2 : List (List Int)} (h : RS R1 R2) (n t : Int) (ht : 0 ≤ t) : leftFor R1 n t = leftFor R2 n t := by
  obtain ⟨T, rfl⟩ := Int.eq_ofNat_of_zero_le ht
  unfold leftFor
  congr 1
  apply List.map_congr_left
  intro c _
  rw [h.last c T]
theorem repL_at {α : Type} (R : List α) : ∀ (k i : Nat), i < k * R.length → (repL k R)[i]? = R[i % R.length]?
  | 0, i, h => absurd h (by simp)
  | k + 1, i, h => by
    unfold repL
    rw [List.replicate_succ, List.flatten_cons]
    by_cases hi : i < R.length
    · rw [List.getElem?_append_left hi, Nat.mod_eq_of_lt hi]
    · rw [List.getElem?_append_right (by omega)]
      have ih := repL_at R k (i - R.length) (by rw [Nat.succ_mul] at h; omega)
      unfold repL at ih
      rw [ih, ← Nat.mod_eq_sub_mod (by omega)]
theorem repL_len {α : Type} (R : List α) (k : Nat) : (repL k R).length = k * R.length := by
  unfold repL
  rw [List.length_flatten, List.map_replicate, List.sum_replicate_nat]
theorem RS.rep {R : List (List Int)} (h : R ≠ []) {k : Nat} (hk : 0 < k) : RS R (repL k R) := by
  have hl := repL_len R k
  have hp := List.length_pos_iff.mpr h
  have hkp : 0 < k * R.length := Nat.mul_pos hk hp
  refine ⟨h, fun z => by rw [z] at hl; simp only [List.length_nil] at hl; omega, fun s => ?_⟩
  congr 1
  rw [hl, List.getD_eq_getElem?_getD, List.getD_eq_getElem?_getD, repL_at R k _ (Nat.mod_lt _ hkp), Nat.mod_mul_left_mod]
/-- the rows of turns, written out in any order within each -/
theorem RS.turns {n p : Int} {T : Nat} {ls : List (List Int)} (hn : 2 ≤ n) (hT : ((T : Int) * p) % n = 0) (h0 : 0 < T) (hl : ls.length = T) (h : ∀ i, i < T → (ls.getD i []).Perm (trRow n p i)) : RS (trRows n p) ls := by
  have hN := trN_ok (n := n) p (by omega)
  have hL := trRows_len n p
  refine ⟨fun z => by rw [z] at hL; simp only [List.length_nil] at hL; omega, fun z => by rw [z] at hl; simp only [List.length_nil] at hl; omega, fun s => ?_⟩
  rw [hl, hL, trRows_at (Nat.mod_lt _ (by omega)), trRow_mod hN.1]
  have hp := h (s % T) (Nat.mod_lt _ h0)
  rw [trRow_mod hT] at hp
  exact (sortI_is ((sortI_perm _).trans hp) (sortI_sorted _)).symm
/-! ### no rule is better than the fullest -/
/-! ### who empties the fullest holds no more than the table -/
theorem row_flat {n g p : Int} (hp : 1 ≤ p) (hpn : p ≤ n - 1) : ∀ (t k : Nat), n - p ≤ (k : Int) + 1 → (k : Int) < n → (rowI n g p t).getD k 0 = (rowI n g p t).getD (n - p - 1).toNat 0
  | 0, k, _, _ => by
    show (zeroI n).getD k 0 = (zeroI n).getD _ 0
    rw [zeroI_get, zeroI_get]
  | t + 1, k, h1, h2 => by
    show (nextI n g p (rowI n g p t)).getD k 0 = (nextI n g p (rowI n g p t)).getD (n - p - 1).toNat 0
    rw [nextI_get _ hp hpn k h2, nextI_get _ hp hpn _ (by omega)]
    congr 1
    omega
/-- what the fullest hold is by the table -/
def ByRow (n g p : Int) (t : Nat) (h : List Int) : Prop := ∀ j : Int, 1 ≤ j → j ≤ n → ((sortB true h).take j.toNat).sum ≤ (rowI n g p t).getD (j - 1).toNat 0
theorem ByRow.zero {n g p : Int} : ByRow n g p 0 (List.replicate n.toNat 0) := fun j _ _ => by
  have hsz : sortB true (List.replicate n.toNat (0 : Int)) = List.replicate n.toNat 0 := sortB_dn (List.Perm.refl _) (List.pairwise_replicate.mpr (.inr (Int.le_refl _)))
  show _ ≤ (zeroI n).getD _ 0
  rw [hsz, List.take_replicate, sum_rep, zeroI_get, Int.mul_zero]
  exact Int.le_refl _
/-- ahead of the emptying: no more than the table and the grains -/
theorem ByRow.ahead {n g p : Int} {t : Nat} {h q : List Int} (W : ByRow n g p t h) (hh : ∀ z ∈ h, 0 ≤ z) (hn : ∀ z ∈ q, 0 ≤ z) (hlh : (h.length : Int) = n) (hl : (q.length : Int) = n) (hs : q.sum = g) {j : Int} (j1 : 1 ≤ j) (j2 : j ≤ n) : ((sortB true (addI h q)).take j.toNat).sum ≤ (rowI n g p t).getD (j - 1).toNat 0 + g := by
  have a := pref_add hh hn (by omega) j.toNat (by omega)
  have b := W j j1 j2
  have c : ((sortB true q).take j.toNat).sum ≤ g := by
    have := List.take_append_drop j.toNat (sortB true q)
    have hsum := sum_perm (sortB_perm true q)
    rw [← this, List.sum_append] at hsum
    have := sum_ge_of ((sortB true q).drop j.toNat) 0 fun y hy => sortB_nn hn y (List.mem_of_mem_drop hy)
    omega
  omega
theorem ByRow.step {n g p : Int} {t : Nat} {h q : List Int} (W : ByRow n g p t h) (hh : ∀ z ∈ h, 0 ≤ z) (hn : ∀ z ∈ q, 0 ≤ z) (hlh : (h.length : Int) = n) (hl : (q.length : Int) = n) (hs : q.sum = g) (hg : 0 ≤ g) (n2 : 2 ≤ n) (hp : 1 ≤ p) (hpn : p ≤ n - 1) : ByRow n g p (t + 1) (staysI (addI h q) p.toNat) := fun j j1 j2 => by
  have lA : (addI h q).length = h.length := addI_len (by omega)
  have nA := addI_nn hh hn
  have hah := W.ahead hh hn hlh hl hs (j := min j (n - p) + p) (by omega) (by omega)
  have hfl : (rowI n g p t).getD (min j (n - p) + p - 1).toNat 0 = (rowI n g p t).getD (min (min j (n - p) + p) (n - p) - 1).toNat 0 := by
    by_cases hc : min j (n - p) + p ≤ n - p
    · rw [show min (min j (n - p) + p) (n - p) = min j (n - p) + p by omega]
    · rw [row_flat hp hpn t _ (by omega) (by omega), show min (min j (n - p) + p) (n - p) = n - p by omega]
  rw [hfl] at hah
  show _ ≤ (nextI n g p (rowI n g p t)).getD (j - 1).toNat 0
  rw [nextI_get _ hp hpn _ (by omega), show (1 : Int) + ((j - 1).toNat : Nat) = j by omega]
  unfold leastI
  generalize (rowI n g p t).getD (min (min j (n - p) + p) (n - p) - 1).toNat 0 = x at *
  have hS : (sortB true (addI h q)).length = h.length := by rw [sortB_len, lA]
  have hdn := sortB_down (addI h q)
  have hnn := sortB_nn (b := true) nA
  have e1 : sortB true (staysI (addI h q) p.toNat) = staysI (addI h q) p.toNat := sortB_dn (List.Perm.refl _) (by
    unfold staysI
    rw [List.pairwise_append]
    refine ⟨hdn.sublist (List.drop_sublist _ _), List.pairwise_replicate.mpr (.inr (Int.le_refl _)), fun a ha b hb => ?_⟩
    rw [(List.mem_replicate.mp hb).2]
    exact hnn a (List.mem_of_mem_drop ha))
  rw [e1]
  unfold staysI
  generalize sortB true (addI h q) = S at *
  have hb := even_best (l := S.take (min j (n - p) + p).toNat) (t := (S.take (min j (n - p) + p).toNat).sum) (c := min j (n - p) + p) (m := p) (by omega) (by omega) (by omega) (by rw [List.length_take]; omega) rfl (hdn.sublist (List.take_sublist _ _))
  rw [List.take_take, show min p.toNat (min j (n - p) + p).toNat = p.toNat by omega] at hb
  have hm := lag_mono (c := min j (n - p) + p) (m := p) (by omega) (by omega) (by omega) hah
  have hsp : (S.take (min j (n - p) + p).toNat).sum = (S.take p.toNat).sum + ((S.drop p.toNat).take (min j (n - p)).toNat).sum := by
    rw [show (min j (n - p) + p).toNat = p.toNat + (min j (n - p)).toNat by omega, List.take_add, List.sum_append]
  have hj2 : ((S.drop p.toNat ++ List.replicate p.toNat 0).take j.toNat).sum = ((S.drop p.toNat).take (min j (n - p)).toNat).sum := by
    have hd : (S.drop p.toNat).length = (n - p).toNat := by rw [List.length_drop]; omega
    rw [List.take_append, List.sum_append, List.take_replicate, sum_rep, Int.mul_zero, Int.add_zero]
    by_cases h : j ≤ n - p
    · rw [show min j (n - p) = j by omega]
    · rw [List.take_of_length_le (by omega), List.take_of_length_le (by omega)]
  rw [hj2]
  omega
end DL
/-! # DLo: odd things, and what is refused (printed by mkdlo.py) -/
namespace DL
open PySem PySem.Spec PyProof.Rows L2
theorem K_nb : kitB "NoneType" "bool" = some false := by decide +kernel
theorem K_ni : kitB "NoneType" "int" = some false := by decide +kernel
theorem K_ns : kitB "NoneType" "str" = some false := by decide +kernel
theorem K_nl : kitB "NoneType" "list" = some false := by decide +kernel
theorem K_nt : kitB "NoneType" "tuple" = some false := by decide +kernel
theorem K_bb : kitB "bool" "bool" = some true := by decide +kernel
theorem K_bi : kitB "bool" "int" = some true := by decide +kernel
theorem K_bs : kitB "bool" "str" = some false := by decide +kernel
theorem K_bl : kitB "bool" "list" = some false := by decide +kernel
theorem K_bt : kitB "bool" "tuple" = some false := by decide +kernel
theorem K_ib : kitB "int" "bool" = some false := by decide +kernel
theorem K_ii : kitB "int" "int" = some true := by decide +kernel
theorem K_is : kitB "int" "str" = some false := by decide +kernel
theorem K_il : kitB "int" "list" = some false := by decide +kernel
theorem K_it : kitB "int" "tuple" = some false := by decide +kernel
theorem K_sb : kitB "str" "bool" = some false := by decide +kernel
theorem K_si : kitB "str" "int" = some false := by decide +kernel
theorem K_ss : kitB "str" "str" = some true := by decide +kernel
theorem K_sl : kitB "str" "list" = some false := by decide +kernel
theorem K_st : kitB "str" "tuple" = some false := by decide +kernel
theorem K_lb : kitB "list" "bool" = some false := by decide +kernel
theorem K_li : kitB "list" "int" = some false := by decide +kernel
theorem K_ls : kitB "list" "str" = some false := by decide +kernel
theorem K_ll : kitB "list" "list" = some true := by decide +kernel
theorem K_lt : kitB "list" "tuple" = some false := by decide +kernel
theorem K_tb : kitB "tuple" "bool" = some false := by decide +kernel
theorem K_ti : kitB "tuple" "int" = some false := by decide +kernel
theorem K_ts : kitB "tuple" "str" = some false := by decide +kernel
theorem K_tl : kitB "tuple" "list" = some false := by decide +kernel
theorem K_tt : kitB "tuple" "tuple" = some true := by decide +kernel
theorem K_db : kitB "dict" "bool" = some false := by decide +kernel
theorem K_di : kitB "dict" "int" = some false := by decide +kernel
theorem K_ds : kitB "dict" "str" = some false := by decide +kernel
theorem K_dl : kitB "dict" "list" = some false := by decide +kernel
theorem K_dt : kitB "dict" "tuple" = some false := by decide +kernel
theorem t_n : tyD .none = "NoneType" := rfl
theorem t_d (es : List (D × D)) : tyD (.dict es) = "dict" := rfl
/-! ### asking -/
theorem r_Said (sd : Option Exn → Res D) (mb : M RV) (r : Rho) : eSaid sd mb r = (ofO (outO (mb (hideR r)))).bind fun o => (noEx (sd o)).bind fun d => .ok (d, r) := rfl
theorem r_outO1 {α : Type} (a : α) : outO (.ok a) = some none := rfl
theorem r_outO2 {α : Type} (x : Exn × Rho) : outO (α := α) (.ex x) = some (some x.1) := rfl
theorem r_hide0 : hideR [] = [] := rfl
theorem r_hide1 (s : Sl) (r : Rho) : hideR (s :: r) = hideS s :: hideR r := rfl
theorem r_hideV (d : D) : hideS (.val d) = .val d := rfl
theorem r_hideO (p : Bool) (o : Own) : hideS (.own p o) = .non := rfl
theorem r_hideN : hideS .non = .non := rfl
theorem r_Ask1 (r : Rho) : sAsk none r = .ok (.nx, r) := rfl
theorem r_Ask2 (x : Exn) (r : Rho) : sAsk (some x) r = .ex (x, r) := rfl
theorem r_IsE (i : Nat) (isx : Str → Option Bool) (r : Rho) : dIsE i isx r = match r[i]? with
  | some (.exn x) => (ofO (isx x.C)).bind fun b => .ok (.bool b, r)
  | _ => .no := rfl
/-! ### what is a whole number, a number from 0 on -/
theorem okR_mk2 {d : D} (h1 : PyData.showable d = true) (h2 : PyData.leavesShort 100 d = true) (h3 : d.weight ≤ 150000) (h4 : d.depth ≤ 40) (h6 : txtOk d = true) : okR d = true := by
  unfold okR
  rw [h1, h2, decide_eq_true h3, decide_eq_true h4, h6, Bool.and_self, Bool.or_true]
  rfl
/-- small data: its text can be told, its lists are short -/
structure Sm (w k : Nat) (d : D) : Prop where
  sh : PyData.showable d = true
  ls : PyData.leavesShort 100 d = true
  wt : d.weight ≤ w
  dp : d.depth ≤ k
  tx : txtOk d = true
theorem Sm.le {w k w' k' : Nat} {d : D} (h : Sm w k d) (hw : w ≤ w') (hk : k ≤ k') : Sm w' k' d := ⟨h.sh, h.ls, Nat.le_trans h.wt hw, Nat.le_trans h.dp hk, h.tx⟩
theorem Sm.ok {w k : Nat} {d : D} (h : Sm w k d) (hw : w ≤ 150000) (hk : k ≤ 40) : okR d = true := okR_mk2 h.sh h.ls (Nat.le_trans h.wt hw) (Nat.le_trans h.dp hk) h.tx
theorem Sm.all {w k : Nat} : ∀ {ds : List D}, (∀ d ∈ ds, Sm w k d) → PyData.showableAll ds = true ∧ PyData.leavesShortAll 100 ds = true ∧ PyData.weightAll ds ≤ ds.length * (w + 1) ∧ PyData.depthAll ds ≤ k ∧ txtOkA ds = true
  | [], _ => ⟨rfl, rfl, by simp [PyData.weightAll], by simp [PyData.depthAll], rfl⟩
  | d :: ds, h => by
    obtain ⟨a, b, c, e, f⟩ := Sm.all fun x hx => h x (List.mem_cons_of_mem _ hx)
    have h0 := h d List.mem_cons_self
    refine ⟨?_, ?_, ?_, ?_, ?_⟩
    · simp only [PyData.showableAll, h0.sh, a, Bool.and_self]
    · simp only [PyData.leavesShortAll, h0.ls, b, Bool.and_self]
    · simp only [PyData.weightAll, List.length_cons, Nat.add_mul]
      have := h0.wt
      omega
    · simp only [PyData.depthAll]
      have := h0.dp
      omega
    · simp only [txtOkA, h0.tx, f, Bool.and_self]
theorem Sm.list {w k m : Nat} {ds : List D} (h : ∀ d ∈ ds, Sm w k d) (hl : ds.length ≤ m) : Sm (m * (w + 1)) (k + 1) (.list ds) := by
  obtain ⟨a, b, c, e, f⟩ := Sm.all h
  have := Nat.mul_le_mul_right (w + 1) hl
  exact ⟨by simpa only [PyData.showable] using a, by simpa only [PyData.leavesShort] using b, by simp only [PyData.weight]; omega, by simp only [PyData.depth]; omega, by simpa only [txtOk] using f⟩
theorem Sm.tuple {w k m : Nat} {ds : List D} (h : ∀ d ∈ ds, Sm w k d) (hl : ds.length ≤ m) : Sm (m * (w + 1)) (k + 1) (.tuple ds) := by
  obtain ⟨a, b, c, e, f⟩ := Sm.all h
  have := Nat.mul_le_mul_right (w + 1) hl
  exact ⟨by simpa only [PyData.showable] using a, by simpa only [PyData.leavesShort] using b, by simp only [PyData.weight]; omega, by simp only [PyData.depth]; omega, by simpa only [txtOk] using f⟩
theorem Sm.int {z : Int} (h : z.natAbs < 2 ^ 90) : Sm 90 0 (.int z) := by
  have hq : z.natAbs < 2 ^ 200 := Nat.lt_of_lt_of_le h (by decide)
  have h1 : z.natAbs.log2 < 90 := by
    by_cases q : z.natAbs = 0
    · rw [q]; decide
    · exact (Nat.log2_lt q).mpr h
  have h2 := PySem.int_text_length_le (k := 90) (by decide) h1
  refine ⟨decide_eq_true (show z.natAbs.log2 < 1920 by omega), ?_, ?_, Nat.le_refl _, rfl⟩
  · show decide ((PyData.shown (.int z)).length ≤ 100) = true
    refine decide_eq_true ?_
    show (Str.ofString (toString z)).length ≤ 100
    rw [PySem.ofString_length]; omega
  · simp only [PyData.weight]
    split <;> omega
theorem weightAll_len : ∀ ds : List D, ds.length ≤ PyData.weightAll ds
  | [] => Nat.zero_le _
  | d :: ds => by
    have := weightAll_len ds
    simp only [PyData.weightAll, List.length_cons]
    omega
theorem weightAll_mem : ∀ {ds : List D} {d : D}, d ∈ ds → d.weight + 1 ≤ PyData.weightAll ds
  | _ :: ds, d, h => by
    simp only [PyData.weightAll]
    rcases List.mem_cons.mp h with rfl | h
    · omega
    · have := weightAll_mem h
      omega
theorem Sm.len {w k : Nat} {ds : List D} (h : Sm w k (.list ds)) : ds.length ≤ w := Nat.le_trans (weightAll_len ds) (by simpa only [PyData.weight] using h.wt)
theorem Sm.row {w k : Nat} {ds l : List D} (h : Sm w k (.list ds)) (hl : PyData.list l ∈ ds) : l.length ≤ w := by
  have h1 := weightAll_mem hl
  have h2 := weightAll_len l
  have h3 : PyData.weightAll ds ≤ w := by simpa only [PyData.weight] using h.wt
  simp only [PyData.weight] at h1
  omega
end DL
/-! # DLv: ladders, plain -/
namespace DL
open PySem PySem.Spec PyProof.Rows L2
theorem r_bTupL {n : Nat} {bs : BMs} {d : D} {r : Rho} : bTupL n bs d r = (match d with | .list ds => if ds.length = n then bs ds r else none | _ => none) := rfl
/-! ### even shares, one by one -/
theorem even_get {t c : Int} (hc : 1 ≤ c) (i : Nat) (hi : (i : Int) < c) : (evenI t c).getD i 0 = (t + (c - 1 - i)) / c := by
  have h1 := Int.emod_nonneg t (show c ≠ 0 by omega)
  have h2 := Int.emod_lt_of_pos t (show 0 < c by omega)
  have h3 := Int.emod_add_mul_ediv t c
  unfold evenI
  rw [List.getD_eq_getElem?_getD]
  by_cases h : i < (t % c).toNat
  · rw [List.getElem?_append_left (by rw [List.length_replicate]; exact h), List.getElem?_replicate, if_pos h]
    have : (t + (c - 1 - i)) / c = t / c + 1 := by
      have e : t + (c - 1 - i) = (t % c - 1 - i) + c * (t / c + 1) := by rw [Int.mul_add, Int.mul_one]; omega
      rw [e, Int.add_mul_ediv_left _ _ (by omega), Int.ediv_eq_zero_of_lt (by omega) (by omega)]
      omega
    rw [this]
    rfl
  · rw [List.getElem?_append_right (by rw [List.length_replicate]; omega), List.length_replicate, List.getElem?_replicate, if_pos (by omega)]
    have : (t + (c - 1 - i)) / c = t / c := by
      have e : t + (c - 1 - i) = (t % c + c - 1 - i) + c * (t / c) := by omega
      rw [e, Int.add_mul_ediv_left _ _ (by omega), Int.ediv_eq_zero_of_lt (by omega) (by omega)]
      omega
    rw [this]
    rfl
theorem even_get0 {t c : Int} (hc : 1 ≤ c) (i : Nat) (hi : c ≤ i) : (evenI t c).getD i 0 = 0 := by
  have := evenI_length (t := t) hc
  rw [List.getD_eq_getElem?_getD, List.getElem?_eq_none (by omega)]
  rfl
theorem even_mono {s t c : Int} (hc : 1 ≤ c) (h : s ≤ t) (i : Nat) : (evenI s c).getD i 0 ≤ (evenI t c).getD i 0 := by
  by_cases hi : (i : Int) < c
  · rw [even_get hc i hi, even_get hc i hi]
    exact Int.ediv_le_ediv (by omega) (by omega)
  · rw [even_get0 hc i (by omega), even_get0 hc i (by omega)]
    exact Int.le_refl _
theorem even_nn {t c : Int} (hc : 1 ≤ c) (h : 0 ≤ t) : ∀ z ∈ evenI t c, 0 ≤ z := fun z hz => by
  have h0 := Int.ediv_nonneg h (show 0 ≤ c by omega)
  unfold evenI at hz
  rcases List.mem_append.mp hz with q | q <;> (have := List.eq_of_mem_replicate q; omega)
/-- fewer cups hold no less -/
theorem even_fewer {t c d : Int} (hc : 1 ≤ c) (hcd : c ≤ d) (h : 0 ≤ t) (i : Nat) (hi : (i : Int) < c) : (evenI t d).getD i 0 ≤ (evenI t c).getD i 0 := by
  rw [even_get (by omega) i (by omega), even_get hc i hi]
  have e1 : (t + (d - 1 - i)) / d = (t - 1 - i) / d + 1 := by
    rw [show t + (d - 1 - i) = (t - 1 - i) + d * 1 by omega, Int.add_mul_ediv_left _ _ (by omega)]
  have e2 : (t + (c - 1 - i)) / c = (t - 1 - i) / c + 1 := by
    rw [show t + (c - 1 - i) = (t - 1 - i) + c * 1 by omega, Int.add_mul_ediv_left _ _ (by omega)]
  rw [e1, e2]
  by_cases hx : 0 ≤ t - 1 - i
  · have : (t - 1 - i) / d ≤ (t - 1 - i) / c := by
      have h1 := Int.mul_ediv_self_le (x := t - 1 - i) (k := d) (by omega)
      rw [Int.le_ediv_iff_mul_le (by omega)]
      have h0 := Int.ediv_nonneg hx (show 0 ≤ d by omega)
      have h2 : (t - 1 - i) / d * c ≤ (t - 1 - i) / d * d := Int.mul_le_mul_of_nonneg_left hcd h0
      rw [Int.mul_comm d] at h1
      omega
    omega
  · have a1 : (t - 1 - i) / d = -1 := by
      rw [show t - 1 - i = (t - 1 - i + d) + d * (-1) by omega, Int.add_mul_ediv_left _ _ (by omega), Int.ediv_eq_zero_of_lt (by omega) (by omega)]
      omega
    have a2 : (t - 1 - i) / c = -1 := by
      rw [show t - 1 - i = (t - 1 - i + c) + c * (-1) by omega, Int.add_mul_ediv_left _ _ (by omega), Int.ediv_eq_zero_of_lt (by omega) (by omega)]
      omega
    omega
theorem ediv_uniq {t c q r : Int} (hc : 0 < c) (e : t = q * c + r) (h0 : 0 ≤ r) (h1 : r < c) : t / c = q ∧ t % c = r := by
  have h : t / c = q := by
    rw [e, Int.add_comm, Int.add_mul_ediv_right _ _ (by omega), Int.ediv_eq_zero_of_lt h0 h1, Int.zero_add]
  refine ⟨h, ?_⟩
  have := Int.emod_add_mul_ediv t c
  rw [h, Int.mul_comm] at this
  omega
/-- without the p greatest, the shares are even -/
theorem even_drop {t c p : Int} (hp : 0 ≤ p) (hpc : p < c) : (evenI t c).drop p.toNat = evenI (t - topI t c p) (c - p) := by
  have h1 := Int.emod_nonneg t (show c ≠ 0 by omega)
  have h2 := Int.emod_lt_of_pos t (show 0 < c by omega)
  have h3 := Int.emod_add_mul_ediv t c
  have hm : c * (t / c) = t / c * (c - p) + t / c * p := by rw [← Int.mul_add, Int.mul_comm]; congr 1; omega
  by_cases h : p ≤ t % c
  · have u := ediv_uniq (t := t - topI t c p) (c := c - p) (q := t / c) (r := t % c - p) (by omega) (by unfold topI; rw [Int.min_eq_right h]; omega) (by omega) (by omega)
    unfold evenI
    rw [u.1, u.2, List.drop_append_of_le_length (by rw [List.length_replicate]; omega), List.drop_replicate]
    rw [show (t % c).toNat - p.toNat = (t % c - p).toNat by omega, show c - p - (t % c - p) = c - t % c by omega]
  · have u := ediv_uniq (t := t - topI t c p) (c := c - p) (q := t / c) (r := 0) (by omega) (by unfold topI; rw [Int.min_eq_left (by omega)]; omega) (by omega) (by omega)
    unfold evenI
    rw [u.1, u.2, List.drop_append, List.drop_replicate, List.drop_replicate, List.length_replicate]
    rw [show (t % c).toNat - p.toNat = 0 by omega, show (0 : Int).toNat = 0 from rfl, show (c - t % c).toNat - (p.toNat - (t % c).toNat) = (c - p - 0).toNat by omega]
theorem even_zero (c : Int) : evenI 0 c = List.replicate c.toNat 0 := by
  unfold evenI
  rw [Int.zero_emod, Int.zero_ediv]
  show [] ++ List.replicate (c - 0).toNat 0 = _
  rw [List.nil_append, Int.sub_zero]
/-! ### sorted as it is -/
theorem sortB_self {l : List Int} (h : l.Pairwise (· ≥ ·)) : sortB true l = l := by
  have h1 := sortB_down l
  have h2 := sortB_perm true l
  exact List.Perm.eq_of_pairwise (le := fun a b => a ≥ b) (fun a b _ _ h1 h2 => Int.le_antisymm h2 h1) h1 h h2
theorem down_zeros {l : List Int} (h : l.Pairwise (· ≥ ·)) (hn : ∀ z ∈ l, 0 ≤ z) (k : Nat) : (l ++ List.replicate k 0).Pairwise (· ≥ ·) := by
  rw [List.pairwise_append]
  refine ⟨h, List.pairwise_replicate.mpr (.inr (Int.le_refl 0)), fun a ha b hb => ?_⟩
  rw [List.eq_of_mem_replicate hb]
  exact hn a ha
/-- so many cups, even shares of so much, the others empty -/
def liveI (n : Int) (t c : Int) : List Int := evenI t c ++ List.replicate (n - c).toNat 0
theorem live_len {n t c : Int} (hc : 1 ≤ c) (h : c ≤ n) : ((liveI n t c).length : Int) = n := by
  have := evenI_length (t := t) hc
  unfold liveI
  rw [List.length_append, List.length_replicate]
  omega
theorem live_nn {n t c : Int} (hc : 1 ≤ c) (h : 0 ≤ t) : ∀ z ∈ liveI n t c, 0 ≤ z := fun z hz => by
  rcases List.mem_append.mp hz with q | q
  · exact even_nn hc h z q
  · rw [List.eq_of_mem_replicate q]; exact Int.le_refl _
theorem live_down {n t c : Int} (hc : 1 ≤ c) (h : 0 ≤ t) : (liveI n t c).Pairwise (· ≥ ·) := down_zeros (even_falls t c) (even_nn hc h) _
theorem live_get {n t c : Int} (hc : 1 ≤ c) (i : Nat) : (liveI n t c).getD i 0 = (evenI t c).getD i 0 := by
  have hl := evenI_length (t := t) hc
  unfold liveI
  by_cases hi : (i : Int) < c
  · rw [List.getD_eq_getElem?_getD, List.getD_eq_getElem?_getD, List.getElem?_append_left (by omega)]
  · rw [even_get0 hc i (by omega), List.getD_eq_getElem?_getD, List.getElem?_append_right (by omega), List.getElem?_replicate]
    split <;> rfl
theorem live_take {n t c j : Int} (hc : 1 ≤ c) (hj : c ≤ j) : ((liveI n t c).take j.toNat).sum = t := by
  have hl := evenI_length (t := t) hc
  unfold liveI
  rw [List.take_append, List.take_of_length_le (by omega), List.sum_append, even_sum hc, List.take_replicate, sum_rep]
  omega
theorem live_zero {n c : Int} (hc : 1 ≤ c) (h : c ≤ n) : liveI n 0 c = zeroI n := by
  unfold liveI zeroI
  rw [even_zero, List.replicate_append_replicate]
  congr 1
  omega
/-- what stays of even shares -/
theorem live_stays {n t c p : Int} (hp : 1 ≤ p) (hpc : p < c) (hcn : c ≤ n) (h : 0 ≤ t) : staysI (liveI n t c) p.toNat = liveI n (t - topI t c p) (c - p) := by
  have hl := evenI_length (t := t) (c := c) (by omega)
  unfold staysI
  rw [sortB_self (live_down (by omega) h)]
  unfold liveI
  rw [List.drop_append_of_le_length (by omega), even_drop (by omega) hpc, List.append_assoc, List.replicate_append_replicate]
  congr 2
  omega
/-! ### the told ladder -/
/-- how many cups matter behind so many beats of T -/
def jLad (n p j : Int) (T k : Nat) : Int := min (j + p * ((T : Int) - k)) (n - p)
def uLad (n g p j : Int) (T k : Nat) : Int := (rowI n g p k).getD (jLad n p j T k - 1).toNat 0
def stLad (n g p j : Int) (T k : Nat) : List Int := liveI n (uLad n g p j T k) (jLad n p j T k)
def lLad (n p j : Int) (T k : Nat) : Int := min n (j + p * ((T : Int) - k))
def goLad (n g p j : Int) (T k : Nat) : List Int := liveI n (uLad n g p j T k + g) (lLad n p j T k)
def subI (a b : List Int) : List Int := (a.zip b).map fun p => p.1 - p.2
theorem subI_len {a b : List Int} (h : b.length = a.length) : (subI a b).length = a.length := by unfold subI; rw [List.length_map, List.length_zip]; omega
theorem subI_at {a b : List Int} (h : b.length = a.length) (i : Nat) : (subI a b).getD i 0 = a.getD i 0 - b.getD i 0 := by
  unfold subI
  rw [List.getD_eq_getElem?_getD, List.getD_eq_getElem?_getD, List.getD_eq_getElem?_getD, List.getElem?_map]
  by_cases hi : i < a.length
  · rw [List.getElem?_eq_getElem (show i < (a.zip b).length by rw [List.length_zip]; omega), List.getElem?_eq_getElem hi, List.getElem?_eq_getElem (show i < b.length by omega), List.getElem_zip]
    rfl
  · rw [List.getElem?_eq_none (by rw [List.length_zip]; omega), List.getElem?_eq_none (by omega), List.getElem?_eq_none (by omega)]
    rfl
def poLad (n g p j : Int) (T k : Nat) : List Int := subI (goLad n g p j T k) (stLad n g p j T k)
section
variable {n g p j : Int} {T k : Nat}
theorem mulp_nn (hp : 1 ≤ p) (hk : k ≤ T) : 0 ≤ p * ((T : Int) - k) := Int.mul_nonneg (by omega) (by omega)
theorem mulp_ge (hp : 1 ≤ p) (hk : k < T) : p ≤ p * ((T : Int) - k) := by
  have := Int.mul_le_mul_of_nonneg_left (show (1 : Int) ≤ (T : Int) - k by omega) (show 0 ≤ p by omega)
  omega
theorem mulp_succ : p * ((T : Int) - (k + 1 : Nat)) = p * ((T : Int) - k) - p := by
  rw [show (T : Int) - (k + 1 : Nat) = (T : Int) - k - 1 by omega, Int.mul_sub, Int.mul_one]
theorem jLad_in (hp : 1 ≤ p) (hpn : p ≤ n - 1) (hj : 1 ≤ j) (hk : k ≤ T) : 1 ≤ jLad n p j T k ∧ jLad n p j T k ≤ n - p := by
  have := mulp_nn (T := T) (k := k) hp hk
  unfold jLad
  omega
theorem lLad_in (hp : 1 ≤ p) (hpn : p ≤ n - 1) (hj : 1 ≤ j) (hk : k < T) : p < lLad n p j T k ∧ lLad n p j T k ≤ n ∧ jLad n p j T k = min (lLad n p j T k) (n - p) ∧ jLad n p j T (k + 1) = lLad n p j T k - p := by
  have h1 := mulp_ge (T := T) (k := k) hp hk
  have h2 := mulp_succ (p := p) (T := T) (k := k)
  unfold jLad lLad
  rw [h2]
  generalize p * ((T : Int) - k) = q at *
  omega
theorem uLad_nn (hn : 2 ≤ n) (hg : 0 ≤ g) (hp : 1 ≤ p) (hpn : p ≤ n - 1) : 0 ≤ uLad n g p j T k := getD_nn (row_ok hn hg hp hpn k).nn _
/-- the rule of the table, at the cups that matter -/
theorem uLad_succ (hn : 2 ≤ n) (hg : 0 ≤ g) (hp : 1 ≤ p) (hpn : p ≤ n - 1) (hj : 1 ≤ j) (hk : k < T) : uLad n g p j T (k + 1) = uLad n g p j T k + g - topI (uLad n g p j T k + g) (lLad n p j T k) p := by
  obtain ⟨a1, a2, a3, a4⟩ := lLad_in (n := n) (j := j) hp hpn hj hk
  unfold uLad
  rw [show rowI n g p (k + 1) = nextI n g p (rowI n g p k) from rfl, nextI_get _ hp hpn _ (by rw [a4]; omega)]
  unfold leastI
  rw [a3, a4]
  rw [show min (1 + ((lLad n p j T k - p - 1).toNat : Int)) (n - p) = lLad n p j T k - p by omega, show lLad n p j T k - p + p = lLad n p j T k by omega]
theorem goLad_ge (hn : 2 ≤ n) (hg : 0 ≤ g) (hp : 1 ≤ p) (hpn : p ≤ n - 1) (hj : 1 ≤ j) (hk : k < T) (i : Nat) : (stLad n g p j T k).getD i 0 ≤ (goLad n g p j T k).getD i 0 := by
  obtain ⟨a1, a2, a3, a4⟩ := lLad_in (n := n) (j := j) hp hpn hj hk
  obtain ⟨b1, b2⟩ := jLad_in (n := n) (p := p) (j := j) (T := T) (k := k) hp hpn hj (by omega)
  have hu := uLad_nn (n := n) (g := g) (p := p) (j := j) (T := T) (k := k) hn hg hp hpn
  have hrise : uLad n g p j T k ≤ (rowI n g p (k + 1)).getD (jLad n p j T k - 1).toNat 0 := row_rises hn hg hp hpn k _
  unfold stLad goLad
  rw [live_get b1, live_get (by omega)]
  by_cases hc : lLad n p j T k ≤ n - p
  · rw [a3, Int.min_eq_left hc]
    exact even_mono (by omega) (by omega) i
  · have e : jLad n p j T k = n - p := by omega
    rw [e]
    by_cases hi : (i : Int) < n - p
    · rw [e] at hrise
      rw [show rowI n g p (k + 1) = nextI n g p (rowI n g p k) from rfl, nextI_get _ hp hpn _ (by omega)] at hrise
      unfold leastI at hrise
      rw [show min (1 + ((n - p - 1).toNat : Int)) (n - p) = n - p by omega, show n - p + p = n by omega, show min n (n - p) = n - p by omega] at hrise
      have eu : (rowI n g p k).getD (n - p - 1).toNat 0 = uLad n g p j T k := by unfold uLad; rw [e]
      rw [eu] at hrise
      have q1 := even_mono (c := n - p) (by omega) hrise i
      rw [← even_drop (p := p) (c := n) (by omega) (by omega)] at q1
      refine Int.le_trans q1 ?_
      have hl := evenI_length (t := uLad n g p j T k + g) (c := n) (by omega)
      have q2 : ((evenI (uLad n g p j T k + g) n).drop p.toNat).getD i 0 ≤ (evenI (uLad n g p j T k + g) n).getD i 0 := by
        rw [List.getD_eq_getElem?_getD, List.getElem?_drop, ← List.getD_eq_getElem?_getD, even_get (by omega) _ (by omega), even_get (by omega) _ (by omega)]
        exact Int.ediv_le_ediv (by omega) (by omega)
      exact Int.le_trans q2 (even_fewer (by omega) a2 (by omega) i (by omega))
    · rw [even_get0 (by omega) i (by omega)]
      exact getD_nn (even_nn (by omega) (by omega)) i
theorem stLad_len (hp : 1 ≤ p) (hpn : p ≤ n - 1) (hj : 1 ≤ j) (hk : k ≤ T) : ((stLad n g p j T k).length : Int) = n := by
  obtain ⟨b1, b2⟩ := jLad_in (n := n) (p := p) (j := j) (T := T) (k := k) hp hpn hj hk
  exact live_len b1 (by omega)
theorem goLad_len (hp : 1 ≤ p) (hpn : p ≤ n - 1) (hj : 1 ≤ j) (hk : k < T) : ((goLad n g p j T k).length : Int) = n := by
  obtain ⟨a1, a2, a3, a4⟩ := lLad_in (n := n) (j := j) hp hpn hj hk
  exact live_len (by omega) a2
theorem poLad_len (hp : 1 ≤ p) (hpn : p ≤ n - 1) (hj : 1 ≤ j) (hk : k < T) : ((poLad n g p j T k).length : Int) = n := by
  have h1 := stLad_len (n := n) (g := g) (p := p) (j := j) (T := T) (k := k) hp hpn hj (by omega)
  have h2 := goLad_len (n := n) (g := g) (p := p) (j := j) (T := T) (k := k) hp hpn hj hk
  unfold poLad
  rw [subI_len (by omega)]
  exact h2
theorem nn_of_get {l : List Int} (h : ∀ i, 0 ≤ l.getD i 0) : ∀ z ∈ l, 0 ≤ z := fun z hz => by
  obtain ⟨i, hi, rfl⟩ := List.mem_iff_getElem.mp hz
  have := h i
  rwa [List.getD_eq_getElem?_getD, List.getElem?_eq_getElem hi] at this
theorem poLad_nn (hn : 2 ≤ n) (hg : 0 ≤ g) (hp : 1 ≤ p) (hpn : p ≤ n - 1) (hj : 1 ≤ j) (hk : k < T) : ∀ z ∈ poLad n g p j T k, 0 ≤ z := nn_of_get fun i => by
  have h1 := stLad_len (n := n) (g := g) (p := p) (j := j) (T := T) (k := k) hp hpn hj (by omega)
  have h2 := goLad_len (n := n) (g := g) (p := p) (j := j) (T := T) (k := k) hp hpn hj hk
  unfold poLad
  rw [subI_at (by omega)]
  have := goLad_ge hn hg hp hpn hj hk i
  omega
theorem sum_of_get : ∀ {a b c : List Int}, a.length = b.length → b.length = c.length → (∀ i, a.getD i 0 = b.getD i 0 - c.getD i 0) → a.sum = b.sum - c.sum
  | [], [], [], _, _, _ => rfl
  | x :: a, y :: b, z :: c, h1, h2, h => by
    have h0 : x = y - z := h 0
    have ih := sum_of_get (a := a) (b := b) (c := c) (by simpa using h1) (by simpa using h2) fun i => h (i + 1)
    rw [List.sum_cons, List.sum_cons, List.sum_cons, ih, h0]
    omega
  | [], _ :: _, _, h, _, _ => by simp at h
  | _ :: _, [], _, h, _, _ => by simp at h
  | [], [], _ :: _, _, h, _ => by simp at h
  | _ :: _, _ :: _, [], _, h, _ => by simp at h
theorem live_sum {n t c : Int} (hc : 1 ≤ c) : (liveI n t c).sum = t := by
  unfold liveI
  rw [List.sum_append, even_sum hc, sum_rep]
  omega
theorem poLad_sum (hp : 1 ≤ p) (hpn : p ≤ n - 1) (hj : 1 ≤ j) (hk : k < T) : (poLad n g p j T k).sum = g := by
  have h1 := stLad_len (n := n) (g := g) (p := p) (j := j) (T := T) (k := k) hp hpn hj (by omega)
  have h2 := goLad_len (n := n) (g := g) (p := p) (j := j) (T := T) (k := k) hp hpn hj hk
  obtain ⟨a1, a2, a3, a4⟩ := lLad_in (n := n) (j := j) hp hpn hj hk
  obtain ⟨b1, b2⟩ := jLad_in (n := n) (p := p) (j := j) (T := T) (k := k) hp hpn hj (by omega)
  unfold poLad
  rw [sum_of_get (b := goLad n g p j T k) (c := stLad n g p j T k) (subI_len (by omega)) (by omega) fun i => subI_at (by omega) i]
  unfold goLad stLad
  rw [live_sum (by omega), live_sum b1]
  omega
theorem add_poLad (hp : 1 ≤ p) (hpn : p ≤ n - 1) (hj : 1 ≤ j) (hk : k < T) : addI (stLad n g p j T k) (poLad n g p j T k) = goLad n g p j T k := by
  have h1 := stLad_len (n := n) (g := g) (p := p) (j := j) (T := T) (k := k) hp hpn hj (by omega)
  have h2 := goLad_len (n := n) (g := g) (p := p) (j := j) (T := T) (k := k) hp hpn hj hk
  have h3 := poLad_len (n := n) (g := g) (p := p) (j := j) (T := T) (k := k) hp hpn hj hk
  refine ext_getD (by rw [addI_len (by omega)]; omega) fun i _ => ?_
  rw [addI_at (by omega)]
  unfold poLad
  rw [subI_at (by omega)]
  omega
theorem stays_go (hn : 2 ≤ n) (hg : 0 ≤ g) (hp : 1 ≤ p) (hpn : p ≤ n - 1) (hj : 1 ≤ j) (hk : k < T) : staysI (goLad n g p j T k) p.toNat = stLad n g p j T (k + 1) := by
  obtain ⟨a1, a2, a3, a4⟩ := lLad_in (n := n) (j := j) hp hpn hj hk
  have hu := uLad_nn (n := n) (g := g) (p := p) (j := j) (T := T) (k := k) hn hg hp hpn
  unfold goLad stLad
  rw [live_stays hp a1 a2 (by omega), uLad_succ hn hg hp hpn hj hk, a4]
/-- what evening out makes of the standing -/
theorem even_out (hp : 1 ≤ p) (hpn : p ≤ n - 1) (hj : 1 ≤ j) (hk : k < T) : subI (evenI (((stLad n g p j T k).take (lLad n p j T k).toNat).sum + g) (lLad n p j T k)) ((stLad n g p j T k).take (lLad n p j T k).toNat) ++ List.replicate (n - lLad n p j T k).toNat 0 = poLad n g p j T k := by
  obtain ⟨a1, a2, a3, a4⟩ := lLad_in (n := n) (j := j) hp hpn hj hk
  obtain ⟨b1, b2⟩ := jLad_in (n := n) (p := p) (j := j) (T := T) (k := k) hp hpn hj (by omega)
  have h1 := stLad_len (n := n) (g := g) (p := p) (j := j) (T := T) (k := k) hp hpn hj (by omega)
  have h2 := goLad_len (n := n) (g := g) (p := p) (j := j) (T := T) (k := k) hp hpn hj hk
  have h3 := poLad_len (n := n) (g := g) (p := p) (j := j) (T := T) (k := k) hp hpn hj hk
  have e0 : ((stLad n g p j T k).take (lLad n p j T k).toNat).sum = uLad n g p j T k := live_take b1 (by omega)
  rw [e0]
  have hl := evenI_length (t := uLad n g p j T k + g) (c := lLad n p j T k) (by omega)
  have ht : ((stLad n g p j T k).take (lLad n p j T k).toNat).length = (evenI (uLad n g p j T k + g) (lLad n p j T k)).length := by rw [List.length_take]; omega
  have hs := subI_len ht
  refine ext_getD (by rw [List.length_append, hs, List.length_replicate]; omega) fun i _ => ?_
  have hgo : (goLad n g p j T k).getD i 0 = (evenI (uLad n g p j T k + g) (lLad n p j T k)).getD i 0 := live_get (by omega) i
  have hp1 : (poLad n g p j T k).getD i 0 = (goLad n g p j T k).getD i 0 - (stLad n g p j T k).getD i 0 := subI_at (by omega) i
  rw [hp1, hgo]
  by_cases hi : (i : Int) < lLad n p j T k
  · rw [List.getD_eq_getElem?_getD, List.getElem?_append_left (by omega), ← List.getD_eq_getElem?_getD, subI_at ht]
    congr 1
    rw [List.getD_eq_getElem?_getD, List.getElem?_take, if_pos (by omega), List.getD_eq_getElem?_getD]
  · rw [even_get0 (by omega) i (by omega)]
    have : (stLad n g p j T k).getD i 0 = 0 := (live_get b1 i).trans (even_get0 b1 i (by omega))
    rw [this, List.getD_eq_getElem?_getD, List.getElem?_append_right (by omega), List.getElem?_replicate]
    split <;> rfl
theorem stLad_zero (hn : 2 ≤ n) (hp : 1 ≤ p) (hpn : p ≤ n - 1) (hj : 1 ≤ j) : stLad n g p j T 0 = zeroI n := by
  obtain ⟨b1, b2⟩ := jLad_in (n := n) (p := p) (j := j) (T := T) (k := 0) hp hpn hj (by omega)
  have e : uLad n g p j T 0 = 0 := zeroI_get n _
  unfold stLad
  rw [e]
  exact live_zero b1 (by omega)
/-- the end: the fullest hold what the table tells -/
theorem stLad_end (hn : 2 ≤ n) (hg : 0 ≤ g) (hp : 1 ≤ p) (hpn : p ≤ n - 1) (hj : 1 ≤ j) (hjn : j ≤ n) : ((stLad n g p j T T).take j.toNat).sum = (rowI n g p T).getD (j - 1).toNat 0 := by
  have e : jLad n p j T T = min j (n - p) := by unfold jLad; rw [Int.sub_self, Int.mul_zero, Int.add_zero]
  have e1 : ((stLad n g p j T T).take j.toNat).sum = uLad n g p j T T := live_take (by rw [e]; omega) (by rw [e]; omega)
  rw [e1]
  unfold uLad
  rw [e]
  cases T with
  | zero =>
    show (zeroI n).getD _ 0 = (zeroI n).getD _ 0
    rw [zeroI_get, zeroI_get]
  | succ T =>
    rw [show rowI n g p (T + 1) = nextI n g p (rowI n g p T) from rfl, nextI_get _ hp hpn _ (by omega), nextI_get _ hp hpn _ (by omega)]
    congr 1
    omega
end
/-! ### ladders -/
/-- a step behind what came -/
structure OkStep (n g : Int) (came : List Int) (s : List Int × List Int) : Prop where
  l1 : (s.1.length : Int) = n
  n1 : ∀ z ∈ s.1, 0 ≤ z
  l2 : (s.2.length : Int) = n
  n2 : ∀ z ∈ s.2, 0 ≤ z
  falls : s.1.Pairwise (· ≥ ·)
  sum : s.2.sum = g
  over : ∀ i, s.1.getD i 0 ≤ came.getD i 0
/-- steps from what came, to what comes then -/
def Lad (n g p : Int) : List Int → List (List Int × List Int) → List Int → Prop
  | came, [], e => e = came
  | came, s :: r, e => OkStep n g came s ∧ Lad n g p (staysI (addI s.1 s.2) p.toNat) r e
theorem Lad.app {n g p : Int} : ∀ {a b : List (List Int × List Int)} {c d e : List Int}, Lad n g p c a d → Lad n g p d b e → Lad n g p c (a ++ b) e
  | [], _, _, _, _, h, k => by cases h; exact k
  | _ :: _, _, _, _, _, ⟨h1, h2⟩, k => ⟨h1, Lad.app h2 k⟩
/-- a ladder goes on from whatever is nowhere less -/
theorem Lad.from {n g p : Int} : ∀ {a : List (List Int × List Int)} {c d e : List Int}, Lad n g p c a e → (∀ i, c.getD i 0 ≤ d.getD i 0) → ∃ e', Lad n g p d a e' ∧ (∀ i, e.getD i 0 ≤ e'.getD i 0) ∧ (a ≠ [] → e' = e) ∧ (a = [] → e' = d)
  | [], _, d, _, h, k => by cases h; exact ⟨d, rfl, k, fun z => absurd rfl z, fun _ => rfl⟩
  | s :: r, _, d, e, ⟨h1, h2⟩, k => ⟨e, ⟨⟨h1.l1, h1.n1, h1.l2, h1.n2, h1.falls, h1.sum, fun i => Int.le_trans (h1.over i) (k i)⟩, h2⟩, fun _ => Int.le_refl _, fun _ => rfl, fun z => nomatch z⟩
/-- the told steps -/
def stepsLad (n g p j : Int) (T : Nat) : List (List Int × List Int) := (List.range T).map fun k => (stLad n g p j T k, poLad n g p j T k)
theorem lad_told {n g p j : Int} {T : Nat} (hn : 2 ≤ n) (hg : 0 ≤ g) (hp : 1 ≤ p) (hpn : p ≤ n - 1) (hj : 1 ≤ j) : ∀ k, k ≤ T → Lad n g p (zeroI n) ((List.range k).map fun k => (stLad n g p j T k, poLad n g p j T k)) (stLad n g p j T k)
  | 0, _ => stLad_zero hn hp hpn hj
  | k + 1, hk => by
    rw [List.range_succ, List.map_append]
    refine (lad_told hn hg hp hpn hj k (by omega)).app ⟨⟨stLad_len hp hpn hj (by omega), ?_, poLad_len hp hpn hj (by omega), poLad_nn hn hg hp hpn hj (by omega), ?_, poLad_sum hp hpn hj (by omega), fun _ => Int.le_refl _⟩, ?_⟩
    · exact live_nn (jLad_in hp hpn hj (by omega)).1 (uLad_nn hn hg hp hpn)
    · exact live_down (jLad_in hp hpn hj (by omega)).1 (uLad_nn hn hg hp hpn)
    · show _ = _
      rw [add_poLad hp hpn hj (by omega), stays_go hn hg hp hpn hj (by omega)]
theorem lad_all {n g p j : Int} {T : Nat} (hn : 2 ≤ n) (hg : 0 ≤ g) (hp : 1 ≤ p) (hpn : p ≤ n - 1) (hj : 1 ≤ j) : Lad n g p (zeroI n) (stepsLad n g p j T) (stLad n g p j T T) := lad_told hn hg hp hpn hj T (Nat.le_refl _)
def stepD (s : List Int × List Int) : D := .tuple [.tuple (s.1.map .int), .tuple (s.2.map .int)]
end DL
/-! # DLw: tables beside one another -/
namespace DL
open PySem PySem.Spec PyProof.Rows L2
theorem topI_of {q x c m : Int} (hc : 1 ≤ c) (hx : 0 ≤ x) (hxc : x ≤ c) (hm : 0 ≤ m) (hmc : m ≤ c) : topI (c * q + x) c m = q * m + min x m := by
  rw [Int.add_comm, topI_step hc]
  have : topI x c m = min x m := by
    unfold topI
    by_cases h : x = c
    · subst h
      rw [Int.ediv_self (by omega), Int.emod_self]
      omega
    · rw [Int.ediv_eq_zero_of_lt hx (by omega), Int.emod_eq_of_lt hx (by omega)]
      omega
  omega
theorem part_of (a : Int) {c : Int} (hc : 1 ≤ c) : ∃ q x, a = c * q + x ∧ 0 ≤ x ∧ x < c ∧ q = a / c := ⟨a / c, a % c, by have := Int.emod_add_mul_ediv a c; omega, Int.emod_nonneg a (by omega), Int.emod_lt_of_pos a (by omega), rfl⟩
/-- one emptied, then p more: p + 1 emptied -/
theorem lag_lag {a k p : Int} (hk : 1 ≤ k) (hp : 0 ≤ p) (hpk : p ≤ k) : (a - topI a (k + 1) 1) - topI (a - topI a (k + 1) 1) k p = a - topI a (k + 1) (p + 1) := by
  obtain ⟨q, x, rfl, x0, x1, _⟩ := part_of a (c := k + 1) (by omega)
  rw [topI_of (by omega) x0 (by omega) (by omega) (by omega), topI_of (by omega) x0 (by omega) (by omega) (by omega)]
  have e : (k + 1) * q + x - (q * 1 + min x 1) = k * q + (x - min x 1) := by rw [Int.add_mul, Int.one_mul, Int.mul_one]; omega
  rw [e, topI_of hk (by omega) (by omega) hp hpk]
  have e2 : q * (p + 1) = q * p + q := by rw [Int.mul_add, Int.mul_one]
  have e3 : (k + 1) * q = k * q + q := by rw [Int.add_mul, Int.one_mul]
  omega
/-- the greater ones of all but one, p of them emptied: what is left of the shares over one more, the last left out -/
theorem top_lag {a k p : Int} (hk : 1 ≤ k) (hp : 0 ≤ p) : topI (a - topI a (k + 1 + p) p) (k + 1) k = topI a (k + 1 + p) (k + p) - topI (topI a (k + 1 + p) (k + p)) (k + p) p := by
  obtain ⟨q, x, rfl, x0, x1, _⟩ := part_of a (c := k + 1 + p) (by omega)
  rw [topI_of (by omega) x0 (by omega) hp (by omega), topI_of (by omega) x0 (by omega) (by omega) (by omega)]
  have e : (k + 1 + p) * q + x - (q * p + min x p) = (k + 1) * q + (x - min x p) := by rw [Int.add_mul _ p, Int.mul_comm p]; omega
  have e2 : q * (k + p) + min x (k + p) = (k + p) * q + x := by rw [Int.mul_comm, Int.min_eq_left (by omega)]
  rw [e, e2, topI_of (by omega) (by omega) (by omega) (by omega) (by omega), topI_of (by omega) x0 (by omega) hp (by omega)]
  have e3 : (k + p) * q = q * k + q * p := by rw [Int.mul_comm, Int.mul_add]
  omega
theorem topI_fewer {a c m : Int} (ha : 0 ≤ a) (hc : 1 ≤ c) (hm : 0 ≤ m) (hmc : m ≤ c) : topI a (c + 1) m ≤ topI a c m := by
  have hl := evenI_length (t := a) hc
  have h := even_best (l := evenI a c ++ [0]) (t := a) (c := c + 1) (m := m) (by omega) hm (by omega) (by rw [List.length_append]; simp; omega) (by rw [List.sum_append, even_sum hc]; simp) (by
    rw [List.pairwise_append]
    refine ⟨even_falls a c, by simp, fun x hx y hy => ?_⟩
    simp only [List.mem_singleton] at hy
    subst hy
    show 0 ≤ x
    have hq : 0 ≤ a / c := Int.ediv_nonneg ha (by omega)
    unfold evenI at hx
    rcases List.mem_append.mp hx with h | h
    · rw [(List.mem_replicate.mp h).2]; omega
    · rw [(List.mem_replicate.mp h).2]; exact hq)
  rw [List.take_append_of_le_length (by omega), even_top hc hm hmc] at h
  exact h
theorem topI_more {a b c m : Int} (hc : 1 ≤ c) (hm : 0 ≤ m) (hmc : m ≤ c) (hb : 0 ≤ b) : topI (a + b) c m ≤ topI a c m + b := by
  have := lag_mono (a := a) (b := a + b) hc hm hmc (by omega)
  omega
/-! the rows -/
theorem row_getW (n g p : Int) (t k : Nat) (hp : 1 ≤ p) (hpn : p ≤ n - 1) (hk : (k : Int) < n) : (rowI n g p (t + 1)).getD k 0 = leastI n g p (rowI n g p t) (min (1 + (k : Nat)) (n - p)) := nextI_get _ hp hpn k hk
/-- one fullest more is no less -/
theorem row_up {n g p : Int} (hn : 2 ≤ n) (hg : 0 ≤ g) (hp : 1 ≤ p) (hpn : p ≤ n - 1) : ∀ (t k : Nat), (k : Int) + 1 < n → (rowI n g p t).getD k 0 ≤ (rowI n g p t).getD (k + 1) 0
  | 0, k, _ => by show (zeroI n).getD k 0 ≤ (zeroI n).getD (k + 1) 0; rw [zeroI_get, zeroI_get]; exact Int.le_refl _
  | t + 1, k, hk => by
    rw [row_getW n g p t k hp hpn (by omega), row_getW n g p t (k + 1) hp hpn (by omega)]
    by_cases h : (k : Int) + 1 < n - p
    · rw [show min (1 + ((k : Nat) : Int)) (n - p) = (k : Int) + 1 by omega, show min (1 + ((k + 1 : Nat) : Int)) (n - p) = (k : Int) + 1 + 1 by omega]
      unfold leastI
      have nn := getD_nn (row_ok hn hg hp hpn t).nn
      have ih : (rowI n g p t).getD (min ((k : Int) + 1 + p) (n - p) - 1).toNat 0 ≤ (rowI n g p t).getD (min ((k : Int) + 1 + 1 + p) (n - p) - 1).toNat 0 := by
        by_cases h2 : (k : Int) + 1 + p < n - p
        · rw [show (min ((k : Int) + 1 + 1 + p) (n - p) - 1).toNat = (min ((k : Int) + 1 + p) (n - p) - 1).toNat + 1 by omega]
          exact row_up hn hg hp hpn t _ (by omega)
        · rw [show (min ((k : Int) + 1 + 1 + p) (n - p) - 1).toNat = (min ((k : Int) + 1 + p) (n - p) - 1).toNat by omega]
          exact Int.le_refl _
      have a1 := nn (min ((k : Int) + 1 + p) (n - p) - 1).toNat
      generalize (rowI n g p t).getD (min ((k : Int) + 1 + p) (n - p) - 1).toNat 0 = A at *
      generalize (rowI n g p t).getD (min ((k : Int) + 1 + 1 + p) (n - p) - 1).toNat 0 = B at *
      have f := topI_fewer (a := A + g) (c := (k : Int) + 1 + p) (m := p) (by omega) (by omega) (by omega) (by omega)
      have l := lag_mono (c := (k : Int) + 1 + 1 + p) (m := p) (a := A + g) (b := B + g) (by omega) (by omega) (by omega) (by omega)
      rw [show (k : Int) + 1 + 1 + p = (k : Int) + 1 + p + 1 by omega] at l ⊢
      omega
    · rw [show min (1 + ((k : Nat) : Int)) (n - p) = min (1 + ((k + 1 : Nat) : Int)) (n - p) by omega]
      exact Int.le_refl _
theorem row_up_to {n g p : Int} (hn : 2 ≤ n) (hg : 0 ≤ g) (hp : 1 ≤ p) (hpn : p ≤ n - 1) (t k : Nat) : ∀ d : Nat, (k : Int) + d < n → (rowI n g p t).getD k 0 ≤ (rowI n g p t).getD (k + d) 0
  | 0, _ => Int.le_refl _
  | d + 1, h => Int.le_trans (row_up_to hn hg hp hpn t k d (by omega)) (row_up hn hg hp hpn t (k + d) (by omega))
theorem row_upI {n g p : Int} (hn : 2 ≤ n) (hg : 0 ≤ g) (hp : 1 ≤ p) (hpn : p ≤ n - 1) (t a b : Nat) (hab : a ≤ b) (hb : (b : Int) < n) : (rowI n g p t).getD a 0 ≤ (rowI n g p t).getD b 0 := by
  have := row_up_to hn hg hp hpn t a (b - a) (by omega)
  rwa [show a + (b - a) = b by omega] at this
theorem row_flatW {n g p : Int} (hn : 2 ≤ n) (hg : 0 ≤ g) (hp : 1 ≤ p) (hpn : p ≤ n - 1) : ∀ (t k : Nat), n - p ≤ (k : Int) + 1 → (k : Int) < n → (rowI n g p t).getD k 0 = (rowI n g p t).getD (n - p - 1).toNat 0
  | 0, k, _, _ => by show (zeroI n).getD k 0 = (zeroI n).getD _ 0; rw [zeroI_get, zeroI_get]
  | t + 1, k, h1, h2 => by
    rw [row_getW n g p t k hp hpn h2, row_getW n g p t _ hp hpn (by omega)]
    congr 1
    omega
/-- one cup more -/
theorem row_cup {n g p : Int} (hn : 2 ≤ n) (hg : 0 ≤ g) (hp : 1 ≤ p) (hpn : p ≤ n - 1) : ∀ (t k : Nat), (k : Int) < n → (rowI n g p t).getD k 0 ≤ (rowI (n + 1) g p t).getD k 0
  | 0, k, _ => by show (zeroI n).getD k 0 ≤ (zeroI (n + 1)).getD k 0; rw [zeroI_get, zeroI_get]; exact Int.le_refl _
  | t + 1, k, hk => by
    have step : ∀ k : Nat, (k : Int) < n - p → (rowI n g p (t + 1)).getD k 0 ≤ (rowI (n + 1) g p (t + 1)).getD k 0 := by
      intro k hk
      rw [row_getW n g p t k hp hpn (by omega), row_getW (n + 1) g p t k hp (by omega) (by omega)]
      rw [show min (1 + ((k : Nat) : Int)) (n - p) = (k : Int) + 1 by omega, show min (1 + ((k : Nat) : Int)) (n + 1 - p) = (k : Int) + 1 by omega]
      unfold leastI
      have ih := row_cup hn hg hp hpn t (min ((k : Int) + 1 + p) (n - p) - 1).toNat (by omega)
      have u := row_upI (n := n + 1) (by omega) hg hp (by omega) t (min ((k : Int) + 1 + p) (n - p) - 1).toNat (min ((k : Int) + 1 + p) (n + 1 - p) - 1).toNat (by omega) (by omega)
      exact lag_mono (by omega) (by omega) (by omega) (by omega)
    by_cases h : (k : Int) < n - p
    · exact step k h
    · rw [row_flatW hn hg hp hpn (t + 1) k (by omega) hk]
      exact Int.le_trans (step _ (by omega)) (row_upI (n := n + 1) (by omega) hg hp (by omega) (t + 1) _ k (by omega) (by omega))
theorem topI_zero {c m : Int} (hc : 1 ≤ c) (hm : 0 ≤ m) : topI 0 c m = 0 := by
  unfold topI
  rw [Int.zero_ediv, Int.zero_emod, Int.zero_mul]
  omega
/-- of one fullest more, shared evenly, the greater ones hold no more than the fullest do -/
theorem row_share {n g p : Int} (hn : 2 ≤ n) (hg : 0 ≤ g) (hp : 1 ≤ p) (hpn : p ≤ n - 1) : ∀ (t k : Nat), 1 ≤ k → (k : Int) < n → topI ((rowI n g p t).getD k 0) ((k : Int) + 1) k ≤ (rowI n g p t).getD (k - 1) 0
  | 0, k, hk, _ => by
    show topI ((zeroI n).getD k 0) _ _ ≤ (zeroI n).getD _ 0
    rw [zeroI_get, zeroI_get, topI_zero (by omega) (by omega)]
    exact Int.le_refl _
  | t + 1, k, hk, hkn => by
    have nn1 := getD_nn (row_ok hn hg hp hpn (t + 1)).nn k
    by_cases h : (k : Int) + 1 ≤ n - p
    · rw [row_getW n g p t k hp hpn hkn, row_getW n g p t (k - 1) hp hpn (by omega)]
      rw [show min (1 + ((k : Nat) : Int)) (n - p) = (k : Int) + 1 by omega, show min (1 + ((k - 1 : Nat) : Int)) (n - p) = (k : Int) by omega]
      unfold leastI
      have nn := getD_nn (row_ok hn hg hp hpn t).nn (min ((k : Int) + 1 + p) (n - p) - 1).toNat
      rw [top_lag (by omega) (by omega)]
      refine lag_mono (by omega) (by omega) (by omega) ?_
      by_cases h2 : (k : Int) + 1 + p ≤ n - p
      · have ih := row_share hn hg hp hpn t (min ((k : Int) + 1 + p) (n - p) - 1).toNat (by omega) (by omega)
        rw [show ((min ((k : Int) + 1 + p) (n - p) - 1).toNat - 1) = (min ((k : Int) + p) (n - p) - 1).toNat by omega, show (((min ((k : Int) + 1 + p) (n - p) - 1).toNat : Nat) : Int) = (k : Int) + p by omega] at ih
        have m := topI_more (a := (rowI n g p t).getD (min ((k : Int) + 1 + p) (n - p) - 1).toNat 0) (b := g) (c := (k : Int) + 1 + p) (m := (k : Int) + p) (by omega) (by omega) (by omega) hg
        rw [show (k : Int) + p + 1 = (k : Int) + 1 + p by omega] at ih
        omega
      · rw [show (min ((k : Int) + 1 + p) (n - p) - 1).toNat = (min ((k : Int) + p) (n - p) - 1).toNat by omega] at nn ⊢
        exact topI_le (by omega) (by omega) (by omega) (by omega)
    · rw [row_flatW hn hg hp hpn (t + 1) (k - 1) (by omega) (by omega), ← row_flatW hn hg hp hpn (t + 1) k (by omega) hkn]
      exact topI_le nn1 (by omega) (by omega) (by omega)
theorem low_top {a k : Int} (hk : 1 ≤ k) : a - topI a (k + 1) 1 ≤ topI a (k + 1) k := by
  obtain ⟨q, x, rfl, x0, x1, _⟩ := part_of a (c := k + 1) (by omega)
  rw [topI_of (by omega) x0 (by omega) (by omega) (by omega), topI_of (by omega) x0 (by omega) (by omega) (by omega)]
  have e3 : (k + 1) * q = q * k + q := by rw [Int.add_mul, Int.one_mul, Int.mul_comm]
  omega
/-- one scoop more is no more -/
theorem row_scoop {n g p : Int} (hn : 2 ≤ n) (hg : 0 ≤ g) (hp : 1 ≤ p) (hpn : p + 1 ≤ n - 1) : ∀ (t k : Nat), (k : Int) < n → (rowI n g (p + 1) t).getD k 0 ≤ (rowI n g p t).getD k 0
  | 0, k, _ => Int.le_refl _
  | t + 1, k, hk => by
    have step : ∀ k : Nat, (k : Int) + 1 ≤ n - p - 1 → (rowI n g (p + 1) (t + 1)).getD k 0 ≤ (rowI n g p (t + 1)).getD k 0 := by
      intro k hk
      rw [row_getW n g (p + 1) t k (by omega) hpn (by omega), row_getW n g p t k hp (by omega) (by omega)]
      rw [show min (1 + ((k : Nat) : Int)) (n - (p + 1)) = (k : Int) + 1 by omega, show min (1 + ((k : Nat) : Int)) (n - p) = (k : Int) + 1 by omega]
      unfold leastI
      have nn := getD_nn (row_ok hn hg (show 1 ≤ p + 1 by omega) hpn t).nn (min ((k : Int) + 1 + (p + 1)) (n - (p + 1)) - 1).toNat
      rw [show (k : Int) + 1 + (p + 1) = (k : Int) + 1 + p + 1 by omega] at nn ⊢
      rw [← lag_lag (k := (k : Int) + 1 + p) (p := p) (by omega) (by omega) (by omega)]
      refine lag_mono (by omega) (by omega) (by omega) ?_
      by_cases h : (k : Int) + 1 + p + 1 ≤ n - p - 1
      · have s := row_share hn hg (show 1 ≤ p + 1 by omega) hpn t (min ((k : Int) + 1 + p + 1) (n - (p + 1)) - 1).toNat (by omega) (by omega)
        rw [show ((min ((k : Int) + 1 + p + 1) (n - (p + 1)) - 1).toNat - 1) = (min ((k : Int) + 1 + p) (n - p) - 1).toNat by omega, show (((min ((k : Int) + 1 + p + 1) (n - (p + 1)) - 1).toNat : Nat) : Int) = (k : Int) + 1 + p by omega] at s
        have ih := row_scoop hn hg hp hpn t (min ((k : Int) + 1 + p) (n - p) - 1).toNat (by omega)
        have lt := low_top (a := (rowI n g (p + 1) t).getD (min ((k : Int) + 1 + p + 1) (n - (p + 1)) - 1).toNat 0 + g) (k := (k : Int) + 1 + p) (by omega)
        have m := topI_more (a := (rowI n g (p + 1) t).getD (min ((k : Int) + 1 + p + 1) (n - (p + 1)) - 1).toNat 0) (b := g) (c := (k : Int) + 1 + p + 1) (m := (k : Int) + 1 + p) (by omega) (by omega) (by omega) hg
        omega
      · have ih := row_scoop hn hg hp hpn t (min ((k : Int) + 1 + p + 1) (n - (p + 1)) - 1).toNat (by omega)
        have u := row_upI hn hg hp (show p ≤ n - 1 by omega) t (min ((k : Int) + 1 + p + 1) (n - (p + 1)) - 1).toNat (min ((k : Int) + 1 + p) (n - p) - 1).toNat (by omega) (by omega)
        have t0 := topI_nn (t := (rowI n g (p + 1) t).getD (min ((k : Int) + 1 + p + 1) (n - (p + 1)) - 1).toNat 0 + g) (c := (k : Int) + 1 + p + 1) (m := 1) (by omega) (by omega) (by omega)
        omega
    by_cases h : (k : Int) + 1 ≤ n - p - 1
    · exact step k h
    · rw [row_flatW hn hg (show 1 ≤ p + 1 by omega) hpn (t + 1) k (by omega) hk]
      exact Int.le_trans (step _ (by omega)) (row_upI hn hg hp (by omega) (t + 1) _ k (by omega) (by omega))
theorem sum_times (m : Int) : ∀ l : List Int, (l.map fun x => m * x).sum = m * l.sum
  | [] => by simp
  | x :: l => by rw [List.map_cons, List.sum_cons, List.sum_cons, sum_times m l, Int.mul_add]
theorem topI_times {a c p m : Int} (hc : 1 ≤ c) (hp : 0 ≤ p) (hpc : p ≤ c) (hm : 0 ≤ m) : topI (m * a) c p ≤ m * topI a c p := by
  have h := even_best (l := (evenI a c).map fun x => m * x) (t := m * a) (c := c) (m := p) hc hp hpc (by rw [List.length_map]; exact evenI_length hc) (by rw [sum_times, even_sum hc]) (by
    rw [List.pairwise_map]
    exact (even_falls a c).imp fun {x y} hxy => Int.mul_le_mul_of_nonneg_left hxy hm)
  rw [← List.map_take, sum_times, even_top hc hp hpc] at h
  exact h
/-- so many times the grains: at least so many times as great -/
theorem row_often {n g p m : Int} (hn : 2 ≤ n) (hg : 0 ≤ g) (hp : 1 ≤ p) (hpn : p ≤ n - 1) (hm : 0 ≤ m) : ∀ (t k : Nat), (k : Int) < n → m * (rowI n g p t).getD k 0 ≤ (rowI n (m * g) p t).getD k 0
  | 0, k, _ => by show m * (zeroI n).getD k 0 ≤ (zeroI n).getD k 0; rw [zeroI_get, Int.mul_zero]; exact Int.le_refl _
  | t + 1, k, hk => by
    rw [row_getW n g p t k hp hpn hk, row_getW n (m * g) p t k hp hpn hk]
    have ih := row_often hn hg hp hpn hm t (min (min (1 + (k : Int)) (n - p) + p) (n - p) - 1).toNat (by omega)
    unfold leastI
    generalize (rowI n g p t).getD (min (min (1 + (k : Int)) (n - p) + p) (n - p) - 1).toNat 0 = A at *
    generalize (rowI n (m * g) p t).getD (min (min (1 + (k : Int)) (n - p) + p) (n - p) - 1).toNat 0 = B at *
    generalize hc : min (1 + (k : Int)) (n - p) + p = c at *
    have l := lag_mono (c := c) (m := p) (a := m * (A + g)) (b := B + m * g) (by omega) (by omega) (by omega) (by rw [Int.mul_add]; omega)
    have l2 := topI_times (a := A + g) (c := c) (p := p) (m := m) (by omega) (by omega) (by omega) hm
    rw [Int.mul_sub]
    omega
end DL
namespace Gk
open PySem PySem.Spec PyProof.Rows L2 DL
/-- _law_mixed(_law_cell, _law_k) -/
noncomputable def d__law_mixed : Den := den 3 ((sSeq (sSet 2 (ofD (dOp pMod (fz (eMul (eOp pAdd (dOp pMod (dVar 0) (dC (.int 2147483646))) (dC (.int 1))) (fz (eOp pAdd (fz (eMul (ofD (dVar 1)) (dC (.int 7919)))) (dC (.int 104729)))))) (dC (.int 2147483647)))))
  (sSeq (sSet 2 (ofD (dOp pMod (fz (eMul (eOp pAdd (dVar 2) (fz (eMul (ofD (dOp pMod (dOp pDiv (dVar 0) (dC (.int 2147483646))) (dC (.int 1000003)))) (fz (eOp pAdd (dVar 1) (dC (.int 31))))))) (dC (.int 48271)))) (dC (.int 2147483629)))))
  (sSeq (sSet 2 (ofD (dOp pMod (fz (eMul (ofD (dVar 2)) (fz (eOp pAdd (fz (eOp pAdd (dOp pDiv (dVar 2) (dC (.int 1013))) (dC (.int 69621)))) (dVar 1))))) (dC (.int 2147483587)))))
  (sRet (ofD (dOp pMod (fz (eMul (ofD (dVar 2)) (fz (eOp pAdd (dOp pDiv (dVar 2) (dC (.int 2003))) (dC (.int 40692)))))) (dC (.int 2147483563)))))))))
/-- _law_take(_law_source_here, _law_many) -/
noncomputable def d__law_take : Den := den 3 ((sSeq (sIf (tBl (dOp pGe (dIxO 0 (dC (.int 0))) (dOp pPow (dC (.int 10)) (dC (.int 18)))))
  ((sSeq (sSet 2 (ofD (dOp pMod (dIxO 0 (dC (.int 0))) (dVar 1))))
  (sSeq (sPut 0 (dC (.int 0)) (dOp pDiv (dIxO 0 (dC (.int 0))) (dVar 1)))
  (sRet (eMove 2)))))
  (sNext))
  (sSeq (sPut 0 (dC (.int 2)) (fz (eOp pAdd (dIxO 0 (dC (.int 2))) (dC (.int 1)))))
  (sRet (ofD (dOp pMod (fz (eCall 2 d__law_mixed (arV (dIxO 0 (dC (.int 1))) (arV (dIxO 0 (dC (.int 2))) arNil)))) (dVar 1)))))))
/-- _law_house(_law_source_here, _law_far) -/
noncomputable def d__law_house : Den := den 7 ((sSeq (sSet 2 (ofD (fz (eOp pAdd (dC (.int 2)) (fz (eCall 2 d__law_take (arR 0 (arV (dOp pSub (dVar 1) (dC (.int 1))) arNil))))))))
  (sSeq (sSet 3 (ofD (fz (eOp pAdd (dC (.int 1)) (fz (eCall 2 d__law_take (arR 0 (arV (dOp pSub (dVar 2) (dC (.int 1))) arNil))))))))
  (sSeq (sSet 4 (ofD (dOp pIx (fz (eLst (dCons (dC (.int 1)) (dCons (dC (.int 1)) (dCons (dVar 3) (dCons (dOp pSub (dVar 2) (dC (.int 1))) dNil)))))) (fz (eCall 2 d__law_take (arR 0 (arV (dC (.int 4)) arNil)))))))
  (sSeq (sSet 5 (ofD (fz (eCall 2 d__law_take (arR 0 (arV (dC (.int 12)) arNil))))))
  (sSeq (sSet 6 (ofD (dOp pIx (fz (eLst (dCons (dVar 5) (dCons (dVar 5) (dCons (fz (eCall 2 d__law_take (arR 0 (arV (dC (.int 200)) arNil)))) (dCons (fz (eOp pAdd (dOp pPow (dC (.int 10)) (dC (.int 17))) (fz (eCall 2 d__law_take (arR 0 (arV (dOp pPow (dC (.int 10)) (dC (.int 17))) arNil)))))) dNil)))))) (fz (eCall 2 d__law_take (arR 0 (arV (dC (.int 4)) arNil)))))))
  (sRet (ofD (dTup (dCons (dVar 2) (dCons (dVar 6) (dCons (dVar 4) dNil))))))))))))
/-- is_whole(thing) -/
noncomputable def d_is_whole : Den := den 1 ((sRet (ofD (dAnd (dIsi "int" (dVar 0)) (dNot (dIsi "bool" (dVar 0)))))))
/-- is_count(thing) -/
noncomputable def d_is_count : Den := den 1 ((sRet (ofD (dAnd (fz (eCall 1 d_is_whole (arV (dVar 0) arNil))) (dOp pGe (dVar 0) (dC (.int 0)))))))
noncomputable def x_are_counts_1 : M D := (fz (eCall 1 d_is_count (arV (dVar 2) arNil)))
theorem u_x_are_counts_1 (r : Rho) : x_are_counts_1 r = (fz (eCall 1 d_is_count (arV (dVar 2) arNil))) r := rfl
/-- are_counts(thing, many) -/
noncomputable def d_are_counts : Den := den 3 ((sRet (ofD (dAnd (dIsi "tuple" (dVar 0)) (dAnd (dOp pEq (dCB pLen (dCons (dVar 0) dNil)) (dVar 1)) (dCB pAll (dCons (fz (eLc (iSeqM (dVar 0)) [2] (bName 2) tYesM (fz (eCall 1 d_is_count (arV (dVar 2) arNil))))) dNil)))))))
theorem q_are_counts : d_are_counts = den 3 ((sRet (ofD (dAnd (dIsi "tuple" (dVar 0)) (dAnd (dOp pEq (dCB pLen (dCons (dVar 0) dNil)) (dVar 1)) (dCB pAll (dCons (fz (eLc (iSeqM (dVar 0)) [2] (bName 2) tYesM x_are_counts_1)) dNil))))))) := rfl
/-- falling(standing) -/
noncomputable def d_falling : Den := den 1 ((sRet (ofD (dCB pTupOf (dCons (fz (eCB (pSortD true) (dCons (dVar 0) dNil))) dNil)))))
noncomputable def x_is_nowhere_less_1 : M D := (dOp pGe (dVar 2) (dVar 3))
theorem u_x_is_nowhere_less_1 (r : Rho) : x_is_nowhere_less_1 r = (dOp pGe (dVar 2) (dVar 3)) r := rfl
/-- is_nowhere_less(one, other) -/
noncomputable def d_is_nowhere_less : Den := den 4 ((sRet (ofD (dCB pAll (dCons (fz (eLc (iZipB true (dVar 0) (dVar 1)) [2, 3] (bTup 2 (bCons (bName 2) (bCons (bName 3) bNil))) tYesM (dOp pGe (dVar 2) (dVar 3)))) dNil)))))
theorem q_is_nowhere_less : d_is_nowhere_less = den 4 ((sRet (ofD (dCB pAll (dCons (fz (eLc (iZipB true (dVar 0) (dVar 1)) [2, 3] (bTup 2 (bCons (bName 2) (bCons (bName 3) bNil))) tYesM x_is_nowhere_less_1)) dNil))))) := rfl
/-- is_step(cups, grains, came, step) -/
noncomputable def d_is_step : Den := den 6 ((sSeq (sIf (tOrM (tNotM (tBl (dIsi "tuple" (dVar 3)))) (tBl (dOp pNe (dCB pLen (dCons (dVar 3) dNil)) (dC (.int 2)))))
  ((sRet (ofD (dC (.bool false)))))
  (sNext))
  (sSeq (sAsg (bTup 2 (bCons (bName 4) (bCons (bName 5) bNil))) (dVar 3))
  (sSeq (sIf (tOrM (tNotM (tBl (fz (eCall 2 d_are_counts (arV (dVar 4) (arV (dVar 0) arNil)))))) (tNotM (tBl (fz (eCall 2 d_are_counts (arV (dVar 5) (arV (dVar 0) arNil)))))))
  ((sRet (ofD (dC (.bool false)))))
  (sNext))
  (sRet (ofD (dAnd (dOp pEq (fz (eCall 1 d_falling (arV (dVar 4) arNil))) (dVar 4)) (dAnd (dOp pEq (dCB pSumA (dCons (dVar 5) dNil)) (dVar 1)) (fz (eCall 2 d_is_nowhere_less (arV (dVar 2) (arV (dVar 4) arNil))))))))))))
/-- start_of(cups, start) -/
noncomputable def d_start_of : Den := den 2 ((sSeq (sIf (tBl (dOp pIsN (dVar 1) (dC .none)))
  ((sRet (ofD (dOp pTM (dTup (dCons (dC (.int 0)) dNil)) (dVar 0)))))
  (sNext))
  (sSeq (sIf (tNotM (tBl (fz (eCall 2 d_are_counts (arV (dVar 1) (arV (dVar 0) arNil))))))
  (sNever)
  (sNext))
  (sRet (eCall 1 d_falling (arV (dVar 1) arNil))))))
/-- want_count(thing, word) -/
noncomputable def d_want_count : Den := den 2 ((sIf (tNotM (tBl (fz (eCall 1 d_is_count (arV (dVar 0) arNil)))))
  (sNever)
  (sNext)))
/-- is_from(thing, least, most) -/
noncomputable def d_is_from : Den := den 3 ((sRet (ofD (dAnd (fz (eCall 1 d_is_whole (arV (dVar 0) arNil))) (dChain pLe pLe (dVar 1) (dVar 0) (dVar 2))))))
/-- want_fullest(cups, fullest) -/
noncomputable def d_want_fullest : Den := den 2 ((sIf (tNotM (tBl (fz (eCall 3 d_is_from (arV (dVar 1) (arV (dC (.int 1)) (arV (dVar 0) arNil)))))))
  (sNever)
  (sNext)))
/-- want_cups(cups) -/
noncomputable def d_want_cups : Den := den 1 ((sIf (tNotM (tBl (fz (eCall 3 d_is_from (arV (dVar 0) (arV (dC (.int 2)) (arV (dC (.int 40)) arNil)))))))
  (sNever)
  (sNext)))
/-- want_sizes(cups, grains, scoops) -/
noncomputable def d_want_sizes : Den := den 3 ((sSeq (sExpr (eCall 1 d_want_cups (arV (dVar 0) arNil)))
  (sSeq (sIf (tNotM (tBl (fz (eCall 1 d_is_count (arV (dVar 1) arNil)))))
  (sNever)
  (sNext))
  (sIf (tNotM (tBl (fz (eCall 3 d_is_from (arV (dVar 2) (arV (dC (.int 1)) (arV (dOp pSub (dVar 0) (dC (.int 1))) arNil)))))))
  (sNever)
  (sNext)))))
/-- want_pour(pour, cups) -/
noncomputable def d_want_pour : Den := den 2 ((sIf (tNotM (tBl (fz (eCall 2 d_are_counts (arV (dVar 0) (arV (dVar 1) arNil))))))
  (sNever)
  (sNext)))
/-- want_standing(standing) -/
noncomputable def d_want_standing : Den := den 1 ((sSeq (sIf (tOrM (tNotM (tBl (dIsi "tuple" (dVar 0)))) (tNotM (tBl (dChain pLe pLe (dC (.int 2)) (dCB pLen (dCons (dVar 0) dNil)) (dC (.int 40))))))
  (sNever)
  (sNext))
  (sIf (tNotM (tBl (fz (eCall 2 d_are_counts (arV (dVar 0) (arV (dCB pLen (dCons (dVar 0) dNil)) arNil))))))
  (sNever)
  (sNext))))
noncomputable def x_poured_1 : M D := (fz (eOp pAdd (dVar 2) (dVar 3)))
theorem u_x_poured_1 (r : Rho) : x_poured_1 r = (fz (eOp pAdd (dVar 2) (dVar 3))) r := rfl
/-- poured(standing, pour) -/
noncomputable def d_poured : Den := den 4 ((sSeq (sExpr (eCall 1 d_want_standing (arV (dVar 0) arNil)))
  (sSeq (sExpr (eCall 2 d_want_pour (arV (dVar 1) (arV (dCB pLen (dCons (dVar 0) dNil)) arNil))))
  (sRet (ofD (dCB pTupOf (dCons (fz (eLc (iZipB true (dVar 0) (dVar 1)) [2, 3] (bTup 2 (bCons (bName 2) (bCons (bName 3) bNil))) tYesM (fz (eOp pAdd (dVar 2) (dVar 3))))) dNil)))))))
theorem q_poured : d_poured = den 4 ((sSeq (sExpr (eCall 1 d_want_standing (arV (dVar 0) arNil)))
  (sSeq (sExpr (eCall 2 d_want_pour (arV (dVar 1) (arV (dCB pLen (dCons (dVar 0) dNil)) arNil))))
  (sRet (ofD (dCB pTupOf (dCons (fz (eLc (iZipB true (dVar 0) (dVar 1)) [2, 3] (bTup 2 (bCons (bName 2) (bCons (bName 3) bNil))) tYesM x_poured_1)) dNil))))))) := rfl
/-- what_stays(standing, pour, scoops) -/
noncomputable def d_what_stays : Den := den 3 ((sRet (eOp pAdd (fz (eCut (fz (eCall 1 d_falling (arV (fz (eCall 2 d_poured (arV (dVar 0) (arV (dVar 1) arNil)))) arNil))) (oSome (dVar 2)) oNone)) (dOp pTM (dTup (dCons (dC (.int 0)) dNil)) (dVar 2)))))
noncomputable def w_check_ladder_1 : SM := ((sSeq (sIf (tNotM (tBl (fz (eCall 4 d_is_step (arV (dVar 0) (arV (dVar 1) (arV (dVar 7) (arV (dVar 9) arNil))))))))
  (sNever)
  (sNext))
  (sSet 7 (ofD (fz (eCall 3 d_what_stays (arV (dOp pIx (dVar 9) (dC (.int 0))) (arV (dOp pIx (dVar 9) (dC (.int 1))) (arV (dVar 2) arNil)))))))))
theorem u_w_check_ladder_1 (r : Rho) : w_check_ladder_1 r = ((sSeq (sIf (tNotM (tBl (fz (eCall 4 d_is_step (arV (dVar 0) (arV (dVar 1) (arV (dVar 7) (arV (dVar 9) arNil))))))))
  (sNever)
  (sNext))
  (sSet 7 (ofD (fz (eCall 3 d_what_stays (arV (dOp pIx (dVar 9) (dC (.int 0))) (arV (dOp pIx (dVar 9) (dC (.int 1))) (arV (dVar 2) arNil))))))))) r := rfl
/-- check_ladder(cups, grains, scoops, fullest, held, steps, start) -/
noncomputable def d_check_ladder : Den := den 10 ((sSeq (sExpr (eCall 3 d_want_sizes (arV (dVar 0) (arV (dVar 1) (arV (dVar 2) arNil)))))
  (sSeq (sExpr (eCall 2 d_want_fullest (arV (dVar 0) (arV (dVar 3) arNil))))
  (sSeq (sExpr (eCall 2 d_want_count (arV (dVar 4) (arV (dC (.str "held")) arNil))))
  (sSeq (sSet 7 (ofD (fz (eCall 2 d_start_of (arV (dVar 0) (arV (dVar 6) arNil))))))
  (sSeq (sIf (tNotM (tBl (dIsi "list" (dVar 5))))
  (sNever)
  (sNext))
  (sSeq (sFor (iEnumA (dVar 5)) (bTup 2 (bCons (bName 8) (bCons (bName 9) bNil)))
  ((sSeq (sIf (tNotM (tBl (fz (eCall 4 d_is_step (arV (dVar 0) (arV (dVar 1) (arV (dVar 7) (arV (dVar 9) arNil))))))))
  (sNever)
  (sNext))
  (sSet 7 (ofD (fz (eCall 3 d_what_stays (arV (dOp pIx (dVar 9) (dC (.int 0))) (arV (dOp pIx (dVar 9) (dC (.int 1))) (arV (dVar 2) arNil))))))))))
  (sIf (tBl (dOp pLt (dCB pSumA (dCons (fz (eCut (dVar 7) oNone (oSome (dVar 3)))) dNil)) (dVar 4)))
  (sNever)
  (sNext)))))))))
theorem q_check_ladder : d_check_ladder = den 10 ((sSeq (sExpr (eCall 3 d_want_sizes (arV (dVar 0) (arV (dVar 1) (arV (dVar 2) arNil)))))
  (sSeq (sExpr (eCall 2 d_want_fullest (arV (dVar 0) (arV (dVar 3) arNil))))
  (sSeq (sExpr (eCall 2 d_want_count (arV (dVar 4) (arV (dC (.str "held")) arNil))))
  (sSeq (sSet 7 (ofD (fz (eCall 2 d_start_of (arV (dVar 0) (arV (dVar 6) arNil))))))
  (sSeq (sIf (tNotM (tBl (dIsi "list" (dVar 5))))
  (sNever)
  (sNext))
  (sSeq (sFor (iEnumA (dVar 5)) (bTup 2 (bCons (bName 8) (bCons (bName 9) bNil)))
  w_check_ladder_1)
  (sIf (tBl (dOp pLt (dCB pSumA (dCons (fz (eCut (dVar 7) oNone (oSome (dVar 3)))) dNil)) (dVar 4)))
  (sNever)
  (sNext))))))))) := rfl
/-- _law_is_let(_law_house_here, _law_wide, _law_aim, _law_steps_here) -/
noncomputable def d__law_is_let : Den := den 4 ((sRet (ofD (dOp pIsN (fz (eCallKD 7 6 0 [0, 1, 2, 3, 4, 5, 6] d_check_ladder (arV (dOp pIx (dVar 0) (dC (.int 0))) (arV (dOp pIx (dVar 0) (dC (.int 1))) (arV (dOp pIx (dVar 0) (dC (.int 2))) (arV (dVar 1) (arV (dVar 2) (arV (dVar 3) arNil)))))) arNil)) (dC .none)))))
noncomputable def x__law_times_2 : M D := (fz (eMul (ofD (dVar 4)) (dVar 1)))
theorem u_x__law_times_2 (r : Rho) : x__law_times_2 r = (fz (eMul (ofD (dVar 4)) (dVar 1))) r := rfl
noncomputable def x__law_times_3 : M D := (fz (eMul (ofD (dVar 4)) (dVar 1)))
theorem u_x__law_times_3 (r : Rho) : x__law_times_3 r = (fz (eMul (ofD (dVar 4)) (dVar 1))) r := rfl
noncomputable def x__law_times_1 : M D := (dTup (dCons (dCB pTupOf (dCons (fz (eLc (iSeqM (dVar 2)) [4] (bName 4) tYesM x__law_times_2)) dNil)) (dCons (dCB pTupOf (dCons (fz (eLc (iSeqM (dVar 3)) [4] (bName 4) tYesM x__law_times_3)) dNil)) dNil)))
theorem u_x__law_times_1 (r : Rho) : x__law_times_1 r = (dTup (dCons (dCB pTupOf (dCons (fz (eLc (iSeqM (dVar 2)) [4] (bName 4) tYesM x__law_times_2)) dNil)) (dCons (dCB pTupOf (dCons (fz (eLc (iSeqM (dVar 3)) [4] (bName 4) tYesM x__law_times_3)) dNil)) dNil))) r := rfl
/-- _law_times(_law_steps_here, _law_times_here) -/
noncomputable def d__law_times : Den := den 5 ((sRet (eLc (iSeqM (dVar 0)) [2, 3] (bTup 2 (bCons (bName 2) (bCons (bName 3) bNil))) tYesM (dTup (dCons (dCB pTupOf (dCons (fz (eLc (iSeqM (dVar 2)) [4] (bName 4) tYesM (fz (eMul (ofD (dVar 4)) (dVar 1))))) dNil)) (dCons (dCB pTupOf (dCons (fz (eLc (iSeqM (dVar 3)) [4] (bName 4) tYesM (fz (eMul (ofD (dVar 4)) (dVar 1))))) dNil)) dNil))))))
theorem q__law_times : d__law_times = den 5 ((sRet (eLc (iSeqM (dVar 0)) [2, 3] (bTup 2 (bCons (bName 2) (bCons (bName 3) bNil))) tYesM x__law_times_1))) := rfl
noncomputable def x__law_wider_1 : M D := (dTup (dCons (fz (eOp pAdd (dVar 1) (dTup (dCons (dC (.int 0)) dNil)))) (dCons (fz (eOp pAdd (dVar 2) (dTup (dCons (dC (.int 0)) dNil)))) dNil)))
theorem u_x__law_wider_1 (r : Rho) : x__law_wider_1 r = (dTup (dCons (fz (eOp pAdd (dVar 1) (dTup (dCons (dC (.int 0)) dNil)))) (dCons (fz (eOp pAdd (dVar 2) (dTup (dCons (dC (.int 0)) dNil)))) dNil))) r := rfl
/-- _law_wider(_law_steps_here) -/
noncomputable def d__law_wider : Den := den 3 ((sRet (eLc (iSeqM (dVar 0)) [1, 2] (bTup 2 (bCons (bName 1) (bCons (bName 2) bNil))) tYesM (dTup (dCons (fz (eOp pAdd (dVar 1) (dTup (dCons (dC (.int 0)) dNil)))) (dCons (fz (eOp pAdd (dVar 2) (dTup (dCons (dC (.int 0)) dNil)))) dNil))))))
theorem q__law_wider : d__law_wider = den 3 ((sRet (eLc (iSeqM (dVar 0)) [1, 2] (bTup 2 (bCons (bName 1) (bCons (bName 2) bNil))) tYesM x__law_wider_1))) := rfl
/-- want_shares(total, cups) -/
noncomputable def d_want_shares : Den := den 2 ((sSeq (sIf (tNotM (tBl (fz (eCall 1 d_is_count (arV (dVar 0) arNil)))))
  (sNever)
  (sNext))
  (sIf (tNotM (tBl (fz (eCall 3 d_is_from (arV (dVar 1) (arV (dC (.int 1)) (arV (dC (.int 40)) arNil)))))))
  (sNever)
  (sNext))))
/-- even(total, cups) -/
noncomputable def d_even : Den := den 4 ((sSeq (sExpr (eCall 2 d_want_shares (arV (dVar 0) (arV (dVar 1) arNil))))
  (sSeq (sAsg (bTup 2 (bCons (bName 2) (bCons (bName 3) bNil))) (dCB pDivmod (dCons (dVar 0) (dCons (dVar 1) dNil))))
  (sRet (eOp pAdd (fz (eMul (eLst (dCons (fz (eOp pAdd (dVar 2) (dC (.int 1)))) dNil)) (dVar 3))) (fz (eMul (eLst (dCons (dVar 2) dNil)) (dOp pSub (dVar 1) (dVar 3)))))))))
noncomputable def x_evening_out_1 : M D := (dOp pSub (dVar 5) (dVar 6))
theorem u_x_evening_out_1 (r : Rho) : x_evening_out_1 r = (dOp pSub (dVar 5) (dVar 6)) r := rfl
/-- evening_out(standing, grains, live) -/
noncomputable def d_evening_out : Den := den 7 ((sSeq (sSet 3 (ofD (fz (eCall 2 d_even (arV (fz (eOp pAdd (dCB pSumA (dCons (fz (eCut (dVar 0) oNone (oSome (dVar 2)))) dNil)) (dVar 1))) (arV (dVar 2) arNil))))))
  (sSeq (sSet 4 (ofD (fz (eLc (iZipB true (dVar 3) (fz (eCut (dVar 0) oNone (oSome (dVar 2))))) [5, 6] (bTup 2 (bCons (bName 5) (bCons (bName 6) bNil))) tYesM (dOp pSub (dVar 5) (dVar 6))))))
  (sRet (ofD (dCB pTupOf (dCons (fz (eOp pAdd (dVar 4) (fz (eMul (eLst (dCons (dC (.int 0)) dNil)) (dOp pSub (dCB pLen (dCons (dVar 0) dNil)) (dVar 2)))))) dNil)))))))
theorem q_evening_out : d_evening_out = den 7 ((sSeq (sSet 3 (ofD (fz (eCall 2 d_even (arV (fz (eOp pAdd (dCB pSumA (dCons (fz (eCut (dVar 0) oNone (oSome (dVar 2)))) dNil)) (dVar 1))) (arV (dVar 2) arNil))))))
  (sSeq (sSet 4 (ofD (fz (eLc (iZipB true (dVar 3) (fz (eCut (dVar 0) oNone (oSome (dVar 2))))) [5, 6] (bTup 2 (bCons (bName 5) (bCons (bName 6) bNil))) tYesM x_evening_out_1))))
  (sRet (ofD (dCB pTupOf (dCons (fz (eOp pAdd (dVar 4) (fz (eMul (eLst (dCons (dC (.int 0)) dNil)) (dOp pSub (dCB pLen (dCons (dVar 0) dNil)) (dVar 2)))))) dNil))))))) := rfl
noncomputable def w_ladder_1 : SM := ((sSeq (sSet 8 (ofD (fz (eCall 3 d_evening_out (arV (dVar 6) (arV (dVar 1) (arV (dCB pMin2 (dCons (dVar 0) (dCons (fz (eOp pAdd (dVar 3) (fz (eMul (ofD (dVar 2)) (dVar 7))))) dNil))) arNil)))))))
  (sSeq (sExpr (eMut 5 mApp (dCons (dTup (dCons (dVar 6) (dCons (dVar 8) dNil))) dNil)))
  (sSet 6 (ofD (fz (eCall 3 d_what_stays (arV (dVar 6) (arV (dVar 8) (arV (dVar 2) arNil))))))))))
theorem u_w_ladder_1 (r : Rho) : w_ladder_1 r = ((sSeq (sSet 8 (ofD (fz (eCall 3 d_evening_out (arV (dVar 6) (arV (dVar 1) (arV (dCB pMin2 (dCons (dVar 0) (dCons (fz (eOp pAdd (dVar 3) (fz (eMul (ofD (dVar 2)) (dVar 7))))) dNil))) arNil)))))))
  (sSeq (sExpr (eMut 5 mApp (dCons (dTup (dCons (dVar 6) (dCons (dVar 8) dNil))) dNil)))
  (sSet 6 (ofD (fz (eCall 3 d_what_stays (arV (dVar 6) (arV (dVar 8) (arV (dVar 2) arNil)))))))))) r := rfl
/-- ladder(cups, grains, scoops, fullest, beats) -/
noncomputable def d_ladder : Den := den 9 ((sSeq (sExpr (eCall 3 d_want_sizes (arV (dVar 0) (arV (dVar 1) (arV (dVar 2) arNil)))))
  (sSeq (sExpr (eCall 2 d_want_fullest (arV (dVar 0) (arV (dVar 3) arNil))))
  (sSeq (sExpr (eCall 2 d_want_count (arV (dVar 4) (arV (dC (.str "beats")) arNil))))
  (sSeq (sIf (tBl (dOp pGt (dVar 4) (dC (.int 1000))))
  (sNever)
  (sNext))
  (sSeq (sPar 5 6 (eLst dNil) (ofD (dOp pTM (dTup (dCons (dC (.int 0)) dNil)) (dVar 0))))
  (sSeq (sFor (iRngDn (dCons (dVar 4) (dCons (dC (.int 0)) (dCons (dUn pNeg (dC (.int 1))) dNil)))) (bName 7)
  ((sSeq (sSet 8 (ofD (fz (eCall 3 d_evening_out (arV (dVar 6) (arV (dVar 1) (arV (dCB pMin2 (dCons (dVar 0) (dCons (fz (eOp pAdd (dVar 3) (fz (eMul (ofD (dVar 2)) (dVar 7))))) dNil))) arNil)))))))
  (sSeq (sExpr (eMut 5 mApp (dCons (dTup (dCons (dVar 6) (dCons (dVar 8) dNil))) dNil)))
  (sSet 6 (ofD (fz (eCall 3 d_what_stays (arV (dVar 6) (arV (dVar 8) (arV (dVar 2) arNil)))))))))))
  (sRet (eMove 5)))))))))
theorem q_ladder : d_ladder = den 9 ((sSeq (sExpr (eCall 3 d_want_sizes (arV (dVar 0) (arV (dVar 1) (arV (dVar 2) arNil)))))
  (sSeq (sExpr (eCall 2 d_want_fullest (arV (dVar 0) (arV (dVar 3) arNil))))
  (sSeq (sExpr (eCall 2 d_want_count (arV (dVar 4) (arV (dC (.str "beats")) arNil))))
  (sSeq (sIf (tBl (dOp pGt (dVar 4) (dC (.int 1000))))
  (sNever)
  (sNext))
  (sSeq (sPar 5 6 (eLst dNil) (ofD (dOp pTM (dTup (dCons (dC (.int 0)) dNil)) (dVar 0))))
  (sSeq (sFor (iRngDn (dCons (dVar 4) (dCons (dC (.int 0)) (dCons (dUn pNeg (dC (.int 1))) dNil)))) (bName 7)
  w_ladder_1)
  (sRet (eMove 5))))))))) := rfl
/-- top(total, cups, many) -/
noncomputable def d_top : Den := den 5 ((sSeq (sExpr (eCall 2 d_want_shares (arV (dVar 0) (arV (dVar 1) arNil))))
  (sSeq (sIf (tNotM (tBl (fz (eCall 3 d_is_from (arV (dVar 2) (arV (dC (.int 0)) (arV (dVar 1) arNil)))))))
  (sNever)
  (sNext))
  (sSeq (sAsg (bTup 2 (bCons (bName 3) (bCons (bName 4) bNil))) (dCB pDivmod (dCons (dVar 0) (dCons (dVar 1) dNil))))
  (sRet (eOp pAdd (fz (eMul (ofD (dVar 3)) (dVar 2))) (dCB pMin2 (dCons (dVar 4) (dCons (dVar 2) dNil)))))))))
/-- least_of(cups, grains, scoops, row, many) -/
noncomputable def d_least_of : Den := den 6 ((sSeq (sSet 5 (eOp pAdd (dOp pIx (dVar 3) (dOp pSub (dCB pMin2 (dCons (fz (eOp pAdd (dVar 4) (dVar 2))) (dCons (dOp pSub (dVar 0) (dVar 2)) dNil))) (dC (.int 1)))) (dVar 1)))
  (sRet (ofD (dOp pSub (dVar 5) (fz (eCall 3 d_top (arV (dVar 5) (arV (fz (eOp pAdd (dVar 4) (dVar 2))) (arV (dVar 2) arNil))))))))))
/-- next_row(cups, grains, scoops, row) -/
noncomputable def d_next_row : Den := den 6 ((sSeq (sSet 4 (eLc (iRng2M (dCons (dC (.int 1)) (dCons (fz (eOp pAdd (dOp pSub (dVar 0) (dVar 2)) (dC (.int 1)))) dNil))) [5] (bName 5) tYesM (fz (eCall 5 d_least_of (arV (dVar 0) (arV (dVar 1) (arV (dVar 2) (arV (dVar 3) (arV (dVar 5) arNil)))))))))
  (sRet (eOp pAdd (dVar 4) (fz (eMul (eLst (dCons (dOp pIx (dVar 4) (dUn pNeg (dC (.int 1)))) dNil)) (dVar 2)))))))
noncomputable def c_row_at_1 : M Bool := (tBl (dOp pLt (dVar 5) (dVar 3)))
theorem u_c_row_at_1 (r : Rho) : c_row_at_1 r = (tBl (dOp pLt (dVar 5) (dVar 3))) r := rfl
noncomputable def w_row_at_1 : SM := ((sSeq (sSet 6 (eCall 4 d_next_row (arV (dVar 0) (arV (dVar 1) (arV (dVar 2) (arV (dVar 4) arNil))))))
  (sSeq (sIf (tBl (dOp pEq (dVar 6) (dVar 4)))
  ((sRet (ofD (dTup (dCons (dVar 4) (dCons (dVar 5) dNil))))))
  (sNext))
  (sPar 4 5 (ofD (dVar 6)) (eOp pAdd (dVar 5) (dC (.int 1)))))))
theorem u_w_row_at_1 (r : Rho) : w_row_at_1 r = ((sSeq (sSet 6 (eCall 4 d_next_row (arV (dVar 0) (arV (dVar 1) (arV (dVar 2) (arV (dVar 4) arNil))))))
  (sSeq (sIf (tBl (dOp pEq (dVar 6) (dVar 4)))
  ((sRet (ofD (dTup (dCons (dVar 4) (dCons (dVar 5) dNil))))))
  (sNext))
  (sPar 4 5 (ofD (dVar 6)) (eOp pAdd (dVar 5) (dC (.int 1))))))) r := rfl
/-- row_at(cups, grains, scoops, beats) -/
noncomputable def d_row_at : Den := den 7 ((sSeq (sPar 4 5 (eMul (eLst (dCons (dC (.int 0)) dNil)) (dVar 0)) (ofD (dC (.int 0))))
  (sSeq (sWhile (tBl (dOp pLt (dVar 5) (dVar 3)))
  ((sSeq (sSet 6 (eCall 4 d_next_row (arV (dVar 0) (arV (dVar 1) (arV (dVar 2) (arV (dVar 4) arNil))))))
  (sSeq (sIf (tBl (dOp pEq (dVar 6) (dVar 4)))
  ((sRet (ofD (dTup (dCons (dVar 4) (dCons (dVar 5) dNil))))))
  (sNext))
  (sPar 4 5 (ofD (dVar 6)) (eOp pAdd (dVar 5) (dC (.int 1))))))))
  (sRet (ofD (dTup (dCons (dVar 4) (dCons (dVar 5) dNil))))))))
theorem q_row_at : d_row_at = den 7 ((sSeq (sPar 4 5 (eMul (eLst (dCons (dC (.int 0)) dNil)) (dVar 0)) (ofD (dC (.int 0))))
  (sSeq (sWhile c_row_at_1
  w_row_at_1)
  (sRet (ofD (dTup (dCons (dVar 4) (dCons (dVar 5) dNil)))))))) := rfl
/-- most(cups, grains, scoops, fullest, beats) -/
noncomputable def d_most : Den := den 5 ((sSeq (sExpr (eCall 3 d_want_sizes (arV (dVar 0) (arV (dVar 1) (arV (dVar 2) arNil)))))
  (sSeq (sExpr (eCall 2 d_want_fullest (arV (dVar 0) (arV (dVar 3) arNil))))
  (sSeq (sExpr (eCall 2 d_want_count (arV (dVar 4) (arV (dC (.str "beats")) arNil))))
  (sRet (ofD (dOp pIx (dOp pIx (fz (eCall 4 d_row_at (arV (dVar 0) (arV (dVar 1) (arV (dVar 2) (arV (dVar 4) arNil)))))) (dC (.int 0))) (dOp pSub (dVar 3) (dC (.int 1))))))))))
noncomputable def x__law_right_1 : M D := (fz (eCall 5 d_ladder (arV (dVar 5) (arV (dVar 6) (arV (dVar 7) (arV (dVar 2) (arV (dVar 16) arNil)))))))
theorem u_x__law_right_1 (r : Rho) : x__law_right_1 r = (fz (eCall 5 d_ladder (arV (dVar 5) (arV (dVar 6) (arV (dVar 7) (arV (dVar 2) (arV (dVar 16) arNil))))))) r := rfl
noncomputable def x__law_right_2 : M D := (fz (eCall 5 d_most (arV (dVar 5) (arV (dVar 6) (arV (dVar 7) (arV (dVar 2) (arV (dVar 16) arNil)))))))
theorem u_x__law_right_2 (r : Rho) : x__law_right_2 r = (fz (eCall 5 d_most (arV (dVar 5) (arV (dVar 6) (arV (dVar 7) (arV (dVar 2) (arV (dVar 16) arNil))))))) r := rfl
noncomputable def x__law_right_3 : M D := (fz (eCall 2 d__law_take (arR 0 (arV (dVar 14) arNil))))
theorem u_x__law_right_3 (r : Rho) : x__law_right_3 r = (fz (eCall 2 d__law_take (arR 0 (arV (dVar 14) arNil)))) r := rfl
/-- _law_right(_law_source_here, _law_house_here, _law_wide, _law_last, _law_later) -/
noncomputable def d__law_right : Den := den 18 ((sSeq (sAsg (bTup 3 (bCons (bName 5) (bCons (bName 6) (bCons (bName 7) bNil)))) (dVar 1))
  (sSeq (sAsg (bTupL 2 (bCons (bName 8) (bCons (bName 9) bNil))) (fz (eLc (iSeqM (dTup (dCons (dVar 3) (dCons (dVar 4) dNil)))) [16] (bName 16) tYesM (fz (eCall 5 d_ladder (arV (dVar 5) (arV (dVar 6) (arV (dVar 7) (arV (dVar 2) (arV (dVar 16) arNil))))))))))
  (sSeq (sAsg (bTupL 2 (bCons (bName 10) (bCons (bName 11) bNil))) (fz (eLc (iSeqM (dTup (dCons (dVar 3) (dCons (dVar 4) dNil)))) [16] (bName 16) tYesM (fz (eCall 5 d_most (arV (dVar 5) (arV (dVar 6) (arV (dVar 7) (arV (dVar 2) (arV (dVar 16) arNil))))))))))
  (sSeq (sSet 12 (ofD (dOp pIx (fz (eLst (dCons (dC (.int 2)) (dCons (dC (.int 3)) (dCons (dC (.int 7)) (dCons (dOp pPow (dC (.int 10)) (dC (.int 6))) dNil)))))) (fz (eCall 2 d__law_take (arR 0 (arV (dC (.int 4)) arNil)))))))
  (sSeq (sSet 13 (ofD (dTup (dCons (dVar 5) (dCons (fz (eMul (ofD (dVar 6)) (dVar 12))) (dCons (dVar 7) dNil))))))
  (sSeq (sIf (tNotM (tBl (fz (eCall 4 d__law_is_let (arV (dVar 13) (arV (dVar 2) (arV (fz (eMul (ofD (dVar 10)) (dVar 12))) (arV (fz (eCall 2 d__law_times (arV (dVar 8) (arV (dVar 12) arNil)))) arNil))))))))
  ((sRet (ofD (dC (.bool false)))))
  (sNext))
  (sSeq (sIf (tBl (dOp pLt (fz (eCall 5 d_most (arV (dVar 5) (arV (fz (eMul (ofD (dVar 6)) (dVar 12))) (arV (dVar 7) (arV (dVar 2) (arV (dVar 3) arNil))))))) (fz (eMul (ofD (dVar 10)) (dVar 12)))))
  ((sRet (ofD (dC (.bool false)))))
  (sNext))
  (sSeq (sIf (tNotM (tBl (fz (eCall 4 d__law_is_let (arV (dTup (dCons (fz (eOp pAdd (dVar 5) (dC (.int 1)))) (dCons (dVar 6) (dCons (dVar 7) dNil)))) (arV (dVar 2) (arV (dVar 10) (arV (fz (eCall 1 d__law_wider (arV (dVar 8) arNil))) arNil))))))))
  ((sRet (ofD (dC (.bool false)))))
  (sNext))
  (sSeq (sIf (tBl (dOp pLt (fz (eCall 5 d_most (arV (fz (eOp pAdd (dVar 5) (dC (.int 1)))) (arV (dVar 6) (arV (dVar 7) (arV (dVar 2) (arV (dVar 3) arNil))))))) (dVar 10)))
  ((sRet (ofD (dC (.bool false)))))
  (sNext))
  (sSeq (sIf (tAndM (tBl (dOp pGt (dVar 7) (dC (.int 1)))) (tNotM (tBl (fz (eCall 4 d__law_is_let (arV (dTup (dCons (dVar 5) (dCons (dVar 6) (dCons (dOp pSub (dVar 7) (dC (.int 1))) dNil)))) (arV (dVar 2) (arV (dVar 10) (arV (dVar 8) arNil)))))))))
  ((sRet (ofD (dC (.bool false)))))
  (sNext))
  (sSeq (sIf (tAndM (tBl (dOp pGt (dVar 7) (dC (.int 1)))) (tBl (dOp pLt (fz (eCall 5 d_most (arV (dVar 5) (arV (dVar 6) (arV (dOp pSub (dVar 7) (dC (.int 1))) (arV (dVar 2) (arV (dVar 3) arNil))))))) (dVar 10))))
  ((sRet (ofD (dC (.bool false)))))
  (sNext))
  (sSeq (sIf (tNotM (tBl (fz (eCall 4 d__law_is_let (arV (dVar 1) (arV (dVar 2) (arV (dVar 11) (arV (fz (eOp pAdd (dVar 8) (dVar 9))) arNil))))))))
  ((sRet (ofD (dC (.bool false)))))
  (sNext))
  (sSeq (sIf (tNotM (tBl (fz (eCall 4 d__law_is_let (arV (dVar 1) (arV (dVar 2) (arV (dVar 10) (arV (fz (eOp pAdd (dVar 9) (dVar 8))) arNil))))))))
  ((sRet (ofD (dC (.bool false)))))
  (sNext))
  (sSeq (sSet 14 (ofD (dOp pIx (fz (eLst (dCons (dC (.int 1)) (dCons (dC (.int 9)) (dCons (dOp pPow (dC (.int 10)) (dC (.int 17))) dNil))))) (fz (eCall 2 d__law_take (arR 0 (arV (dC (.int 3)) arNil)))))))
  (sSeq (sSet 15 (ofD (dCB pTupOf (dCons (fz (eLc (iRng1M (dVar 5)) [17] (bName 17) tYesM (fz (eCall 2 d__law_take (arR 0 (arV (dVar 14) arNil)))))) dNil))))
  (sSeq (sIf (tBl (dOp pNotN (fz (eCallK 7 6 1 [0, 1, 2, 3, 4, 5, 6] d_check_ladder (arV (dVar 5) (arV (dVar 6) (arV (dVar 7) (arV (dVar 2) (arV (dVar 10) (arV (dVar 8) arNil)))))) (arV (dVar 15) arNil))) (dC .none)))
  ((sRet (ofD (dC (.bool false)))))
  (sNext))
  (sRet (ofD (dOp pGe (fz (eCall 5 d_most (arV (dVar 5) (arV (dVar 6) (arV (dVar 7) (arV (dVar 2) (arV (fz (eOp pAdd (dVar 3) (dVar 4))) arNil))))))) (dCB pMax2 (dCons (dVar 10) (dCons (dVar 11) dNil)))))))))))))))))))))))
theorem q__law_right : d__law_right = den 18 ((sSeq (sAsg (bTup 3 (bCons (bName 5) (bCons (bName 6) (bCons (bName 7) bNil)))) (dVar 1))
  (sSeq (sAsg (bTupL 2 (bCons (bName 8) (bCons (bName 9) bNil))) (fz (eLc (iSeqM (dTup (dCons (dVar 3) (dCons (dVar 4) dNil)))) [16] (bName 16) tYesM x__law_right_1)))
  (sSeq (sAsg (bTupL 2 (bCons (bName 10) (bCons (bName 11) bNil))) (fz (eLc (iSeqM (dTup (dCons (dVar 3) (dCons (dVar 4) dNil)))) [16] (bName 16) tYesM x__law_right_2)))
  (sSeq (sSet 12 (ofD (dOp pIx (fz (eLst (dCons (dC (.int 2)) (dCons (dC (.int 3)) (dCons (dC (.int 7)) (dCons (dOp pPow (dC (.int 10)) (dC (.int 6))) dNil)))))) (fz (eCall 2 d__law_take (arR 0 (arV (dC (.int 4)) arNil)))))))
  (sSeq (sSet 13 (ofD (dTup (dCons (dVar 5) (dCons (fz (eMul (ofD (dVar 6)) (dVar 12))) (dCons (dVar 7) dNil))))))
  (sSeq (sIf (tNotM (tBl (fz (eCall 4 d__law_is_let (arV (dVar 13) (arV (dVar 2) (arV (fz (eMul (ofD (dVar 10)) (dVar 12))) (arV (fz (eCall 2 d__law_times (arV (dVar 8) (arV (dVar 12) arNil)))) arNil))))))))
  ((sRet (ofD (dC (.bool false)))))
  (sNext))
  (sSeq (sIf (tBl (dOp pLt (fz (eCall 5 d_most (arV (dVar 5) (arV (fz (eMul (ofD (dVar 6)) (dVar 12))) (arV (dVar 7) (arV (dVar 2) (arV (dVar 3) arNil))))))) (fz (eMul (ofD (dVar 10)) (dVar 12)))))
  ((sRet (ofD (dC (.bool false)))))
  (sNext))
  (sSeq (sIf (tNotM (tBl (fz (eCall 4 d__law_is_let (arV (dTup (dCons (fz (eOp pAdd (dVar 5) (dC (.int 1)))) (dCons (dVar 6) (dCons (dVar 7) dNil)))) (arV (dVar 2) (arV (dVar 10) (arV (fz (eCall 1 d__law_wider (arV (dVar 8) arNil))) arNil))))))))
  ((sRet (ofD (dC (.bool false)))))
  (sNext))
  (sSeq (sIf (tBl (dOp pLt (fz (eCall 5 d_most (arV (fz (eOp pAdd (dVar 5) (dC (.int 1)))) (arV (dVar 6) (arV (dVar 7) (arV (dVar 2) (arV (dVar 3) arNil))))))) (dVar 10)))
  ((sRet (ofD (dC (.bool false)))))
  (sNext))
  (sSeq (sIf (tAndM (tBl (dOp pGt (dVar 7) (dC (.int 1)))) (tNotM (tBl (fz (eCall 4 d__law_is_let (arV (dTup (dCons (dVar 5) (dCons (dVar 6) (dCons (dOp pSub (dVar 7) (dC (.int 1))) dNil)))) (arV (dVar 2) (arV (dVar 10) (arV (dVar 8) arNil)))))))))
  ((sRet (ofD (dC (.bool false)))))
  (sNext))
  (sSeq (sIf (tAndM (tBl (dOp pGt (dVar 7) (dC (.int 1)))) (tBl (dOp pLt (fz (eCall 5 d_most (arV (dVar 5) (arV (dVar 6) (arV (dOp pSub (dVar 7) (dC (.int 1))) (arV (dVar 2) (arV (dVar 3) arNil))))))) (dVar 10))))
  ((sRet (ofD (dC (.bool false)))))
  (sNext))
  (sSeq (sIf (tNotM (tBl (fz (eCall 4 d__law_is_let (arV (dVar 1) (arV (dVar 2) (arV (dVar 11) (arV (fz (eOp pAdd (dVar 8) (dVar 9))) arNil))))))))
  ((sRet (ofD (dC (.bool false)))))
  (sNext))
  (sSeq (sIf (tNotM (tBl (fz (eCall 4 d__law_is_let (arV (dVar 1) (arV (dVar 2) (arV (dVar 10) (arV (fz (eOp pAdd (dVar 9) (dVar 8))) arNil))))))))
  ((sRet (ofD (dC (.bool false)))))
  (sNext))
  (sSeq (sSet 14 (ofD (dOp pIx (fz (eLst (dCons (dC (.int 1)) (dCons (dC (.int 9)) (dCons (dOp pPow (dC (.int 10)) (dC (.int 17))) dNil))))) (fz (eCall 2 d__law_take (arR 0 (arV (dC (.int 3)) arNil)))))))
  (sSeq (sSet 15 (ofD (dCB pTupOf (dCons (fz (eLc (iRng1M (dVar 5)) [17] (bName 17) tYesM x__law_right_3)) dNil))))
  (sSeq (sIf (tBl (dOp pNotN (fz (eCallK 7 6 1 [0, 1, 2, 3, 4, 5, 6] d_check_ladder (arV (dVar 5) (arV (dVar 6) (arV (dVar 7) (arV (dVar 2) (arV (dVar 10) (arV (dVar 8) arNil)))))) (arV (dVar 15) arNil))) (dC .none)))
  ((sRet (ofD (dC (.bool false)))))
  (sNext))
  (sRet (ofD (dOp pGe (fz (eCall 5 d_most (arV (dVar 5) (arV (dVar 6) (arV (dVar 7) (arV (dVar 2) (arV (fz (eOp pAdd (dVar 3) (dVar 4))) arNil))))))) (dCB pMax2 (dCons (dVar 10) (dCons (dVar 11) dNil))))))))))))))))))))))) := rfl
/-- _law_source(_law_cell) -/
noncomputable def d__law_source : Den := den 1 ((sRet (eLst (dCons (dVar 0) (dCons (dVar 0) (dCons (dC (.int 0)) dNil))))))
noncomputable def w_law_1 : SM := ((sSeq (sSet 2 (eCall 1 d__law_source (arV (dVar 1) arNil)))
  (sSeq (sSet 3 (ofD (fz (eCall 2 d__law_house (arR 2 (arV (dC (.int 20)) arNil))))))
  (sSeq (sSet 4 (ofD (fz (eOp pAdd (dC (.int 1)) (fz (eCall 2 d__law_take (arR 2 (arV (dOp pIx (dVar 3) (dC (.int 0))) arNil))))))))
  (sIf (tNotM (tBl (fz (eCall 5 d__law_right (arR 2 (arV (dVar 3) (arV (dVar 4) (arV (fz (eCall 2 d__law_take (arR 2 (arV (dC (.int 13)) arNil)))) (arV (fz (eCall 2 d__law_take (arR 2 (arV (dC (.int 13)) arNil)))) arNil)))))))))
  ((sRet (ofD (dC (.bool false)))))
  (sNext))))))
theorem u_w_law_1 (r : Rho) : w_law_1 r = ((sSeq (sSet 2 (eCall 1 d__law_source (arV (dVar 1) arNil)))
  (sSeq (sSet 3 (ofD (fz (eCall 2 d__law_house (arR 2 (arV (dC (.int 20)) arNil))))))
  (sSeq (sSet 4 (ofD (fz (eOp pAdd (dC (.int 1)) (fz (eCall 2 d__law_take (arR 2 (arV (dOp pIx (dVar 3) (dC (.int 0))) arNil))))))))
  (sIf (tNotM (tBl (fz (eCall 5 d__law_right (arR 2 (arV (dVar 3) (arV (dVar 4) (arV (fz (eCall 2 d__law_take (arR 2 (arV (dC (.int 13)) arNil)))) (arV (fz (eCall 2 d__law_take (arR 2 (arV (dC (.int 13)) arNil)))) arNil)))))))))
  ((sRet (ofD (dC (.bool false)))))
  (sNext)))))) r := rfl
/-- law(_law_script) -/
noncomputable def d_law : Den := den 5 ((sSeq (sFor (iSeqM (fz (eCut (fz (eOp pAdd (dVar 0) (fz (eLst (dCons (dC (.int 0)) dNil))))) oNone (oSome (dC (.int 3)))))) (bName 1)
  ((sSeq (sSet 2 (eCall 1 d__law_source (arV (dVar 1) arNil)))
  (sSeq (sSet 3 (ofD (fz (eCall 2 d__law_house (arR 2 (arV (dC (.int 20)) arNil))))))
  (sSeq (sSet 4 (ofD (fz (eOp pAdd (dC (.int 1)) (fz (eCall 2 d__law_take (arR 2 (arV (dOp pIx (dVar 3) (dC (.int 0))) arNil))))))))
  (sIf (tNotM (tBl (fz (eCall 5 d__law_right (arR 2 (arV (dVar 3) (arV (dVar 4) (arV (fz (eCall 2 d__law_take (arR 2 (arV (dC (.int 13)) arNil)))) (arV (fz (eCall 2 d__law_take (arR 2 (arV (dC (.int 13)) arNil)))) arNil)))))))))
  ((sRet (ofD (dC (.bool false)))))
  (sNext)))))))
  (sRet (ofD (dC (.bool true))))))
theorem q_law : d_law = den 5 ((sSeq (sFor (iSeqM (fz (eCut (fz (eOp pAdd (dVar 0) (fz (eLst (dCons (dC (.int 0)) dNil))))) oNone (oSome (dC (.int 3)))))) (bName 1)
  w_law_1)
  (sRet (ofD (dC (.bool true)))))) := rfl
end Gk
namespace Gk
open PySem PySem.Spec PyProof.Rows L2 DL
def topS (i : Nat) : Stmt := PySem.Challenge.pw_cupkeep_k57_whole_ladders_made_of_ladder.main.body.getD i (.Pass ⟨0, 0, 0, 0⟩)
abbrev s__law_mixed : Stmt := topS 40
theorem sc__law_mixed : FnScope ["_law_cell", "_law_k", "_law_number"] ["_law_cell", "_law_k"] (defScope s__law_mixed) := ⟨rfl, rfl, rfl, by decide +kernel, rfl, by decide +kernel, by decide +kernel⟩
abbrev s__law_take : Stmt := topS 42
theorem sc__law_take : FnScope ["_law_source_here", "_law_many", "_law_found"] ["_law_source_here", "_law_many"] (defScope s__law_take) := ⟨rfl, rfl, rfl, by decide +kernel, rfl, by decide +kernel, by decide +kernel⟩
abbrev s__law_house : Stmt := topS 43
theorem sc__law_house : FnScope ["_law_source_here", "_law_far", "_law_cups_here", "_law_few", "_law_scoops_here", "_law_small", "_law_grains_here"] ["_law_source_here", "_law_far"] (defScope s__law_house) := ⟨rfl, rfl, rfl, by decide +kernel, rfl, by decide +kernel, by decide +kernel⟩
abbrev s_is_whole : Stmt := topS 9
theorem sc_is_whole : FnScope ["thing"] ["thing"] (defScope s_is_whole) := ⟨rfl, rfl, rfl, by decide +kernel, rfl, by decide +kernel, by decide +kernel⟩
abbrev s_is_count : Stmt := topS 11
theorem sc_is_count : FnScope ["thing"] ["thing"] (defScope s_is_count) := ⟨rfl, rfl, rfl, by decide +kernel, rfl, by decide +kernel, by decide +kernel⟩
abbrev s_are_counts : Stmt := topS 17
theorem sc_are_counts : FnScope ["thing", "many", "one"] ["thing", "many"] (defScope s_are_counts) := ⟨rfl, rfl, rfl, by decide +kernel, rfl, by decide +kernel, by decide +kernel⟩
abbrev s_falling : Stmt := topS 26
theorem sc_falling : FnScope ["standing"] ["standing"] (defScope s_falling) := ⟨rfl, rfl, rfl, by decide +kernel, rfl, by decide +kernel, by decide +kernel⟩
abbrev s_is_nowhere_less : Stmt := topS 27
theorem sc_is_nowhere_less : FnScope ["one", "other", "mine", "its"] ["one", "other"] (defScope s_is_nowhere_less) := ⟨rfl, rfl, rfl, by decide +kernel, rfl, by decide +kernel, by decide +kernel⟩
abbrev s_is_step : Stmt := topS 31
theorem sc_is_step : FnScope ["cups", "grains", "came", "step", "standing", "pour"] ["cups", "grains", "came", "step"] (defScope s_is_step) := ⟨rfl, rfl, rfl, by decide +kernel, rfl, by decide +kernel, by decide +kernel⟩
abbrev s_start_of : Stmt := topS 32
theorem sc_start_of : FnScope ["cups", "start"] ["cups", "start"] (defScope s_start_of) := ⟨rfl, rfl, rfl, by decide +kernel, rfl, by decide +kernel, by decide +kernel⟩
abbrev s_want_count : Stmt := topS 15
theorem sc_want_count : FnScope ["thing", "word"] ["thing", "word"] (defScope s_want_count) := ⟨rfl, rfl, rfl, by decide +kernel, rfl, by decide +kernel, by decide +kernel⟩
abbrev s_is_from : Stmt := topS 10
theorem sc_is_from : FnScope ["thing", "least", "most"] ["thing", "least", "most"] (defScope s_is_from) := ⟨rfl, rfl, rfl, by decide +kernel, rfl, by decide +kernel, by decide +kernel⟩
abbrev s_want_fullest : Stmt := topS 14
theorem sc_want_fullest : FnScope ["cups", "fullest"] ["cups", "fullest"] (defScope s_want_fullest) := ⟨rfl, rfl, rfl, by decide +kernel, rfl, by decide +kernel, by decide +kernel⟩
abbrev s_want_cups : Stmt := topS 12
theorem sc_want_cups : FnScope ["cups"] ["cups"] (defScope s_want_cups) := ⟨rfl, rfl, rfl, by decide +kernel, rfl, by decide +kernel, by decide +kernel⟩
abbrev s_want_sizes : Stmt := topS 13
theorem sc_want_sizes : FnScope ["cups", "grains", "scoops"] ["cups", "grains", "scoops"] (defScope s_want_sizes) := ⟨rfl, rfl, rfl, by decide +kernel, rfl, by decide +kernel, by decide +kernel⟩
abbrev s_want_pour : Stmt := topS 19
theorem sc_want_pour : FnScope ["pour", "cups"] ["pour", "cups"] (defScope s_want_pour) := ⟨rfl, rfl, rfl, by decide +kernel, rfl, by decide +kernel, by decide +kernel⟩
abbrev s_want_standing : Stmt := topS 18
theorem sc_want_standing : FnScope ["standing"] ["standing"] (defScope s_want_standing) := ⟨rfl, rfl, rfl, by decide +kernel, rfl, by decide +kernel, by decide +kernel⟩
abbrev s_poured : Stmt := topS 20
theorem sc_poured : FnScope ["standing", "pour", "held", "more"] ["standing", "pour"] (defScope s_poured) := ⟨rfl, rfl, rfl, by decide +kernel, rfl, by decide +kernel, by decide +kernel⟩
abbrev s_what_stays : Stmt := topS 28
theorem sc_what_stays : FnScope ["standing", "pour", "scoops"] ["standing", "pour", "scoops"] (defScope s_what_stays) := ⟨rfl, rfl, rfl, by decide +kernel, rfl, by decide +kernel, by decide +kernel⟩
abbrev s_check_ladder : Stmt := topS 33
theorem sc_check_ladder : FnScope ["cups", "grains", "scoops", "fullest", "held", "steps", "start", "came", "at", "step"] ["cups", "grains", "scoops", "fullest", "held", "steps", "start"] (defScope s_check_ladder) := ⟨rfl, rfl, rfl, by decide +kernel, rfl, by decide +kernel, by decide +kernel⟩
abbrev s__law_is_let : Stmt := topS 44
theorem sc__law_is_let : FnScope ["_law_house_here", "_law_wide", "_law_aim", "_law_steps_here"] ["_law_house_here", "_law_wide", "_law_aim", "_law_steps_here"] (defScope s__law_is_let) := ⟨rfl, rfl, rfl, by decide +kernel, rfl, by decide +kernel, by decide +kernel⟩
abbrev s__law_times : Stmt := topS 45
theorem sc__law_times : FnScope ["_law_steps_here", "_law_times_here", "_law_falls", "_law_pours_here", "_law_one"] ["_law_steps_here", "_law_times_here"] (defScope s__law_times) := ⟨rfl, rfl, rfl, by decide +kernel, rfl, by decide +kernel, by decide +kernel⟩
abbrev s__law_wider : Stmt := topS 46
theorem sc__law_wider : FnScope ["_law_steps_here", "_law_falls", "_law_pours_here"] ["_law_steps_here"] (defScope s__law_wider) := ⟨rfl, rfl, rfl, by decide +kernel, rfl, by decide +kernel, by decide +kernel⟩
abbrev s_want_shares : Stmt := topS 21
theorem sc_want_shares : FnScope ["total", "cups"] ["total", "cups"] (defScope s_want_shares) := ⟨rfl, rfl, rfl, by decide +kernel, rfl, by decide +kernel, by decide +kernel⟩
abbrev s_even : Stmt := topS 22
theorem sc_even : FnScope ["total", "cups", "share", "more"] ["total", "cups"] (defScope s_even) := ⟨rfl, rfl, rfl, by decide +kernel, rfl, by decide +kernel, by decide +kernel⟩
abbrev s_evening_out : Stmt := topS 29
theorem sc_evening_out : FnScope ["standing", "grains", "live", "goal", "found", "high", "here"] ["standing", "grains", "live"] (defScope s_evening_out) := ⟨rfl, rfl, rfl, by decide +kernel, rfl, by decide +kernel, by decide +kernel⟩
abbrev s_ladder : Stmt := topS 30
theorem sc_ladder : FnScope ["cups", "grains", "scoops", "fullest", "beats", "found", "standing", "ahead", "pour"] ["cups", "grains", "scoops", "fullest", "beats"] (defScope s_ladder) := ⟨rfl, rfl, rfl, by decide +kernel, rfl, by decide +kernel, by decide +kernel⟩
abbrev s_top : Stmt := topS 23
theorem sc_top : FnScope ["total", "cups", "many", "share", "more"] ["total", "cups", "many"] (defScope s_top) := ⟨rfl, rfl, rfl, by decide +kernel, rfl, by decide +kernel, by decide +kernel⟩
abbrev s_least_of : Stmt := topS 35
theorem sc_least_of : FnScope ["cups", "grains", "scoops", "row", "many", "total"] ["cups", "grains", "scoops", "row", "many"] (defScope s_least_of) := ⟨rfl, rfl, rfl, by decide +kernel, rfl, by decide +kernel, by decide +kernel⟩
abbrev s_next_row : Stmt := topS 36
theorem sc_next_row : FnScope ["cups", "grains", "scoops", "row", "found", "many"] ["cups", "grains", "scoops", "row"] (defScope s_next_row) := ⟨rfl, rfl, rfl, by decide +kernel, rfl, by decide +kernel, by decide +kernel⟩
abbrev s_row_at : Stmt := topS 37
theorem sc_row_at : FnScope ["cups", "grains", "scoops", "beats", "row", "done", "later"] ["cups", "grains", "scoops", "beats"] (defScope s_row_at) := ⟨rfl, rfl, rfl, by decide +kernel, rfl, by decide +kernel, by decide +kernel⟩
abbrev s_most : Stmt := topS 38
theorem sc_most : FnScope ["cups", "grains", "scoops", "fullest", "beats"] ["cups", "grains", "scoops", "fullest", "beats"] (defScope s_most) := ⟨rfl, rfl, rfl, by decide +kernel, rfl, by decide +kernel, by decide +kernel⟩
abbrev s__law_right : Stmt := topS 47
theorem sc__law_right : FnScope ["_law_source_here", "_law_house_here", "_law_wide", "_law_last", "_law_later", "_law_a", "_law_b", "_law_c", "_law_first", "_law_second", "_law_aim", "_law_goal", "_law_times_here", "_law_wide_house", "_law_far", "_law_begun", "_law_t", "_law_k"] ["_law_source_here", "_law_house_here", "_law_wide", "_law_last", "_law_later"] (defScope s__law_right) := ⟨rfl, rfl, rfl, by decide +kernel, rfl, by decide +kernel, by decide +kernel⟩
abbrev s__law_source : Stmt := topS 41
theorem sc__law_source : FnScope ["_law_cell"] ["_law_cell"] (defScope s__law_source) := ⟨rfl, rfl, rfl, by decide +kernel, rfl, by decide +kernel, by decide +kernel⟩
abbrev s_law : Stmt := topS 48
theorem sc_law : FnScope ["_law_script", "_law_cell", "_law_source_here", "_law_house_here", "_law_wide"] ["_law_script"] (defScope s_law) := ⟨rfl, rfl, rfl, by decide +kernel, rfl, by decide +kernel, by decide +kernel⟩
section
variable {P : Program} {w : World} {K : PySem.W.Frag} {tcK : TabC K} {mg : Str → Option Value} {base : Heap}
theorem ok__law_mixed {a_0 : Addr} {fd_0 : FuncData} (F : Fun K "_law_mixed" "_law_mixed" s__law_mixed a_0 fd_0)  : FnG P w K mg base 1 a_0 fd_0 ["_law_cell", "_law_k"] (spM K 2 d__law_mixed) := by
  refine fn_g F sc__law_mixed (fun vs H Q E h => h.1) (fun cdv A outer s H vs Q E hcd hr h => ⟨tS K (fun c d _ H => E c d H) ((sSeq (sSet 2 (ofD (dOp pMod (fz (eMul (eOp pAdd (dOp pMod (dVar 0) (dC (.int 2147483646))) (dC (.int 1))) (fz (eOp pAdd (fz (eMul (ofD (dVar 1)) (dC (.int 7919)))) (dC (.int 104729)))))) (dC (.int 2147483647)))))
  (sSeq (sSet 2 (ofD (dOp pMod (fz (eMul (eOp pAdd (dVar 2) (fz (eMul (ofD (dOp pMod (dOp pDiv (dVar 0) (dC (.int 2147483646))) (dC (.int 1000003)))) (fz (eOp pAdd (dVar 1) (dC (.int 31))))))) (dC (.int 48271)))) (dC (.int 2147483629)))))
  (sSeq (sSet 2 (ofD (dOp pMod (fz (eMul (ofD (dVar 2)) (fz (eOp pAdd (fz (eOp pAdd (dOp pDiv (dVar 2) (dC (.int 1013))) (dC (.int 69621)))) (dVar 1))))) (dC (.int 2147483587)))))
  (sRet (ofD (dOp pMod (fz (eMul (ofD (dVar 2)) (fz (eOp pAdd (dOp pDiv (dVar 2) (dC (.int 2003))) (dC (.int 40692)))))) (dC (.int 2147483563))))))))), ?_, body_ok (N := ["_law_cell", "_law_k", "_law_number"]) (sS _) (by decide) h⟩)
  exact (b_cons (wS (ps_set (i := 2) sc__law_mixed.nd rfl (by first | exact .inl rfl | exact .inr rfl) (e_rv (d_mod (d_fz (e_mul (e_add (d_mod (d_var 0) d_int) d_int) (d_fz (e_add (d_fz (e_mul (e_rv (d_var 1)) d_int)) d_int)))) d_int))) (absSet (sE _)))
    (b_cons (wS (ps_set (i := 2) sc__law_mixed.nd rfl (by first | exact .inl rfl | exact .inr rfl) (e_rv (d_mod (d_fz (e_mul (e_add (d_var 2) (d_fz (e_mul (e_rv (d_mod (d_div (d_var 0) d_int) d_int)) (d_fz (e_add (d_var 1) d_int))))) d_int)) d_int))) (absSet (sE _)))
    (b_cons (wS (ps_set (i := 2) sc__law_mixed.nd rfl (by first | exact .inl rfl | exact .inr rfl) (e_rv (d_mod (d_fz (e_mul (e_rv (d_var 2)) (d_fz (e_add (d_fz (e_add (d_div (d_var 2) d_int) d_int)) (d_var 1))))) d_int))) (absSet (sE _)))
    (b_one (s_ret (e_rv (d_mod (d_fz (e_mul (e_rv (d_var 2)) (d_fz (e_add (d_div (d_var 2) d_int) d_int)))) d_int)))))))
theorem ok__law_take {a_0 : Addr} {fd_0 : FuncData} (F : Fun K "_law_take" "_law_take" s__law_take a_0 fd_0) {a__law_mixed : Addr} {fd__law_mixed : FuncData} (F__law_mixed : Fun K "_law_mixed" "_law_mixed" s__law_mixed a__law_mixed fd__law_mixed) (b__law_mixed : Binds K fd__law_mixed ["_law_cell", "_law_k"] []) (G__law_mixed : FnG P w K mg base 1 a__law_mixed fd__law_mixed ["_law_cell", "_law_k"] (spM K 2 d__law_mixed))
    (g__law_mixed : mg "_law_mixed" = some (.ref a__law_mixed)) : FnG P w K mg base 2 a_0 fd_0 ["_law_source_here", "_law_many"] (spM K 2 d__law_take) := by
  refine fn_g F sc__law_take (fun vs H Q E h => h.1) (fun cdv A outer s H vs Q E hcd hr h => ⟨tS K (fun c d _ H => E c d H) ((sSeq (sIf (tBl (dOp pGe (dIxO 0 (dC (.int 0))) (dOp pPow (dC (.int 10)) (dC (.int 18)))))
  ((sSeq (sSet 2 (ofD (dOp pMod (dIxO 0 (dC (.int 0))) (dVar 1))))
  (sSeq (sPut 0 (dC (.int 0)) (dOp pDiv (dIxO 0 (dC (.int 0))) (dVar 1)))
  (sRet (eMove 2)))))
  (sNext))
  (sSeq (sPut 0 (dC (.int 2)) (fz (eOp pAdd (dIxO 0 (dC (.int 2))) (dC (.int 1)))))
  (sRet (ofD (dOp pMod (fz (eCall 2 d__law_mixed (arV (dIxO 0 (dC (.int 1))) (arV (dIxO 0 (dC (.int 2))) arNil)))) (dVar 1))))))), ?_, body_ok (N := ["_law_source_here", "_law_many", "_law_found"]) (sS _) (by decide) h⟩)
  exact (b_cons (s_if (t_cmp op_ge a_ge (d_ixO 0 d_int) (d_pow d_int d_int)) (b_cons (wS (ps_set (i := 2) sc__law_take.nd rfl (by first | exact .inl rfl | exact .inr rfl) (e_rv (d_mod (d_ixO 0 d_int) (d_var 1)))) (absSet (sE _)))
    (b_cons (wS (ps_asg (d_div (d_ixO 0 d_int) (d_var 1)) (pg_sub (pv 0) d_int set_list)) (absPut (sD _) (sD _)))
    (b_one (s_ret (e_mov 2))))) b_nil)
    (b_cons (wS (ps_asg (d_fz (e_add (d_ixO 0 d_int) d_int)) (pg_sub (pv 0) d_int set_list)) (absPut (sD _) (sD _)))
    (b_one (s_ret (e_rv (d_mod (d_fz (wE (pe_callG G__law_mixed (hr.mono (by decide)) (by rfl) g__law_mixed F__law_mixed.kp b__law_mixed (fun σ => passAt (takes_of (E := E) rfl rfl rfl rfl) σ) (ar_v (d_ixO 0 d_int) (ar_v (d_ixO 0 d_int) ar_nil))) (absCall (sAr _)))) (d_var 1)))))))
theorem ok__law_house {a_0 : Addr} {fd_0 : FuncData} (F : Fun K "_law_house" "_law_house" s__law_house a_0 fd_0) {a__law_take : Addr} {fd__law_take : FuncData} (F__law_take : Fun K "_law_take" "_law_take" s__law_take a__law_take fd__law_take) (b__law_take : Binds K fd__law_take ["_law_source_here", "_law_many"] []) (G__law_take : FnG P w K mg base 2 a__law_take fd__law_take ["_law_source_here", "_law_many"] (spM K 2 d__law_take))
    (g__law_take : mg "_law_take" = some (.ref a__law_take)) : FnG P w K mg base 3 a_0 fd_0 ["_law_source_here", "_law_far"] (spM K 2 d__law_house) := by
  refine fn_g F sc__law_house (fun vs H Q E h => h.1) (fun cdv A outer s H vs Q E hcd hr h => ⟨tS K (fun c d _ H => E c d H) ((sSeq (sSet 2 (ofD (fz (eOp pAdd (dC (.int 2)) (fz (eCall 2 d__law_take (arR 0 (arV (dOp pSub (dVar 1) (dC (.int 1))) arNil))))))))
  (sSeq (sSet 3 (ofD (fz (eOp pAdd (dC (.int 1)) (fz (eCall 2 d__law_take (arR 0 (arV (dOp pSub (dVar 2) (dC (.int 1))) arNil))))))))
  (sSeq (sSet 4 (ofD (dOp pIx (fz (eLst (dCons (dC (.int 1)) (dCons (dC (.int 1)) (dCons (dVar 3) (dCons (dOp pSub (dVar 2) (dC (.int 1))) dNil)))))) (fz (eCall 2 d__law_take (arR 0 (arV (dC (.int 4)) arNil)))))))
  (sSeq (sSet 5 (ofD (fz (eCall 2 d__law_take (arR 0 (arV (dC (.int 12)) arNil))))))
  (sSeq (sSet 6 (ofD (dOp pIx (fz (eLst (dCons (dVar 5) (dCons (dVar 5) (dCons (fz (eCall 2 d__law_take (arR 0 (arV (dC (.int 200)) arNil)))) (dCons (fz (eOp pAdd (dOp pPow (dC (.int 10)) (dC (.int 17))) (fz (eCall 2 d__law_take (arR 0 (arV (dOp pPow (dC (.int 10)) (dC (.int 17))) arNil)))))) dNil)))))) (fz (eCall 2 d__law_take (arR 0 (arV (dC (.int 4)) arNil)))))))
  (sRet (ofD (dTup (dCons (dVar 2) (dCons (dVar 6) (dCons (dVar 4) dNil)))))))))))), ?_, body_ok (N := ["_law_source_here", "_law_far", "_law_cups_here", "_law_few", "_law_scoops_here", "_law_small", "_law_grains_here"]) (sS _) (by decide) h⟩)
  exact (b_cons (wS (ps_set (i := 2) sc__law_house.nd rfl (by first | exact .inl rfl | exact .inr rfl) (e_rv (d_fz (e_add d_int (d_fz (wE (pe_callG G__law_take (hr.mono (by decide)) (by rfl) g__law_take F__law_take.kp b__law_take (fun σ => passAt (takes_of (E := E) rfl rfl rfl rfl) σ) (ar_r 0 (ar_v (d_sub (d_var 1) d_int) ar_nil))) (absCall (sAr _)))))))) (absSet (sE _)))
    (b_cons (wS (ps_set (i := 3) sc__law_house.nd rfl (by first | exact .inl rfl | exact .inr rfl) (e_rv (d_fz (e_add d_int (d_fz (wE (pe_callG G__law_take (hr.mono (by decide)) (by rfl) g__law_take F__law_take.kp b__law_take (fun σ => passAt (takes_of (E := E) rfl rfl rfl rfl) σ) (ar_r 0 (ar_v (d_sub (d_var 2) d_int) ar_nil))) (absCall (sAr _)))))))) (absSet (sE _)))
    (b_cons (wS (ps_set (i := 4) sc__law_house.nd rfl (by first | exact .inl rfl | exact .inr rfl) (e_rv (d_ix (d_fz (e_lst (a_cons d_int (a_cons d_int (a_cons (d_var 3) (a_cons (d_sub (d_var 2) d_int) a_nil)))))) (d_fz (wE (pe_callG G__law_take (hr.mono (by decide)) (by rfl) g__law_take F__law_take.kp b__law_take (fun σ => passAt (takes_of (E := E) rfl rfl rfl rfl) σ) (ar_r 0 (ar_v d_int ar_nil))) (absCall (sAr _))))))) (absSet (sE _)))
    (b_cons (wS (ps_set (i := 5) sc__law_house.nd rfl (by first | exact .inl rfl | exact .inr rfl) (e_rv (d_fz (wE (pe_callG G__law_take (hr.mono (by decide)) (by rfl) g__law_take F__law_take.kp b__law_take (fun σ => passAt (takes_of (E := E) rfl rfl rfl rfl) σ) (ar_r 0 (ar_v d_int ar_nil))) (absCall (sAr _)))))) (absSet (sE _)))
    (b_cons (wS (ps_set (i := 6) sc__law_house.nd rfl (by first | exact .inl rfl | exact .inr rfl) (e_rv (d_ix (d_fz (e_lst (a_cons (d_var 5) (a_cons (d_var 5) (a_cons (d_fz (wE (pe_callG G__law_take (hr.mono (by decide)) (by rfl) g__law_take F__law_take.kp b__law_take (fun σ => passAt (takes_of (E := E) rfl rfl rfl rfl) σ) (ar_r 0 (ar_v d_int ar_nil))) (absCall (sAr _)))) (a_cons (d_fz (e_add (d_pow d_int d_int) (d_fz (wE (pe_callG G__law_take (hr.mono (by decide)) (by rfl) g__law_take F__law_take.kp b__law_take (fun σ => passAt (takes_of (E := E) rfl rfl rfl rfl) σ) (ar_r 0 (ar_v (d_pow d_int d_int) ar_nil))) (absCall (sAr _)))))) a_nil)))))) (d_fz (wE (pe_callG G__law_take (hr.mono (by decide)) (by rfl) g__law_take F__law_take.kp b__law_take (fun σ => passAt (takes_of (E := E) rfl rfl rfl rfl) σ) (ar_r 0 (ar_v d_int ar_nil))) (absCall (sAr _))))))) (absSet (sE _)))
    (b_one (s_ret (e_rv (d_tup (a_cons (d_var 2) (a_cons (d_var 6) (a_cons (d_var 4) a_nil))))))))))))
theorem ok_is_whole {a_0 : Addr} {fd_0 : FuncData} (F : Fun K "is_whole" "is_whole" s_is_whole a_0 fd_0) (m_bool : mg "bool" = none)
    (m_int : mg "int" = none)
    (m_isinstance : mg "isinstance" = none) : FnG P w K mg base 1 a_0 fd_0 ["thing"] (spM K 1 d_is_whole) := by
  refine fn_g F sc_is_whole (fun vs H Q E h => h.1) (fun cdv A outer s H vs Q E hcd hr h => ⟨tS K (fun c d _ H => E c d H) ((sRet (ofD (dAnd (dIsi "int" (dVar 0)) (dNot (dIsi "bool" (dVar 0))))))), ?_, body_ok (N := ["thing"]) (sS _) (by decide) h⟩)
  exact (b_one (s_ret (e_rv (d_and (wD (pe_callB call_isi (by rfl) m_isinstance (by decide +kernel) (pa_cons (d_var 0) (pa_cons (pe_bltn (v := V.ty "int") (u := Value.type "int") (by rfl) m_int (by decide +kernel) rfl) pa_nil))) (absIsi (T := "int") (sD _))) (d_one (d_not (wD (pe_callB call_isi (by rfl) m_isinstance (by decide +kernel) (pa_cons (d_var 0) (pa_cons (pe_bltn (v := V.ty "bool") (u := Value.type "bool") (by rfl) m_bool (by decide +kernel) rfl) pa_nil))) (absIsi (T := "bool") (sD _)))))))))
theorem ok_is_count {a_0 : Addr} {fd_0 : FuncData} (F : Fun K "is_count" "is_count" s_is_count a_0 fd_0) {a_is_whole : Addr} {fd_is_whole : FuncData} (F_is_whole : Fun K "is_whole" "is_whole" s_is_whole a_is_whole fd_is_whole) (b_is_whole : Binds K fd_is_whole ["thing"] []) (G_is_whole : FnG P w K mg base 1 a_is_whole fd_is_whole ["thing"] (spM K 1 d_is_whole))
    (g_is_whole : mg "is_whole" = some (.ref a_is_whole)) : FnG P w K mg base 2 a_0 fd_0 ["thing"] (spM K 1 d_is_count) := by
  refine fn_g F sc_is_count (fun vs H Q E h => h.1) (fun cdv A outer s H vs Q E hcd hr h => ⟨tS K (fun c d _ H => E c d H) ((sRet (ofD (dAnd (fz (eCall 1 d_is_whole (arV (dVar 0) arNil))) (dOp pGe (dVar 0) (dC (.int 0))))))), ?_, body_ok (N := ["thing"]) (sS _) (by decide) h⟩)
  exact (b_one (s_ret (e_rv (d_and (d_fz (wE (pe_callG G_is_whole (hr.mono (by decide)) (by rfl) g_is_whole F_is_whole.kp b_is_whole (fun σ => passAt (takes_of (E := E) rfl rfl rfl rfl) σ) (ar_v (d_var 0) ar_nil)) (absCall (sAr _)))) (d_one (d_cmp op_ge a_ge (d_var 0) d_int))))))
theorem ok_are_counts {a_0 : Addr} {fd_0 : FuncData} (F : Fun K "are_counts" "are_counts" s_are_counts a_0 fd_0) (m_all : mg "all" = none)
    (m_isinstance : mg "isinstance" = none)
    (m_len : mg "len" = none)
    (m_tuple : mg "tuple" = none)
    {a_is_count : Addr} {fd_is_count : FuncData} (F_is_count : Fun K "is_count" "is_count" s_is_count a_is_count fd_is_count) (b_is_count : Binds K fd_is_count ["thing"] []) (G_is_count : FnG P w K mg base 2 a_is_count fd_is_count ["thing"] (spM K 1 d_is_count))
    (g_is_count : mg "is_count" = some (.ref a_is_count)) : FnG P w K mg base 3 a_0 fd_0 ["thing", "many"] (spM K 2 d_are_counts) := by
  refine fn_g F sc_are_counts (fun vs H Q E h => h.1) (fun cdv A outer s H vs Q E hcd hr h => ⟨tS K (fun c d _ H => E c d H) ((sRet (ofD (dAnd (dIsi "tuple" (dVar 0)) (dAnd (dOp pEq (dCB pLen (dCons (dVar 0) dNil)) (dVar 1)) (dCB pAll (dCons (fz (eLc (iSeqM (dVar 0)) [2] (bName 2) tYesM (fz (eCall 1 d_is_count (arV (dVar 2) arNil))))) dNil))))))), ?_, body_ok (N := ["thing", "many", "one"]) (sS _) (by decide) h⟩)
  exact (b_one (s_ret (e_rv (d_and (wD (pe_callB call_isi (by rfl) m_isinstance (by decide +kernel) (pa_cons (d_var 0) (pa_cons (pe_bltn (v := V.ty "tuple") (u := Value.type "tuple") (by rfl) m_tuple (by decide +kernel) rfl) pa_nil))) (absIsi (T := "tuple") (sD _))) (d_and (d_cmp (op_eqD hr.units) a_eq (wD (pe_callB call_len_seq (by rfl) m_len (by decide +kernel) (a_cons (d_var 0) a_nil)) (absCB (sA _) a_len)) (d_var 1)) (d_one (wD (pe_callB (cr_all rfl) (by rfl) m_all (by decide +kernel) (a_cons (d_fz (wE (pe_lc (own := [("one", 2)]) rfl sc_are_counts.nd (wI (pi_seq (d_var 0)) (absISeq (sD _))) (blkOk_by (own := [("one", 2)]) (N := ["thing", "many", "one"]) (sc := defScope s_are_counts) (by decide +kernel)) (fun _ _ _ _ _ => (wG (pg_name (i := 2) sc_are_counts.nd rfl (by first | exact .inl rfl | exact .inr rfl)) (absName 2))) (fun _ _ _ _ _ => pts_nil) (fun _ _ _ _ _ => (d_fz (wE (pe_callG G_is_count (hr.mono (by decide)) (by rfl) g_is_count F_is_count.kp b_is_count (fun σ => passAt takes0 σ) (ar_v (d_var 2) ar_nil)) (absCall (sAr _)))))) (absLc (sI _) (sG _ _) (by decide) absYes (sD _)))) a_nil)) (absCB (sA _) a_all))))))))
theorem ok_falling {a_0 : Addr} {fd_0 : FuncData} (F : Fun K "falling" "falling" s_falling a_0 fd_0) (m_sorted : mg "sorted" = none)
    (m_tuple : mg "tuple" = none) : FnG P w K mg base 1 a_0 fd_0 ["standing"] (spM K 1 d_falling) := by
  refine fn_g F sc_falling (fun vs H Q E h => h.1) (fun cdv A outer s H vs Q E hcd hr h => ⟨tS K (fun c d _ H => E c d H) ((sRet (ofD (dCB pTupOf (dCons (fz (eCB (pSortD true) (dCons (dVar 0) dNil))) dNil))))), ?_, body_ok (N := ["standing"]) (sS _) (by decide) h⟩)
  exact (b_one (s_ret (e_rv (wD (pe_callTy call_tuple_of (by rfl) m_tuple (by decide +kernel) (a_cons (d_fz (wE (pe_callBK (cr_sortDRev (b := true) hr.units) (by rfl) m_sorted (by decide +kernel) (a_cons (d_var 0) a_nil) (pk_cons pe_bl pk_nil)) (absSortRD (sA _)))) a_nil)) (absCB (sA _) a_tupOf)))))
theorem ok_is_nowhere_less {a_0 : Addr} {fd_0 : FuncData} (F : Fun K "is_nowhere_less" "is_nowhere_less" s_is_nowhere_less a_0 fd_0) (m_all : mg "all" = none)
    (m_zip : mg "zip" = none) : FnG P w K mg base 1 a_0 fd_0 ["one", "other"] (spM K 2 d_is_nowhere_less) := by
  refine fn_g F sc_is_nowhere_less (fun vs H Q E h => h.1) (fun cdv A outer s H vs Q E hcd hr h => ⟨tS K (fun c d _ H => E c d H) ((sRet (ofD (dCB pAll (dCons (fz (eLc (iZipB true (dVar 0) (dVar 1)) [2, 3] (bTup 2 (bCons (bName 2) (bCons (bName 3) bNil))) tYesM (dOp pGe (dVar 2) (dVar 3)))) dNil))))), ?_, body_ok (N := ["one", "other", "mine", "its"]) (sS _) (by decide) h⟩)
  exact (b_one (s_ret (e_rv (wD (pe_callB (cr_all rfl) (by rfl) m_all (by decide +kernel) (a_cons (d_fz (wE (pe_lc (own := [("mine", 2), ("its", 3)]) rfl sc_is_nowhere_less.nd (wI (pi_zipS (by rfl) m_zip (pa_cons (d_var 0) (pa_cons (d_var 1) pa_nil))) (absZipB (sD _) (sD _))) (blkOk_by (own := [("mine", 2), ("its", 3)]) (N := ["one", "other", "mine", "its"]) (sc := defScope s_is_nowhere_less) (by decide +kernel)) (fun _ _ _ _ _ => (wG (pg_tup (by rfl) (g_cons (wG (pg_name (i := 2) sc_is_nowhere_less.nd rfl (by first | exact .inl rfl | exact .inr rfl)) (absName 2)) (g_cons (wG (pg_name (i := 3) sc_is_nowhere_less.nd rfl (by first | exact .inl rfl | exact .inr rfl)) (absName 3)) g_nil))) (absGTup (sGs _ _)))) (fun _ _ _ _ _ => pts_nil) (fun _ _ _ _ _ => (d_cmp op_ge a_ge (d_var 2) (d_var 3)))) (absLc (sI _) (sG _ _) (by decide) absYes (sD _)))) a_nil)) (absCB (sA _) a_all)))))
theorem ok_is_step {a_0 : Addr} {fd_0 : FuncData} (F : Fun K "is_step" "is_step" s_is_step a_0 fd_0) (m_isinstance : mg "isinstance" = none)
    (m_len : mg "len" = none)
    (m_sum : mg "sum" = none)
    (m_tuple : mg "tuple" = none)
    {a_are_counts : Addr} {fd_are_counts : FuncData} (F_are_counts : Fun K "are_counts" "are_counts" s_are_counts a_are_counts fd_are_counts) (b_are_counts : Binds K fd_are_counts ["thing", "many"] []) (G_are_counts : FnG P w K mg base 3 a_are_counts fd_are_counts ["thing", "many"] (spM K 2 d_are_counts))
    (g_are_counts : mg "are_counts" = some (.ref a_are_counts))
    {a_falling : Addr} {fd_falling : FuncData} (F_falling : Fun K "falling" "falling" s_falling a_falling fd_falling) (b_falling : Binds K fd_falling ["standing"] []) (G_falling : FnG P w K mg base 1 a_falling fd_falling ["standing"] (spM K 1 d_falling))
    (g_falling : mg "falling" = some (.ref a_falling))
    {a_is_nowhere_less : Addr} {fd_is_nowhere_less : FuncData} (F_is_nowhere_less : Fun K "is_nowhere_less" "is_nowhere_less" s_is_nowhere_less a_is_nowhere_less fd_is_nowhere_less) (b_is_nowhere_less : Binds K fd_is_nowhere_less ["one", "other"] []) (G_is_nowhere_less : FnG P w K mg base 1 a_is_nowhere_less fd_is_nowhere_less ["one", "other"] (spM K 2 d_is_nowhere_less))
    (g_is_nowhere_less : mg "is_nowhere_less" = some (.ref a_is_nowhere_less)) : FnG P w K mg base 4 a_0 fd_0 ["cups", "grains", "came", "step"] (spM K 4 d_is_step) := by
  refine fn_g F sc_is_step (fun vs H Q E h => h.1) (fun cdv A outer s H vs Q E hcd hr h => ⟨tS K (fun c d _ H => E c d H) ((sSeq (sIf (tOrM (tNotM (tBl (dIsi "tuple" (dVar 3)))) (tBl (dOp pNe (dCB pLen (dCons (dVar 3) dNil)) (dC (.int 2)))))
  ((sRet (ofD (dC (.bool false)))))
  (sNext))
  (sSeq (sAsg (bTup 2 (bCons (bName 4) (bCons (bName 5) bNil))) (dVar 3))
  (sSeq (sIf (tOrM (tNotM (tBl (fz (eCall 2 d_are_counts (arV (dVar 4) (arV (dVar 0) arNil)))))) (tNotM (tBl (fz (eCall 2 d_are_counts (arV (dVar 5) (arV (dVar 0) arNil)))))))
  ((sRet (ofD (dC (.bool false)))))
  (sNext))
  (sRet (ofD (dAnd (dOp pEq (fz (eCall 1 d_falling (arV (dVar 4) arNil))) (dVar 4)) (dAnd (dOp pEq (dCB pSumA (dCons (dVar 5) dNil)) (dVar 1)) (fz (eCall 2 d_is_nowhere_less (arV (dVar 2) (arV (dVar 4) arNil)))))))))))), ?_, body_ok (N := ["cups", "grains", "came", "step", "standing", "pour"]) (sS _) (by decide) h⟩)
  exact (b_cons (s_if (t_w (w_or (t_not (t_val (wD (pe_callB call_isi (by rfl) m_isinstance (by decide +kernel) (pa_cons (d_var 3) (pa_cons (pe_bltn (v := V.ty "tuple") (u := Value.type "tuple") (by rfl) m_tuple (by decide +kernel) rfl) pa_nil))) (absIsi (T := "tuple") (sD _))))) (w_or1 (t_cmp (op_neD hr.units) a_ne (wD (pe_callB call_len_seq (by rfl) m_len (by decide +kernel) (a_cons (d_var 3) a_nil)) (absCB (sA _) a_len)) d_int)))) (b_one (s_ret (e_rv d_bl))) b_nil)
    (b_cons (wS (ps_asg (d_var 3) (wG (pg_tup (by rfl) (g_cons (wG (pg_name (i := 4) sc_is_step.nd rfl (by first | exact .inl rfl | exact .inr rfl)) (absName 4)) (g_cons (wG (pg_name (i := 5) sc_is_step.nd rfl (by first | exact .inl rfl | exact .inr rfl)) (absName 5)) g_nil))) (absGTup (sGs _ _)))) (absAsg (sD _) (sG _ _)))
    (b_cons (s_if (t_w (w_or (t_not (t_val (d_fz (wE (pe_callG G_are_counts (hr.mono (by decide)) (by rfl) g_are_counts F_are_counts.kp b_are_counts (fun σ => passAt (takes_of (E := E) rfl rfl rfl rfl) σ) (ar_v (d_var 4) (ar_v (d_var 0) ar_nil))) (absCall (sAr _)))))) (w_or1 (t_not (t_val (d_fz (wE (pe_callG G_are_counts (hr.mono (by decide)) (by rfl) g_are_counts F_are_counts.kp b_are_counts (fun σ => passAt (takes_of (E := E) rfl rfl rfl rfl) σ) (ar_v (d_var 5) (ar_v (d_var 0) ar_nil))) (absCall (sAr _))))))))) (b_one (s_ret (e_rv d_bl))) b_nil)
    (b_one (s_ret (e_rv (d_and (d_cmp (op_eqD hr.units) a_eq (d_fz (wE (pe_callG G_falling (hr.mono (by decide)) (by rfl) g_falling F_falling.kp b_falling (fun σ => passAt (takes_of (E := E) rfl rfl rfl rfl) σ) (ar_v (d_var 4) ar_nil)) (absCall (sAr _)))) (d_var 4)) (d_and (d_cmp (op_eqD hr.units) a_eq (wD (pe_callB (cr_sumA rfl) (by rfl) m_sum (by decide +kernel) (a_cons (d_var 5) a_nil)) (absCB (sA _) a_sumA)) (d_var 1)) (d_one (d_fz (wE (pe_callG G_is_nowhere_less (hr.mono (by decide)) (by rfl) g_is_nowhere_less F_is_nowhere_less.kp b_is_nowhere_less (fun σ => passAt (takes_of (E := E) rfl rfl rfl rfl) σ) (ar_v (d_var 2) (ar_v (d_var 4) ar_nil))) (absCall (sAr _)))))))))))))
theorem ok_start_of {a_0 : Addr} {fd_0 : FuncData} (F : Fun K "start_of" "start_of" s_start_of a_0 fd_0) {a_are_counts : Addr} {fd_are_counts : FuncData} (F_are_counts : Fun K "are_counts" "are_counts" s_are_counts a_are_counts fd_are_counts) (b_are_counts : Binds K fd_are_counts ["thing", "many"] []) (G_are_counts : FnG P w K mg base 3 a_are_counts fd_are_counts ["thing", "many"] (spM K 2 d_are_counts))
    (g_are_counts : mg "are_counts" = some (.ref a_are_counts))
    {a_falling : Addr} {fd_falling : FuncData} (F_falling : Fun K "falling" "falling" s_falling a_falling fd_falling) (b_falling : Binds K fd_falling ["standing"] []) (G_falling : FnG P w K mg base 1 a_falling fd_falling ["standing"] (spM K 1 d_falling))
    (g_falling : mg "falling" = some (.ref a_falling)) : FnG P w K mg base 4 a_0 fd_0 ["cups", "start"] (spM K 2 d_start_of) := by
  refine fn_g F sc_start_of (fun vs H Q E h => h.1) (fun cdv A outer s H vs Q E hcd hr h => ⟨tS K (fun c d _ H => E c d H) ((sSeq (sIf (tBl (dOp pIsN (dVar 1) (dC .none)))
  ((sRet (ofD (dOp pTM (dTup (dCons (dC (.int 0)) dNil)) (dVar 0)))))
  (sNext))
  (sSeq (sIf (tNotM (tBl (fz (eCall 2 d_are_counts (arV (dVar 1) (arV (dVar 0) arNil))))))
  (sNever)
  (sNext))
  (sRet (eCall 1 d_falling (arV (dVar 1) arNil)))))), ?_, body_ok (N := ["cups", "start"]) (sS _) (by decide) h⟩)
  exact (b_cons (s_if (t_cmp op_isN a_isN (d_var 1) d_non) (b_one (s_ret (e_rv (d_op op_tm a_tm (d_tup (a_cons d_int a_nil)) (d_var 0))))) b_nil)
    (b_cons (s_if (t_not (t_val (d_fz (wE (pe_callG G_are_counts (hr.mono (by decide)) (by rfl) g_are_counts F_are_counts.kp b_are_counts (fun σ => passAt (takes_of (E := E) rfl rfl rfl rfl) σ) (ar_v (d_var 1) (ar_v (d_var 0) ar_nil))) (absCall (sAr _)))))) (b_one s_never) b_nil)
    (b_one (s_ret (wE (pe_callG G_falling (hr.mono (by decide)) (by rfl) g_falling F_falling.kp b_falling (fun σ => passAt (takes_of (E := E) rfl rfl rfl rfl) σ) (ar_v (d_var 1) ar_nil)) (absCall (sAr _)))))))
theorem ok_want_count {a_0 : Addr} {fd_0 : FuncData} (F : Fun K "want_count" "want_count" s_want_count a_0 fd_0) {a_is_count : Addr} {fd_is_count : FuncData} (F_is_count : Fun K "is_count" "is_count" s_is_count a_is_count fd_is_count) (b_is_count : Binds K fd_is_count ["thing"] []) (G_is_count : FnG P w K mg base 2 a_is_count fd_is_count ["thing"] (spM K 1 d_is_count))
    (g_is_count : mg "is_count" = some (.ref a_is_count)) : FnG P w K mg base 3 a_0 fd_0 ["thing", "word"] (spM K 2 d_want_count) := by
  refine fn_g F sc_want_count (fun vs H Q E h => h.1) (fun cdv A outer s H vs Q E hcd hr h => ⟨tS K (fun c d _ H => E c d H) ((sIf (tNotM (tBl (fz (eCall 1 d_is_count (arV (dVar 0) arNil)))))
  (sNever)
  (sNext))), ?_, body_ok (N := ["thing", "word"]) (sS _) (by decide) h⟩)
  exact (b_one (s_if (t_not (t_val (d_fz (wE (pe_callG G_is_count (hr.mono (by decide)) (by rfl) g_is_count F_is_count.kp b_is_count (fun σ => passAt (takes_of (E := E) rfl rfl rfl rfl) σ) (ar_v (d_var 0) ar_nil)) (absCall (sAr _)))))) (b_one s_never) b_nil))
theorem ok_is_from {a_0 : Addr} {fd_0 : FuncData} (F : Fun K "is_from" "is_from" s_is_from a_0 fd_0) {a_is_whole : Addr} {fd_is_whole : FuncData} (F_is_whole : Fun K "is_whole" "is_whole" s_is_whole a_is_whole fd_is_whole) (b_is_whole : Binds K fd_is_whole ["thing"] []) (G_is_whole : FnG P w K mg base 1 a_is_whole fd_is_whole ["thing"] (spM K 1 d_is_whole))
    (g_is_whole : mg "is_whole" = some (.ref a_is_whole)) : FnG P w K mg base 2 a_0 fd_0 ["thing", "least", "most"] (spM K 3 d_is_from) := by
  refine fn_g F sc_is_from (fun vs H Q E h => h.1) (fun cdv A outer s H vs Q E hcd hr h => ⟨tS K (fun c d _ H => E c d H) ((sRet (ofD (dAnd (fz (eCall 1 d_is_whole (arV (dVar 0) arNil))) (dChain pLe pLe (dVar 1) (dVar 0) (dVar 2)))))), ?_, body_ok (N := ["thing", "least", "most"]) (sS _) (by decide) h⟩)
  exact (b_one (s_ret (e_rv (d_and (d_fz (wE (pe_callG G_is_whole (hr.mono (by decide)) (by rfl) g_is_whole F_is_whole.kp b_is_whole (fun σ => passAt (takes_of (E := E) rfl rfl rfl rfl) σ) (ar_v (d_var 0) ar_nil)) (absCall (sAr _)))) (d_one (wD (pe_chain op_le op_le (d_var 1) (d_var 0) (d_var 2)) (absChain (sD _) (sD _) (sD _) a_le a_le)))))))
theorem ok_want_fullest {a_0 : Addr} {fd_0 : FuncData} (F : Fun K "want_fullest" "want_fullest" s_want_fullest a_0 fd_0) {a_is_from : Addr} {fd_is_from : FuncData} (F_is_from : Fun K "is_from" "is_from" s_is_from a_is_from fd_is_from) (b_is_from : Binds K fd_is_from ["thing", "least", "most"] []) (G_is_from : FnG P w K mg base 2 a_is_from fd_is_from ["thing", "least", "most"] (spM K 3 d_is_from))
    (g_is_from : mg "is_from" = some (.ref a_is_from)) : FnG P w K mg base 3 a_0 fd_0 ["cups", "fullest"] (spM K 2 d_want_fullest) := by
  refine fn_g F sc_want_fullest (fun vs H Q E h => h.1) (fun cdv A outer s H vs Q E hcd hr h => ⟨tS K (fun c d _ H => E c d H) ((sIf (tNotM (tBl (fz (eCall 3 d_is_from (arV (dVar 1) (arV (dC (.int 1)) (arV (dVar 0) arNil)))))))
  (sNever)
  (sNext))), ?_, body_ok (N := ["cups", "fullest"]) (sS _) (by decide) h⟩)
  exact (b_one (s_if (t_not (t_val (d_fz (wE (pe_callG G_is_from (hr.mono (by decide)) (by rfl) g_is_from F_is_from.kp b_is_from (fun σ => passAt (takes_of (E := E) rfl rfl rfl rfl) σ) (ar_v (d_var 1) (ar_v d_int (ar_v (d_var 0) ar_nil)))) (absCall (sAr _)))))) (b_one s_never) b_nil))
theorem ok_want_cups {a_0 : Addr} {fd_0 : FuncData} (F : Fun K "want_cups" "want_cups" s_want_cups a_0 fd_0) {t_MOST_CUPS : Tok} (g_MOST_CUPS : mg "MOST_CUPS" = some (.int 40 t_MOST_CUPS))
    {a_is_from : Addr} {fd_is_from : FuncData} (F_is_from : Fun K "is_from" "is_from" s_is_from a_is_from fd_is_from) (b_is_from : Binds K fd_is_from ["thing", "least", "most"] []) (G_is_from : FnG P w K mg base 2 a_is_from fd_is_from ["thing", "least", "most"] (spM K 3 d_is_from))
    (g_is_from : mg "is_from" = some (.ref a_is_from)) : FnG P w K mg base 3 a_0 fd_0 ["cups"] (spM K 1 d_want_cups) := by
  refine fn_g F sc_want_cups (fun vs H Q E h => h.1) (fun cdv A outer s H vs Q E hcd hr h => ⟨tS K (fun c d _ H => E c d H) ((sIf (tNotM (tBl (fz (eCall 3 d_is_from (arV (dVar 0) (arV (dC (.int 2)) (arV (dC (.int 40)) arNil)))))))
  (sNever)
  (sNext))), ?_, body_ok (N := ["cups"]) (sS _) (by decide) h⟩)
  exact (b_one (s_if (t_not (t_val (d_fz (wE (pe_callG G_is_from (hr.mono (by decide)) (by rfl) g_is_from F_is_from.kp b_is_from (fun σ => passAt (takes_of (E := E) rfl rfl rfl rfl) σ) (ar_v (d_var 0) (ar_v d_int (ar_v (d_glob (v := .int 40) g_MOST_CUPS ⟨_, rfl⟩ (fun _ => .int 40)) ar_nil)))) (absCall (sAr _)))))) (b_one s_never) b_nil))
theorem ok_want_sizes {a_0 : Addr} {fd_0 : FuncData} (F : Fun K "want_sizes" "want_sizes" s_want_sizes a_0 fd_0) {a_is_count : Addr} {fd_is_count : FuncData} (F_is_count : Fun K "is_count" "is_count" s_is_count a_is_count fd_is_count) (b_is_count : Binds K fd_is_count ["thing"] []) (G_is_count : FnG P w K mg base 2 a_is_count fd_is_count ["thing"] (spM K 1 d_is_count))
    (g_is_count : mg "is_count" = some (.ref a_is_count))
    {a_is_from : Addr} {fd_is_from : FuncData} (F_is_from : Fun K "is_from" "is_from" s_is_from a_is_from fd_is_from) (b_is_from : Binds K fd_is_from ["thing", "least", "most"] []) (G_is_from : FnG P w K mg base 2 a_is_from fd_is_from ["thing", "least", "most"] (spM K 3 d_is_from))
    (g_is_from : mg "is_from" = some (.ref a_is_from))
    {a_want_cups : Addr} {fd_want_cups : FuncData} (F_want_cups : Fun K "want_cups" "want_cups" s_want_cups a_want_cups fd_want_cups) (b_want_cups : Binds K fd_want_cups ["cups"] []) (G_want_cups : FnG P w K mg base 3 a_want_cups fd_want_cups ["cups"] (spM K 1 d_want_cups))
    (g_want_cups : mg "want_cups" = some (.ref a_want_cups)) : FnG P w K mg base 4 a_0 fd_0 ["cups", "grains", "scoops"] (spM K 3 d_want_sizes) := by
  refine fn_g F sc_want_sizes (fun vs H Q E h => h.1) (fun cdv A outer s H vs Q E hcd hr h => ⟨tS K (fun c d _ H => E c d H) ((sSeq (sExpr (eCall 1 d_want_cups (arV (dVar 0) arNil)))
  (sSeq (sIf (tNotM (tBl (fz (eCall 1 d_is_count (arV (dVar 1) arNil)))))
  (sNever)
  (sNext))
  (sIf (tNotM (tBl (fz (eCall 3 d_is_from (arV (dVar 2) (arV (dC (.int 1)) (arV (dOp pSub (dVar 0) (dC (.int 1))) arNil)))))))
  (sNever)
  (sNext))))), ?_, body_ok (N := ["cups", "grains", "scoops"]) (sS _) (by decide) h⟩)
  exact (b_cons (wS (ps_expr (wE (pe_callG G_want_cups (hr.mono (by decide)) (by rfl) g_want_cups F_want_cups.kp b_want_cups (fun σ => passAt (takes_of (E := E) rfl rfl rfl rfl) σ) (ar_v (d_var 0) ar_nil)) (absCall (sAr _)))) (absExpr (sE _)))
    (b_cons (s_if (t_not (t_val (d_fz (wE (pe_callG G_is_count (hr.mono (by decide)) (by rfl) g_is_count F_is_count.kp b_is_count (fun σ => passAt (takes_of (E := E) rfl rfl rfl rfl) σ) (ar_v (d_var 1) ar_nil)) (absCall (sAr _)))))) (b_one s_never) b_nil)
    (b_one (s_if (t_not (t_val (d_fz (wE (pe_callG G_is_from (hr.mono (by decide)) (by rfl) g_is_from F_is_from.kp b_is_from (fun σ => passAt (takes_of (E := E) rfl rfl rfl rfl) σ) (ar_v (d_var 2) (ar_v d_int (ar_v (d_sub (d_var 0) d_int) ar_nil)))) (absCall (sAr _)))))) (b_one s_never) b_nil))))
theorem ok_want_pour {a_0 : Addr} {fd_0 : FuncData} (F : Fun K "want_pour" "want_pour" s_want_pour a_0 fd_0) {a_are_counts : Addr} {fd_are_counts : FuncData} (F_are_counts : Fun K "are_counts" "are_counts" s_are_counts a_are_counts fd_are_counts) (b_are_counts : Binds K fd_are_counts ["thing", "many"] []) (G_are_counts : FnG P w K mg base 3 a_are_counts fd_are_counts ["thing", "many"] (spM K 2 d_are_counts))
    (g_are_counts : mg "are_counts" = some (.ref a_are_counts)) : FnG P w K mg base 4 a_0 fd_0 ["pour", "cups"] (spM K 2 d_want_pour) := by
  refine fn_g F sc_want_pour (fun vs H Q E h => h.1) (fun cdv A outer s H vs Q E hcd hr h => ⟨tS K (fun c d _ H => E c d H) ((sIf (tNotM (tBl (fz (eCall 2 d_are_counts (arV (dVar 0) (arV (dVar 1) arNil))))))
  (sNever)
  (sNext))), ?_, body_ok (N := ["pour", "cups"]) (sS _) (by decide) h⟩)
  exact (b_one (s_if (t_not (t_val (d_fz (wE (pe_callG G_are_counts (hr.mono (by decide)) (by rfl) g_are_counts F_are_counts.kp b_are_counts (fun σ => passAt (takes_of (E := E) rfl rfl rfl rfl) σ) (ar_v (d_var 0) (ar_v (d_var 1) ar_nil))) (absCall (sAr _)))))) (b_one s_never) b_nil))
theorem ok_want_standing {a_0 : Addr} {fd_0 : FuncData} (F : Fun K "want_standing" "want_standing" s_want_standing a_0 fd_0) (m_isinstance : mg "isinstance" = none)
    (m_len : mg "len" = none)
    (m_tuple : mg "tuple" = none)
    {t_MOST_CUPS : Tok} (g_MOST_CUPS : mg "MOST_CUPS" = some (.int 40 t_MOST_CUPS))
    {a_are_counts : Addr} {fd_are_counts : FuncData} (F_are_counts : Fun K "are_counts" "are_counts" s_are_counts a_are_counts fd_are_counts) (b_are_counts : Binds K fd_are_counts ["thing", "many"] []) (G_are_counts : FnG P w K mg base 3 a_are_counts fd_are_counts ["thing", "many"] (spM K 2 d_are_counts))
    (g_are_counts : mg "are_counts" = some (.ref a_are_counts)) : FnG P w K mg base 4 a_0 fd_0 ["standing"] (spM K 1 d_want_standing) := by
  refine fn_g F sc_want_standing (fun vs H Q E h => h.1) (fun cdv A outer s H vs Q E hcd hr h => ⟨tS K (fun c d _ H => E c d H) ((sSeq (sIf (tOrM (tNotM (tBl (dIsi "tuple" (dVar 0)))) (tNotM (tBl (dChain pLe pLe (dC (.int 2)) (dCB pLen (dCons (dVar 0) dNil)) (dC (.int 40))))))
  (sNever)
  (sNext))
  (sIf (tNotM (tBl (fz (eCall 2 d_are_counts (arV (dVar 0) (arV (dCB pLen (dCons (dVar 0) dNil)) arNil))))))
  (sNever)
  (sNext)))), ?_, body_ok (N := ["standing"]) (sS _) (by decide) h⟩)
  exact (b_cons (s_if (t_w (w_or (t_not (t_val (wD (pe_callB call_isi (by rfl) m_isinstance (by decide +kernel) (pa_cons (d_var 0) (pa_cons (pe_bltn (v := V.ty "tuple") (u := Value.type "tuple") (by rfl) m_tuple (by decide +kernel) rfl) pa_nil))) (absIsi (T := "tuple") (sD _))))) (w_or1 (t_not (wT (pt_chain op_le op_le d_int (wD (pe_callB call_len_seq (by rfl) m_len (by decide +kernel) (a_cons (d_var 0) a_nil)) (absCB (sA _) a_len)) (d_glob (v := .int 40) g_MOST_CUPS ⟨_, rfl⟩ (fun _ => .int 40))) (absTest (absChain (sD _) (sD _) (sD _) a_le a_le))))))) (b_one s_never) b_nil)
    (b_one (s_if (t_not (t_val (d_fz (wE (pe_callG G_are_counts (hr.mono (by decide)) (by rfl) g_are_counts F_are_counts.kp b_are_counts (fun σ => passAt (takes_of (E := E) rfl rfl rfl rfl) σ) (ar_v (d_var 0) (ar_v (wD (pe_callB call_len_seq (by rfl) m_len (by decide +kernel) (a_cons (d_var 0) a_nil)) (absCB (sA _) a_len)) ar_nil))) (absCall (sAr _)))))) (b_one s_never) b_nil)))
theorem ok_poured {a_0 : Addr} {fd_0 : FuncData} (F : Fun K "poured" "poured" s_poured a_0 fd_0) (m_len : mg "len" = none)
    (m_tuple : mg "tuple" = none)
    (m_zip : mg "zip" = none)
    {a_want_pour : Addr} {fd_want_pour : FuncData} (F_want_pour : Fun K "want_pour" "want_pour" s_want_pour a_want_pour fd_want_pour) (b_want_pour : Binds K fd_want_pour ["pour", "cups"] []) (G_want_pour : FnG P w K mg base 4 a_want_pour fd_want_pour ["pour", "cups"] (spM K 2 d_want_pour))
    (g_want_pour : mg "want_pour" = some (.ref a_want_pour))
    {a_want_standing : Addr} {fd_want_standing : FuncData} (F_want_standing : Fun K "want_standing" "want_standing" s_want_standing a_want_standing fd_want_standing) (b_want_standing : Binds K fd_want_standing ["standing"] []) (G_want_standing : FnG P w K mg base 4 a_want_standing fd_want_standing ["standing"] (spM K 1 d_want_standing))
    (g_want_standing : mg "want_standing" = some (.ref a_want_standing)) : FnG P w K mg base 5 a_0 fd_0 ["standing", "pour"] (spM K 2 d_poured) := by
  refine fn_g F sc_poured (fun vs H Q E h => h.1) (fun cdv A outer s H vs Q E hcd hr h => ⟨tS K (fun c d _ H => E c d H) ((sSeq (sExpr (eCall 1 d_want_standing (arV (dVar 0) arNil)))
  (sSeq (sExpr (eCall 2 d_want_pour (arV (dVar 1) (arV (dCB pLen (dCons (dVar 0) dNil)) arNil))))
  (sRet (ofD (dCB pTupOf (dCons (fz (eLc (iZipB true (dVar 0) (dVar 1)) [2, 3] (bTup 2 (bCons (bName 2) (bCons (bName 3) bNil))) tYesM (fz (eOp pAdd (dVar 2) (dVar 3))))) dNil))))))), ?_, body_ok (N := ["standing", "pour", "held", "more"]) (sS _) (by decide) h⟩)
  exact (b_cons (wS (ps_expr (wE (pe_callG G_want_standing (hr.mono (by decide)) (by rfl) g_want_standing F_want_standing.kp b_want_standing (fun σ => passAt (takes_of (E := E) rfl rfl rfl rfl) σ) (ar_v (d_var 0) ar_nil)) (absCall (sAr _)))) (absExpr (sE _)))
    (b_cons (wS (ps_expr (wE (pe_callG G_want_pour (hr.mono (by decide)) (by rfl) g_want_pour F_want_pour.kp b_want_pour (fun σ => passAt (takes_of (E := E) rfl rfl rfl rfl) σ) (ar_v (d_var 1) (ar_v (wD (pe_callB call_len_seq (by rfl) m_len (by decide +kernel) (a_cons (d_var 0) a_nil)) (absCB (sA _) a_len)) ar_nil))) (absCall (sAr _)))) (absExpr (sE _)))
    (b_one (s_ret (e_rv (wD (pe_callTy call_tuple_of (by rfl) m_tuple (by decide +kernel) (a_cons (d_fz (wE (pe_lc (own := [("held", 2), ("more", 3)]) rfl sc_poured.nd (wI (pi_zipS (by rfl) m_zip (pa_cons (d_var 0) (pa_cons (d_var 1) pa_nil))) (absZipB (sD _) (sD _))) (blkOk_by (own := [("held", 2), ("more", 3)]) (N := ["standing", "pour", "held", "more"]) (sc := defScope s_poured) (by decide +kernel)) (fun _ _ _ _ _ => (wG (pg_tup (by rfl) (g_cons (wG (pg_name (i := 2) sc_poured.nd rfl (by first | exact .inl rfl | exact .inr rfl)) (absName 2)) (g_cons (wG (pg_name (i := 3) sc_poured.nd rfl (by first | exact .inl rfl | exact .inr rfl)) (absName 3)) g_nil))) (absGTup (sGs _ _)))) (fun _ _ _ _ _ => pts_nil) (fun _ _ _ _ _ => (d_fz (e_add (d_var 2) (d_var 3))))) (absLc (sI _) (sG _ _) (by decide) absYes (sD _)))) a_nil)) (absCB (sA _) a_tupOf)))))))
theorem ok_what_stays {a_0 : Addr} {fd_0 : FuncData} (F : Fun K "what_stays" "what_stays" s_what_stays a_0 fd_0) {a_falling : Addr} {fd_falling : FuncData} (F_falling : Fun K "falling" "falling" s_falling a_falling fd_falling) (b_falling : Binds K fd_falling ["standing"] []) (G_falling : FnG P w K mg base 1 a_falling fd_falling ["standing"] (spM K 1 d_falling))
    (g_falling : mg "falling" = some (.ref a_falling))
    {a_poured : Addr} {fd_poured : FuncData} (F_poured : Fun K "poured" "poured" s_poured a_poured fd_poured) (b_poured : Binds K fd_poured ["standing", "pour"] []) (G_poured : FnG P w K mg base 5 a_poured fd_poured ["standing", "pour"] (spM K 2 d_poured))
    (g_poured : mg "poured" = some (.ref a_poured)) : FnG P w K mg base 6 a_0 fd_0 ["standing", "pour", "scoops"] (spM K 3 d_what_stays) := by
  refine fn_g F sc_what_stays (fun vs H Q E h => h.1) (fun cdv A outer s H vs Q E hcd hr h => ⟨tS K (fun c d _ H => E c d H) ((sRet (eOp pAdd (fz (eCut (fz (eCall 1 d_falling (arV (fz (eCall 2 d_poured (arV (dVar 0) (arV (dVar 1) arNil)))) arNil))) (oSome (dVar 2)) oNone)) (dOp pTM (dTup (dCons (dC (.int 0)) dNil)) (dVar 2))))), ?_, body_ok (N := ["standing", "pour", "scoops"]) (sS _) (by decide) h⟩)
  exact (b_one (s_ret (e_add (d_fz (e_cut (d_fz (wE (pe_callG G_falling (hr.mono (by decide)) (by rfl) g_falling F_falling.kp b_falling (fun σ => passAt (takes_of (E := E) rfl rfl rfl rfl) σ) (ar_v (d_fz (wE (pe_callG G_poured (hr.mono (by decide)) (by rfl) g_poured F_poured.kp b_poured (fun σ => passAt (takes_of (E := E) rfl rfl rfl rfl) σ) (ar_v (d_var 0) (ar_v (d_var 1) ar_nil))) (absCall (sAr _)))) ar_nil)) (absCall (sAr _)))) (o_some (d_var 2)) o_none)) (d_op op_tm a_tm (d_tup (a_cons d_int a_nil)) (d_var 2)))))
theorem ok_check_ladder {a_0 : Addr} {fd_0 : FuncData} (F : Fun K "check_ladder" "check_ladder" s_check_ladder a_0 fd_0) (m_enumerate : mg "enumerate" = none)
    (m_isinstance : mg "isinstance" = none)
    (m_list : mg "list" = none)
    (m_sum : mg "sum" = none)
    {a_is_step : Addr} {fd_is_step : FuncData} (F_is_step : Fun K "is_step" "is_step" s_is_step a_is_step fd_is_step) (b_is_step : Binds K fd_is_step ["cups", "grains", "came", "step"] []) (G_is_step : FnG P w K mg base 4 a_is_step fd_is_step ["cups", "grains", "came", "step"] (spM K 4 d_is_step))
    (g_is_step : mg "is_step" = some (.ref a_is_step))
    {a_start_of : Addr} {fd_start_of : FuncData} (F_start_of : Fun K "start_of" "start_of" s_start_of a_start_of fd_start_of) (b_start_of : Binds K fd_start_of ["cups", "start"] []) (G_start_of : FnG P w K mg base 4 a_start_of fd_start_of ["cups", "start"] (spM K 2 d_start_of))
    (g_start_of : mg "start_of" = some (.ref a_start_of))
    {a_want_count : Addr} {fd_want_count : FuncData} (F_want_count : Fun K "want_count" "want_count" s_want_count a_want_count fd_want_count) (b_want_count : Binds K fd_want_count ["thing", "word"] []) (G_want_count : FnG P w K mg base 3 a_want_count fd_want_count ["thing", "word"] (spM K 2 d_want_count))
    (g_want_count : mg "want_count" = some (.ref a_want_count))
    {a_want_fullest : Addr} {fd_want_fullest : FuncData} (F_want_fullest : Fun K "want_fullest" "want_fullest" s_want_fullest a_want_fullest fd_want_fullest) (b_want_fullest : Binds K fd_want_fullest ["cups", "fullest"] []) (G_want_fullest : FnG P w K mg base 3 a_want_fullest fd_want_fullest ["cups", "fullest"] (spM K 2 d_want_fullest))
    (g_want_fullest : mg "want_fullest" = some (.ref a_want_fullest))
    {a_want_sizes : Addr} {fd_want_sizes : FuncData} (F_want_sizes : Fun K "want_sizes" "want_sizes" s_want_sizes a_want_sizes fd_want_sizes) (b_want_sizes : Binds K fd_want_sizes ["cups", "grains", "scoops"] []) (G_want_sizes : FnG P w K mg base 4 a_want_sizes fd_want_sizes ["cups", "grains", "scoops"] (spM K 3 d_want_sizes))
    (g_want_sizes : mg "want_sizes" = some (.ref a_want_sizes))
    {a_what_stays : Addr} {fd_what_stays : FuncData} (F_what_stays : Fun K "what_stays" "what_stays" s_what_stays a_what_stays fd_what_stays) (b_what_stays : Binds K fd_what_stays ["standing", "pour", "scoops"] []) (G_what_stays : FnG P w K mg base 6 a_what_stays fd_what_stays ["standing", "pour", "scoops"] (spM K 3 d_what_stays))
    (g_what_stays : mg "what_stays" = some (.ref a_what_stays)) : FnG P w K mg base 7 a_0 fd_0 ["cups", "grains", "scoops", "fullest", "held", "steps", "start"] (spM K 7 d_check_ladder) := by
  refine fn_g F sc_check_ladder (fun vs H Q E h => h.1) (fun cdv A outer s H vs Q E hcd hr h => ⟨tS K (fun c d _ H => E c d H) ((sSeq (sExpr (eCall 3 d_want_sizes (arV (dVar 0) (arV (dVar 1) (arV (dVar 2) arNil)))))
  (sSeq (sExpr (eCall 2 d_want_fullest (arV (dVar 0) (arV (dVar 3) arNil))))
  (sSeq (sExpr (eCall 2 d_want_count (arV (dVar 4) (arV (dC (.str "held")) arNil))))
  (sSeq (sSet 7 (ofD (fz (eCall 2 d_start_of (arV (dVar 0) (arV (dVar 6) arNil))))))
  (sSeq (sIf (tNotM (tBl (dIsi "list" (dVar 5))))
  (sNever)
  (sNext))
  (sSeq (sFor (iEnumA (dVar 5)) (bTup 2 (bCons (bName 8) (bCons (bName 9) bNil)))
  ((sSeq (sIf (tNotM (tBl (fz (eCall 4 d_is_step (arV (dVar 0) (arV (dVar 1) (arV (dVar 7) (arV (dVar 9) arNil))))))))
  (sNever)
  (sNext))
  (sSet 7 (ofD (fz (eCall 3 d_what_stays (arV (dOp pIx (dVar 9) (dC (.int 0))) (arV (dOp pIx (dVar 9) (dC (.int 1))) (arV (dVar 2) arNil))))))))))
  (sIf (tBl (dOp pLt (dCB pSumA (dCons (fz (eCut (dVar 7) oNone (oSome (dVar 3)))) dNil)) (dVar 4)))
  (sNever)
  (sNext))))))))), ?_, body_ok (N := ["cups", "grains", "scoops", "fullest", "held", "steps", "start", "came", "at", "step"]) (sS _) (by decide) h⟩)
  exact (b_cons (wS (ps_expr (wE (pe_callG G_want_sizes (hr.mono (by decide)) (by rfl) g_want_sizes F_want_sizes.kp b_want_sizes (fun σ => passAt (takes_of (E := E) rfl rfl rfl rfl) σ) (ar_v (d_var 0) (ar_v (d_var 1) (ar_v (d_var 2) ar_nil)))) (absCall (sAr _)))) (absExpr (sE _)))
    (b_cons (wS (ps_expr (wE (pe_callG G_want_fullest (hr.mono (by decide)) (by rfl) g_want_fullest F_want_fullest.kp b_want_fullest (fun σ => passAt (takes_of (E := E) rfl rfl rfl rfl) σ) (ar_v (d_var 0) (ar_v (d_var 3) ar_nil))) (absCall (sAr _)))) (absExpr (sE _)))
    (b_cons (wS (ps_expr (wE (pe_callG G_want_count (hr.mono (by decide)) (by rfl) g_want_count F_want_count.kp b_want_count (fun σ => passAt (takes_of (E := E) rfl rfl rfl rfl) σ) (ar_v (d_var 4) (ar_v d_str ar_nil))) (absCall (sAr _)))) (absExpr (sE _)))
    (b_cons (wS (ps_set (i := 7) sc_check_ladder.nd rfl (by first | exact .inl rfl | exact .inr rfl) (e_rv (d_fz (wE (pe_callG G_start_of (hr.mono (by decide)) (by rfl) g_start_of F_start_of.kp b_start_of (fun σ => passAt (takes_of (E := E) rfl rfl rfl rfl) σ) (ar_v (d_var 0) (ar_v (d_var 6) ar_nil))) (absCall (sAr _)))))) (absSet (sE _)))
    (b_cons (s_if (t_not (t_val (wD (pe_callB call_isi (by rfl) m_isinstance (by decide +kernel) (pa_cons (d_var 5) (pa_cons (pe_bltn (v := V.ty "list") (u := Value.type "list") (by rfl) m_list (by decide +kernel) rfl) pa_nil))) (absIsi (T := "list") (sD _))))) (b_one s_never) b_nil)
    (b_cons (wS (ps_for (passes_of rfl) rfl (wI (pi_enumT (by rfl) m_enumerate (pa_cons (d_var 5) pa_nil)) (absIEnumA (sD _))) (wG (pg_tup (by rfl) (g_cons (wG (pg_name (i := 8) sc_check_ladder.nd rfl (by first | exact .inl rfl | exact .inr rfl)) (absName 8)) (g_cons (wG (pg_name (i := 9) sc_check_ladder.nd rfl (by first | exact .inl rfl | exact .inr rfl)) (absName 9)) g_nil))) (absGTup (sGs _ _))) (b_cons (s_if (t_not (t_val (d_fz (wE (pe_callG G_is_step (hr.mono (by decide)) (by rfl) g_is_step F_is_step.kp b_is_step (fun σ => passAt (takes_of (E := E) rfl rfl rfl rfl) σ) (ar_v (d_var 0) (ar_v (d_var 1) (ar_v (d_var 7) (ar_v (d_var 9) ar_nil))))) (absCall (sAr _)))))) (b_one s_never) b_nil)
    (b_one (wS (ps_set (i := 7) sc_check_ladder.nd rfl (by first | exact .inl rfl | exact .inr rfl) (e_rv (d_fz (wE (pe_callG G_what_stays (hr.mono (by decide)) (by rfl) g_what_stays F_what_stays.kp b_what_stays (fun σ => passAt (takes_of (E := E) rfl rfl rfl rfl) σ) (ar_v (d_ix (d_var 9) d_int) (ar_v (d_ix (d_var 9) d_int) (ar_v (d_var 2) ar_nil)))) (absCall (sAr _)))))) (absSet (sE _)))))) (absFor (sI _) (sG _ _) (sS _)))
    (b_one (s_if (t_cmp op_lt a_lt (wD (pe_callB (cr_sumA rfl) (by rfl) m_sum (by decide +kernel) (a_cons (d_fz (e_cut (d_var 7) o_none (o_some (d_var 3)))) a_nil)) (absCB (sA _) a_sumA)) (d_var 4)) (b_one s_never) b_nil))))))))
theorem ok__law_is_let {a_0 : Addr} {fd_0 : FuncData} (F : Fun K "_law_is_let" "_law_is_let" s__law_is_let a_0 fd_0) {a_check_ladder : Addr} {fd_check_ladder : FuncData} (F_check_ladder : Fun K "check_ladder" "check_ladder" s_check_ladder a_check_ladder fd_check_ladder) (G_check_ladder : FnG P w K mg base 7 a_check_ladder fd_check_ladder ["cups", "grains", "scoops", "fullest", "held", "steps", "start"] (spM K 7 d_check_ladder))
    (g_check_ladder : mg "check_ladder" = some (.ref a_check_ladder))
    (kb_check_ladder_6 : KBn K fd_check_ladder ["cups", "grains", "scoops", "fullest", "held", "steps", "start"] 6 [] (fun us ws => pick [0, 1, 2, 3, 4, 5, 6] (us ++ ws ++ [Value.none])) (fun vs zs => pick [0, 1, 2, 3, 4, 5, 6] (vs ++ zs ++ [V.non]))) : FnG P w K mg base 8 a_0 fd_0 ["_law_house_here", "_law_wide", "_law_aim", "_law_steps_here"] (spM K 4 d__law_is_let) := by
  refine fn_g F sc__law_is_let (fun vs H Q E h => h.1) (fun cdv A outer s H vs Q E hcd hr h => ⟨tS K (fun c d _ H => E c d H) ((sRet (ofD (dOp pIsN (fz (eCallKD 7 6 0 [0, 1, 2, 3, 4, 5, 6] d_check_ladder (arV (dOp pIx (dVar 0) (dC (.int 0))) (arV (dOp pIx (dVar 0) (dC (.int 1))) (arV (dOp pIx (dVar 0) (dC (.int 2))) (arV (dVar 1) (arV (dVar 2) (arV (dVar 3) arNil)))))) arNil)) (dC .none))))), ?_, body_ok (N := ["_law_house_here", "_law_wide", "_law_aim", "_law_steps_here"]) (sS _) (by decide) h⟩)
  exact (b_one (s_ret (e_rv (d_cmp op_isN a_isN (d_fz (wE (pe_callNS G_check_ladder (hr.mono (by decide)) (by rfl) g_check_ladder F_check_ladder.kp kb_check_ladder_6 (fun σ => passAt (takes_of (E := E) rfl rfl rfl rfl) σ) (ar_v (d_ix (d_var 0) d_int) (ar_v (d_ix (d_var 0) d_int) (ar_v (d_ix (d_var 0) d_int) (ar_v (d_var 1) (ar_v (d_var 2) (ar_v (d_var 3) ar_nil)))))) k_nil) (absCallKD (sAr _) (sAr _)))) d_non))))
theorem ok__law_times {a_0 : Addr} {fd_0 : FuncData} (F : Fun K "_law_times" "_law_times" s__law_times a_0 fd_0) (m_tuple : mg "tuple" = none) : FnG P w K mg base 1 a_0 fd_0 ["_law_steps_here", "_law_times_here"] (spM K 2 d__law_times) := by
  refine fn_g F sc__law_times (fun vs H Q E h => h.1) (fun cdv A outer s H vs Q E hcd hr h => ⟨tS K (fun c d _ H => E c d H) ((sRet (eLc (iSeqM (dVar 0)) [2, 3] (bTup 2 (bCons (bName 2) (bCons (bName 3) bNil))) tYesM (dTup (dCons (dCB pTupOf (dCons (fz (eLc (iSeqM (dVar 2)) [4] (bName 4) tYesM (fz (eMul (ofD (dVar 4)) (dVar 1))))) dNil)) (dCons (dCB pTupOf (dCons (fz (eLc (iSeqM (dVar 3)) [4] (bName 4) tYesM (fz (eMul (ofD (dVar 4)) (dVar 1))))) dNil)) dNil)))))), ?_, body_ok (N := ["_law_steps_here", "_law_times_here", "_law_falls", "_law_pours_here", "_law_one"]) (sS _) (by decide) h⟩)
  exact (b_one (s_ret (wE (pe_lc (own := [("_law_falls", 2), ("_law_pours_here", 3)]) rfl sc__law_times.nd (wI (pi_seq (d_var 0)) (absISeq (sD _))) (blkOk_by (own := [("_law_falls", 2), ("_law_pours_here", 3)]) (N := ["_law_steps_here", "_law_times_here", "_law_falls", "_law_pours_here", "_law_one"]) (sc := defScope s__law_times) (by decide +kernel)) (fun _ _ _ _ _ => (wG (pg_tup (by rfl) (g_cons (wG (pg_name (i := 2) sc__law_times.nd rfl (by first | exact .inl rfl | exact .inr rfl)) (absName 2)) (g_cons (wG (pg_name (i := 3) sc__law_times.nd rfl (by first | exact .inl rfl | exact .inr rfl)) (absName 3)) g_nil))) (absGTup (sGs _ _)))) (fun _ _ _ _ _ => pts_nil) (fun _ _ _ _ _ => (d_tup (a_cons (wD (pe_callTy call_tuple_of (by rfl) m_tuple (by decide +kernel) (a_cons (d_fz (wE (pe_lc (own := [("_law_one", 4)]) rfl sc__law_times.nd (wI (pi_seq (d_var 2)) (absISeq (sD _))) (blkOk_by (own := [("_law_one", 4)]) (N := ["_law_steps_here", "_law_times_here", "_law_falls", "_law_pours_here", "_law_one"]) (sc := _) (by first | decide +kernel | rfl)) (fun _ _ _ _ _ => (wG (pg_name (i := 4) sc__law_times.nd rfl (by first | exact .inl rfl | exact .inr rfl)) (absName 4))) (fun _ _ _ _ _ => pts_nil) (fun _ _ _ _ _ => (d_fz (e_mul (e_rv (d_var 4)) (d_var 1))))) (absLc (sI _) (sG _ _) (by decide) absYes (sD _)))) a_nil)) (absCB (sA _) a_tupOf)) (a_cons (wD (pe_callTy call_tuple_of (by rfl) m_tuple (by decide +kernel) (a_cons (d_fz (wE (pe_lc (own := [("_law_one", 4)]) rfl sc__law_times.nd (wI (pi_seq (d_var 3)) (absISeq (sD _))) (blkOk_by (own := [("_law_one", 4)]) (N := ["_law_steps_here", "_law_times_here", "_law_falls", "_law_pours_here", "_law_one"]) (sc := _) (by first | decide +kernel | rfl)) (fun _ _ _ _ _ => (wG (pg_name (i := 4) sc__law_times.nd rfl (by first | exact .inl rfl | exact .inr rfl)) (absName 4))) (fun _ _ _ _ _ => pts_nil) (fun _ _ _ _ _ => (d_fz (e_mul (e_rv (d_var 4)) (d_var 1))))) (absLc (sI _) (sG _ _) (by decide) absYes (sD _)))) a_nil)) (absCB (sA _) a_tupOf)) a_nil))))) (absLc (sI _) (sG _ _) (by decide) absYes (sD _)))))
theorem ok__law_wider {a_0 : Addr} {fd_0 : FuncData} (F : Fun K "_law_wider" "_law_wider" s__law_wider a_0 fd_0)  : FnG P w K mg base 1 a_0 fd_0 ["_law_steps_here"] (spM K 1 d__law_wider) := by
  refine fn_g F sc__law_wider (fun vs H Q E h => h.1) (fun cdv A outer s H vs Q E hcd hr h => ⟨tS K (fun c d _ H => E c d H) ((sRet (eLc (iSeqM (dVar 0)) [1, 2] (bTup 2 (bCons (bName 1) (bCons (bName 2) bNil))) tYesM (dTup (dCons (fz (eOp pAdd (dVar 1) (dTup (dCons (dC (.int 0)) dNil)))) (dCons (fz (eOp pAdd (dVar 2) (dTup (dCons (dC (.int 0)) dNil)))) dNil)))))), ?_, body_ok (N := ["_law_steps_here", "_law_falls", "_law_pours_here"]) (sS _) (by decide) h⟩)
  exact (b_one (s_ret (wE (pe_lc (own := [("_law_falls", 1), ("_law_pours_here", 2)]) rfl sc__law_wider.nd (wI (pi_seq (d_var 0)) (absISeq (sD _))) (blkOk_by (own := [("_law_falls", 1), ("_law_pours_here", 2)]) (N := ["_law_steps_here", "_law_falls", "_law_pours_here"]) (sc := defScope s__law_wider) (by decide +kernel)) (fun _ _ _ _ _ => (wG (pg_tup (by rfl) (g_cons (wG (pg_name (i := 1) sc__law_wider.nd rfl (by first | exact .inl rfl | exact .inr rfl)) (absName 1)) (g_cons (wG (pg_name (i := 2) sc__law_wider.nd rfl (by first | exact .inl rfl | exact .inr rfl)) (absName 2)) g_nil))) (absGTup (sGs _ _)))) (fun _ _ _ _ _ => pts_nil) (fun _ _ _ _ _ => (d_tup (a_cons (d_fz (e_add (d_var 1) (d_tup (a_cons d_int a_nil)))) (a_cons (d_fz (e_add (d_var 2) (d_tup (a_cons d_int a_nil)))) a_nil))))) (absLc (sI _) (sG _ _) (by decide) absYes (sD _)))))
theorem ok_want_shares {a_0 : Addr} {fd_0 : FuncData} (F : Fun K "want_shares" "want_shares" s_want_shares a_0 fd_0) {t_MOST_CUPS : Tok} (g_MOST_CUPS : mg "MOST_CUPS" = some (.int 40 t_MOST_CUPS))
    {a_is_count : Addr} {fd_is_count : FuncData} (F_is_count : Fun K "is_count" "is_count" s_is_count a_is_count fd_is_count) (b_is_count : Binds K fd_is_count ["thing"] []) (G_is_count : FnG P w K mg base 2 a_is_count fd_is_count ["thing"] (spM K 1 d_is_count))
    (g_is_count : mg "is_count" = some (.ref a_is_count))
    {a_is_from : Addr} {fd_is_from : FuncData} (F_is_from : Fun K "is_from" "is_from" s_is_from a_is_from fd_is_from) (b_is_from : Binds K fd_is_from ["thing", "least", "most"] []) (G_is_from : FnG P w K mg base 2 a_is_from fd_is_from ["thing", "least", "most"] (spM K 3 d_is_from))
    (g_is_from : mg "is_from" = some (.ref a_is_from)) : FnG P w K mg base 3 a_0 fd_0 ["total", "cups"] (spM K 2 d_want_shares) := by
  refine fn_g F sc_want_shares (fun vs H Q E h => h.1) (fun cdv A outer s H vs Q E hcd hr h => ⟨tS K (fun c d _ H => E c d H) ((sSeq (sIf (tNotM (tBl (fz (eCall 1 d_is_count (arV (dVar 0) arNil)))))
  (sNever)
  (sNext))
  (sIf (tNotM (tBl (fz (eCall 3 d_is_from (arV (dVar 1) (arV (dC (.int 1)) (arV (dC (.int 40)) arNil)))))))
  (sNever)
  (sNext)))), ?_, body_ok (N := ["total", "cups"]) (sS _) (by decide) h⟩)
  exact (b_cons (s_if (t_not (t_val (d_fz (wE (pe_callG G_is_count (hr.mono (by decide)) (by rfl) g_is_count F_is_count.kp b_is_count (fun σ => passAt (takes_of (E := E) rfl rfl rfl rfl) σ) (ar_v (d_var 0) ar_nil)) (absCall (sAr _)))))) (b_one s_never) b_nil)
    (b_one (s_if (t_not (t_val (d_fz (wE (pe_callG G_is_from (hr.mono (by decide)) (by rfl) g_is_from F_is_from.kp b_is_from (fun σ => passAt (takes_of (E := E) rfl rfl rfl rfl) σ) (ar_v (d_var 1) (ar_v d_int (ar_v (d_glob (v := .int 40) g_MOST_CUPS ⟨_, rfl⟩ (fun _ => .int 40)) ar_nil)))) (absCall (sAr _)))))) (b_one s_never) b_nil)))
theorem ok_even {a_0 : Addr} {fd_0 : FuncData} (F : Fun K "even" "even" s_even a_0 fd_0) (m_divmod : mg "divmod" = none)
    {a_want_shares : Addr} {fd_want_shares : FuncData} (F_want_shares : Fun K "want_shares" "want_shares" s_want_shares a_want_shares fd_want_shares) (b_want_shares : Binds K fd_want_shares ["total", "cups"] []) (G_want_shares : FnG P w K mg base 3 a_want_shares fd_want_shares ["total", "cups"] (spM K 2 d_want_shares))
    (g_want_shares : mg "want_shares" = some (.ref a_want_shares)) : FnG P w K mg base 4 a_0 fd_0 ["total", "cups"] (spM K 2 d_even) := by
  refine fn_g F sc_even (fun vs H Q E h => h.1) (fun cdv A outer s H vs Q E hcd hr h => ⟨tS K (fun c d _ H => E c d H) ((sSeq (sExpr (eCall 2 d_want_shares (arV (dVar 0) (arV (dVar 1) arNil))))
  (sSeq (sAsg (bTup 2 (bCons (bName 2) (bCons (bName 3) bNil))) (dCB pDivmod (dCons (dVar 0) (dCons (dVar 1) dNil))))
  (sRet (eOp pAdd (fz (eMul (eLst (dCons (fz (eOp pAdd (dVar 2) (dC (.int 1)))) dNil)) (dVar 3))) (fz (eMul (eLst (dCons (dVar 2) dNil)) (dOp pSub (dVar 1) (dVar 3))))))))), ?_, body_ok (N := ["total", "cups", "share", "more"]) (sS _) (by decide) h⟩)
  exact (b_cons (wS (ps_expr (wE (pe_callG G_want_shares (hr.mono (by decide)) (by rfl) g_want_shares F_want_shares.kp b_want_shares (fun σ => passAt (takes_of (E := E) rfl rfl rfl rfl) σ) (ar_v (d_var 0) (ar_v (d_var 1) ar_nil))) (absCall (sAr _)))) (absExpr (sE _)))
    (b_cons (wS (ps_asg (wD (pe_callB call_divmod (by rfl) m_divmod (by decide +kernel) (a_cons (d_var 0) (a_cons (d_var 1) a_nil))) (absCB (sA _) a_divmod)) (wG (pg_tup (by rfl) (g_cons (wG (pg_name (i := 2) sc_even.nd rfl (by first | exact .inl rfl | exact .inr rfl)) (absName 2)) (g_cons (wG (pg_name (i := 3) sc_even.nd rfl (by first | exact .inl rfl | exact .inr rfl)) (absName 3)) g_nil))) (absGTup (sGs _ _)))) (absAsg (sD _) (sG _ _)))
    (b_one (s_ret (e_add (d_fz (e_mul (e_lst (a_cons (d_fz (e_add (d_var 2) d_int)) a_nil)) (d_var 3))) (d_fz (e_mul (e_lst (a_cons (d_var 2) a_nil)) (d_sub (d_var 1) (d_var 3)))))))))
theorem ok_evening_out {a_0 : Addr} {fd_0 : FuncData} (F : Fun K "evening_out" "evening_out" s_evening_out a_0 fd_0) (m_len : mg "len" = none)
    (m_sum : mg "sum" = none)
    (m_tuple : mg "tuple" = none)
    (m_zip : mg "zip" = none)
    {a_even : Addr} {fd_even : FuncData} (F_even : Fun K "even" "even" s_even a_even fd_even) (b_even : Binds K fd_even ["total", "cups"] []) (G_even : FnG P w K mg base 4 a_even fd_even ["total", "cups"] (spM K 2 d_even))
    (g_even : mg "even" = some (.ref a_even)) : FnG P w K mg base 5 a_0 fd_0 ["standing", "grains", "live"] (spM K 3 d_evening_out) := by
  refine fn_g F sc_evening_out (fun vs H Q E h => h.1) (fun cdv A outer s H vs Q E hcd hr h => ⟨tS K (fun c d _ H => E c d H) ((sSeq (sSet 3 (ofD (fz (eCall 2 d_even (arV (fz (eOp pAdd (dCB pSumA (dCons (fz (eCut (dVar 0) oNone (oSome (dVar 2)))) dNil)) (dVar 1))) (arV (dVar 2) arNil))))))
  (sSeq (sSet 4 (ofD (fz (eLc (iZipB true (dVar 3) (fz (eCut (dVar 0) oNone (oSome (dVar 2))))) [5, 6] (bTup 2 (bCons (bName 5) (bCons (bName 6) bNil))) tYesM (dOp pSub (dVar 5) (dVar 6))))))
  (sRet (ofD (dCB pTupOf (dCons (fz (eOp pAdd (dVar 4) (fz (eMul (eLst (dCons (dC (.int 0)) dNil)) (dOp pSub (dCB pLen (dCons (dVar 0) dNil)) (dVar 2)))))) dNil))))))), ?_, body_ok (N := ["standing", "grains", "live", "goal", "found", "high", "here"]) (sS _) (by decide) h⟩)
  exact (b_cons (wS (ps_set (i := 3) sc_evening_out.nd rfl (by first | exact .inl rfl | exact .inr rfl) (e_rv (d_fz (wE (pe_callG G_even (hr.mono (by decide)) (by rfl) g_even F_even.kp b_even (fun σ => passAt (takes_of (E := E) rfl rfl rfl rfl) σ) (ar_v (d_fz (e_add (wD (pe_callB (cr_sumA rfl) (by rfl) m_sum (by decide +kernel) (a_cons (d_fz (e_cut (d_var 0) o_none (o_some (d_var 2)))) a_nil)) (absCB (sA _) a_sumA)) (d_var 1))) (ar_v (d_var 2) ar_nil))) (absCall (sAr _)))))) (absSet (sE _)))
    (b_cons (wS (ps_setLc (i := 4) (own := [("high", 5), ("here", 6)]) rfl sc_evening_out.nd rfl rfl (sw_true rfl rfl rfl (by decide +kernel)) (wI (pi_zipS (by rfl) m_zip (pa_cons (d_var 3) (pa_cons (d_fz (e_cut (d_var 0) o_none (o_some (d_var 2)))) pa_nil))) (absZipB (sD _) (sD _))) (blkOk_by (own := [("high", 5), ("here", 6)]) (N := ["standing", "grains", "live", "goal", "found", "high", "here"]) (sc := defScope s_evening_out) (by decide +kernel)) (fun _ _ _ _ _ => (wG (pg_tup (by rfl) (g_cons (wG (pg_name (i := 5) sc_evening_out.nd rfl (by first | exact .inl rfl | exact .inr rfl)) (absName 5)) (g_cons (wG (pg_name (i := 6) sc_evening_out.nd rfl (by first | exact .inl rfl | exact .inr rfl)) (absName 6)) g_nil))) (absGTup (sGs _ _)))) (fun _ _ _ _ _ => pts_nil) (fun _ _ _ _ _ => (d_sub (d_var 5) (d_var 6)))) (absSet (AbsD.rv (AbsE.fz (absLc (sI _) (sG _ _) (by decide) absYes (sD _))))))
    (b_one (s_ret (e_rv (wD (pe_callTy call_tuple_of (by rfl) m_tuple (by decide +kernel) (a_cons (d_fz (e_add (d_var 4) (d_fz (e_mul (e_lst (a_cons d_int a_nil)) (d_sub (wD (pe_callB call_len_seq (by rfl) m_len (by decide +kernel) (a_cons (d_var 0) a_nil)) (absCB (sA _) a_len)) (d_var 2)))))) a_nil)) (absCB (sA _) a_tupOf)))))))
theorem ok_ladder {a_0 : Addr} {fd_0 : FuncData} (F : Fun K "ladder" "ladder" s_ladder a_0 fd_0) (m_min : mg "min" = none)
    (m_range : mg "range" = none)
    {t_MOST_BEATS : Tok} (g_MOST_BEATS : mg "MOST_BEATS" = some (.int 1000 t_MOST_BEATS))
    {a_evening_out : Addr} {fd_evening_out : FuncData} (F_evening_out : Fun K "evening_out" "evening_out" s_evening_out a_evening_out fd_evening_out) (b_evening_out : Binds K fd_evening_out ["standing", "grains", "live"] []) (G_evening_out : FnG P w K mg base 5 a_evening_out fd_evening_out ["standing", "grains", "live"] (spM K 3 d_evening_out))
    (g_evening_out : mg "evening_out" = some (.ref a_evening_out))
    {a_want_count : Addr} {fd_want_count : FuncData} (F_want_count : Fun K "want_count" "want_count" s_want_count a_want_count fd_want_count) (b_want_count : Binds K fd_want_count ["thing", "word"] []) (G_want_count : FnG P w K mg base 3 a_want_count fd_want_count ["thing", "word"] (spM K 2 d_want_count))
    (g_want_count : mg "want_count" = some (.ref a_want_count))
    {a_want_fullest : Addr} {fd_want_fullest : FuncData} (F_want_fullest : Fun K "want_fullest" "want_fullest" s_want_fullest a_want_fullest fd_want_fullest) (b_want_fullest : Binds K fd_want_fullest ["cups", "fullest"] []) (G_want_fullest : FnG P w K mg base 3 a_want_fullest fd_want_fullest ["cups", "fullest"] (spM K 2 d_want_fullest))
    (g_want_fullest : mg "want_fullest" = some (.ref a_want_fullest))
    {a_want_sizes : Addr} {fd_want_sizes : FuncData} (F_want_sizes : Fun K "want_sizes" "want_sizes" s_want_sizes a_want_sizes fd_want_sizes) (b_want_sizes : Binds K fd_want_sizes ["cups", "grains", "scoops"] []) (G_want_sizes : FnG P w K mg base 4 a_want_sizes fd_want_sizes ["cups", "grains", "scoops"] (spM K 3 d_want_sizes))
    (g_want_sizes : mg "want_sizes" = some (.ref a_want_sizes))
    {a_what_stays : Addr} {fd_what_stays : FuncData} (F_what_stays : Fun K "what_stays" "what_stays" s_what_stays a_what_stays fd_what_stays) (b_what_stays : Binds K fd_what_stays ["standing", "pour", "scoops"] []) (G_what_stays : FnG P w K mg base 6 a_what_stays fd_what_stays ["standing", "pour", "scoops"] (spM K 3 d_what_stays))
    (g_what_stays : mg "what_stays" = some (.ref a_what_stays)) : FnG P w K mg base 7 a_0 fd_0 ["cups", "grains", "scoops", "fullest", "beats"] (spM K 5 d_ladder) := by
  refine fn_g F sc_ladder (fun vs H Q E h => h.1) (fun cdv A outer s H vs Q E hcd hr h => ⟨tS K (fun c d _ H => E c d H) ((sSeq (sExpr (eCall 3 d_want_sizes (arV (dVar 0) (arV (dVar 1) (arV (dVar 2) arNil)))))
  (sSeq (sExpr (eCall 2 d_want_fullest (arV (dVar 0) (arV (dVar 3) arNil))))
  (sSeq (sExpr (eCall 2 d_want_count (arV (dVar 4) (arV (dC (.str "beats")) arNil))))
  (sSeq (sIf (tBl (dOp pGt (dVar 4) (dC (.int 1000))))
  (sNever)
  (sNext))
  (sSeq (sPar 5 6 (eLst dNil) (ofD (dOp pTM (dTup (dCons (dC (.int 0)) dNil)) (dVar 0))))
  (sSeq (sFor (iRngDn (dCons (dVar 4) (dCons (dC (.int 0)) (dCons (dUn pNeg (dC (.int 1))) dNil)))) (bName 7)
  ((sSeq (sSet 8 (ofD (fz (eCall 3 d_evening_out (arV (dVar 6) (arV (dVar 1) (arV (dCB pMin2 (dCons (dVar 0) (dCons (fz (eOp pAdd (dVar 3) (fz (eMul (ofD (dVar 2)) (dVar 7))))) dNil))) arNil)))))))
  (sSeq (sExpr (eMut 5 mApp (dCons (dTup (dCons (dVar 6) (dCons (dVar 8) dNil))) dNil)))
  (sSet 6 (ofD (fz (eCall 3 d_what_stays (arV (dVar 6) (arV (dVar 8) (arV (dVar 2) arNil)))))))))))
  (sRet (eMove 5))))))))), ?_, body_ok (N := ["cups", "grains", "scoops", "fullest", "beats", "found", "standing", "ahead", "pour"]) (sS _) (by decide) h⟩)
  exact (b_cons (wS (ps_expr (wE (pe_callG G_want_sizes (hr.mono (by decide)) (by rfl) g_want_sizes F_want_sizes.kp b_want_sizes (fun σ => passAt (takes_of (E := E) rfl rfl rfl rfl) σ) (ar_v (d_var 0) (ar_v (d_var 1) (ar_v (d_var 2) ar_nil)))) (absCall (sAr _)))) (absExpr (sE _)))
    (b_cons (wS (ps_expr (wE (pe_callG G_want_fullest (hr.mono (by decide)) (by rfl) g_want_fullest F_want_fullest.kp b_want_fullest (fun σ => passAt (takes_of (E := E) rfl rfl rfl rfl) σ) (ar_v (d_var 0) (ar_v (d_var 3) ar_nil))) (absCall (sAr _)))) (absExpr (sE _)))
    (b_cons (wS (ps_expr (wE (pe_callG G_want_count (hr.mono (by decide)) (by rfl) g_want_count F_want_count.kp b_want_count (fun σ => passAt (takes_of (E := E) rfl rfl rfl rfl) σ) (ar_v (d_var 4) (ar_v d_str ar_nil))) (absCall (sAr _)))) (absExpr (sE _)))
    (b_cons (s_if (t_cmp op_gt a_gt (d_var 4) (d_glob (v := .int 1000) g_MOST_BEATS ⟨_, rfl⟩ (fun _ => .int 1000))) (b_one s_never) b_nil)
    (b_cons (wS (ps_par (i := 5) (j := 6) rfl sc_ladder.nd rfl rfl (by decide) rfl rfl (pa_cons (e_lst a_nil) (pa_cons (e_rv (d_op op_tm a_tm (d_tup (a_cons d_int a_nil)) (d_var 0))) pa_nil)) (by rfl)) (absPar (sE _) (sE _)))
    (b_cons (wS (ps_for (passes_of rfl) rfl (wI (pi_range3 (by rfl) m_range (a_cons (d_var 4) (a_cons d_int (a_cons (d_neg d_int) a_nil)))) (absIRngDn (sA _))) (wG (pg_name (i := 7) sc_ladder.nd rfl (by first | exact .inl rfl | exact .inr rfl)) (absName 7)) (b_cons (wS (ps_set (i := 8) sc_ladder.nd rfl (by first | exact .inl rfl | exact .inr rfl) (e_rv (d_fz (wE (pe_callG G_evening_out (hr.mono (by decide)) (by rfl) g_evening_out F_evening_out.kp b_evening_out (fun σ => passAt (takes_of (E := E) rfl rfl rfl rfl) σ) (ar_v (d_var 6) (ar_v (d_var 1) (ar_v (wD (pe_callB (call_min2 rfl) (by rfl) m_min (by decide +kernel) (a_cons (d_var 0) (a_cons (d_fz (e_add (d_var 3) (d_fz (e_mul (e_rv (d_var 2)) (d_var 7))))) a_nil))) (absCB (sA _) a_min2)) ar_nil)))) (absCall (sAr _)))))) (absSet (sE _)))
    (b_cons (wS (ps_expr (wE (pe_bm PySem.F.plainAttrs_list PySem.F.slot_list_append PySem.F.type_list_append mt_append (pv 5) (a_cons (d_tup (a_cons (d_var 6) (a_cons (d_var 8) a_nil))) a_nil)) (absMut (sA _) am_app))) (absExpr (sE _)))
    (b_one (wS (ps_set (i := 6) sc_ladder.nd rfl (by first | exact .inl rfl | exact .inr rfl) (e_rv (d_fz (wE (pe_callG G_what_stays (hr.mono (by decide)) (by rfl) g_what_stays F_what_stays.kp b_what_stays (fun σ => passAt (takes_of (E := E) rfl rfl rfl rfl) σ) (ar_v (d_var 6) (ar_v (d_var 8) (ar_v (d_var 2) ar_nil)))) (absCall (sAr _)))))) (absSet (sE _))))))) (absFor (sI _) (sG _ _) (sS _)))
    (b_one (s_ret (e_mov 5)))))))))
theorem ok_top {a_0 : Addr} {fd_0 : FuncData} (F : Fun K "top" "top" s_top a_0 fd_0) (m_divmod : mg "divmod" = none)
    (m_min : mg "min" = none)
    {a_is_from : Addr} {fd_is_from : FuncData} (F_is_from : Fun K "is_from" "is_from" s_is_from a_is_from fd_is_from) (b_is_from : Binds K fd_is_from ["thing", "least", "most"] []) (G_is_from : FnG P w K mg base 2 a_is_from fd_is_from ["thing", "least", "most"] (spM K 3 d_is_from))
    (g_is_from : mg "is_from" = some (.ref a_is_from))
    {a_want_shares : Addr} {fd_want_shares : FuncData} (F_want_shares : Fun K "want_shares" "want_shares" s_want_shares a_want_shares fd_want_shares) (b_want_shares : Binds K fd_want_shares ["total", "cups"] []) (G_want_shares : FnG P w K mg base 3 a_want_shares fd_want_shares ["total", "cups"] (spM K 2 d_want_shares))
    (g_want_shares : mg "want_shares" = some (.ref a_want_shares)) : FnG P w K mg base 4 a_0 fd_0 ["total", "cups", "many"] (spM K 3 d_top) := by
  refine fn_g F sc_top (fun vs H Q E h => h.1) (fun cdv A outer s H vs Q E hcd hr h => ⟨tS K (fun c d _ H => E c d H) ((sSeq (sExpr (eCall 2 d_want_shares (arV (dVar 0) (arV (dVar 1) arNil))))
  (sSeq (sIf (tNotM (tBl (fz (eCall 3 d_is_from (arV (dVar 2) (arV (dC (.int 0)) (arV (dVar 1) arNil)))))))
  (sNever)
  (sNext))
  (sSeq (sAsg (bTup 2 (bCons (bName 3) (bCons (bName 4) bNil))) (dCB pDivmod (dCons (dVar 0) (dCons (dVar 1) dNil))))
  (sRet (eOp pAdd (fz (eMul (ofD (dVar 3)) (dVar 2))) (dCB pMin2 (dCons (dVar 4) (dCons (dVar 2) dNil))))))))), ?_, body_ok (N := ["total", "cups", "many", "share", "more"]) (sS _) (by decide) h⟩)
  exact (b_cons (wS (ps_expr (wE (pe_callG G_want_shares (hr.mono (by decide)) (by rfl) g_want_shares F_want_shares.kp b_want_shares (fun σ => passAt (takes_of (E := E) rfl rfl rfl rfl) σ) (ar_v (d_var 0) (ar_v (d_var 1) ar_nil))) (absCall (sAr _)))) (absExpr (sE _)))
    (b_cons (s_if (t_not (t_val (d_fz (wE (pe_callG G_is_from (hr.mono (by decide)) (by rfl) g_is_from F_is_from.kp b_is_from (fun σ => passAt (takes_of (E := E) rfl rfl rfl rfl) σ) (ar_v (d_var 2) (ar_v d_int (ar_v (d_var 1) ar_nil)))) (absCall (sAr _)))))) (b_one s_never) b_nil)
    (b_cons (wS (ps_asg (wD (pe_callB call_divmod (by rfl) m_divmod (by decide +kernel) (a_cons (d_var 0) (a_cons (d_var 1) a_nil))) (absCB (sA _) a_divmod)) (wG (pg_tup (by rfl) (g_cons (wG (pg_name (i := 3) sc_top.nd rfl (by first | exact .inl rfl | exact .inr rfl)) (absName 3)) (g_cons (wG (pg_name (i := 4) sc_top.nd rfl (by first | exact .inl rfl | exact .inr rfl)) (absName 4)) g_nil))) (absGTup (sGs _ _)))) (absAsg (sD _) (sG _ _)))
    (b_one (s_ret (e_add (d_fz (e_mul (e_rv (d_var 3)) (d_var 2))) (wD (pe_callB (call_min2 rfl) (by rfl) m_min (by decide +kernel) (a_cons (d_var 4) (a_cons (d_var 2) a_nil))) (absCB (sA _) a_min2))))))))
theorem ok_least_of {a_0 : Addr} {fd_0 : FuncData} (F : Fun K "least_of" "least_of" s_least_of a_0 fd_0) (m_min : mg "min" = none)
    {a_top : Addr} {fd_top : FuncData} (F_top : Fun K "top" "top" s_top a_top fd_top) (b_top : Binds K fd_top ["total", "cups", "many"] []) (G_top : FnG P w K mg base 4 a_top fd_top ["total", "cups", "many"] (spM K 3 d_top))
    (g_top : mg "top" = some (.ref a_top)) : FnG P w K mg base 5 a_0 fd_0 ["cups", "grains", "scoops", "row", "many"] (spM K 5 d_least_of) := by
  refine fn_g F sc_least_of (fun vs H Q E h => h.1) (fun cdv A outer s H vs Q E hcd hr h => ⟨tS K (fun c d _ H => E c d H) ((sSeq (sSet 5 (eOp pAdd (dOp pIx (dVar 3) (dOp pSub (dCB pMin2 (dCons (fz (eOp pAdd (dVar 4) (dVar 2))) (dCons (dOp pSub (dVar 0) (dVar 2)) dNil))) (dC (.int 1)))) (dVar 1)))
  (sRet (ofD (dOp pSub (dVar 5) (fz (eCall 3 d_top (arV (dVar 5) (arV (fz (eOp pAdd (dVar 4) (dVar 2))) (arV (dVar 2) arNil)))))))))), ?_, body_ok (N := ["cups", "grains", "scoops", "row", "many", "total"]) (sS _) (by decide) h⟩)
  exact (b_cons (wS (ps_set (i := 5) sc_least_of.nd rfl (by first | exact .inl rfl | exact .inr rfl) (e_add (d_ix (d_var 3) (d_sub (wD (pe_callB (call_min2 rfl) (by rfl) m_min (by decide +kernel) (a_cons (d_fz (e_add (d_var 4) (d_var 2))) (a_cons (d_sub (d_var 0) (d_var 2)) a_nil))) (absCB (sA _) a_min2)) d_int)) (d_var 1))) (absSet (sE _)))
    (b_one (s_ret (e_rv (d_sub (d_var 5) (d_fz (wE (pe_callG G_top (hr.mono (by decide)) (by rfl) g_top F_top.kp b_top (fun σ => passAt (takes_of (E := E) rfl rfl rfl rfl) σ) (ar_v (d_var 5) (ar_v (d_fz (e_add (d_var 4) (d_var 2))) (ar_v (d_var 2) ar_nil)))) (absCall (sAr _)))))))))
theorem ok_next_row {a_0 : Addr} {fd_0 : FuncData} (F : Fun K "next_row" "next_row" s_next_row a_0 fd_0) (m_range : mg "range" = none)
    {a_least_of : Addr} {fd_least_of : FuncData} (F_least_of : Fun K "least_of" "least_of" s_least_of a_least_of fd_least_of) (b_least_of : Binds K fd_least_of ["cups", "grains", "scoops", "row", "many"] []) (G_least_of : FnG P w K mg base 5 a_least_of fd_least_of ["cups", "grains", "scoops", "row", "many"] (spM K 5 d_least_of))
    (g_least_of : mg "least_of" = some (.ref a_least_of)) : FnG P w K mg base 6 a_0 fd_0 ["cups", "grains", "scoops", "row"] (spM K 4 d_next_row) := by
  refine fn_g F sc_next_row (fun vs H Q E h => h.1) (fun cdv A outer s H vs Q E hcd hr h => ⟨tS K (fun c d _ H => E c d H) ((sSeq (sSet 4 (eLc (iRng2M (dCons (dC (.int 1)) (dCons (fz (eOp pAdd (dOp pSub (dVar 0) (dVar 2)) (dC (.int 1)))) dNil))) [5] (bName 5) tYesM (fz (eCall 5 d_least_of (arV (dVar 0) (arV (dVar 1) (arV (dVar 2) (arV (dVar 3) (arV (dVar 5) arNil)))))))))
  (sRet (eOp pAdd (dVar 4) (fz (eMul (eLst (dCons (dOp pIx (dVar 4) (dUn pNeg (dC (.int 1)))) dNil)) (dVar 2))))))), ?_, body_ok (N := ["cups", "grains", "scoops", "row", "found", "many"]) (sS _) (by decide) h⟩)
  exact (b_cons (wS (ps_setLc (i := 4) (own := [("many", 5)]) rfl sc_next_row.nd rfl rfl (sw_true rfl rfl rfl (by decide +kernel)) (wI (pi_range2 (by rfl) m_range (a_cons d_int (a_cons (d_fz (e_add (d_sub (d_var 0) (d_var 2)) d_int)) a_nil))) (absIRng2 (sA _))) (blkOk_by (own := [("many", 5)]) (N := ["cups", "grains", "scoops", "row", "found", "many"]) (sc := defScope s_next_row) (by decide +kernel)) (fun _ _ _ _ _ => (wG (pg_name (i := 5) sc_next_row.nd rfl (by first | exact .inl rfl | exact .inr rfl)) (absName 5))) (fun _ _ _ _ _ => pts_nil) (fun _ _ _ _ _ => (d_fz (wE (pe_callG G_least_of (hr.mono (by decide)) (by rfl) g_least_of F_least_of.kp b_least_of (fun σ => passAt takes0 σ) (ar_v (d_var 0) (ar_v (d_var 1) (ar_v (d_var 2) (ar_v (d_var 3) (ar_v (d_var 5) ar_nil)))))) (absCall (sAr _)))))) (absSet (absLc (sI _) (sG _ _) (by decide) absYes (sD _))))
    (b_one (s_ret (e_add (d_var 4) (d_fz (e_mul (e_lst (a_cons (d_ix (d_var 4) (d_neg d_int)) a_nil)) (d_var 2)))))))
theorem ok_row_at {a_0 : Addr} {fd_0 : FuncData} (F : Fun K "row_at" "row_at" s_row_at a_0 fd_0) {a_next_row : Addr} {fd_next_row : FuncData} (F_next_row : Fun K "next_row" "next_row" s_next_row a_next_row fd_next_row) (b_next_row : Binds K fd_next_row ["cups", "grains", "scoops", "row"] []) (G_next_row : FnG P w K mg base 6 a_next_row fd_next_row ["cups", "grains", "scoops", "row"] (spM K 4 d_next_row))
    (g_next_row : mg "next_row" = some (.ref a_next_row)) : FnG P w K mg base 7 a_0 fd_0 ["cups", "grains", "scoops", "beats"] (spM K 4 d_row_at) := by
  refine fn_g F sc_row_at (fun vs H Q E h => h.1) (fun cdv A outer s H vs Q E hcd hr h => ⟨tS K (fun c d _ H => E c d H) ((sSeq (sPar 4 5 (eMul (eLst (dCons (dC (.int 0)) dNil)) (dVar 0)) (ofD (dC (.int 0))))
  (sSeq (sWhile (tBl (dOp pLt (dVar 5) (dVar 3)))
  ((sSeq (sSet 6 (eCall 4 d_next_row (arV (dVar 0) (arV (dVar 1) (arV (dVar 2) (arV (dVar 4) arNil))))))
  (sSeq (sIf (tBl (dOp pEq (dVar 6) (dVar 4)))
  ((sRet (ofD (dTup (dCons (dVar 4) (dCons (dVar 5) dNil))))))
  (sNext))
  (sPar 4 5 (ofD (dVar 6)) (eOp pAdd (dVar 5) (dC (.int 1))))))))
  (sRet (ofD (dTup (dCons (dVar 4) (dCons (dVar 5) dNil)))))))), ?_, body_ok (N := ["cups", "grains", "scoops", "beats", "row", "done", "later"]) (sS _) (by decide) h⟩)
  exact (b_cons (wS (ps_par (i := 4) (j := 5) rfl sc_row_at.nd rfl rfl (by decide) rfl rfl (pa_cons (e_mul (e_lst (a_cons d_int a_nil)) (d_var 0)) (pa_cons (e_rv d_int) pa_nil)) (by rfl)) (absPar (sE _) (sE _)))
    (b_cons (s_while (passes_of rfl) (t_cmp op_lt a_lt (d_var 5) (d_var 3)) (b_cons (wS (ps_set (i := 6) sc_row_at.nd rfl (by first | exact .inl rfl | exact .inr rfl) (wE (pe_callG G_next_row (hr.mono (by decide)) (by rfl) g_next_row F_next_row.kp b_next_row (fun σ => passAt (takes_of (E := E) rfl rfl rfl rfl) σ) (ar_v (d_var 0) (ar_v (d_var 1) (ar_v (d_var 2) (ar_v (d_var 4) ar_nil))))) (absCall (sAr _)))) (absSet (sE _)))
    (b_cons (s_if (t_cmp (op_eqD hr.units) a_eq (d_var 6) (d_var 4)) (b_one (s_ret (e_rv (d_tup (a_cons (d_var 4) (a_cons (d_var 5) a_nil)))))) b_nil)
    (b_one (wS (ps_par (i := 4) (j := 5) rfl sc_row_at.nd rfl rfl (by decide) rfl rfl (pa_cons (e_rv (d_var 6)) (pa_cons (e_add (d_var 5) d_int) pa_nil)) (by rfl)) (absPar (sE _) (sE _)))))))
    (b_one (s_ret (e_rv (d_tup (a_cons (d_var 4) (a_cons (d_var 5) a_nil))))))))
theorem ok_most {a_0 : Addr} {fd_0 : FuncData} (F : Fun K "most" "most" s_most a_0 fd_0) {a_row_at : Addr} {fd_row_at : FuncData} (F_row_at : Fun K "row_at" "row_at" s_row_at a_row_at fd_row_at) (b_row_at : Binds K fd_row_at ["cups", "grains", "scoops", "beats"] []) (G_row_at : FnG P w K mg base 7 a_row_at fd_row_at ["cups", "grains", "scoops", "beats"] (spM K 4 d_row_at))
    (g_row_at : mg "row_at" = some (.ref a_row_at))
    {a_want_count : Addr} {fd_want_count : FuncData} (F_want_count : Fun K "want_count" "want_count" s_want_count a_want_count fd_want_count) (b_want_count : Binds K fd_want_count ["thing", "word"] []) (G_want_count : FnG P w K mg base 3 a_want_count fd_want_count ["thing", "word"] (spM K 2 d_want_count))
    (g_want_count : mg "want_count" = some (.ref a_want_count))
    {a_want_fullest : Addr} {fd_want_fullest : FuncData} (F_want_fullest : Fun K "want_fullest" "want_fullest" s_want_fullest a_want_fullest fd_want_fullest) (b_want_fullest : Binds K fd_want_fullest ["cups", "fullest"] []) (G_want_fullest : FnG P w K mg base 3 a_want_fullest fd_want_fullest ["cups", "fullest"] (spM K 2 d_want_fullest))
    (g_want_fullest : mg "want_fullest" = some (.ref a_want_fullest))
    {a_want_sizes : Addr} {fd_want_sizes : FuncData} (F_want_sizes : Fun K "want_sizes" "want_sizes" s_want_sizes a_want_sizes fd_want_sizes) (b_want_sizes : Binds K fd_want_sizes ["cups", "grains", "scoops"] []) (G_want_sizes : FnG P w K mg base 4 a_want_sizes fd_want_sizes ["cups", "grains", "scoops"] (spM K 3 d_want_sizes))
    (g_want_sizes : mg "want_sizes" = some (.ref a_want_sizes)) : FnG P w K mg base 8 a_0 fd_0 ["cups", "grains", "scoops", "fullest", "beats"] (spM K 5 d_most) := by
  refine fn_g F sc_most (fun vs H Q E h => h.1) (fun cdv A outer s H vs Q E hcd hr h => ⟨tS K (fun c d _ H => E c d H) ((sSeq (sExpr (eCall 3 d_want_sizes (arV (dVar 0) (arV (dVar 1) (arV (dVar 2) arNil)))))
  (sSeq (sExpr (eCall 2 d_want_fullest (arV (dVar 0) (arV (dVar 3) arNil))))
  (sSeq (sExpr (eCall 2 d_want_count (arV (dVar 4) (arV (dC (.str "beats")) arNil))))
  (sRet (ofD (dOp pIx (dOp pIx (fz (eCall 4 d_row_at (arV (dVar 0) (arV (dVar 1) (arV (dVar 2) (arV (dVar 4) arNil)))))) (dC (.int 0))) (dOp pSub (dVar 3) (dC (.int 1)))))))))), ?_, body_ok (N := ["cups", "grains", "scoops", "fullest", "beats"]) (sS _) (by decide) h⟩)
  exact (b_cons (wS (ps_expr (wE (pe_callG G_want_sizes (hr.mono (by decide)) (by rfl) g_want_sizes F_want_sizes.kp b_want_sizes (fun σ => passAt (takes_of (E := E) rfl rfl rfl rfl) σ) (ar_v (d_var 0) (ar_v (d_var 1) (ar_v (d_var 2) ar_nil)))) (absCall (sAr _)))) (absExpr (sE _)))
    (b_cons (wS (ps_expr (wE (pe_callG G_want_fullest (hr.mono (by decide)) (by rfl) g_want_fullest F_want_fullest.kp b_want_fullest (fun σ => passAt (takes_of (E := E) rfl rfl rfl rfl) σ) (ar_v (d_var 0) (ar_v (d_var 3) ar_nil))) (absCall (sAr _)))) (absExpr (sE _)))
    (b_cons (wS (ps_expr (wE (pe_callG G_want_count (hr.mono (by decide)) (by rfl) g_want_count F_want_count.kp b_want_count (fun σ => passAt (takes_of (E := E) rfl rfl rfl rfl) σ) (ar_v (d_var 4) (ar_v d_str ar_nil))) (absCall (sAr _)))) (absExpr (sE _)))
    (b_one (s_ret (e_rv (d_ix (d_ix (d_fz (wE (pe_callG G_row_at (hr.mono (by decide)) (by rfl) g_row_at F_row_at.kp b_row_at (fun σ => passAt (takes_of (E := E) rfl rfl rfl rfl) σ) (ar_v (d_var 0) (ar_v (d_var 1) (ar_v (d_var 2) (ar_v (d_var 4) ar_nil))))) (absCall (sAr _)))) d_int) (d_sub (d_var 3) d_int))))))))
theorem ok__law_right {a_0 : Addr} {fd_0 : FuncData} (F : Fun K "_law_right" "_law_right" s__law_right a_0 fd_0) (m_max : mg "max" = none)
    (m_range : mg "range" = none)
    (m_tuple : mg "tuple" = none)
    {a__law_is_let : Addr} {fd__law_is_let : FuncData} (F__law_is_let : Fun K "_law_is_let" "_law_is_let" s__law_is_let a__law_is_let fd__law_is_let) (b__law_is_let : Binds K fd__law_is_let ["_law_house_here", "_law_wide", "_law_aim", "_law_steps_here"] []) (G__law_is_let : FnG P w K mg base 8 a__law_is_let fd__law_is_let ["_law_house_here", "_law_wide", "_law_aim", "_law_steps_here"] (spM K 4 d__law_is_let))
    (g__law_is_let : mg "_law_is_let" = some (.ref a__law_is_let))
    {a__law_take : Addr} {fd__law_take : FuncData} (F__law_take : Fun K "_law_take" "_law_take" s__law_take a__law_take fd__law_take) (b__law_take : Binds K fd__law_take ["_law_source_here", "_law_many"] []) (G__law_take : FnG P w K mg base 2 a__law_take fd__law_take ["_law_source_here", "_law_many"] (spM K 2 d__law_take))
    (g__law_take : mg "_law_take" = some (.ref a__law_take))
    {a__law_times : Addr} {fd__law_times : FuncData} (F__law_times : Fun K "_law_times" "_law_times" s__law_times a__law_times fd__law_times) (b__law_times : Binds K fd__law_times ["_law_steps_here", "_law_times_here"] []) (G__law_times : FnG P w K mg base 1 a__law_times fd__law_times ["_law_steps_here", "_law_times_here"] (spM K 2 d__law_times))
    (g__law_times : mg "_law_times" = some (.ref a__law_times))
    {a__law_wider : Addr} {fd__law_wider : FuncData} (F__law_wider : Fun K "_law_wider" "_law_wider" s__law_wider a__law_wider fd__law_wider) (b__law_wider : Binds K fd__law_wider ["_law_steps_here"] []) (G__law_wider : FnG P w K mg base 1 a__law_wider fd__law_wider ["_law_steps_here"] (spM K 1 d__law_wider))
    (g__law_wider : mg "_law_wider" = some (.ref a__law_wider))
    {a_check_ladder : Addr} {fd_check_ladder : FuncData} (F_check_ladder : Fun K "check_ladder" "check_ladder" s_check_ladder a_check_ladder fd_check_ladder) (G_check_ladder : FnG P w K mg base 7 a_check_ladder fd_check_ladder ["cups", "grains", "scoops", "fullest", "held", "steps", "start"] (spM K 7 d_check_ladder))
    (g_check_ladder : mg "check_ladder" = some (.ref a_check_ladder))
    {a_ladder : Addr} {fd_ladder : FuncData} (F_ladder : Fun K "ladder" "ladder" s_ladder a_ladder fd_ladder) (b_ladder : Binds K fd_ladder ["cups", "grains", "scoops", "fullest", "beats"] []) (G_ladder : FnG P w K mg base 7 a_ladder fd_ladder ["cups", "grains", "scoops", "fullest", "beats"] (spM K 5 d_ladder))
    (g_ladder : mg "ladder" = some (.ref a_ladder))
    {a_most : Addr} {fd_most : FuncData} (F_most : Fun K "most" "most" s_most a_most fd_most) (b_most : Binds K fd_most ["cups", "grains", "scoops", "fullest", "beats"] []) (G_most : FnG P w K mg base 8 a_most fd_most ["cups", "grains", "scoops", "fullest", "beats"] (spM K 5 d_most))
    (g_most : mg "most" = some (.ref a_most))
    (kb_check_ladder_6_start : KBn K fd_check_ladder ["cups", "grains", "scoops", "fullest", "held", "steps", "start"] 6 ["start"] (fun us ws => pick [0, 1, 2, 3, 4, 5, 6] (us ++ ws)) (fun vs zs => pick [0, 1, 2, 3, 4, 5, 6] (vs ++ zs))) : FnG P w K mg base 9 a_0 fd_0 ["_law_source_here", "_law_house_here", "_law_wide", "_law_last", "_law_later"] (spM K 5 d__law_right) := by
  refine fn_g F sc__law_right (fun vs H Q E h => h.1) (fun cdv A outer s H vs Q E hcd hr h => ⟨tS K (fun c d _ H => E c d H) ((sSeq (sAsg (bTup 3 (bCons (bName 5) (bCons (bName 6) (bCons (bName 7) bNil)))) (dVar 1))
  (sSeq (sAsg (bTupL 2 (bCons (bName 8) (bCons (bName 9) bNil))) (fz (eLc (iSeqM (dTup (dCons (dVar 3) (dCons (dVar 4) dNil)))) [16] (bName 16) tYesM (fz (eCall 5 d_ladder (arV (dVar 5) (arV (dVar 6) (arV (dVar 7) (arV (dVar 2) (arV (dVar 16) arNil))))))))))
  (sSeq (sAsg (bTupL 2 (bCons (bName 10) (bCons (bName 11) bNil))) (fz (eLc (iSeqM (dTup (dCons (dVar 3) (dCons (dVar 4) dNil)))) [16] (bName 16) tYesM (fz (eCall 5 d_most (arV (dVar 5) (arV (dVar 6) (arV (dVar 7) (arV (dVar 2) (arV (dVar 16) arNil))))))))))
  (sSeq (sSet 12 (ofD (dOp pIx (fz (eLst (dCons (dC (.int 2)) (dCons (dC (.int 3)) (dCons (dC (.int 7)) (dCons (dOp pPow (dC (.int 10)) (dC (.int 6))) dNil)))))) (fz (eCall 2 d__law_take (arR 0 (arV (dC (.int 4)) arNil)))))))
  (sSeq (sSet 13 (ofD (dTup (dCons (dVar 5) (dCons (fz (eMul (ofD (dVar 6)) (dVar 12))) (dCons (dVar 7) dNil))))))
  (sSeq (sIf (tNotM (tBl (fz (eCall 4 d__law_is_let (arV (dVar 13) (arV (dVar 2) (arV (fz (eMul (ofD (dVar 10)) (dVar 12))) (arV (fz (eCall 2 d__law_times (arV (dVar 8) (arV (dVar 12) arNil)))) arNil))))))))
  ((sRet (ofD (dC (.bool false)))))
  (sNext))
  (sSeq (sIf (tBl (dOp pLt (fz (eCall 5 d_most (arV (dVar 5) (arV (fz (eMul (ofD (dVar 6)) (dVar 12))) (arV (dVar 7) (arV (dVar 2) (arV (dVar 3) arNil))))))) (fz (eMul (ofD (dVar 10)) (dVar 12)))))
  ((sRet (ofD (dC (.bool false)))))
  (sNext))
  (sSeq (sIf (tNotM (tBl (fz (eCall 4 d__law_is_let (arV (dTup (dCons (fz (eOp pAdd (dVar 5) (dC (.int 1)))) (dCons (dVar 6) (dCons (dVar 7) dNil)))) (arV (dVar 2) (arV (dVar 10) (arV (fz (eCall 1 d__law_wider (arV (dVar 8) arNil))) arNil))))))))
  ((sRet (ofD (dC (.bool false)))))
  (sNext))
  (sSeq (sIf (tBl (dOp pLt (fz (eCall 5 d_most (arV (fz (eOp pAdd (dVar 5) (dC (.int 1)))) (arV (dVar 6) (arV (dVar 7) (arV (dVar 2) (arV (dVar 3) arNil))))))) (dVar 10)))
  ((sRet (ofD (dC (.bool false)))))
  (sNext))
  (sSeq (sIf (tAndM (tBl (dOp pGt (dVar 7) (dC (.int 1)))) (tNotM (tBl (fz (eCall 4 d__law_is_let (arV (dTup (dCons (dVar 5) (dCons (dVar 6) (dCons (dOp pSub (dVar 7) (dC (.int 1))) dNil)))) (arV (dVar 2) (arV (dVar 10) (arV (dVar 8) arNil)))))))))
  ((sRet (ofD (dC (.bool false)))))
  (sNext))
  (sSeq (sIf (tAndM (tBl (dOp pGt (dVar 7) (dC (.int 1)))) (tBl (dOp pLt (fz (eCall 5 d_most (arV (dVar 5) (arV (dVar 6) (arV (dOp pSub (dVar 7) (dC (.int 1))) (arV (dVar 2) (arV (dVar 3) arNil))))))) (dVar 10))))
  ((sRet (ofD (dC (.bool false)))))
  (sNext))
  (sSeq (sIf (tNotM (tBl (fz (eCall 4 d__law_is_let (arV (dVar 1) (arV (dVar 2) (arV (dVar 11) (arV (fz (eOp pAdd (dVar 8) (dVar 9))) arNil))))))))
  ((sRet (ofD (dC (.bool false)))))
  (sNext))
  (sSeq (sIf (tNotM (tBl (fz (eCall 4 d__law_is_let (arV (dVar 1) (arV (dVar 2) (arV (dVar 10) (arV (fz (eOp pAdd (dVar 9) (dVar 8))) arNil))))))))
  ((sRet (ofD (dC (.bool false)))))
  (sNext))
  (sSeq (sSet 14 (ofD (dOp pIx (fz (eLst (dCons (dC (.int 1)) (dCons (dC (.int 9)) (dCons (dOp pPow (dC (.int 10)) (dC (.int 17))) dNil))))) (fz (eCall 2 d__law_take (arR 0 (arV (dC (.int 3)) arNil)))))))
  (sSeq (sSet 15 (ofD (dCB pTupOf (dCons (fz (eLc (iRng1M (dVar 5)) [17] (bName 17) tYesM (fz (eCall 2 d__law_take (arR 0 (arV (dVar 14) arNil)))))) dNil))))
  (sSeq (sIf (tBl (dOp pNotN (fz (eCallK 7 6 1 [0, 1, 2, 3, 4, 5, 6] d_check_ladder (arV (dVar 5) (arV (dVar 6) (arV (dVar 7) (arV (dVar 2) (arV (dVar 10) (arV (dVar 8) arNil)))))) (arV (dVar 15) arNil))) (dC .none)))
  ((sRet (ofD (dC (.bool false)))))
  (sNext))
  (sRet (ofD (dOp pGe (fz (eCall 5 d_most (arV (dVar 5) (arV (dVar 6) (arV (dVar 7) (arV (dVar 2) (arV (fz (eOp pAdd (dVar 3) (dVar 4))) arNil))))))) (dCB pMax2 (dCons (dVar 10) (dCons (dVar 11) dNil))))))))))))))))))))))), ?_, body_ok (N := ["_law_source_here", "_law_house_here", "_law_wide", "_law_last", "_law_later", "_law_a", "_law_b", "_law_c", "_law_first", "_law_second", "_law_aim", "_law_goal", "_law_times_here", "_law_wide_house", "_law_far", "_law_begun", "_law_t", "_law_k"]) (sS _) (by decide) h⟩)
  exact (b_cons (wS (ps_asg (d_var 1) (wG (pg_tup (by rfl) (g_cons (wG (pg_name (i := 5) sc__law_right.nd rfl (by first | exact .inl rfl | exact .inr rfl)) (absName 5)) (g_cons (wG (pg_name (i := 6) sc__law_right.nd rfl (by first | exact .inl rfl | exact .inr rfl)) (absName 6)) (g_cons (wG (pg_name (i := 7) sc__law_right.nd rfl (by first | exact .inl rfl | exact .inr rfl)) (absName 7)) g_nil)))) (absGTup (sGs _ _)))) (absAsg (sD _) (sG _ _)))
    (b_cons (wS (ps_asg (d_fz (wE (pe_lc (own := [("_law_t", 16)]) rfl sc__law_right.nd (wI (pi_seq (d_tup (a_cons (d_var 3) (a_cons (d_var 4) a_nil)))) (absISeq (sD _))) (blkOk_by (own := [("_law_t", 16)]) (N := ["_law_source_here", "_law_house_here", "_law_wide", "_law_last", "_law_later", "_law_a", "_law_b", "_law_c", "_law_first", "_law_second", "_law_aim", "_law_goal", "_law_times_here", "_law_wide_house", "_law_far", "_law_begun", "_law_t", "_law_k"]) (sc := defScope s__law_right) (by decide +kernel)) (fun _ _ _ _ _ => (wG (pg_name (i := 16) sc__law_right.nd rfl (by first | exact .inl rfl | exact .inr rfl)) (absName 16))) (fun _ _ _ _ _ => pts_nil) (fun _ _ _ _ _ => (d_fz (wE (pe_callG G_ladder (hr.mono (by decide)) (by rfl) g_ladder F_ladder.kp b_ladder (fun σ => passAt takes0 σ) (ar_v (d_var 5) (ar_v (d_var 6) (ar_v (d_var 7) (ar_v (d_var 2) (ar_v (d_var 16) ar_nil)))))) (absCall (sAr _)))))) (absLc (sI _) (sG _ _) (by decide) absYes (sD _)))) (wG (pg_tupL (by rfl) (g_cons (wG (pg_name (i := 8) sc__law_right.nd rfl (by first | exact .inl rfl | exact .inr rfl)) (absName 8)) (g_cons (wG (pg_name (i := 9) sc__law_right.nd rfl (by first | exact .inl rfl | exact .inr rfl)) (absName 9)) g_nil))) (absGTupL (sGs _ _)))) (absAsg (sD _) (sG _ _)))
    (b_cons (wS (ps_asg (d_fz (wE (pe_lc (own := [("_law_t", 16)]) rfl sc__law_right.nd (wI (pi_seq (d_tup (a_cons (d_var 3) (a_cons (d_var 4) a_nil)))) (absISeq (sD _))) (blkOk_by (own := [("_law_t", 16)]) (N := ["_law_source_here", "_law_house_here", "_law_wide", "_law_last", "_law_later", "_law_a", "_law_b", "_law_c", "_law_first", "_law_second", "_law_aim", "_law_goal", "_law_times_here", "_law_wide_house", "_law_far", "_law_begun", "_law_t", "_law_k"]) (sc := defScope s__law_right) (by decide +kernel)) (fun _ _ _ _ _ => (wG (pg_name (i := 16) sc__law_right.nd rfl (by first | exact .inl rfl | exact .inr rfl)) (absName 16))) (fun _ _ _ _ _ => pts_nil) (fun _ _ _ _ _ => (d_fz (wE (pe_callG G_most (hr.mono (by decide)) (by rfl) g_most F_most.kp b_most (fun σ => passAt takes0 σ) (ar_v (d_var 5) (ar_v (d_var 6) (ar_v (d_var 7) (ar_v (d_var 2) (ar_v (d_var 16) ar_nil)))))) (absCall (sAr _)))))) (absLc (sI _) (sG _ _) (by decide) absYes (sD _)))) (wG (pg_tupL (by rfl) (g_cons (wG (pg_name (i := 10) sc__law_right.nd rfl (by first | exact .inl rfl | exact .inr rfl)) (absName 10)) (g_cons (wG (pg_name (i := 11) sc__law_right.nd rfl (by first | exact .inl rfl | exact .inr rfl)) (absName 11)) g_nil))) (absGTupL (sGs _ _)))) (absAsg (sD _) (sG _ _)))
    (b_cons (wS (ps_set (i := 12) sc__law_right.nd rfl (by first | exact .inl rfl | exact .inr rfl) (e_rv (d_ix (d_fz (e_lst (a_cons d_int (a_cons d_int (a_cons d_int (a_cons (d_pow d_int d_int) a_nil)))))) (d_fz (wE (pe_callG G__law_take (hr.mono (by decide)) (by rfl) g__law_take F__law_take.kp b__law_take (fun σ => passAt (takes_of (E := E) rfl rfl rfl rfl) σ) (ar_r 0 (ar_v d_int ar_nil))) (absCall (sAr _))))))) (absSet (sE _)))
    (b_cons (wS (ps_set (i := 13) sc__law_right.nd rfl (by first | exact .inl rfl | exact .inr rfl) (e_rv (d_tup (a_cons (d_var 5) (a_cons (d_fz (e_mul (e_rv (d_var 6)) (d_var 12))) (a_cons (d_var 7) a_nil)))))) (absSet (sE _)))
    (b_cons (s_if (t_not (t_val (d_fz (wE (pe_callG G__law_is_let (hr.mono (by decide)) (by rfl) g__law_is_let F__law_is_let.kp b__law_is_let (fun σ => passAt (takes_of (E := E) rfl rfl rfl rfl) σ) (ar_v (d_var 13) (ar_v (d_var 2) (ar_v (d_fz (e_mul (e_rv (d_var 10)) (d_var 12))) (ar_v (d_fz (wE (pe_callG G__law_times (hr.mono (by decide)) (by rfl) g__law_times F__law_times.kp b__law_times (fun σ => passAt (takes_of (E := E) rfl rfl rfl rfl) σ) (ar_v (d_var 8) (ar_v (d_var 12) ar_nil))) (absCall (sAr _)))) ar_nil))))) (absCall (sAr _)))))) (b_one (s_ret (e_rv d_bl))) b_nil)
    (b_cons (s_if (t_cmp op_lt a_lt (d_fz (wE (pe_callG G_most (hr.mono (by decide)) (by rfl) g_most F_most.kp b_most (fun σ => passAt (takes_of (E := E) rfl rfl rfl rfl) σ) (ar_v (d_var 5) (ar_v (d_fz (e_mul (e_rv (d_var 6)) (d_var 12))) (ar_v (d_var 7) (ar_v (d_var 2) (ar_v (d_var 3) ar_nil)))))) (absCall (sAr _)))) (d_fz (e_mul (e_rv (d_var 10)) (d_var 12)))) (b_one (s_ret (e_rv d_bl))) b_nil)
    (b_cons (s_if (t_not (t_val (d_fz (wE (pe_callG G__law_is_let (hr.mono (by decide)) (by rfl) g__law_is_let F__law_is_let.kp b__law_is_let (fun σ => passAt (takes_of (E := E) rfl rfl rfl rfl) σ) (ar_v (d_tup (a_cons (d_fz (e_add (d_var 5) d_int)) (a_cons (d_var 6) (a_cons (d_var 7) a_nil)))) (ar_v (d_var 2) (ar_v (d_var 10) (ar_v (d_fz (wE (pe_callG G__law_wider (hr.mono (by decide)) (by rfl) g__law_wider F__law_wider.kp b__law_wider (fun σ => passAt (takes_of (E := E) rfl rfl rfl rfl) σ) (ar_v (d_var 8) ar_nil)) (absCall (sAr _)))) ar_nil))))) (absCall (sAr _)))))) (b_one (s_ret (e_rv d_bl))) b_nil)
    (b_cons (s_if (t_cmp op_lt a_lt (d_fz (wE (pe_callG G_most (hr.mono (by decide)) (by rfl) g_most F_most.kp b_most (fun σ => passAt (takes_of (E := E) rfl rfl rfl rfl) σ) (ar_v (d_fz (e_add (d_var 5) d_int)) (ar_v (d_var 6) (ar_v (d_var 7) (ar_v (d_var 2) (ar_v (d_var 3) ar_nil)))))) (absCall (sAr _)))) (d_var 10)) (b_one (s_ret (e_rv d_bl))) b_nil)
    (b_cons (s_if (t_w (w_and (t_cmp op_gt a_gt (d_var 7) d_int) (w_and1 (t_not (t_val (d_fz (wE (pe_callG G__law_is_let (hr.mono (by decide)) (by rfl) g__law_is_let F__law_is_let.kp b__law_is_let (fun σ => passAt (takes_of (E := E) rfl rfl rfl rfl) σ) (ar_v (d_tup (a_cons (d_var 5) (a_cons (d_var 6) (a_cons (d_sub (d_var 7) d_int) a_nil)))) (ar_v (d_var 2) (ar_v (d_var 10) (ar_v (d_var 8) ar_nil))))) (absCall (sAr _))))))))) (b_one (s_ret (e_rv d_bl))) b_nil)
    (b_cons (s_if (t_w (w_and (t_cmp op_gt a_gt (d_var 7) d_int) (w_and1 (t_cmp op_lt a_lt (d_fz (wE (pe_callG G_most (hr.mono (by decide)) (by rfl) g_most F_most.kp b_most (fun σ => passAt (takes_of (E := E) rfl rfl rfl rfl) σ) (ar_v (d_var 5) (ar_v (d_var 6) (ar_v (d_sub (d_var 7) d_int) (ar_v (d_var 2) (ar_v (d_var 3) ar_nil)))))) (absCall (sAr _)))) (d_var 10))))) (b_one (s_ret (e_rv d_bl))) b_nil)
    (b_cons (s_if (t_not (t_val (d_fz (wE (pe_callG G__law_is_let (hr.mono (by decide)) (by rfl) g__law_is_let F__law_is_let.kp b__law_is_let (fun σ => passAt (takes_of (E := E) rfl rfl rfl rfl) σ) (ar_v (d_var 1) (ar_v (d_var 2) (ar_v (d_var 11) (ar_v (d_fz (e_add (d_var 8) (d_var 9))) ar_nil))))) (absCall (sAr _)))))) (b_one (s_ret (e_rv d_bl))) b_nil)
    (b_cons (s_if (t_not (t_val (d_fz (wE (pe_callG G__law_is_let (hr.mono (by decide)) (by rfl) g__law_is_let F__law_is_let.kp b__law_is_let (fun σ => passAt (takes_of (E := E) rfl rfl rfl rfl) σ) (ar_v (d_var 1) (ar_v (d_var 2) (ar_v (d_var 10) (ar_v (d_fz (e_add (d_var 9) (d_var 8))) ar_nil))))) (absCall (sAr _)))))) (b_one (s_ret (e_rv d_bl))) b_nil)
    (b_cons (wS (ps_set (i := 14) sc__law_right.nd rfl (by first | exact .inl rfl | exact .inr rfl) (e_rv (d_ix (d_fz (e_lst (a_cons d_int (a_cons d_int (a_cons (d_pow d_int d_int) a_nil))))) (d_fz (wE (pe_callG G__law_take (hr.mono (by decide)) (by rfl) g__law_take F__law_take.kp b__law_take (fun σ => passAt (takes_of (E := E) rfl rfl rfl rfl) σ) (ar_r 0 (ar_v d_int ar_nil))) (absCall (sAr _))))))) (absSet (sE _)))
    (b_cons (wS (ps_set (i := 15) sc__law_right.nd rfl (by first | exact .inl rfl | exact .inr rfl) (e_rv (wD (pe_callTy call_tuple_of (by rfl) m_tuple (by decide +kernel) (a_cons (d_fz (wE (pe_lc (own := [("_law_k", 17)]) rfl sc__law_right.nd (wI (pi_range1 (by rfl) m_range (pa_cons (d_var 5) pa_nil)) (absIRng1 (sD _))) (blkOk_by (own := [("_law_k", 17)]) (N := ["_law_source_here", "_law_house_here", "_law_wide", "_law_last", "_law_later", "_law_a", "_law_b", "_law_c", "_law_first", "_law_second", "_law_aim", "_law_goal", "_law_times_here", "_law_wide_house", "_law_far", "_law_begun", "_law_t", "_law_k"]) (sc := defScope s__law_right) (by decide +kernel)) (fun _ _ _ _ _ => (wG (pg_name (i := 17) sc__law_right.nd rfl (by first | exact .inl rfl | exact .inr rfl)) (absName 17))) (fun _ _ _ _ _ => pts_nil) (fun _ _ _ _ _ => (d_fz (wE (pe_callG G__law_take (hr.mono (by decide)) (by rfl) g__law_take F__law_take.kp b__law_take (fun σ => passAt takes0 σ) (ar_r 0 (ar_v (d_var 14) ar_nil))) (absCall (sAr _)))))) (absLc (sI _) (sG _ _) (by decide) absYes (sD _)))) a_nil)) (absCB (sA _) a_tupOf)))) (absSet (sE _)))
    (b_cons (s_if (t_cmp op_notN a_notN (d_fz (wE (pe_callNS G_check_ladder (hr.mono (by decide)) (by rfl) g_check_ladder F_check_ladder.kp kb_check_ladder_6_start (fun σ => passAt (takes_of (E := E) rfl rfl rfl rfl) σ) (ar_v (d_var 5) (ar_v (d_var 6) (ar_v (d_var 7) (ar_v (d_var 2) (ar_v (d_var 10) (ar_v (d_var 8) ar_nil)))))) (k_v (d_var 15) k_nil)) (absCallK (sAr _) (sAr _)))) d_non) (b_one (s_ret (e_rv d_bl))) b_nil)
    (b_one (s_ret (e_rv (d_cmp op_ge a_ge (d_fz (wE (pe_callG G_most (hr.mono (by decide)) (by rfl) g_most F_most.kp b_most (fun σ => passAt (takes_of (E := E) rfl rfl rfl rfl) σ) (ar_v (d_var 5) (ar_v (d_var 6) (ar_v (d_var 7) (ar_v (d_var 2) (ar_v (d_fz (e_add (d_var 3) (d_var 4))) ar_nil)))))) (absCall (sAr _)))) (wD (pe_callB (call_max2 rfl) (by rfl) m_max (by decide +kernel) (a_cons (d_var 10) (a_cons (d_var 11) a_nil))) (absCB (sA _) a_max2))))))))))))))))))))))
theorem ok__law_source {a_0 : Addr} {fd_0 : FuncData} (F : Fun K "_law_source" "_law_source" s__law_source a_0 fd_0)  : FnG P w K mg base 1 a_0 fd_0 ["_law_cell"] (spM K 1 d__law_source) := by
  refine fn_g F sc__law_source (fun vs H Q E h => h.1) (fun cdv A outer s H vs Q E hcd hr h => ⟨tS K (fun c d _ H => E c d H) ((sRet (eLst (dCons (dVar 0) (dCons (dVar 0) (dCons (dC (.int 0)) dNil)))))), ?_, body_ok (N := ["_law_cell"]) (sS _) (by decide) h⟩)
  exact (b_one (s_ret (e_lst (a_cons (d_var 0) (a_cons (d_var 0) (a_cons d_int a_nil))))))
theorem ok_law {a_0 : Addr} {fd_0 : FuncData} (F : Fun K "law" "law" s_law a_0 fd_0) {a__law_house : Addr} {fd__law_house : FuncData} (F__law_house : Fun K "_law_house" "_law_house" s__law_house a__law_house fd__law_house) (b__law_house : Binds K fd__law_house ["_law_source_here", "_law_far"] []) (G__law_house : FnG P w K mg base 3 a__law_house fd__law_house ["_law_source_here", "_law_far"] (spM K 2 d__law_house))
    (g__law_house : mg "_law_house" = some (.ref a__law_house))
    {a__law_right : Addr} {fd__law_right : FuncData} (F__law_right : Fun K "_law_right" "_law_right" s__law_right a__law_right fd__law_right) (b__law_right : Binds K fd__law_right ["_law_source_here", "_law_house_here", "_law_wide", "_law_last", "_law_later"] []) (G__law_right : FnG P w K mg base 9 a__law_right fd__law_right ["_law_source_here", "_law_house_here", "_law_wide", "_law_last", "_law_later"] (spM K 5 d__law_right))
    (g__law_right : mg "_law_right" = some (.ref a__law_right))
    {a__law_source : Addr} {fd__law_source : FuncData} (F__law_source : Fun K "_law_source" "_law_source" s__law_source a__law_source fd__law_source) (b__law_source : Binds K fd__law_source ["_law_cell"] []) (G__law_source : FnG P w K mg base 1 a__law_source fd__law_source ["_law_cell"] (spM K 1 d__law_source))
    (g__law_source : mg "_law_source" = some (.ref a__law_source))
    {a__law_take : Addr} {fd__law_take : FuncData} (F__law_take : Fun K "_law_take" "_law_take" s__law_take a__law_take fd__law_take) (b__law_take : Binds K fd__law_take ["_law_source_here", "_law_many"] []) (G__law_take : FnG P w K mg base 2 a__law_take fd__law_take ["_law_source_here", "_law_many"] (spM K 2 d__law_take))
    (g__law_take : mg "_law_take" = some (.ref a__law_take)) : FnG P w K mg base 10 a_0 fd_0 ["_law_script"] (spM K 1 d_law) := by
  refine fn_g F sc_law (fun vs H Q E h => h.1) (fun cdv A outer s H vs Q E hcd hr h => ⟨tS K (fun c d _ H => E c d H) ((sSeq (sFor (iSeqM (fz (eCut (fz (eOp pAdd (dVar 0) (fz (eLst (dCons (dC (.int 0)) dNil))))) oNone (oSome (dC (.int 3)))))) (bName 1)
  ((sSeq (sSet 2 (eCall 1 d__law_source (arV (dVar 1) arNil)))
  (sSeq (sSet 3 (ofD (fz (eCall 2 d__law_house (arR 2 (arV (dC (.int 20)) arNil))))))
  (sSeq (sSet 4 (ofD (fz (eOp pAdd (dC (.int 1)) (fz (eCall 2 d__law_take (arR 2 (arV (dOp pIx (dVar 3) (dC (.int 0))) arNil))))))))
  (sIf (tNotM (tBl (fz (eCall 5 d__law_right (arR 2 (arV (dVar 3) (arV (dVar 4) (arV (fz (eCall 2 d__law_take (arR 2 (arV (dC (.int 13)) arNil)))) (arV (fz (eCall 2 d__law_take (arR 2 (arV (dC (.int 13)) arNil)))) arNil)))))))))
  ((sRet (ofD (dC (.bool false)))))
  (sNext)))))))
  (sRet (ofD (dC (.bool true)))))), ?_, body_ok (N := ["_law_script", "_law_cell", "_law_source_here", "_law_house_here", "_law_wide"]) (sS _) (by decide) h⟩)
  exact (b_cons (wS (ps_for (passes_of rfl) rfl (wI (pi_seq (d_fz (e_cut (d_fz (e_add (d_var 0) (d_fz (e_lst (a_cons d_int a_nil))))) o_none (o_some d_int)))) (absISeq (sD _))) (wG (pg_name (i := 1) sc_law.nd rfl (by first | exact .inl rfl | exact .inr rfl)) (absName 1)) (b_cons (wS (ps_set (i := 2) sc_law.nd rfl (by first | exact .inl rfl | exact .inr rfl) (wE (pe_callG G__law_source (hr.mono (by decide)) (by rfl) g__law_source F__law_source.kp b__law_source (fun σ => passAt (takes_of (E := E) rfl rfl rfl rfl) σ) (ar_v (d_var 1) ar_nil)) (absCall (sAr _)))) (absSet (sE _)))
    (b_cons (wS (ps_set (i := 3) sc_law.nd rfl (by first | exact .inl rfl | exact .inr rfl) (e_rv (d_fz (wE (pe_callG G__law_house (hr.mono (by decide)) (by rfl) g__law_house F__law_house.kp b__law_house (fun σ => passAt (takes_of (E := E) rfl rfl rfl rfl) σ) (ar_r 2 (ar_v d_int ar_nil))) (absCall (sAr _)))))) (absSet (sE _)))
    (b_cons (wS (ps_set (i := 4) sc_law.nd rfl (by first | exact .inl rfl | exact .inr rfl) (e_rv (d_fz (e_add d_int (d_fz (wE (pe_callG G__law_take (hr.mono (by decide)) (by rfl) g__law_take F__law_take.kp b__law_take (fun σ => passAt (takes_of (E := E) rfl rfl rfl rfl) σ) (ar_r 2 (ar_v (d_ix (d_var 3) d_int) ar_nil))) (absCall (sAr _)))))))) (absSet (sE _)))
    (b_one (s_if (t_not (t_val (d_fz (wE (pe_callG G__law_right (hr.mono (by decide)) (by rfl) g__law_right F__law_right.kp b__law_right (fun σ => passAt (takes_of (E := E) rfl rfl rfl rfl) σ) (ar_r 2 (ar_v (d_var 3) (ar_v (d_var 4) (ar_v (d_fz (wE (pe_callG G__law_take (hr.mono (by decide)) (by rfl) g__law_take F__law_take.kp b__law_take (fun σ => passAt (takes_of (E := E) rfl rfl rfl rfl) σ) (ar_r 2 (ar_v d_int ar_nil))) (absCall (sAr _)))) (ar_v (d_fz (wE (pe_callG G__law_take (hr.mono (by decide)) (by rfl) g__law_take F__law_take.kp b__law_take (fun σ => passAt (takes_of (E := E) rfl rfl rfl rfl) σ) (ar_r 2 (ar_v d_int ar_nil))) (absCall (sAr _)))) ar_nil)))))) (absCall (sAr _)))))) (b_one (s_ret (e_rv d_bl))) b_nil)))))) (absFor (sI _) (sG _ _) (sS _)))
    (b_one (s_ret (e_rv d_bl))))
end
end Gk
namespace Gk
open PySem DL
open L2 (atI)
theorem e_is_whole (n : Int) : d_is_whole [.val (.int n)] = .ok (.val (.bool true), [.val (.int n)]) := by
  unfold d_is_whole
  simp (maxSteps := 1000000) (disch := first | omega | exact Or.inl rfl | exact Or.inr rfl | exact f_non | exact f_val _ | exact f_own _ | (simp only [List.length_map, List.length_replicate, List.length_append, List.length_cons, List.length_nil, firstI_length, List.length_range, rowsD_length, List.length_drop, List.length_take, sortB_len, rangeI_len]; omega)) only [↓rb, ↓r_ofO, ↓r_den, ↓r_oX1, ↓r_oX2, ↓r_bX1, ↓r_bX2, ↓r_lX1, ↓r_lX2, ↓r_C, ↓r_Var, ↓r_Val, ↓r_Move, ↓r_fz, ↓r_ofD, ↓r_Op, ↓r_eOp, ↓r_Un, ↓r_CB, ↓r_eCB, ↓r_Mul, ↓r_Nil, ↓r_Cons, ↓r_Lst, ↓r_Tup, ↓r_Bl, ↓r_And, ↓r_Or, ↓r_NotM, ↓r_Yes, ↓r_If, ↓r_Chain, ↓r_Next, ↓r_Seq, ↓r_Bk, ↓r_Ct, ↓r_Never, ↓r_Ret, ↓r_RetN, ↓r_Expr, ↓r_sIf, ↓r_Set, ↓r_Asg, ↓r_Par, ↓r_bName, ↓r_bNil, ↓r_bCons, ↓r_bTup, ↓r_bTupL, ↓r_free, ↓f_non, ↓f_val, ↓f_own, ↓f_pin, ↓r_toSl, ↓r_fzR, ↓r_dAnd, ↓r_dOr, ↓r_dNot, ↓r_ixO, ↓r_Put, ↓r_Mut, ↓r_arNil, ↓r_arV, ↓r_arR, ↓r_Call, ↓r_CallK, ↓r_CallKD, ↓r_CallT, ↓r_For, ↓r_Lc, ↓r_iSeq, ↓r_iRng1, ↓r_iRng2, ↓r_iEnum, ↓r_iEnumA, ↓r_iEnumB, ↓r_TR1, ↓r_LenO, ↓r_NeO, ↓r_iZip, ↓r_iZipB, ↓r_LenSet, ↓r_step, ↓r_LR1, ↓r_LR2, ↓r_oNone, ↓r_oSome, ↓r_Cut, ↓r_Rev, ↓r_RevA, ↓r_keep, ↓r_Raise, ↓r_Try, ↓r_endX, ↓r_Exn, ↓r_Fld, ↓r_FldM, ↓r_FldAdd, ↓r_bFld, ↓r_Meth, ↓r_MethT, ↓r_Make, ↓r_Par3, ↓r_AugN, ↓r_AugPut, ↓f_exn, ↓nx_nil, ↓nx_n, ↓nx_v, ↓nx_o, ↓nx_x, ↓r_Isi, ↓r_IsiT, ↓r_Bor, ↓r_noEx, ↓r_wipe0, ↓r_wipe1, ↓r_outs0, ↓r_outs1, ↓r_out1, ↓r_out2, ↓r_mkA0, ↓r_mkA1, ↓r_mkA2, ↓r_wb0, ↓r_wb1, ↓r_wb2, ↓r_Said, ↓r_hide0, ↓r_hide1, ↓r_hideV, ↓r_hideO, ↓r_hideN, ↓r_IsE, ↓r_IsE2, ↓r_iZip3, ↓r_Mt, ↓r_Pre, ↓r_CutO, ↓r_setOwn, ↓r_Copy, ↓r_pick0, ↓r_pick1, ↓r_val0, ↓r_val1, ↓g0, ↓g1, ↓g2, ↓g3, ↓g4, ↓g5, ↓g6, ↓g7, ↓g8, ↓g9, ↓g10, ↓g11, ↓g12, ↓g13, ↓g14, ↓g15, ↓g16, ↓g17, ↓g18, ↓g19, ↓u0, ↓u1, ↓u2, ↓u3, ↓u4, ↓u5, ↓u6, ↓u7, ↓u8, ↓u9, ↓u10, ↓u11, ↓u12, ↓u13, ↓u14, ↓u15, ↓u16, ↓u17, ↓u18, ↓u19, v_eqE0, v_neE0, K_nb, K_ni, K_ns, K_nl, K_nt, K_bb, K_bi, K_bs, K_bl, K_bt, K_ib, K_ii, K_is, K_il, K_it, K_sb, K_si, K_ss, K_sl, K_st, K_lb, K_li, K_ls, K_ll, K_lt, K_tb, K_ti, K_ts, K_tl, K_tt, K_db, K_di, K_ds, K_dl, K_dt, t_n, t_d, t_s, r_outO1, r_outO2, r_Ask1, r_Ask2, v_TR, v_add, v_sub, v_neg, v_lt, v_le, v_gt, v_ge, v_eq, v_ne, v_max2, v_min2, v_mod, v_div, v_pow9, v_pow18, v_mulL, v_mulR, v_divmod, v_lenL, v_lenT, v_sum, v_eqL, v_listOf, v_inT2, v_sorted, sortB_f, v_sortL, v_sortT, v_sortDL, v_sortDT, v_sortDP, v_keep, v_tupL, v_tupT, v_sumL, v_sumT, v_app, v_neL, v_pow39, v_pow40, ob_nil, ob_zero, ob_1, ob_2, ob_3, ob_4, ob_5, ob_6, ob_7, ob_8, ll_n, ll_b, ll_i, ll_s, bs_n, bs_v, bs_l, bs_s, llA_ints, List.all_cons, List.all_nil, Bool.and_true, Bool.true_and, Bool.false_and, Bool.and_false, Bool.and_self, v_isN0, v_isNi, v_notN0, v_notNi, v_ixL, v_ixT, v_cutL, v_cutT, k_ii, k_ib, k_bi, k_bb, k_ll, k_lt, k_tl, k_tt, t_i, t_b, t_l, t_t, isR, if_true, true_and, and_true, and_self, if_false, if_pos, Bool.not_true, Bool.not_false, List.length_cons, List.length_nil, List.replicate, List.cons_append, List.nil_append, List.head?_cons, List.tail_cons, List.any_nil, List.any_cons, Bool.false_eq_true, Bool.or_false, Bool.false_or, beq_self_eq_true, Nat.reduceSub, Nat.reduceAdd, Nat.reduceLeDiff, Nat.reduceBEq, Nat.reduceEqDiff, reduceIte, eq_self, reduceCtorEq, kp_p1, kp_p2, kp_p3, kp_p4, kp_p5, kp_p6, kp_h, kp_d, kp_l1, kp_l2, kp_l3, kp_l4, kp_l5, kp_l6, kp_cups, kp_scoops, kp_rows, kp_looks, kp_held, kp_done, kp_choose, kp_nums, kp_stand, Int.reduceToNat, Int.reduceBEq, Nat.zero_add, Nat.reduceLT]
theorem e_is_from (n a b : Int) : d_is_from [.val (.int n), .val (.int a), .val (.int b)] = .ok (.val (.bool (decide (a ≤ n) && decide (n ≤ b))), [.val (.int n), .val (.int a), .val (.int b)]) := by
  unfold d_is_from
  simp (maxSteps := 1000000) (disch := first | omega | exact Or.inl rfl | exact Or.inr rfl | exact f_non | exact f_val _ | exact f_own _ | (simp only [List.length_map, List.length_replicate, List.length_append, List.length_cons, List.length_nil, firstI_length, List.length_range, rowsD_length, List.length_drop, List.length_take, sortB_len, rangeI_len]; omega)) only [↓rb, ↓r_ofO, ↓r_den, ↓r_oX1, ↓r_oX2, ↓r_bX1, ↓r_bX2, ↓r_lX1, ↓r_lX2, ↓r_C, ↓r_Var, ↓r_Val, ↓r_Move, ↓r_fz, ↓r_ofD, ↓r_Op, ↓r_eOp, ↓r_Un, ↓r_CB, ↓r_eCB, ↓r_Mul, ↓r_Nil, ↓r_Cons, ↓r_Lst, ↓r_Tup, ↓r_Bl, ↓r_And, ↓r_Or, ↓r_NotM, ↓r_Yes, ↓r_If, ↓r_Chain, ↓r_Next, ↓r_Seq, ↓r_Bk, ↓r_Ct, ↓r_Never, ↓r_Ret, ↓r_RetN, ↓r_Expr, ↓r_sIf, ↓r_Set, ↓r_Asg, ↓r_Par, ↓r_bName, ↓r_bNil, ↓r_bCons, ↓r_bTup, ↓r_bTupL, ↓r_free, ↓f_non, ↓f_val, ↓f_own, ↓f_pin, ↓r_toSl, ↓r_fzR, ↓r_dAnd, ↓r_dOr, ↓r_dNot, ↓r_ixO, ↓r_Put, ↓r_Mut, ↓r_arNil, ↓r_arV, ↓r_arR, ↓r_Call, ↓r_CallK, ↓r_CallKD, ↓r_CallT, ↓r_For, ↓r_Lc, ↓r_iSeq, ↓r_iRng1, ↓r_iRng2, ↓r_iEnum, ↓r_iEnumA, ↓r_iEnumB, ↓r_TR1, ↓r_LenO, ↓r_NeO, ↓r_iZip, ↓r_iZipB, ↓r_LenSet, ↓r_step, ↓r_LR1, ↓r_LR2, ↓r_oNone, ↓r_oSome, ↓r_Cut, ↓r_Rev, ↓r_RevA, ↓r_keep, ↓r_Raise, ↓r_Try, ↓r_endX, ↓r_Exn, ↓r_Fld, ↓r_FldM, ↓r_FldAdd, ↓r_bFld, ↓r_Meth, ↓r_MethT, ↓r_Make, ↓r_Par3, ↓r_AugN, ↓r_AugPut, ↓f_exn, ↓nx_nil, ↓nx_n, ↓nx_v, ↓nx_o, ↓nx_x, ↓r_Isi, ↓r_IsiT, ↓r_Bor, ↓r_noEx, ↓r_wipe0, ↓r_wipe1, ↓r_outs0, ↓r_outs1, ↓r_out1, ↓r_out2, ↓r_mkA0, ↓r_mkA1, ↓r_mkA2, ↓r_wb0, ↓r_wb1, ↓r_wb2, ↓r_Said, ↓r_hide0, ↓r_hide1, ↓r_hideV, ↓r_hideO, ↓r_hideN, ↓r_IsE, ↓r_IsE2, ↓r_iZip3, ↓r_Mt, ↓r_Pre, ↓r_CutO, ↓r_setOwn, ↓r_Copy, ↓r_pick0, ↓r_pick1, ↓r_val0, ↓r_val1, ↓g0, ↓g1, ↓g2, ↓g3, ↓g4, ↓g5, ↓g6, ↓g7, ↓g8, ↓g9, ↓g10, ↓g11, ↓g12, ↓g13, ↓g14, ↓g15, ↓g16, ↓g17, ↓g18, ↓g19, ↓u0, ↓u1, ↓u2, ↓u3, ↓u4, ↓u5, ↓u6, ↓u7, ↓u8, ↓u9, ↓u10, ↓u11, ↓u12, ↓u13, ↓u14, ↓u15, ↓u16, ↓u17, ↓u18, ↓u19, v_eqE0, v_neE0, K_nb, K_ni, K_ns, K_nl, K_nt, K_bb, K_bi, K_bs, K_bl, K_bt, K_ib, K_ii, K_is, K_il, K_it, K_sb, K_si, K_ss, K_sl, K_st, K_lb, K_li, K_ls, K_ll, K_lt, K_tb, K_ti, K_ts, K_tl, K_tt, K_db, K_di, K_ds, K_dl, K_dt, t_n, t_d, t_s, r_outO1, r_outO2, r_Ask1, r_Ask2, v_TR, v_add, v_sub, v_neg, v_lt, v_le, v_gt, v_ge, v_eq, v_ne, v_max2, v_min2, v_mod, v_div, v_pow9, v_pow18, v_mulL, v_mulR, v_divmod, v_lenL, v_lenT, v_sum, v_eqL, v_listOf, v_inT2, v_sorted, sortB_f, v_sortL, v_sortT, v_sortDL, v_sortDT, v_sortDP, v_keep, v_tupL, v_tupT, v_sumL, v_sumT, v_app, v_neL, v_pow39, v_pow40, ob_nil, ob_zero, ob_1, ob_2, ob_3, ob_4, ob_5, ob_6, ob_7, ob_8, ll_n, ll_b, ll_i, ll_s, bs_n, bs_v, bs_l, bs_s, llA_ints, List.all_cons, List.all_nil, Bool.and_true, Bool.true_and, Bool.false_and, Bool.and_false, Bool.and_self, v_isN0, v_isNi, v_notN0, v_notNi, v_ixL, v_ixT, v_cutL, v_cutT, k_ii, k_ib, k_bi, k_bb, k_ll, k_lt, k_tl, k_tt, t_i, t_b, t_l, t_t, isR, if_true, true_and, and_true, and_self, if_false, if_pos, Bool.not_true, Bool.not_false, List.length_cons, List.length_nil, List.replicate, List.cons_append, List.nil_append, List.head?_cons, List.tail_cons, List.any_nil, List.any_cons, Bool.false_eq_true, Bool.or_false, Bool.false_or, beq_self_eq_true, Nat.reduceSub, Nat.reduceAdd, Nat.reduceLeDiff, Nat.reduceBEq, Nat.reduceEqDiff, reduceIte, eq_self, reduceCtorEq, kp_p1, kp_p2, kp_p3, kp_p4, kp_p5, kp_p6, kp_h, kp_d, kp_l1, kp_l2, kp_l3, kp_l4, kp_l5, kp_l6, kp_cups, kp_scoops, kp_rows, kp_looks, kp_held, kp_done, kp_choose, kp_nums, kp_stand, Int.reduceToNat, Int.reduceBEq, Nat.zero_add, Nat.reduceLT, e_is_whole]
  by_cases h : a ≤ n <;> simp (maxSteps := 1000000) (disch := first | omega | exact Or.inl rfl | exact Or.inr rfl | exact f_non | exact f_val _ | exact f_own _ | (simp only [List.length_map, List.length_replicate, List.length_append, List.length_cons, List.length_nil, firstI_length, List.length_range, rowsD_length, List.length_drop, List.length_take, sortB_len, rangeI_len]; omega)) only [↓rb, ↓r_ofO, ↓r_den, ↓r_oX1, ↓r_oX2, ↓r_bX1, ↓r_bX2, ↓r_lX1, ↓r_lX2, ↓r_C, ↓r_Var, ↓r_Val, ↓r_Move, ↓r_fz, ↓r_ofD, ↓r_Op, ↓r_eOp, ↓r_Un, ↓r_CB, ↓r_eCB, ↓r_Mul, ↓r_Nil, ↓r_Cons, ↓r_Lst, ↓r_Tup, ↓r_Bl, ↓r_And, ↓r_Or, ↓r_NotM, ↓r_Yes, ↓r_If, ↓r_Chain, ↓r_Next, ↓r_Seq, ↓r_Bk, ↓r_Ct, ↓r_Never, ↓r_Ret, ↓r_RetN, ↓r_Expr, ↓r_sIf, ↓r_Set, ↓r_Asg, ↓r_Par, ↓r_bName, ↓r_bNil, ↓r_bCons, ↓r_bTup, ↓r_bTupL, ↓r_free, ↓f_non, ↓f_val, ↓f_own, ↓f_pin, ↓r_toSl, ↓r_fzR, ↓r_dAnd, ↓r_dOr, ↓r_dNot, ↓r_ixO, ↓r_Put, ↓r_Mut, ↓r_arNil, ↓r_arV, ↓r_arR, ↓r_Call, ↓r_CallK, ↓r_CallKD, ↓r_CallT, ↓r_For, ↓r_Lc, ↓r_iSeq, ↓r_iRng1, ↓r_iRng2, ↓r_iEnum, ↓r_iEnumA, ↓r_iEnumB, ↓r_TR1, ↓r_LenO, ↓r_NeO, ↓r_iZip, ↓r_iZipB, ↓r_LenSet, ↓r_step, ↓r_LR1, ↓r_LR2, ↓r_oNone, ↓r_oSome, ↓r_Cut, ↓r_Rev, ↓r_RevA, ↓r_keep, ↓r_Raise, ↓r_Try, ↓r_endX, ↓r_Exn, ↓r_Fld, ↓r_FldM, ↓r_FldAdd, ↓r_bFld, ↓r_Meth, ↓r_MethT, ↓r_Make, ↓r_Par3, ↓r_AugN, ↓r_AugPut, ↓f_exn, ↓nx_nil, ↓nx_n, ↓nx_v, ↓nx_o, ↓nx_x, ↓r_Isi, ↓r_IsiT, ↓r_Bor, ↓r_noEx, ↓r_wipe0, ↓r_wipe1, ↓r_outs0, ↓r_outs1, ↓r_out1, ↓r_out2, ↓r_mkA0, ↓r_mkA1, ↓r_mkA2, ↓r_wb0, ↓r_wb1, ↓r_wb2, ↓r_Said, ↓r_hide0, ↓r_hide1, ↓r_hideV, ↓r_hideO, ↓r_hideN, ↓r_IsE, ↓r_IsE2, ↓r_iZip3, ↓r_Mt, ↓r_Pre, ↓r_CutO, ↓r_setOwn, ↓r_Copy, ↓r_pick0, ↓r_pick1, ↓r_val0, ↓r_val1, ↓g0, ↓g1, ↓g2, ↓g3, ↓g4, ↓g5, ↓g6, ↓g7, ↓g8, ↓g9, ↓g10, ↓g11, ↓g12, ↓g13, ↓g14, ↓g15, ↓g16, ↓g17, ↓g18, ↓g19, ↓u0, ↓u1, ↓u2, ↓u3, ↓u4, ↓u5, ↓u6, ↓u7, ↓u8, ↓u9, ↓u10, ↓u11, ↓u12, ↓u13, ↓u14, ↓u15, ↓u16, ↓u17, ↓u18, ↓u19, v_eqE0, v_neE0, K_nb, K_ni, K_ns, K_nl, K_nt, K_bb, K_bi, K_bs, K_bl, K_bt, K_ib, K_ii, K_is, K_il, K_it, K_sb, K_si, K_ss, K_sl, K_st, K_lb, K_li, K_ls, K_ll, K_lt, K_tb, K_ti, K_ts, K_tl, K_tt, K_db, K_di, K_ds, K_dl, K_dt, t_n, t_d, t_s, r_outO1, r_outO2, r_Ask1, r_Ask2, v_TR, v_add, v_sub, v_neg, v_lt, v_le, v_gt, v_ge, v_eq, v_ne, v_max2, v_min2, v_mod, v_div, v_pow9, v_pow18, v_mulL, v_mulR, v_divmod, v_lenL, v_lenT, v_sum, v_eqL, v_listOf, v_inT2, v_sorted, sortB_f, v_sortL, v_sortT, v_sortDL, v_sortDT, v_sortDP, v_keep, v_tupL, v_tupT, v_sumL, v_sumT, v_app, v_neL, v_pow39, v_pow40, ob_nil, ob_zero, ob_1, ob_2, ob_3, ob_4, ob_5, ob_6, ob_7, ob_8, ll_n, ll_b, ll_i, ll_s, bs_n, bs_v, bs_l, bs_s, llA_ints, List.all_cons, List.all_nil, Bool.and_true, Bool.true_and, Bool.false_and, Bool.and_false, Bool.and_self, v_isN0, v_isNi, v_notN0, v_notNi, v_ixL, v_ixT, v_cutL, v_cutT, k_ii, k_ib, k_bi, k_bb, k_ll, k_lt, k_tl, k_tt, t_i, t_b, t_l, t_t, isR, if_true, true_and, and_true, and_self, if_false, if_pos, Bool.not_true, Bool.not_false, List.length_cons, List.length_nil, List.replicate, List.cons_append, List.nil_append, List.head?_cons, List.tail_cons, List.any_nil, List.any_cons, Bool.false_eq_true, Bool.or_false, Bool.false_or, beq_self_eq_true, Nat.reduceSub, Nat.reduceAdd, Nat.reduceLeDiff, Nat.reduceBEq, Nat.reduceEqDiff, reduceIte, eq_self, reduceCtorEq, kp_p1, kp_p2, kp_p3, kp_p4, kp_p5, kp_p6, kp_h, kp_d, kp_l1, kp_l2, kp_l3, kp_l4, kp_l5, kp_l6, kp_cups, kp_scoops, kp_rows, kp_looks, kp_held, kp_done, kp_choose, kp_nums, kp_stand, Int.reduceToNat, Int.reduceBEq, Nat.zero_add, Nat.reduceLT, h, decide_true, decide_false, Bool.true_and, Bool.false_and]
theorem e_is_count (n : Int) : d_is_count [.val (.int n)] = .ok (.val (.bool (decide (0 ≤ n))), [.val (.int n)]) := by
  unfold d_is_count
  simp (maxSteps := 1000000) (disch := first | omega | exact Or.inl rfl | exact Or.inr rfl | exact f_non | exact f_val _ | exact f_own _ | (simp only [List.length_map, List.length_replicate, List.length_append, List.length_cons, List.length_nil, firstI_length, List.length_range, rowsD_length, List.length_drop, List.length_take, sortB_len, rangeI_len]; omega)) only [↓rb, ↓r_ofO, ↓r_den, ↓r_oX1, ↓r_oX2, ↓r_bX1, ↓r_bX2, ↓r_lX1, ↓r_lX2, ↓r_C, ↓r_Var, ↓r_Val, ↓r_Move, ↓r_fz, ↓r_ofD, ↓r_Op, ↓r_eOp, ↓r_Un, ↓r_CB, ↓r_eCB, ↓r_Mul, ↓r_Nil, ↓r_Cons, ↓r_Lst, ↓r_Tup, ↓r_Bl, ↓r_And, ↓r_Or, ↓r_NotM, ↓r_Yes, ↓r_If, ↓r_Chain, ↓r_Next, ↓r_Seq, ↓r_Bk, ↓r_Ct, ↓r_Never, ↓r_Ret, ↓r_RetN, ↓r_Expr, ↓r_sIf, ↓r_Set, ↓r_Asg, ↓r_Par, ↓r_bName, ↓r_bNil, ↓r_bCons, ↓r_bTup, ↓r_bTupL, ↓r_free, ↓f_non, ↓f_val, ↓f_own, ↓f_pin, ↓r_toSl, ↓r_fzR, ↓r_dAnd, ↓r_dOr, ↓r_dNot, ↓r_ixO, ↓r_Put, ↓r_Mut, ↓r_arNil, ↓r_arV, ↓r_arR, ↓r_Call, ↓r_CallK, ↓r_CallKD, ↓r_CallT, ↓r_For, ↓r_Lc, ↓r_iSeq, ↓r_iRng1, ↓r_iRng2, ↓r_iEnum, ↓r_iEnumA, ↓r_iEnumB, ↓r_TR1, ↓r_LenO, ↓r_NeO, ↓r_iZip, ↓r_iZipB, ↓r_LenSet, ↓r_step, ↓r_LR1, ↓r_LR2, ↓r_oNone, ↓r_oSome, ↓r_Cut, ↓r_Rev, ↓r_RevA, ↓r_keep, ↓r_Raise, ↓r_Try, ↓r_endX, ↓r_Exn, ↓r_Fld, ↓r_FldM, ↓r_FldAdd, ↓r_bFld, ↓r_Meth, ↓r_MethT, ↓r_Make, ↓r_Par3, ↓r_AugN, ↓r_AugPut, ↓f_exn, ↓nx_nil, ↓nx_n, ↓nx_v, ↓nx_o, ↓nx_x, ↓r_Isi, ↓r_IsiT, ↓r_Bor, ↓r_noEx, ↓r_wipe0, ↓r_wipe1, ↓r_outs0, ↓r_outs1, ↓r_out1, ↓r_out2, ↓r_mkA0, ↓r_mkA1, ↓r_mkA2, ↓r_wb0, ↓r_wb1, ↓r_wb2, ↓r_Said, ↓r_hide0, ↓r_hide1, ↓r_hideV, ↓r_hideO, ↓r_hideN, ↓r_IsE, ↓r_IsE2, ↓r_iZip3, ↓r_Mt, ↓r_Pre, ↓r_CutO, ↓r_setOwn, ↓r_Copy, ↓r_pick0, ↓r_pick1, ↓r_val0, ↓r_val1, ↓g0, ↓g1, ↓g2, ↓g3, ↓g4, ↓g5, ↓g6, ↓g7, ↓g8, ↓g9, ↓g10, ↓g11, ↓g12, ↓g13, ↓g14, ↓g15, ↓g16, ↓g17, ↓g18, ↓g19, ↓u0, ↓u1, ↓u2, ↓u3, ↓u4, ↓u5, ↓u6, ↓u7, ↓u8, ↓u9, ↓u10, ↓u11, ↓u12, ↓u13, ↓u14, ↓u15, ↓u16, ↓u17, ↓u18, ↓u19, v_eqE0, v_neE0, K_nb, K_ni, K_ns, K_nl, K_nt, K_bb, K_bi, K_bs, K_bl, K_bt, K_ib, K_ii, K_is, K_il, K_it, K_sb, K_si, K_ss, K_sl, K_st, K_lb, K_li, K_ls, K_ll, K_lt, K_tb, K_ti, K_ts, K_tl, K_tt, K_db, K_di, K_ds, K_dl, K_dt, t_n, t_d, t_s, r_outO1, r_outO2, r_Ask1, r_Ask2, v_TR, v_add, v_sub, v_neg, v_lt, v_le, v_gt, v_ge, v_eq, v_ne, v_max2, v_min2, v_mod, v_div, v_pow9, v_pow18, v_mulL, v_mulR, v_divmod, v_lenL, v_lenT, v_sum, v_eqL, v_listOf, v_inT2, v_sorted, sortB_f, v_sortL, v_sortT, v_sortDL, v_sortDT, v_sortDP, v_keep, v_tupL, v_tupT, v_sumL, v_sumT, v_app, v_neL, v_pow39, v_pow40, ob_nil, ob_zero, ob_1, ob_2, ob_3, ob_4, ob_5, ob_6, ob_7, ob_8, ll_n, ll_b, ll_i, ll_s, bs_n, bs_v, bs_l, bs_s, llA_ints, List.all_cons, List.all_nil, Bool.and_true, Bool.true_and, Bool.false_and, Bool.and_false, Bool.and_self, v_isN0, v_isNi, v_notN0, v_notNi, v_ixL, v_ixT, v_cutL, v_cutT, k_ii, k_ib, k_bi, k_bb, k_ll, k_lt, k_tl, k_tt, t_i, t_b, t_l, t_t, isR, if_true, true_and, and_true, and_self, if_false, if_pos, Bool.not_true, Bool.not_false, List.length_cons, List.length_nil, List.replicate, List.cons_append, List.nil_append, List.head?_cons, List.tail_cons, List.any_nil, List.any_cons, Bool.false_eq_true, Bool.or_false, Bool.false_or, beq_self_eq_true, Nat.reduceSub, Nat.reduceAdd, Nat.reduceLeDiff, Nat.reduceBEq, Nat.reduceEqDiff, reduceIte, eq_self, reduceCtorEq, kp_p1, kp_p2, kp_p3, kp_p4, kp_p5, kp_p6, kp_h, kp_d, kp_l1, kp_l2, kp_l3, kp_l4, kp_l5, kp_l6, kp_cups, kp_scoops, kp_rows, kp_looks, kp_held, kp_done, kp_choose, kp_nums, kp_stand, Int.reduceToNat, Int.reduceBEq, Nat.zero_add, Nat.reduceLT, e_is_whole]
theorem e_want_shares (t c : Int) (h1 : 0 ≤ t) (h2 : 1 ≤ c) (h3 : c ≤ 40) : d_want_shares [.val (.int t), .val (.int c)] = .ok (.val .none, [.val (.int t), .val (.int c)]) := by
  unfold d_want_shares
  simp (maxSteps := 1000000) (disch := first | omega | exact Or.inl rfl | exact Or.inr rfl | exact f_non | exact f_val _ | exact f_own _ | (simp only [List.length_map, List.length_replicate, List.length_append, List.length_cons, List.length_nil, firstI_length, List.length_range, rowsD_length, List.length_drop, List.length_take, sortB_len, rangeI_len]; omega)) only [↓rb, ↓r_ofO, ↓r_den, ↓r_oX1, ↓r_oX2, ↓r_bX1, ↓r_bX2, ↓r_lX1, ↓r_lX2, ↓r_C, ↓r_Var, ↓r_Val, ↓r_Move, ↓r_fz, ↓r_ofD, ↓r_Op, ↓r_eOp, ↓r_Un, ↓r_CB, ↓r_eCB, ↓r_Mul, ↓r_Nil, ↓r_Cons, ↓r_Lst, ↓r_Tup, ↓r_Bl, ↓r_And, ↓r_Or, ↓r_NotM, ↓r_Yes, ↓r_If, ↓r_Chain, ↓r_Next, ↓r_Seq, ↓r_Bk, ↓r_Ct, ↓r_Never, ↓r_Ret, ↓r_RetN, ↓r_Expr, ↓r_sIf, ↓r_Set, ↓r_Asg, ↓r_Par, ↓r_bName, ↓r_bNil, ↓r_bCons, ↓r_bTup, ↓r_bTupL, ↓r_free, ↓f_non, ↓f_val, ↓f_own, ↓f_pin, ↓r_toSl, ↓r_fzR, ↓r_dAnd, ↓r_dOr, ↓r_dNot, ↓r_ixO, ↓r_Put, ↓r_Mut, ↓r_arNil, ↓r_arV, ↓r_arR, ↓r_Call, ↓r_CallK, ↓r_CallKD, ↓r_CallT, ↓r_For, ↓r_Lc, ↓r_iSeq, ↓r_iRng1, ↓r_iRng2, ↓r_iEnum, ↓r_iEnumA, ↓r_iEnumB, ↓r_TR1, ↓r_LenO, ↓r_NeO, ↓r_iZip, ↓r_iZipB, ↓r_LenSet, ↓r_step, ↓r_LR1, ↓r_LR2, ↓r_oNone, ↓r_oSome, ↓r_Cut, ↓r_Rev, ↓r_RevA, ↓r_keep, ↓r_Raise, ↓r_Try, ↓r_endX, ↓r_Exn, ↓r_Fld, ↓r_FldM, ↓r_FldAdd, ↓r_bFld, ↓r_Meth, ↓r_MethT, ↓r_Make, ↓r_Par3, ↓r_AugN, ↓r_AugPut, ↓f_exn, ↓nx_nil, ↓nx_n, ↓nx_v, ↓nx_o, ↓nx_x, ↓r_Isi, ↓r_IsiT, ↓r_Bor, ↓r_noEx, ↓r_wipe0, ↓r_wipe1, ↓r_outs0, ↓r_outs1, ↓r_out1, ↓r_out2, ↓r_mkA0, ↓r_mkA1, ↓r_mkA2, ↓r_wb0, ↓r_wb1, ↓r_wb2, ↓r_Said, ↓r_hide0, ↓r_hide1, ↓r_hideV, ↓r_hideO, ↓r_hideN, ↓r_IsE, ↓r_IsE2, ↓r_iZip3, ↓r_Mt, ↓r_Pre, ↓r_CutO, ↓r_setOwn, ↓r_Copy, ↓r_pick0, ↓r_pick1, ↓r_val0, ↓r_val1, ↓g0, ↓g1, ↓g2, ↓g3, ↓g4, ↓g5, ↓g6, ↓g7, ↓g8, ↓g9, ↓g10, ↓g11, ↓g12, ↓g13, ↓g14, ↓g15, ↓g16, ↓g17, ↓g18, ↓g19, ↓u0, ↓u1, ↓u2, ↓u3, ↓u4, ↓u5, ↓u6, ↓u7, ↓u8, ↓u9, ↓u10, ↓u11, ↓u12, ↓u13, ↓u14, ↓u15, ↓u16, ↓u17, ↓u18, ↓u19, v_eqE0, v_neE0, K_nb, K_ni, K_ns, K_nl, K_nt, K_bb, K_bi, K_bs, K_bl, K_bt, K_ib, K_ii, K_is, K_il, K_it, K_sb, K_si, K_ss, K_sl, K_st, K_lb, K_li, K_ls, K_ll, K_lt, K_tb, K_ti, K_ts, K_tl, K_tt, K_db, K_di, K_ds, K_dl, K_dt, t_n, t_d, t_s, r_outO1, r_outO2, r_Ask1, r_Ask2, v_TR, v_add, v_sub, v_neg, v_lt, v_le, v_gt, v_ge, v_eq, v_ne, v_max2, v_min2, v_mod, v_div, v_pow9, v_pow18, v_mulL, v_mulR, v_divmod, v_lenL, v_lenT, v_sum, v_eqL, v_listOf, v_inT2, v_sorted, sortB_f, v_sortL, v_sortT, v_sortDL, v_sortDT, v_sortDP, v_keep, v_tupL, v_tupT, v_sumL, v_sumT, v_app, v_neL, v_pow39, v_pow40, ob_nil, ob_zero, ob_1, ob_2, ob_3, ob_4, ob_5, ob_6, ob_7, ob_8, ll_n, ll_b, ll_i, ll_s, bs_n, bs_v, bs_l, bs_s, llA_ints, List.all_cons, List.all_nil, Bool.and_true, Bool.true_and, Bool.false_and, Bool.and_false, Bool.and_self, v_isN0, v_isNi, v_notN0, v_notNi, v_ixL, v_ixT, v_cutL, v_cutT, k_ii, k_ib, k_bi, k_bb, k_ll, k_lt, k_tl, k_tt, t_i, t_b, t_l, t_t, isR, if_true, true_and, and_true, and_self, if_false, if_pos, Bool.not_true, Bool.not_false, List.length_cons, List.length_nil, List.replicate, List.cons_append, List.nil_append, List.head?_cons, List.tail_cons, List.any_nil, List.any_cons, Bool.false_eq_true, Bool.or_false, Bool.false_or, beq_self_eq_true, Nat.reduceSub, Nat.reduceAdd, Nat.reduceLeDiff, Nat.reduceBEq, Nat.reduceEqDiff, reduceIte, eq_self, reduceCtorEq, kp_p1, kp_p2, kp_p3, kp_p4, kp_p5, kp_p6, kp_h, kp_d, kp_l1, kp_l2, kp_l3, kp_l4, kp_l5, kp_l6, kp_cups, kp_scoops, kp_rows, kp_looks, kp_held, kp_done, kp_choose, kp_nums, kp_stand, Int.reduceToNat, Int.reduceBEq, Nat.zero_add, Nat.reduceLT, e_is_count, e_is_from, h1, h2, h3, decide_true, Bool.and_self]
theorem e_want_count (t : Int) (w : Str) (h1 : 0 ≤ t) : d_want_count [.val (.int t), .val (.str w)] = .ok (.val .none, [.val (.int t), .val (.str w)]) := by
  unfold d_want_count
  simp (maxSteps := 1000000) (disch := first | omega | exact Or.inl rfl | exact Or.inr rfl | exact f_non | exact f_val _ | exact f_own _ | (simp only [List.length_map, List.length_replicate, List.length_append, List.length_cons, List.length_nil, firstI_length, List.length_range, rowsD_length, List.length_drop, List.length_take, sortB_len, rangeI_len]; omega)) only [↓rb, ↓r_ofO, ↓r_den, ↓r_oX1, ↓r_oX2, ↓r_bX1, ↓r_bX2, ↓r_lX1, ↓r_lX2, ↓r_C, ↓r_Var, ↓r_Val, ↓r_Move, ↓r_fz, ↓r_ofD, ↓r_Op, ↓r_eOp, ↓r_Un, ↓r_CB, ↓r_eCB, ↓r_Mul, ↓r_Nil, ↓r_Cons, ↓r_Lst, ↓r_Tup, ↓r_Bl, ↓r_And, ↓r_Or, ↓r_NotM, ↓r_Yes, ↓r_If, ↓r_Chain, ↓r_Next, ↓r_Seq, ↓r_Bk, ↓r_Ct, ↓r_Never, ↓r_Ret, ↓r_RetN, ↓r_Expr, ↓r_sIf, ↓r_Set, ↓r_Asg, ↓r_Par, ↓r_bName, ↓r_bNil, ↓r_bCons, ↓r_bTup, ↓r_bTupL, ↓r_free, ↓f_non, ↓f_val, ↓f_own, ↓f_pin, ↓r_toSl, ↓r_fzR, ↓r_dAnd, ↓r_dOr, ↓r_dNot, ↓r_ixO, ↓r_Put, ↓r_Mut, ↓r_arNil, ↓r_arV, ↓r_arR, ↓r_Call, ↓r_CallK, ↓r_CallKD, ↓r_CallT, ↓r_For, ↓r_Lc, ↓r_iSeq, ↓r_iRng1, ↓r_iRng2, ↓r_iEnum, ↓r_iEnumA, ↓r_iEnumB, ↓r_TR1, ↓r_LenO, ↓r_NeO, ↓r_iZip, ↓r_iZipB, ↓r_LenSet, ↓r_step, ↓r_LR1, ↓r_LR2, ↓r_oNone, ↓r_oSome, ↓r_Cut, ↓r_Rev, ↓r_RevA, ↓r_keep, ↓r_Raise, ↓r_Try, ↓r_endX, ↓r_Exn, ↓r_Fld, ↓r_FldM, ↓r_FldAdd, ↓r_bFld, ↓r_Meth, ↓r_MethT, ↓r_Make, ↓r_Par3, ↓r_AugN, ↓r_AugPut, ↓f_exn, ↓nx_nil, ↓nx_n, ↓nx_v, ↓nx_o, ↓nx_x, ↓r_Isi, ↓r_IsiT, ↓r_Bor, ↓r_noEx, ↓r_wipe0, ↓r_wipe1, ↓r_outs0, ↓r_outs1, ↓r_out1, ↓r_out2, ↓r_mkA0, ↓r_mkA1, ↓r_mkA2, ↓r_wb0, ↓r_wb1, ↓r_wb2, ↓r_Said, ↓r_hide0, ↓r_hide1, ↓r_hideV, ↓r_hideO, ↓r_hideN, ↓r_IsE, ↓r_IsE2, ↓r_iZip3, ↓r_Mt, ↓r_Pre, ↓r_CutO, ↓r_setOwn, ↓r_Copy, ↓r_pick0, ↓r_pick1, ↓r_val0, ↓r_val1, ↓g0, ↓g1, ↓g2, ↓g3, ↓g4, ↓g5, ↓g6, ↓g7, ↓g8, ↓g9, ↓g10, ↓g11, ↓g12, ↓g13, ↓g14, ↓g15, ↓g16, ↓g17, ↓g18, ↓g19, ↓u0, ↓u1, ↓u2, ↓u3, ↓u4, ↓u5, ↓u6, ↓u7, ↓u8, ↓u9, ↓u10, ↓u11, ↓u12, ↓u13, ↓u14, ↓u15, ↓u16, ↓u17, ↓u18, ↓u19, v_eqE0, v_neE0, K_nb, K_ni, K_ns, K_nl, K_nt, K_bb, K_bi, K_bs, K_bl, K_bt, K_ib, K_ii, K_is, K_il, K_it, K_sb, K_si, K_ss, K_sl, K_st, K_lb, K_li, K_ls, K_ll, K_lt, K_tb, K_ti, K_ts, K_tl, K_tt, K_db, K_di, K_ds, K_dl, K_dt, t_n, t_d, t_s, r_outO1, r_outO2, r_Ask1, r_Ask2, v_TR, v_add, v_sub, v_neg, v_lt, v_le, v_gt, v_ge, v_eq, v_ne, v_max2, v_min2, v_mod, v_div, v_pow9, v_pow18, v_mulL, v_mulR, v_divmod, v_lenL, v_lenT, v_sum, v_eqL, v_listOf, v_inT2, v_sorted, sortB_f, v_sortL, v_sortT, v_sortDL, v_sortDT, v_sortDP, v_keep, v_tupL, v_tupT, v_sumL, v_sumT, v_app, v_neL, v_pow39, v_pow40, ob_nil, ob_zero, ob_1, ob_2, ob_3, ob_4, ob_5, ob_6, ob_7, ob_8, ll_n, ll_b, ll_i, ll_s, bs_n, bs_v, bs_l, bs_s, llA_ints, List.all_cons, List.all_nil, Bool.and_true, Bool.true_and, Bool.false_and, Bool.and_false, Bool.and_self, v_isN0, v_isNi, v_notN0, v_notNi, v_ixL, v_ixT, v_cutL, v_cutT, k_ii, k_ib, k_bi, k_bb, k_ll, k_lt, k_tl, k_tt, t_i, t_b, t_l, t_t, isR, if_true, true_and, and_true, and_self, if_false, if_pos, Bool.not_true, Bool.not_false, List.length_cons, List.length_nil, List.replicate, List.cons_append, List.nil_append, List.head?_cons, List.tail_cons, List.any_nil, List.any_cons, Bool.false_eq_true, Bool.or_false, Bool.false_or, beq_self_eq_true, Nat.reduceSub, Nat.reduceAdd, Nat.reduceLeDiff, Nat.reduceBEq, Nat.reduceEqDiff, reduceIte, eq_self, reduceCtorEq, kp_p1, kp_p2, kp_p3, kp_p4, kp_p5, kp_p6, kp_h, kp_d, kp_l1, kp_l2, kp_l3, kp_l4, kp_l5, kp_l6, kp_cups, kp_scoops, kp_rows, kp_looks, kp_held, kp_done, kp_choose, kp_nums, kp_stand, Int.reduceToNat, Int.reduceBEq, Nat.zero_add, Nat.reduceLT, e_is_count, h1, decide_true]
theorem e_want_fullest (c j : Int) (h1 : 1 ≤ j) (h2 : j ≤ c) : d_want_fullest [.val (.int c), .val (.int j)] = .ok (.val .none, [.val (.int c), .val (.int j)]) := by
  unfold d_want_fullest
  simp (maxSteps := 1000000) (disch := first | omega | exact Or.inl rfl | exact Or.inr rfl | exact f_non | exact f_val _ | exact f_own _ | (simp only [List.length_map, List.length_replicate, List.length_append, List.length_cons, List.length_nil, firstI_length, List.length_range, rowsD_length, List.length_drop, List.length_take, sortB_len, rangeI_len]; omega)) only [↓rb, ↓r_ofO, ↓r_den, ↓r_oX1, ↓r_oX2, ↓r_bX1, ↓r_bX2, ↓r_lX1, ↓r_lX2, ↓r_C, ↓r_Var, ↓r_Val, ↓r_Move, ↓r_fz, ↓r_ofD, ↓r_Op, ↓r_eOp, ↓r_Un, ↓r_CB, ↓r_eCB, ↓r_Mul, ↓r_Nil, ↓r_Cons, ↓r_Lst, ↓r_Tup, ↓r_Bl, ↓r_And, ↓r_Or, ↓r_NotM, ↓r_Yes, ↓r_If, ↓r_Chain, ↓r_Next, ↓r_Seq, ↓r_Bk, ↓r_Ct, ↓r_Never, ↓r_Ret, ↓r_RetN, ↓r_Expr, ↓r_sIf, ↓r_Set, ↓r_Asg, ↓r_Par, ↓r_bName, ↓r_bNil, ↓r_bCons, ↓r_bTup, ↓r_bTupL, ↓r_free, ↓f_non, ↓f_val, ↓f_own, ↓f_pin, ↓r_toSl, ↓r_fzR, ↓r_dAnd, ↓r_dOr, ↓r_dNot, ↓r_ixO, ↓r_Put, ↓r_Mut, ↓r_arNil, ↓r_arV, ↓r_arR, ↓r_Call, ↓r_CallK, ↓r_CallKD, ↓r_CallT, ↓r_For, ↓r_Lc, ↓r_iSeq, ↓r_iRng1, ↓r_iRng2, ↓r_iEnum, ↓r_iEnumA, ↓r_iEnumB, ↓r_TR1, ↓r_LenO, ↓r_NeO, ↓r_iZip, ↓r_iZipB, ↓r_LenSet, ↓r_step, ↓r_LR1, ↓r_LR2, ↓r_oNone, ↓r_oSome, ↓r_Cut, ↓r_Rev, ↓r_RevA, ↓r_keep, ↓r_Raise, ↓r_Try, ↓r_endX, ↓r_Exn, ↓r_Fld, ↓r_FldM, ↓r_FldAdd, ↓r_bFld, ↓r_Meth, ↓r_MethT, ↓r_Make, ↓r_Par3, ↓r_AugN, ↓r_AugPut, ↓f_exn, ↓nx_nil, ↓nx_n, ↓nx_v, ↓nx_o, ↓nx_x, ↓r_Isi, ↓r_IsiT, ↓r_Bor, ↓r_noEx, ↓r_wipe0, ↓r_wipe1, ↓r_outs0, ↓r_outs1, ↓r_out1, ↓r_out2, ↓r_mkA0, ↓r_mkA1, ↓r_mkA2, ↓r_wb0, ↓r_wb1, ↓r_wb2, ↓r_Said, ↓r_hide0, ↓r_hide1, ↓r_hideV, ↓r_hideO, ↓r_hideN, ↓r_IsE, ↓r_IsE2, ↓r_iZip3, ↓r_Mt, ↓r_Pre, ↓r_CutO, ↓r_setOwn, ↓r_Copy, ↓r_pick0, ↓r_pick1, ↓r_val0, ↓r_val1, ↓g0, ↓g1, ↓g2, ↓g3, ↓g4, ↓g5, ↓g6, ↓g7, ↓g8, ↓g9, ↓g10, ↓g11, ↓g12, ↓g13, ↓g14, ↓g15, ↓g16, ↓g17, ↓g18, ↓g19, ↓u0, ↓u1, ↓u2, ↓u3, ↓u4, ↓u5, ↓u6, ↓u7, ↓u8, ↓u9, ↓u10, ↓u11, ↓u12, ↓u13, ↓u14, ↓u15, ↓u16, ↓u17, ↓u18, ↓u19, v_eqE0, v_neE0, K_nb, K_ni, K_ns, K_nl, K_nt, K_bb, K_bi, K_bs, K_bl, K_bt, K_ib, K_ii, K_is, K_il, K_it, K_sb, K_si, K_ss, K_sl, K_st, K_lb, K_li, K_ls, K_ll, K_lt, K_tb, K_ti, K_ts, K_tl, K_tt, K_db, K_di, K_ds, K_dl, K_dt, t_n, t_d, t_s, r_outO1, r_outO2, r_Ask1, r_Ask2, v_TR, v_add, v_sub, v_neg, v_lt, v_le, v_gt, v_ge, v_eq, v_ne, v_max2, v_min2, v_mod, v_div, v_pow9, v_pow18, v_mulL, v_mulR, v_divmod, v_lenL, v_lenT, v_sum, v_eqL, v_listOf, v_inT2, v_sorted, sortB_f, v_sortL, v_sortT, v_sortDL, v_sortDT, v_sortDP, v_keep, v_tupL, v_tupT, v_sumL, v_sumT, v_app, v_neL, v_pow39, v_pow40, ob_nil, ob_zero, ob_1, ob_2, ob_3, ob_4, ob_5, ob_6, ob_7, ob_8, ll_n, ll_b, ll_i, ll_s, bs_n, bs_v, bs_l, bs_s, llA_ints, List.all_cons, List.all_nil, Bool.and_true, Bool.true_and, Bool.false_and, Bool.and_false, Bool.and_self, v_isN0, v_isNi, v_notN0, v_notNi, v_ixL, v_ixT, v_cutL, v_cutT, k_ii, k_ib, k_bi, k_bb, k_ll, k_lt, k_tl, k_tt, t_i, t_b, t_l, t_t, isR, if_true, true_and, and_true, and_self, if_false, if_pos, Bool.not_true, Bool.not_false, List.length_cons, List.length_nil, List.replicate, List.cons_append, List.nil_append, List.head?_cons, List.tail_cons, List.any_nil, List.any_cons, Bool.false_eq_true, Bool.or_false, Bool.false_or, beq_self_eq_true, Nat.reduceSub, Nat.reduceAdd, Nat.reduceLeDiff, Nat.reduceBEq, Nat.reduceEqDiff, reduceIte, eq_self, reduceCtorEq, kp_p1, kp_p2, kp_p3, kp_p4, kp_p5, kp_p6, kp_h, kp_d, kp_l1, kp_l2, kp_l3, kp_l4, kp_l5, kp_l6, kp_cups, kp_scoops, kp_rows, kp_looks, kp_held, kp_done, kp_choose, kp_nums, kp_stand, Int.reduceToNat, Int.reduceBEq, Nat.zero_add, Nat.reduceLT, e_is_from, h1, h2, decide_true, Bool.and_self]
theorem e_want_cups (c : Int) (h1 : 2 ≤ c) (h2 : c ≤ 40) : d_want_cups [.val (.int c)] = .ok (.val .none, [.val (.int c)]) := by
  unfold d_want_cups
  simp (maxSteps := 1000000) (disch := first | omega | exact Or.inl rfl | exact Or.inr rfl | exact f_non | exact f_val _ | exact f_own _ | (simp only [List.length_map, List.length_replicate, List.length_append, List.length_cons, List.length_nil, firstI_length, List.length_range, rowsD_length, List.length_drop, List.length_take, sortB_len, rangeI_len]; omega)) only [↓rb, ↓r_ofO, ↓r_den, ↓r_oX1, ↓r_oX2, ↓r_bX1, ↓r_bX2, ↓r_lX1, ↓r_lX2, ↓r_C, ↓r_Var, ↓r_Val, ↓r_Move, ↓r_fz, ↓r_ofD, ↓r_Op, ↓r_eOp, ↓r_Un, ↓r_CB, ↓r_eCB, ↓r_Mul, ↓r_Nil, ↓r_Cons, ↓r_Lst, ↓r_Tup, ↓r_Bl, ↓r_And, ↓r_Or, ↓r_NotM, ↓r_Yes, ↓r_If, ↓r_Chain, ↓r_Next, ↓r_Seq, ↓r_Bk, ↓r_Ct, ↓r_Never, ↓r_Ret, ↓r_RetN, ↓r_Expr, ↓r_sIf, ↓r_Set, ↓r_Asg, ↓r_Par, ↓r_bName, ↓r_bNil, ↓r_bCons, ↓r_bTup, ↓r_bTupL, ↓r_free, ↓f_non, ↓f_val, ↓f_own, ↓f_pin, ↓r_toSl, ↓r_fzR, ↓r_dAnd, ↓r_dOr, ↓r_dNot, ↓r_ixO, ↓r_Put, ↓r_Mut, ↓r_arNil, ↓r_arV, ↓r_arR, ↓r_Call, ↓r_CallK, ↓r_CallKD, ↓r_CallT, ↓r_For, ↓r_Lc, ↓r_iSeq, ↓r_iRng1, ↓r_iRng2, ↓r_iEnum, ↓r_iEnumA, ↓r_iEnumB, ↓r_TR1, ↓r_LenO, ↓r_NeO, ↓r_iZip, ↓r_iZipB, ↓r_LenSet, ↓r_step, ↓r_LR1, ↓r_LR2, ↓r_oNone, ↓r_oSome, ↓r_Cut, ↓r_Rev, ↓r_RevA, ↓r_keep, ↓r_Raise, ↓r_Try, ↓r_endX, ↓r_Exn, ↓r_Fld, ↓r_FldM, ↓r_FldAdd, ↓r_bFld, ↓r_Meth, ↓r_MethT, ↓r_Make, ↓r_Par3, ↓r_AugN, ↓r_AugPut, ↓f_exn, ↓nx_nil, ↓nx_n, ↓nx_v, ↓nx_o, ↓nx_x, ↓r_Isi, ↓r_IsiT, ↓r_Bor, ↓r_noEx, ↓r_wipe0, ↓r_wipe1, ↓r_outs0, ↓r_outs1, ↓r_out1, ↓r_out2, ↓r_mkA0, ↓r_mkA1, ↓r_mkA2, ↓r_wb0, ↓r_wb1, ↓r_wb2, ↓r_Said, ↓r_hide0, ↓r_hide1, ↓r_hideV, ↓r_hideO, ↓r_hideN, ↓r_IsE, ↓r_IsE2, ↓r_iZip3, ↓r_Mt, ↓r_Pre, ↓r_CutO, ↓r_setOwn, ↓r_Copy, ↓r_pick0, ↓r_pick1, ↓r_val0, ↓r_val1, ↓g0, ↓g1, ↓g2, ↓g3, ↓g4, ↓g5, ↓g6, ↓g7, ↓g8, ↓g9, ↓g10, ↓g11, ↓g12, ↓g13, ↓g14, ↓g15, ↓g16, ↓g17, ↓g18, ↓g19, ↓u0, ↓u1, ↓u2, ↓u3, ↓u4, ↓u5, ↓u6, ↓u7, ↓u8, ↓u9, ↓u10, ↓u11, ↓u12, ↓u13, ↓u14, ↓u15, ↓u16, ↓u17, ↓u18, ↓u19, v_eqE0, v_neE0, K_nb, K_ni, K_ns, K_nl, K_nt, K_bb, K_bi, K_bs, K_bl, K_bt, K_ib, K_ii, K_is, K_il, K_it, K_sb, K_si, K_ss, K_sl, K_st, K_lb, K_li, K_ls, K_ll, K_lt, K_tb, K_ti, K_ts, K_tl, K_tt, K_db, K_di, K_ds, K_dl, K_dt, t_n, t_d, t_s, r_outO1, r_outO2, r_Ask1, r_Ask2, v_TR, v_add, v_sub, v_neg, v_lt, v_le, v_gt, v_ge, v_eq, v_ne, v_max2, v_min2, v_mod, v_div, v_pow9, v_pow18, v_mulL, v_mulR, v_divmod, v_lenL, v_lenT, v_sum, v_eqL, v_listOf, v_inT2, v_sorted, sortB_f, v_sortL, v_sortT, v_sortDL, v_sortDT, v_sortDP, v_keep, v_tupL, v_tupT, v_sumL, v_sumT, v_app, v_neL, v_pow39, v_pow40, ob_nil, ob_zero, ob_1, ob_2, ob_3, ob_4, ob_5, ob_6, ob_7, ob_8, ll_n, ll_b, ll_i, ll_s, bs_n, bs_v, bs_l, bs_s, llA_ints, List.all_cons, List.all_nil, Bool.and_true, Bool.true_and, Bool.false_and, Bool.and_false, Bool.and_self, v_isN0, v_isNi, v_notN0, v_notNi, v_ixL, v_ixT, v_cutL, v_cutT, k_ii, k_ib, k_bi, k_bb, k_ll, k_lt, k_tl, k_tt, t_i, t_b, t_l, t_t, isR, if_true, true_and, and_true, and_self, if_false, if_pos, Bool.not_true, Bool.not_false, List.length_cons, List.length_nil, List.replicate, List.cons_append, List.nil_append, List.head?_cons, List.tail_cons, List.any_nil, List.any_cons, Bool.false_eq_true, Bool.or_false, Bool.false_or, beq_self_eq_true, Nat.reduceSub, Nat.reduceAdd, Nat.reduceLeDiff, Nat.reduceBEq, Nat.reduceEqDiff, reduceIte, eq_self, reduceCtorEq, kp_p1, kp_p2, kp_p3, kp_p4, kp_p5, kp_p6, kp_h, kp_d, kp_l1, kp_l2, kp_l3, kp_l4, kp_l5, kp_l6, kp_cups, kp_scoops, kp_rows, kp_looks, kp_held, kp_done, kp_choose, kp_nums, kp_stand, Int.reduceToNat, Int.reduceBEq, Nat.zero_add, Nat.reduceLT, e_is_from, h1, h2, decide_true, Bool.and_self]
theorem e_want_sizes (c g p : Int) (h1 : 2 ≤ c) (h2 : c ≤ 40) (h3 : 0 ≤ g) (h4 : 1 ≤ p) (h5 : p ≤ c - 1) : d_want_sizes [.val (.int c), .val (.int g), .val (.int p)] = .ok (.val .none, [.val (.int c), .val (.int g), .val (.int p)]) := by
  unfold d_want_sizes
  simp (maxSteps := 1000000) (disch := first | omega | exact Or.inl rfl | exact Or.inr rfl | exact f_non | exact f_val _ | exact f_own _ | (simp only [List.length_map, List.length_replicate, List.length_append, List.length_cons, List.length_nil, firstI_length, List.length_range, rowsD_length, List.length_drop, List.length_take, sortB_len, rangeI_len]; omega)) only [↓rb, ↓r_ofO, ↓r_den, ↓r_oX1, ↓r_oX2, ↓r_bX1, ↓r_bX2, ↓r_lX1, ↓r_lX2, ↓r_C, ↓r_Var, ↓r_Val, ↓r_Move, ↓r_fz, ↓r_ofD, ↓r_Op, ↓r_eOp, ↓r_Un, ↓r_CB, ↓r_eCB, ↓r_Mul, ↓r_Nil, ↓r_Cons, ↓r_Lst, ↓r_Tup, ↓r_Bl, ↓r_And, ↓r_Or, ↓r_NotM, ↓r_Yes, ↓r_If, ↓r_Chain, ↓r_Next, ↓r_Seq, ↓r_Bk, ↓r_Ct, ↓r_Never, ↓r_Ret, ↓r_RetN, ↓r_Expr, ↓r_sIf, ↓r_Set, ↓r_Asg, ↓r_Par, ↓r_bName, ↓r_bNil, ↓r_bCons, ↓r_bTup, ↓r_bTupL, ↓r_free, ↓f_non, ↓f_val, ↓f_own, ↓f_pin, ↓r_toSl, ↓r_fzR, ↓r_dAnd, ↓r_dOr, ↓r_dNot, ↓r_ixO, ↓r_Put, ↓r_Mut, ↓r_arNil, ↓r_arV, ↓r_arR, ↓r_Call, ↓r_CallK, ↓r_CallKD, ↓r_CallT, ↓r_For, ↓r_Lc, ↓r_iSeq, ↓r_iRng1, ↓r_iRng2, ↓r_iEnum, ↓r_iEnumA, ↓r_iEnumB, ↓r_TR1, ↓r_LenO, ↓r_NeO, ↓r_iZip, ↓r_iZipB, ↓r_LenSet, ↓r_step, ↓r_LR1, ↓r_LR2, ↓r_oNone, ↓r_oSome, ↓r_Cut, ↓r_Rev, ↓r_RevA, ↓r_keep, ↓r_Raise, ↓r_Try, ↓r_endX, ↓r_Exn, ↓r_Fld, ↓r_FldM, ↓r_FldAdd, ↓r_bFld, ↓r_Meth, ↓r_MethT, ↓r_Make, ↓r_Par3, ↓r_AugN, ↓r_AugPut, ↓f_exn, ↓nx_nil, ↓nx_n, ↓nx_v, ↓nx_o, ↓nx_x, ↓r_Isi, ↓r_IsiT, ↓r_Bor, ↓r_noEx, ↓r_wipe0, ↓r_wipe1, ↓r_outs0, ↓r_outs1, ↓r_out1, ↓r_out2, ↓r_mkA0, ↓r_mkA1, ↓r_mkA2, ↓r_wb0, ↓r_wb1, ↓r_wb2, ↓r_Said, ↓r_hide0, ↓r_hide1, ↓r_hideV, ↓r_hideO, ↓r_hideN, ↓r_IsE, ↓r_IsE2, ↓r_iZip3, ↓r_Mt, ↓r_Pre, ↓r_CutO, ↓r_setOwn, ↓r_Copy, ↓r_pick0, ↓r_pick1, ↓r_val0, ↓r_val1, ↓g0, ↓g1, ↓g2, ↓g3, ↓g4, ↓g5, ↓g6, ↓g7, ↓g8, ↓g9, ↓g10, ↓g11, ↓g12, ↓g13, ↓g14, ↓g15, ↓g16, ↓g17, ↓g18, ↓g19, ↓u0, ↓u1, ↓u2, ↓u3, ↓u4, ↓u5, ↓u6, ↓u7, ↓u8, ↓u9, ↓u10, ↓u11, ↓u12, ↓u13, ↓u14, ↓u15, ↓u16, ↓u17, ↓u18, ↓u19, v_eqE0, v_neE0, K_nb, K_ni, K_ns, K_nl, K_nt, K_bb, K_bi, K_bs, K_bl, K_bt, K_ib, K_ii, K_is, K_il, K_it, K_sb, K_si, K_ss, K_sl, K_st, K_lb, K_li, K_ls, K_ll, K_lt, K_tb, K_ti, K_ts, K_tl, K_tt, K_db, K_di, K_ds, K_dl, K_dt, t_n, t_d, t_s, r_outO1, r_outO2, r_Ask1, r_Ask2, v_TR, v_add, v_sub, v_neg, v_lt, v_le, v_gt, v_ge, v_eq, v_ne, v_max2, v_min2, v_mod, v_div, v_pow9, v_pow18, v_mulL, v_mulR, v_divmod, v_lenL, v_lenT, v_sum, v_eqL, v_listOf, v_inT2, v_sorted, sortB_f, v_sortL, v_sortT, v_sortDL, v_sortDT, v_sortDP, v_keep, v_tupL, v_tupT, v_sumL, v_sumT, v_app, v_neL, v_pow39, v_pow40, ob_nil, ob_zero, ob_1, ob_2, ob_3, ob_4, ob_5, ob_6, ob_7, ob_8, ll_n, ll_b, ll_i, ll_s, bs_n, bs_v, bs_l, bs_s, llA_ints, List.all_cons, List.all_nil, Bool.and_true, Bool.true_and, Bool.false_and, Bool.and_false, Bool.and_self, v_isN0, v_isNi, v_notN0, v_notNi, v_ixL, v_ixT, v_cutL, v_cutT, k_ii, k_ib, k_bi, k_bb, k_ll, k_lt, k_tl, k_tt, t_i, t_b, t_l, t_t, isR, if_true, true_and, and_true, and_self, if_false, if_pos, Bool.not_true, Bool.not_false, List.length_cons, List.length_nil, List.replicate, List.cons_append, List.nil_append, List.head?_cons, List.tail_cons, List.any_nil, List.any_cons, Bool.false_eq_true, Bool.or_false, Bool.false_or, beq_self_eq_true, Nat.reduceSub, Nat.reduceAdd, Nat.reduceLeDiff, Nat.reduceBEq, Nat.reduceEqDiff, reduceIte, eq_self, reduceCtorEq, kp_p1, kp_p2, kp_p3, kp_p4, kp_p5, kp_p6, kp_h, kp_d, kp_l1, kp_l2, kp_l3, kp_l4, kp_l5, kp_l6, kp_cups, kp_scoops, kp_rows, kp_looks, kp_held, kp_done, kp_choose, kp_nums, kp_stand, Int.reduceToNat, Int.reduceBEq, Nat.zero_add, Nat.reduceLT, e_want_cups, e_is_count, e_is_from, h3, h4, h5, decide_true, Bool.and_self]
theorem e_top (t c m : Int) (h1 : 0 ≤ t) (h2 : 1 ≤ c) (h3 : c ≤ 40) (h4 : 0 ≤ m) (h5 : m ≤ c) : d_top [.val (.int t), .val (.int c), .val (.int m)] = .ok (.val (.int (topI t c m)), [.val (.int t), .val (.int c), .val (.int m)]) := by
  unfold d_top
  simp (maxSteps := 1000000) (disch := first | omega | exact Or.inl rfl | exact Or.inr rfl | exact f_non | exact f_val _ | exact f_own _ | (simp only [List.length_map, List.length_replicate, List.length_append, List.length_cons, List.length_nil, firstI_length, List.length_range, rowsD_length, List.length_drop, List.length_take, sortB_len, rangeI_len]; omega)) only [↓rb, ↓r_ofO, ↓r_den, ↓r_oX1, ↓r_oX2, ↓r_bX1, ↓r_bX2, ↓r_lX1, ↓r_lX2, ↓r_C, ↓r_Var, ↓r_Val, ↓r_Move, ↓r_fz, ↓r_ofD, ↓r_Op, ↓r_eOp, ↓r_Un, ↓r_CB, ↓r_eCB, ↓r_Mul, ↓r_Nil, ↓r_Cons, ↓r_Lst, ↓r_Tup, ↓r_Bl, ↓r_And, ↓r_Or, ↓r_NotM, ↓r_Yes, ↓r_If, ↓r_Chain, ↓r_Next, ↓r_Seq, ↓r_Bk, ↓r_Ct, ↓r_Never, ↓r_Ret, ↓r_RetN, ↓r_Expr, ↓r_sIf, ↓r_Set, ↓r_Asg, ↓r_Par, ↓r_bName, ↓r_bNil, ↓r_bCons, ↓r_bTup, ↓r_bTupL, ↓r_free, ↓f_non, ↓f_val, ↓f_own, ↓f_pin, ↓r_toSl, ↓r_fzR, ↓r_dAnd, ↓r_dOr, ↓r_dNot, ↓r_ixO, ↓r_Put, ↓r_Mut, ↓r_arNil, ↓r_arV, ↓r_arR, ↓r_Call, ↓r_CallK, ↓r_CallKD, ↓r_CallT, ↓r_For, ↓r_Lc, ↓r_iSeq, ↓r_iRng1, ↓r_iRng2, ↓r_iEnum, ↓r_iEnumA, ↓r_iEnumB, ↓r_TR1, ↓r_LenO, ↓r_NeO, ↓r_iZip, ↓r_iZipB, ↓r_LenSet, ↓r_step, ↓r_LR1, ↓r_LR2, ↓r_oNone, ↓r_oSome, ↓r_Cut, ↓r_Rev, ↓r_RevA, ↓r_keep, ↓r_Raise, ↓r_Try, ↓r_endX, ↓r_Exn, ↓r_Fld, ↓r_FldM, ↓r_FldAdd, ↓r_bFld, ↓r_Meth, ↓r_MethT, ↓r_Make, ↓r_Par3, ↓r_AugN, ↓r_AugPut, ↓f_exn, ↓nx_nil, ↓nx_n, ↓nx_v, ↓nx_o, ↓nx_x, ↓r_Isi, ↓r_IsiT, ↓r_Bor, ↓r_noEx, ↓r_wipe0, ↓r_wipe1, ↓r_outs0, ↓r_outs1, ↓r_out1, ↓r_out2, ↓r_mkA0, ↓r_mkA1, ↓r_mkA2, ↓r_wb0, ↓r_wb1, ↓r_wb2, ↓r_Said, ↓r_hide0, ↓r_hide1, ↓r_hideV, ↓r_hideO, ↓r_hideN, ↓r_IsE, ↓r_IsE2, ↓r_iZip3, ↓r_Mt, ↓r_Pre, ↓r_CutO, ↓r_setOwn, ↓r_Copy, ↓r_pick0, ↓r_pick1, ↓r_val0, ↓r_val1, ↓g0, ↓g1, ↓g2, ↓g3, ↓g4, ↓g5, ↓g6, ↓g7, ↓g8, ↓g9, ↓g10, ↓g11, ↓g12, ↓g13, ↓g14, ↓g15, ↓g16, ↓g17, ↓g18, ↓g19, ↓u0, ↓u1, ↓u2, ↓u3, ↓u4, ↓u5, ↓u6, ↓u7, ↓u8, ↓u9, ↓u10, ↓u11, ↓u12, ↓u13, ↓u14, ↓u15, ↓u16, ↓u17, ↓u18, ↓u19, v_eqE0, v_neE0, K_nb, K_ni, K_ns, K_nl, K_nt, K_bb, K_bi, K_bs, K_bl, K_bt, K_ib, K_ii, K_is, K_il, K_it, K_sb, K_si, K_ss, K_sl, K_st, K_lb, K_li, K_ls, K_ll, K_lt, K_tb, K_ti, K_ts, K_tl, K_tt, K_db, K_di, K_ds, K_dl, K_dt, t_n, t_d, t_s, r_outO1, r_outO2, r_Ask1, r_Ask2, v_TR, v_add, v_sub, v_neg, v_lt, v_le, v_gt, v_ge, v_eq, v_ne, v_max2, v_min2, v_mod, v_div, v_pow9, v_pow18, v_mulL, v_mulR, v_divmod, v_lenL, v_lenT, v_sum, v_eqL, v_listOf, v_inT2, v_sorted, sortB_f, v_sortL, v_sortT, v_sortDL, v_sortDT, v_sortDP, v_keep, v_tupL, v_tupT, v_sumL, v_sumT, v_app, v_neL, v_pow39, v_pow40, ob_nil, ob_zero, ob_1, ob_2, ob_3, ob_4, ob_5, ob_6, ob_7, ob_8, ll_n, ll_b, ll_i, ll_s, bs_n, bs_v, bs_l, bs_s, llA_ints, List.all_cons, List.all_nil, Bool.and_true, Bool.true_and, Bool.false_and, Bool.and_false, Bool.and_self, v_isN0, v_isNi, v_notN0, v_notNi, v_ixL, v_ixT, v_cutL, v_cutT, k_ii, k_ib, k_bi, k_bb, k_ll, k_lt, k_tl, k_tt, t_i, t_b, t_l, t_t, isR, if_true, true_and, and_true, and_self, if_false, if_pos, Bool.not_true, Bool.not_false, List.length_cons, List.length_nil, List.replicate, List.cons_append, List.nil_append, List.head?_cons, List.tail_cons, List.any_nil, List.any_cons, Bool.false_eq_true, Bool.or_false, Bool.false_or, beq_self_eq_true, Nat.reduceSub, Nat.reduceAdd, Nat.reduceLeDiff, Nat.reduceBEq, Nat.reduceEqDiff, reduceIte, eq_self, reduceCtorEq, kp_p1, kp_p2, kp_p3, kp_p4, kp_p5, kp_p6, kp_h, kp_d, kp_l1, kp_l2, kp_l3, kp_l4, kp_l5, kp_l6, kp_cups, kp_scoops, kp_rows, kp_looks, kp_held, kp_done, kp_choose, kp_nums, kp_stand, Int.reduceToNat, Int.reduceBEq, Nat.zero_add, Nat.reduceLT, e_is_from, e_want_shares, h4, h5, decide_true, Bool.and_self]
  rfl
theorem e_mixed (c k : Int) : d__law_mixed [.val (.int c), .val (.int k)] = .ok (.val (.int (mixed c k)), [.val (.int c), .val (.int k)]) := by
  unfold d__law_mixed
  simp (maxSteps := 1000000) (disch := first | omega | exact Or.inl rfl | exact Or.inr rfl | exact f_non | exact f_val _ | exact f_own _ | (simp only [List.length_map, List.length_replicate, List.length_append, List.length_cons, List.length_nil, firstI_length, List.length_range, rowsD_length, List.length_drop, List.length_take, sortB_len, rangeI_len]; omega)) only [↓rb, ↓r_ofO, ↓r_den, ↓r_oX1, ↓r_oX2, ↓r_bX1, ↓r_bX2, ↓r_lX1, ↓r_lX2, ↓r_C, ↓r_Var, ↓r_Val, ↓r_Move, ↓r_fz, ↓r_ofD, ↓r_Op, ↓r_eOp, ↓r_Un, ↓r_CB, ↓r_eCB, ↓r_Mul, ↓r_Nil, ↓r_Cons, ↓r_Lst, ↓r_Tup, ↓r_Bl, ↓r_And, ↓r_Or, ↓r_NotM, ↓r_Yes, ↓r_If, ↓r_Chain, ↓r_Next, ↓r_Seq, ↓r_Bk, ↓r_Ct, ↓r_Never, ↓r_Ret, ↓r_RetN, ↓r_Expr, ↓r_sIf, ↓r_Set, ↓r_Asg, ↓r_Par, ↓r_bName, ↓r_bNil, ↓r_bCons, ↓r_bTup, ↓r_bTupL, ↓r_free, ↓f_non, ↓f_val, ↓f_own, ↓f_pin, ↓r_toSl, ↓r_fzR, ↓r_dAnd, ↓r_dOr, ↓r_dNot, ↓r_ixO, ↓r_Put, ↓r_Mut, ↓r_arNil, ↓r_arV, ↓r_arR, ↓r_Call, ↓r_CallK, ↓r_CallKD, ↓r_CallT, ↓r_For, ↓r_Lc, ↓r_iSeq, ↓r_iRng1, ↓r_iRng2, ↓r_iEnum, ↓r_iEnumA, ↓r_iEnumB, ↓r_TR1, ↓r_LenO, ↓r_NeO, ↓r_iZip, ↓r_iZipB, ↓r_LenSet, ↓r_step, ↓r_LR1, ↓r_LR2, ↓r_oNone, ↓r_oSome, ↓r_Cut, ↓r_Rev, ↓r_RevA, ↓r_keep, ↓r_Raise, ↓r_Try, ↓r_endX, ↓r_Exn, ↓r_Fld, ↓r_FldM, ↓r_FldAdd, ↓r_bFld, ↓r_Meth, ↓r_MethT, ↓r_Make, ↓r_Par3, ↓r_AugN, ↓r_AugPut, ↓f_exn, ↓nx_nil, ↓nx_n, ↓nx_v, ↓nx_o, ↓nx_x, ↓r_Isi, ↓r_IsiT, ↓r_Bor, ↓r_noEx, ↓r_wipe0, ↓r_wipe1, ↓r_outs0, ↓r_outs1, ↓r_out1, ↓r_out2, ↓r_mkA0, ↓r_mkA1, ↓r_mkA2, ↓r_wb0, ↓r_wb1, ↓r_wb2, ↓r_Said, ↓r_hide0, ↓r_hide1, ↓r_hideV, ↓r_hideO, ↓r_hideN, ↓r_IsE, ↓r_IsE2, ↓r_iZip3, ↓r_Mt, ↓r_Pre, ↓r_CutO, ↓r_setOwn, ↓r_Copy, ↓r_pick0, ↓r_pick1, ↓r_val0, ↓r_val1, ↓g0, ↓g1, ↓g2, ↓g3, ↓g4, ↓g5, ↓g6, ↓g7, ↓g8, ↓g9, ↓g10, ↓g11, ↓g12, ↓g13, ↓g14, ↓g15, ↓g16, ↓g17, ↓g18, ↓g19, ↓u0, ↓u1, ↓u2, ↓u3, ↓u4, ↓u5, ↓u6, ↓u7, ↓u8, ↓u9, ↓u10, ↓u11, ↓u12, ↓u13, ↓u14, ↓u15, ↓u16, ↓u17, ↓u18, ↓u19, v_eqE0, v_neE0, K_nb, K_ni, K_ns, K_nl, K_nt, K_bb, K_bi, K_bs, K_bl, K_bt, K_ib, K_ii, K_is, K_il, K_it, K_sb, K_si, K_ss, K_sl, K_st, K_lb, K_li, K_ls, K_ll, K_lt, K_tb, K_ti, K_ts, K_tl, K_tt, K_db, K_di, K_ds, K_dl, K_dt, t_n, t_d, t_s, r_outO1, r_outO2, r_Ask1, r_Ask2, v_TR, v_add, v_sub, v_neg, v_lt, v_le, v_gt, v_ge, v_eq, v_ne, v_max2, v_min2, v_mod, v_div, v_pow9, v_pow18, v_mulL, v_mulR, v_divmod, v_lenL, v_lenT, v_sum, v_eqL, v_listOf, v_inT2, v_sorted, sortB_f, v_sortL, v_sortT, v_sortDL, v_sortDT, v_sortDP, v_keep, v_tupL, v_tupT, v_sumL, v_sumT, v_app, v_neL, v_pow39, v_pow40, ob_nil, ob_zero, ob_1, ob_2, ob_3, ob_4, ob_5, ob_6, ob_7, ob_8, ll_n, ll_b, ll_i, ll_s, bs_n, bs_v, bs_l, bs_s, llA_ints, List.all_cons, List.all_nil, Bool.and_true, Bool.true_and, Bool.false_and, Bool.and_false, Bool.and_self, v_isN0, v_isNi, v_notN0, v_notNi, v_ixL, v_ixT, v_cutL, v_cutT, k_ii, k_ib, k_bi, k_bb, k_ll, k_lt, k_tl, k_tt, t_i, t_b, t_l, t_t, isR, if_true, true_and, and_true, and_self, if_false, if_pos, Bool.not_true, Bool.not_false, List.length_cons, List.length_nil, List.replicate, List.cons_append, List.nil_append, List.head?_cons, List.tail_cons, List.any_nil, List.any_cons, Bool.false_eq_true, Bool.or_false, Bool.false_or, beq_self_eq_true, Nat.reduceSub, Nat.reduceAdd, Nat.reduceLeDiff, Nat.reduceBEq, Nat.reduceEqDiff, reduceIte, eq_self, reduceCtorEq, kp_p1, kp_p2, kp_p3, kp_p4, kp_p5, kp_p6, kp_h, kp_d, kp_l1, kp_l2, kp_l3, kp_l4, kp_l5, kp_l6, kp_cups, kp_scoops, kp_rows, kp_looks, kp_held, kp_done, kp_choose, kp_nums, kp_stand, Int.reduceToNat, Int.reduceBEq, Nat.zero_add, Nat.reduceLT]
  rfl
theorem e_take (s : Src) (m : Int) (h : 0 < m) (h2 : m < 340282366920938463463374607431768211456) : d__law_take [.own true (srcO s), .val (.int m)] = .ok (.val (.int (tkV s m)), [.own true (srcO (tkS s m)), .val (.int m)]) := by
  obtain ⟨x, y, z⟩ := s
  unfold d__law_take tkV tkS srcO
  by_cases hc : 1000000000000000000 ≤ x
  · simp (maxSteps := 1000000) (disch := first | omega | exact Or.inl rfl | exact Or.inr rfl | exact f_non | exact f_val _ | exact f_own _ | (simp only [List.length_map, List.length_replicate, List.length_append, List.length_cons, List.length_nil, firstI_length, List.length_range, rowsD_length, List.length_drop, List.length_take, sortB_len, rangeI_len]; omega)) only [↓rb, ↓r_ofO, ↓r_den, ↓r_oX1, ↓r_oX2, ↓r_bX1, ↓r_bX2, ↓r_lX1, ↓r_lX2, ↓r_C, ↓r_Var, ↓r_Val, ↓r_Move, ↓r_fz, ↓r_ofD, ↓r_Op, ↓r_eOp, ↓r_Un, ↓r_CB, ↓r_eCB, ↓r_Mul, ↓r_Nil, ↓r_Cons, ↓r_Lst, ↓r_Tup, ↓r_Bl, ↓r_And, ↓r_Or, ↓r_NotM, ↓r_Yes, ↓r_If, ↓r_Chain, ↓r_Next, ↓r_Seq, ↓r_Bk, ↓r_Ct, ↓r_Never, ↓r_Ret, ↓r_RetN, ↓r_Expr, ↓r_sIf, ↓r_Set, ↓r_Asg, ↓r_Par, ↓r_bName, ↓r_bNil, ↓r_bCons, ↓r_bTup, ↓r_bTupL, ↓r_free, ↓f_non, ↓f_val, ↓f_own, ↓f_pin, ↓r_toSl, ↓r_fzR, ↓r_dAnd, ↓r_dOr, ↓r_dNot, ↓r_ixO, ↓r_Put, ↓r_Mut, ↓r_arNil, ↓r_arV, ↓r_arR, ↓r_Call, ↓r_CallK, ↓r_CallKD, ↓r_CallT, ↓r_For, ↓r_Lc, ↓r_iSeq, ↓r_iRng1, ↓r_iRng2, ↓r_iEnum, ↓r_iEnumA, ↓r_iEnumB, ↓r_TR1, ↓r_LenO, ↓r_NeO, ↓r_iZip, ↓r_iZipB, ↓r_LenSet, ↓r_step, ↓r_LR1, ↓r_LR2, ↓r_oNone, ↓r_oSome, ↓r_Cut, ↓r_Rev, ↓r_RevA, ↓r_keep, ↓r_Raise, ↓r_Try, ↓r_endX, ↓r_Exn, ↓r_Fld, ↓r_FldM, ↓r_FldAdd, ↓r_bFld, ↓r_Meth, ↓r_MethT, ↓r_Make, ↓r_Par3, ↓r_AugN, ↓r_AugPut, ↓f_exn, ↓nx_nil, ↓nx_n, ↓nx_v, ↓nx_o, ↓nx_x, ↓r_Isi, ↓r_IsiT, ↓r_Bor, ↓r_noEx, ↓r_wipe0, ↓r_wipe1, ↓r_outs0, ↓r_outs1, ↓r_out1, ↓r_out2, ↓r_mkA0, ↓r_mkA1, ↓r_mkA2, ↓r_wb0, ↓r_wb1, ↓r_wb2, ↓r_Said, ↓r_hide0, ↓r_hide1, ↓r_hideV, ↓r_hideO, ↓r_hideN, ↓r_IsE, ↓r_IsE2, ↓r_iZip3, ↓r_Mt, ↓r_Pre, ↓r_CutO, ↓r_setOwn, ↓r_Copy, ↓r_pick0, ↓r_pick1, ↓r_val0, ↓r_val1, ↓g0, ↓g1, ↓g2, ↓g3, ↓g4, ↓g5, ↓g6, ↓g7, ↓g8, ↓g9, ↓g10, ↓g11, ↓g12, ↓g13, ↓g14, ↓g15, ↓g16, ↓g17, ↓g18, ↓g19, ↓u0, ↓u1, ↓u2, ↓u3, ↓u4, ↓u5, ↓u6, ↓u7, ↓u8, ↓u9, ↓u10, ↓u11, ↓u12, ↓u13, ↓u14, ↓u15, ↓u16, ↓u17, ↓u18, ↓u19, v_eqE0, v_neE0, K_nb, K_ni, K_ns, K_nl, K_nt, K_bb, K_bi, K_bs, K_bl, K_bt, K_ib, K_ii, K_is, K_il, K_it, K_sb, K_si, K_ss, K_sl, K_st, K_lb, K_li, K_ls, K_ll, K_lt, K_tb, K_ti, K_ts, K_tl, K_tt, K_db, K_di, K_ds, K_dl, K_dt, t_n, t_d, t_s, r_outO1, r_outO2, r_Ask1, r_Ask2, v_TR, v_add, v_sub, v_neg, v_lt, v_le, v_gt, v_ge, v_eq, v_ne, v_max2, v_min2, v_mod, v_div, v_pow9, v_pow18, v_mulL, v_mulR, v_divmod, v_lenL, v_lenT, v_sum, v_eqL, v_listOf, v_inT2, v_sorted, sortB_f, v_sortL, v_sortT, v_sortDL, v_sortDT, v_sortDP, v_keep, v_tupL, v_tupT, v_sumL, v_sumT, v_app, v_neL, v_pow39, v_pow40, ob_nil, ob_zero, ob_1, ob_2, ob_3, ob_4, ob_5, ob_6, ob_7, ob_8, ll_n, ll_b, ll_i, ll_s, bs_n, bs_v, bs_l, bs_s, llA_ints, List.all_cons, List.all_nil, Bool.and_true, Bool.true_and, Bool.false_and, Bool.and_false, Bool.and_self, v_isN0, v_isNi, v_notN0, v_notNi, v_ixL, v_ixT, v_cutL, v_cutT, k_ii, k_ib, k_bi, k_bb, k_ll, k_lt, k_tl, k_tt, t_i, t_b, t_l, t_t, isR, if_true, true_and, and_true, and_self, if_false, if_pos, Bool.not_true, Bool.not_false, List.length_cons, List.length_nil, List.replicate, List.cons_append, List.nil_append, List.head?_cons, List.tail_cons, List.any_nil, List.any_cons, Bool.false_eq_true, Bool.or_false, Bool.false_or, beq_self_eq_true, Nat.reduceSub, Nat.reduceAdd, Nat.reduceLeDiff, Nat.reduceBEq, Nat.reduceEqDiff, reduceIte, eq_self, reduceCtorEq, kp_p1, kp_p2, kp_p3, kp_p4, kp_p5, kp_p6, kp_h, kp_d, kp_l1, kp_l2, kp_l3, kp_l4, kp_l5, kp_l6, kp_cups, kp_scoops, kp_rows, kp_looks, kp_held, kp_done, kp_choose, kp_nums, kp_stand, Int.reduceToNat, Int.reduceBEq, Nat.zero_add, Nat.reduceLT, at0, ixD0, hc, decide_true]
  · simp (maxSteps := 1000000) (disch := first | omega | exact Or.inl rfl | exact Or.inr rfl | exact f_non | exact f_val _ | exact f_own _ | (simp only [List.length_map, List.length_replicate, List.length_append, List.length_cons, List.length_nil, firstI_length, List.length_range, rowsD_length, List.length_drop, List.length_take, sortB_len, rangeI_len]; omega)) only [↓rb, ↓r_ofO, ↓r_den, ↓r_oX1, ↓r_oX2, ↓r_bX1, ↓r_bX2, ↓r_lX1, ↓r_lX2, ↓r_C, ↓r_Var, ↓r_Val, ↓r_Move, ↓r_fz, ↓r_ofD, ↓r_Op, ↓r_eOp, ↓r_Un, ↓r_CB, ↓r_eCB, ↓r_Mul, ↓r_Nil, ↓r_Cons, ↓r_Lst, ↓r_Tup, ↓r_Bl, ↓r_And, ↓r_Or, ↓r_NotM, ↓r_Yes, ↓r_If, ↓r_Chain, ↓r_Next, ↓r_Seq, ↓r_Bk, ↓r_Ct, ↓r_Never, ↓r_Ret, ↓r_RetN, ↓r_Expr, ↓r_sIf, ↓r_Set, ↓r_Asg, ↓r_Par, ↓r_bName, ↓r_bNil, ↓r_bCons, ↓r_bTup, ↓r_bTupL, ↓r_free, ↓f_non, ↓f_val, ↓f_own, ↓f_pin, ↓r_toSl, ↓r_fzR, ↓r_dAnd, ↓r_dOr, ↓r_dNot, ↓r_ixO, ↓r_Put, ↓r_Mut, ↓r_arNil, ↓r_arV, ↓r_arR, ↓r_Call, ↓r_CallK, ↓r_CallKD, ↓r_CallT, ↓r_For, ↓r_Lc, ↓r_iSeq, ↓r_iRng1, ↓r_iRng2, ↓r_iEnum, ↓r_iEnumA, ↓r_iEnumB, ↓r_TR1, ↓r_LenO, ↓r_NeO, ↓r_iZip, ↓r_iZipB, ↓r_LenSet, ↓r_step, ↓r_LR1, ↓r_LR2, ↓r_oNone, ↓r_oSome, ↓r_Cut, ↓r_Rev, ↓r_RevA, ↓r_keep, ↓r_Raise, ↓r_Try, ↓r_endX, ↓r_Exn, ↓r_Fld, ↓r_FldM, ↓r_FldAdd, ↓r_bFld, ↓r_Meth, ↓r_MethT, ↓r_Make, ↓r_Par3, ↓r_AugN, ↓r_AugPut, ↓f_exn, ↓nx_nil, ↓nx_n, ↓nx_v, ↓nx_o, ↓nx_x, ↓r_Isi, ↓r_IsiT, ↓r_Bor, ↓r_noEx, ↓r_wipe0, ↓r_wipe1, ↓r_outs0, ↓r_outs1, ↓r_out1, ↓r_out2, ↓r_mkA0, ↓r_mkA1, ↓r_mkA2, ↓r_wb0, ↓r_wb1, ↓r_wb2, ↓r_Said, ↓r_hide0, ↓r_hide1, ↓r_hideV, ↓r_hideO, ↓r_hideN, ↓r_IsE, ↓r_IsE2, ↓r_iZip3, ↓r_Mt, ↓r_Pre, ↓r_CutO, ↓r_setOwn, ↓r_Copy, ↓r_pick0, ↓r_pick1, ↓r_val0, ↓r_val1, ↓g0, ↓g1, ↓g2, ↓g3, ↓g4, ↓g5, ↓g6, ↓g7, ↓g8, ↓g9, ↓g10, ↓g11, ↓g12, ↓g13, ↓g14, ↓g15, ↓g16, ↓g17, ↓g18, ↓g19, ↓u0, ↓u1, ↓u2, ↓u3, ↓u4, ↓u5, ↓u6, ↓u7, ↓u8, ↓u9, ↓u10, ↓u11, ↓u12, ↓u13, ↓u14, ↓u15, ↓u16, ↓u17, ↓u18, ↓u19, v_eqE0, v_neE0, K_nb, K_ni, K_ns, K_nl, K_nt, K_bb, K_bi, K_bs, K_bl, K_bt, K_ib, K_ii, K_is, K_il, K_it, K_sb, K_si, K_ss, K_sl, K_st, K_lb, K_li, K_ls, K_ll, K_lt, K_tb, K_ti, K_ts, K_tl, K_tt, K_db, K_di, K_ds, K_dl, K_dt, t_n, t_d, t_s, r_outO1, r_outO2, r_Ask1, r_Ask2, v_TR, v_add, v_sub, v_neg, v_lt, v_le, v_gt, v_ge, v_eq, v_ne, v_max2, v_min2, v_mod, v_div, v_pow9, v_pow18, v_mulL, v_mulR, v_divmod, v_lenL, v_lenT, v_sum, v_eqL, v_listOf, v_inT2, v_sorted, sortB_f, v_sortL, v_sortT, v_sortDL, v_sortDT, v_sortDP, v_keep, v_tupL, v_tupT, v_sumL, v_sumT, v_app, v_neL, v_pow39, v_pow40, ob_nil, ob_zero, ob_1, ob_2, ob_3, ob_4, ob_5, ob_6, ob_7, ob_8, ll_n, ll_b, ll_i, ll_s, bs_n, bs_v, bs_l, bs_s, llA_ints, List.all_cons, List.all_nil, Bool.and_true, Bool.true_and, Bool.false_and, Bool.and_false, Bool.and_self, v_isN0, v_isNi, v_notN0, v_notNi, v_ixL, v_ixT, v_cutL, v_cutT, k_ii, k_ib, k_bi, k_bb, k_ll, k_lt, k_tl, k_tt, t_i, t_b, t_l, t_t, isR, if_true, true_and, and_true, and_self, if_false, if_pos, Bool.not_true, Bool.not_false, List.length_cons, List.length_nil, List.replicate, List.cons_append, List.nil_append, List.head?_cons, List.tail_cons, List.any_nil, List.any_cons, Bool.false_eq_true, Bool.or_false, Bool.false_or, beq_self_eq_true, Nat.reduceSub, Nat.reduceAdd, Nat.reduceLeDiff, Nat.reduceBEq, Nat.reduceEqDiff, reduceIte, eq_self, reduceCtorEq, kp_p1, kp_p2, kp_p3, kp_p4, kp_p5, kp_p6, kp_h, kp_d, kp_l1, kp_l2, kp_l3, kp_l4, kp_l5, kp_l6, kp_cups, kp_scoops, kp_rows, kp_looks, kp_held, kp_done, kp_choose, kp_nums, kp_stand, Int.reduceToNat, Int.reduceBEq, Nat.zero_add, Nat.reduceLT, at0, at1, at2, ixD2, hc, decide_false, e_mixed]
theorem e_source (c : Int) : d__law_source [.val (.int c)] = .ok (.own (srcO (c, c, 0)), [.val (.int c)]) := by
  unfold d__law_source srcO
  simp (maxSteps := 1000000) (disch := first | omega | exact Or.inl rfl | exact Or.inr rfl | exact f_non | exact f_val _ | exact f_own _ | (simp only [List.length_map, List.length_replicate, List.length_append, List.length_cons, List.length_nil, firstI_length, List.length_range, rowsD_length, List.length_drop, List.length_take, sortB_len, rangeI_len]; omega)) only [↓rb, ↓r_ofO, ↓r_den, ↓r_oX1, ↓r_oX2, ↓r_bX1, ↓r_bX2, ↓r_lX1, ↓r_lX2, ↓r_C, ↓r_Var, ↓r_Val, ↓r_Move, ↓r_fz, ↓r_ofD, ↓r_Op, ↓r_eOp, ↓r_Un, ↓r_CB, ↓r_eCB, ↓r_Mul, ↓r_Nil, ↓r_Cons, ↓r_Lst, ↓r_Tup, ↓r_Bl, ↓r_And, ↓r_Or, ↓r_NotM, ↓r_Yes, ↓r_If, ↓r_Chain, ↓r_Next, ↓r_Seq, ↓r_Bk, ↓r_Ct, ↓r_Never, ↓r_Ret, ↓r_RetN, ↓r_Expr, ↓r_sIf, ↓r_Set, ↓r_Asg, ↓r_Par, ↓r_bName, ↓r_bNil, ↓r_bCons, ↓r_bTup, ↓r_bTupL, ↓r_free, ↓f_non, ↓f_val, ↓f_own, ↓f_pin, ↓r_toSl, ↓r_fzR, ↓r_dAnd, ↓r_dOr, ↓r_dNot, ↓r_ixO, ↓r_Put, ↓r_Mut, ↓r_arNil, ↓r_arV, ↓r_arR, ↓r_Call, ↓r_CallK, ↓r_CallKD, ↓r_CallT, ↓r_For, ↓r_Lc, ↓r_iSeq, ↓r_iRng1, ↓r_iRng2, ↓r_iEnum, ↓r_iEnumA, ↓r_iEnumB, ↓r_TR1, ↓r_LenO, ↓r_NeO, ↓r_iZip, ↓r_iZipB, ↓r_LenSet, ↓r_step, ↓r_LR1, ↓r_LR2, ↓r_oNone, ↓r_oSome, ↓r_Cut, ↓r_Rev, ↓r_RevA, ↓r_keep, ↓r_Raise, ↓r_Try, ↓r_endX, ↓r_Exn, ↓r_Fld, ↓r_FldM, ↓r_FldAdd, ↓r_bFld, ↓r_Meth, ↓r_MethT, ↓r_Make, ↓r_Par3, ↓r_AugN, ↓r_AugPut, ↓f_exn, ↓nx_nil, ↓nx_n, ↓nx_v, ↓nx_o, ↓nx_x, ↓r_Isi, ↓r_IsiT, ↓r_Bor, ↓r_noEx, ↓r_wipe0, ↓r_wipe1, ↓r_outs0, ↓r_outs1, ↓r_out1, ↓r_out2, ↓r_mkA0, ↓r_mkA1, ↓r_mkA2, ↓r_wb0, ↓r_wb1, ↓r_wb2, ↓r_Said, ↓r_hide0, ↓r_hide1, ↓r_hideV, ↓r_hideO, ↓r_hideN, ↓r_IsE, ↓r_IsE2, ↓r_iZip3, ↓r_Mt, ↓r_Pre, ↓r_CutO, ↓r_setOwn, ↓r_Copy, ↓r_pick0, ↓r_pick1, ↓r_val0, ↓r_val1, ↓g0, ↓g1, ↓g2, ↓g3, ↓g4, ↓g5, ↓g6, ↓g7, ↓g8, ↓g9, ↓g10, ↓g11, ↓g12, ↓g13, ↓g14, ↓g15, ↓g16, ↓g17, ↓g18, ↓g19, ↓u0, ↓u1, ↓u2, ↓u3, ↓u4, ↓u5, ↓u6, ↓u7, ↓u8, ↓u9, ↓u10, ↓u11, ↓u12, ↓u13, ↓u14, ↓u15, ↓u16, ↓u17, ↓u18, ↓u19, v_eqE0, v_neE0, K_nb, K_ni, K_ns, K_nl, K_nt, K_bb, K_bi, K_bs, K_bl, K_bt, K_ib, K_ii, K_is, K_il, K_it, K_sb, K_si, K_ss, K_sl, K_st, K_lb, K_li, K_ls, K_ll, K_lt, K_tb, K_ti, K_ts, K_tl, K_tt, K_db, K_di, K_ds, K_dl, K_dt, t_n, t_d, t_s, r_outO1, r_outO2, r_Ask1, r_Ask2, v_TR, v_add, v_sub, v_neg, v_lt, v_le, v_gt, v_ge, v_eq, v_ne, v_max2, v_min2, v_mod, v_div, v_pow9, v_pow18, v_mulL, v_mulR, v_divmod, v_lenL, v_lenT, v_sum, v_eqL, v_listOf, v_inT2, v_sorted, sortB_f, v_sortL, v_sortT, v_sortDL, v_sortDT, v_sortDP, v_keep, v_tupL, v_tupT, v_sumL, v_sumT, v_app, v_neL, v_pow39, v_pow40, ob_nil, ob_zero, ob_1, ob_2, ob_3, ob_4, ob_5, ob_6, ob_7, ob_8, ll_n, ll_b, ll_i, ll_s, bs_n, bs_v, bs_l, bs_s, llA_ints, List.all_cons, List.all_nil, Bool.and_true, Bool.true_and, Bool.false_and, Bool.and_false, Bool.and_self, v_isN0, v_isNi, v_notN0, v_notNi, v_ixL, v_ixT, v_cutL, v_cutT, k_ii, k_ib, k_bi, k_bb, k_ll, k_lt, k_tl, k_tt, t_i, t_b, t_l, t_t, isR, if_true, true_and, and_true, and_self, if_false, if_pos, Bool.not_true, Bool.not_false, List.length_cons, List.length_nil, List.replicate, List.cons_append, List.nil_append, List.head?_cons, List.tail_cons, List.any_nil, List.any_cons, Bool.false_eq_true, Bool.or_false, Bool.false_or, beq_self_eq_true, Nat.reduceSub, Nat.reduceAdd, Nat.reduceLeDiff, Nat.reduceBEq, Nat.reduceEqDiff, reduceIte, eq_self, reduceCtorEq, kp_p1, kp_p2, kp_p3, kp_p4, kp_p5, kp_p6, kp_h, kp_d, kp_l1, kp_l2, kp_l3, kp_l4, kp_l5, kp_l6, kp_cups, kp_scoops, kp_rows, kp_looks, kp_held, kp_done, kp_choose, kp_nums, kp_stand, Int.reduceToNat, Int.reduceBEq, Nat.zero_add, Nat.reduceLT]
theorem e_least_of (n g p j : Int) (row : List Int) (R : RowOk n row) (h1 : 2 ≤ n) (h2 : n ≤ 40) (h3 : 0 ≤ g) (h4 : 1 ≤ p) (h5 : p ≤ n - 1) (h6 : 1 ≤ j) (h7 : j ≤ n - p) :
    d_least_of [.val (.int n), .val (.int g), .val (.int p), .val (.list (row.map .int)), .val (.int j)] = .ok (.val (.int (leastI n g p row j)), [.val (.int n), .val (.int g), .val (.int p), .val (.list (row.map .int)), .val (.int j)]) := by
  have hl := R.len
  have hx := getD_nn R.nn (min (j + p) (n - p) - 1).toNat
  unfold d_least_of leastI
  simp (maxSteps := 1000000) (disch := first | omega | exact Or.inl rfl | exact Or.inr rfl | exact f_non | exact f_val _ | exact f_own _ | (simp only [List.length_map, List.length_replicate, List.length_append, List.length_cons, List.length_nil, firstI_length, List.length_range, rowsD_length, List.length_drop, List.length_take, sortB_len, rangeI_len]; omega)) only [↓rb, ↓r_ofO, ↓r_den, ↓r_oX1, ↓r_oX2, ↓r_bX1, ↓r_bX2, ↓r_lX1, ↓r_lX2, ↓r_C, ↓r_Var, ↓r_Val, ↓r_Move, ↓r_fz, ↓r_ofD, ↓r_Op, ↓r_eOp, ↓r_Un, ↓r_CB, ↓r_eCB, ↓r_Mul, ↓r_Nil, ↓r_Cons, ↓r_Lst, ↓r_Tup, ↓r_Bl, ↓r_And, ↓r_Or, ↓r_NotM, ↓r_Yes, ↓r_If, ↓r_Chain, ↓r_Next, ↓r_Seq, ↓r_Bk, ↓r_Ct, ↓r_Never, ↓r_Ret, ↓r_RetN, ↓r_Expr, ↓r_sIf, ↓r_Set, ↓r_Asg, ↓r_Par, ↓r_bName, ↓r_bNil, ↓r_bCons, ↓r_bTup, ↓r_bTupL, ↓r_free, ↓f_non, ↓f_val, ↓f_own, ↓f_pin, ↓r_toSl, ↓r_fzR, ↓r_dAnd, ↓r_dOr, ↓r_dNot, ↓r_ixO, ↓r_Put, ↓r_Mut, ↓r_arNil, ↓r_arV, ↓r_arR, ↓r_Call, ↓r_CallK, ↓r_CallKD, ↓r_CallT, ↓r_For, ↓r_Lc, ↓r_iSeq, ↓r_iRng1, ↓r_iRng2, ↓r_iEnum, ↓r_iEnumA, ↓r_iEnumB, ↓r_TR1, ↓r_LenO, ↓r_NeO, ↓r_iZip, ↓r_iZipB, ↓r_LenSet, ↓r_step, ↓r_LR1, ↓r_LR2, ↓r_oNone, ↓r_oSome, ↓r_Cut, ↓r_Rev, ↓r_RevA, ↓r_keep, ↓r_Raise, ↓r_Try, ↓r_endX, ↓r_Exn, ↓r_Fld, ↓r_FldM, ↓r_FldAdd, ↓r_bFld, ↓r_Meth, ↓r_MethT, ↓r_Make, ↓r_Par3, ↓r_AugN, ↓r_AugPut, ↓f_exn, ↓nx_nil, ↓nx_n, ↓nx_v, ↓nx_o, ↓nx_x, ↓r_Isi, ↓r_IsiT, ↓r_Bor, ↓r_noEx, ↓r_wipe0, ↓r_wipe1, ↓r_outs0, ↓r_outs1, ↓r_out1, ↓r_out2, ↓r_mkA0, ↓r_mkA1, ↓r_mkA2, ↓r_wb0, ↓r_wb1, ↓r_wb2, ↓r_Said, ↓r_hide0, ↓r_hide1, ↓r_hideV, ↓r_hideO, ↓r_hideN, ↓r_IsE, ↓r_IsE2, ↓r_iZip3, ↓r_Mt, ↓r_Pre, ↓r_CutO, ↓r_setOwn, ↓r_Copy, ↓r_pick0, ↓r_pick1, ↓r_val0, ↓r_val1, ↓g0, ↓g1, ↓g2, ↓g3, ↓g4, ↓g5, ↓g6, ↓g7, ↓g8, ↓g9, ↓g10, ↓g11, ↓g12, ↓g13, ↓g14, ↓g15, ↓g16, ↓g17, ↓g18, ↓g19, ↓u0, ↓u1, ↓u2, ↓u3, ↓u4, ↓u5, ↓u6, ↓u7, ↓u8, ↓u9, ↓u10, ↓u11, ↓u12, ↓u13, ↓u14, ↓u15, ↓u16, ↓u17, ↓u18, ↓u19, v_eqE0, v_neE0, K_nb, K_ni, K_ns, K_nl, K_nt, K_bb, K_bi, K_bs, K_bl, K_bt, K_ib, K_ii, K_is, K_il, K_it, K_sb, K_si, K_ss, K_sl, K_st, K_lb, K_li, K_ls, K_ll, K_lt, K_tb, K_ti, K_ts, K_tl, K_tt, K_db, K_di, K_ds, K_dl, K_dt, t_n, t_d, t_s, r_outO1, r_outO2, r_Ask1, r_Ask2, v_TR, v_add, v_sub, v_neg, v_lt, v_le, v_gt, v_ge, v_eq, v_ne, v_max2, v_min2, v_mod, v_div, v_pow9, v_pow18, v_mulL, v_mulR, v_divmod, v_lenL, v_lenT, v_sum, v_eqL, v_listOf, v_inT2, v_sorted, sortB_f, v_sortL, v_sortT, v_sortDL, v_sortDT, v_sortDP, v_keep, v_tupL, v_tupT, v_sumL, v_sumT, v_app, v_neL, v_pow39, v_pow40, ob_nil, ob_zero, ob_1, ob_2, ob_3, ob_4, ob_5, ob_6, ob_7, ob_8, ll_n, ll_b, ll_i, ll_s, bs_n, bs_v, bs_l, bs_s, llA_ints, List.all_cons, List.all_nil, Bool.and_true, Bool.true_and, Bool.false_and, Bool.and_false, Bool.and_self, v_isN0, v_isNi, v_notN0, v_notNi, v_ixL, v_ixT, v_cutL, v_cutT, k_ii, k_ib, k_bi, k_bb, k_ll, k_lt, k_tl, k_tt, t_i, t_b, t_l, t_t, isR, if_true, true_and, and_true, and_self, if_false, if_pos, Bool.not_true, Bool.not_false, List.length_cons, List.length_nil, List.replicate, List.cons_append, List.nil_append, List.head?_cons, List.tail_cons, List.any_nil, List.any_cons, Bool.false_eq_true, Bool.or_false, Bool.false_or, beq_self_eq_true, Nat.reduceSub, Nat.reduceAdd, Nat.reduceLeDiff, Nat.reduceBEq, Nat.reduceEqDiff, reduceIte, eq_self, reduceCtorEq, kp_p1, kp_p2, kp_p3, kp_p4, kp_p5, kp_p6, kp_h, kp_d, kp_l1, kp_l2, kp_l3, kp_l4, kp_l5, kp_l6, kp_cups, kp_scoops, kp_rows, kp_looks, kp_held, kp_done, kp_choose, kp_nums, kp_stand, Int.reduceToNat, Int.reduceBEq, Nat.zero_add, Nat.reduceLT, v_atG, e_top]
theorem e_next_row (n g p : Int) (row : List Int) (R : RowOk n row) (h1 : 2 ≤ n) (h2 : n ≤ 40) (h3 : 0 ≤ g) (h4 : 1 ≤ p) (h5 : p ≤ n - 1) :
    d_next_row [.val (.int n), .val (.int g), .val (.int p), .val (.list (row.map .int))] = .ok (.own (.lst ((nextI n g p row).map .int)), [.val (.int n), .val (.int g), .val (.int p), .val (.list (row.map .int))]) := by
  have lc := lcD_ix (vs := [5]) (b := bName 5) (c := tYesM) (m := fz (eCall 5 d_least_of (arV (dVar 0) (arV (dVar 1) (arV (dVar 2) (arV (dVar 3) (arV (dVar 5) arNil)))))))
    (r := [.val (.int n), .val (.int g), .val (.int p), .val (.list (row.map .int)), .non, .non]) (fun i => .int (leastI n g p row (1 + (i : Nat)))) (rangeD 1 (n - p + 1 - 1).toNat) [] 0 (fun i d hd => by
      obtain ⟨hi, rfl⟩ := rangeD_at hd
      have hi2 : 1 + (i : Int) ≤ n - p := by omega
      have z := e_least_of n g p (1 + (i : Nat)) row R h1 h2 h3 h4 h5 (by omega) hi2
      exact ⟨[.val (.int n), .val (.int g), .val (.int p), .val (.list (row.map .int)), .non, .val (.int (1 + (i : Nat)))], [.val (.int n), .val (.int g), .val (.int p), .val (.list (row.map .int)), .non, .val (.int (1 + (i : Nat)))], [.val (.int n), .val (.int g), .val (.int p), .val (.list (row.map .int)), .non, .val (.int (1 + (i : Nat)))], by simp (maxSteps := 1000000) (disch := first | omega | exact Or.inl rfl | exact Or.inr rfl | exact f_non | exact f_val _ | exact f_own _ | (simp only [List.length_map, List.length_replicate, List.length_append, List.length_cons, List.length_nil, firstI_length, List.length_range, rowsD_length, List.length_drop, List.length_take, sortB_len, rangeI_len]; omega)) only [↓rb, ↓r_ofO, ↓r_den, ↓r_oX1, ↓r_oX2, ↓r_bX1, ↓r_bX2, ↓r_lX1, ↓r_lX2, ↓r_C, ↓r_Var, ↓r_Val, ↓r_Move, ↓r_fz, ↓r_ofD, ↓r_Op, ↓r_eOp, ↓r_Un, ↓r_CB, ↓r_eCB, ↓r_Mul, ↓r_Nil, ↓r_Cons, ↓r_Lst, ↓r_Tup, ↓r_Bl, ↓r_And, ↓r_Or, ↓r_NotM, ↓r_Yes, ↓r_If, ↓r_Chain, ↓r_Next, ↓r_Seq, ↓r_Bk, ↓r_Ct, ↓r_Never, ↓r_Ret, ↓r_RetN, ↓r_Expr, ↓r_sIf, ↓r_Set, ↓r_Asg, ↓r_Par, ↓r_bName, ↓r_bNil, ↓r_bCons, ↓r_bTup, ↓r_bTupL, ↓r_free, ↓f_non, ↓f_val, ↓f_own, ↓f_pin, ↓r_toSl, ↓r_fzR, ↓r_dAnd, ↓r_dOr, ↓r_dNot, ↓r_ixO, ↓r_Put, ↓r_Mut, ↓r_arNil, ↓r_arV, ↓r_arR, ↓r_Call, ↓r_CallK, ↓r_CallKD, ↓r_CallT, ↓r_For, ↓r_Lc, ↓r_iSeq, ↓r_iRng1, ↓r_iRng2, ↓r_iEnum, ↓r_iEnumA, ↓r_iEnumB, ↓r_TR1, ↓r_LenO, ↓r_NeO, ↓r_iZip, ↓r_iZipB, ↓r_LenSet, ↓r_step, ↓r_LR1, ↓r_LR2, ↓r_oNone, ↓r_oSome, ↓r_Cut, ↓r_Rev, ↓r_RevA, ↓r_keep, ↓r_Raise, ↓r_Try, ↓r_endX, ↓r_Exn, ↓r_Fld, ↓r_FldM, ↓r_FldAdd, ↓r_bFld, ↓r_Meth, ↓r_MethT, ↓r_Make, ↓r_Par3, ↓r_AugN, ↓r_AugPut, ↓f_exn, ↓nx_nil, ↓nx_n, ↓nx_v, ↓nx_o, ↓nx_x, ↓r_Isi, ↓r_IsiT, ↓r_Bor, ↓r_noEx, ↓r_wipe0, ↓r_wipe1, ↓r_outs0, ↓r_outs1, ↓r_out1, ↓r_out2, ↓r_mkA0, ↓r_mkA1, ↓r_mkA2, ↓r_wb0, ↓r_wb1, ↓r_wb2, ↓r_Said, ↓r_hide0, ↓r_hide1, ↓r_hideV, ↓r_hideO, ↓r_hideN, ↓r_IsE, ↓r_IsE2, ↓r_iZip3, ↓r_Mt, ↓r_Pre, ↓r_CutO, ↓r_setOwn, ↓r_Copy, ↓r_pick0, ↓r_pick1, ↓r_val0, ↓r_val1, ↓g0, ↓g1, ↓g2, ↓g3, ↓g4, ↓g5, ↓g6, ↓g7, ↓g8, ↓g9, ↓g10, ↓g11, ↓g12, ↓g13, ↓g14, ↓g15, ↓g16, ↓g17, ↓g18, ↓g19, ↓u0, ↓u1, ↓u2, ↓u3, ↓u4, ↓u5, ↓u6, ↓u7, ↓u8, ↓u9, ↓u10, ↓u11, ↓u12, ↓u13, ↓u14, ↓u15, ↓u16, ↓u17, ↓u18, ↓u19, v_eqE0, v_neE0, K_nb, K_ni, K_ns, K_nl, K_nt, K_bb, K_bi, K_bs, K_bl, K_bt, K_ib, K_ii, K_is, K_il, K_it, K_sb, K_si, K_ss, K_sl, K_st, K_lb, K_li, K_ls, K_ll, K_lt, K_tb, K_ti, K_ts, K_tl, K_tt, K_db, K_di, K_ds, K_dl, K_dt, t_n, t_d, t_s, r_outO1, r_outO2, r_Ask1, r_Ask2, v_TR, v_add, v_sub, v_neg, v_lt, v_le, v_gt, v_ge, v_eq, v_ne, v_max2, v_min2, v_mod, v_div, v_pow9, v_pow18, v_mulL, v_mulR, v_divmod, v_lenL, v_lenT, v_sum, v_eqL, v_listOf, v_inT2, v_sorted, sortB_f, v_sortL, v_sortT, v_sortDL, v_sortDT, v_sortDP, v_keep, v_tupL, v_tupT, v_sumL, v_sumT, v_app, v_neL, v_pow39, v_pow40, ob_nil, ob_zero, ob_1, ob_2, ob_3, ob_4, ob_5, ob_6, ob_7, ob_8, ll_n, ll_b, ll_i, ll_s, bs_n, bs_v, bs_l, bs_s, llA_ints, List.all_cons, List.all_nil, Bool.and_true, Bool.true_and, Bool.false_and, Bool.and_false, Bool.and_self, v_isN0, v_isNi, v_notN0, v_notNi, v_ixL, v_ixT, v_cutL, v_cutT, k_ii, k_ib, k_bi, k_bb, k_ll, k_lt, k_tl, k_tt, t_i, t_b, t_l, t_t, isR, if_true, true_and, and_true, and_self, if_false, if_pos, Bool.not_true, Bool.not_false, List.length_cons, List.length_nil, List.replicate, List.cons_append, List.nil_append, List.head?_cons, List.tail_cons, List.any_nil, List.any_cons, Bool.false_eq_true, Bool.or_false, Bool.false_or, beq_self_eq_true, Nat.reduceSub, Nat.reduceAdd, Nat.reduceLeDiff, Nat.reduceBEq, Nat.reduceEqDiff, reduceIte, eq_self, reduceCtorEq, kp_p1, kp_p2, kp_p3, kp_p4, kp_p5, kp_p6, kp_h, kp_d, kp_l1, kp_l2, kp_l3, kp_l4, kp_l5, kp_l6, kp_cups, kp_scoops, kp_rows, kp_looks, kp_held, kp_done, kp_choose, kp_nums, kp_stand, Int.reduceToNat, Int.reduceBEq, Nat.zero_add, Nat.reduceLT], by simp (maxSteps := 1000000) (disch := first | omega | exact Or.inl rfl | exact Or.inr rfl | exact f_non | exact f_val _ | exact f_own _ | (simp only [List.length_map, List.length_replicate, List.length_append, List.length_cons, List.length_nil, firstI_length, List.length_range, rowsD_length, List.length_drop, List.length_take, sortB_len, rangeI_len]; omega)) only [↓rb, ↓r_ofO, ↓r_den, ↓r_oX1, ↓r_oX2, ↓r_bX1, ↓r_bX2, ↓r_lX1, ↓r_lX2, ↓r_C, ↓r_Var, ↓r_Val, ↓r_Move, ↓r_fz, ↓r_ofD, ↓r_Op, ↓r_eOp, ↓r_Un, ↓r_CB, ↓r_eCB, ↓r_Mul, ↓r_Nil, ↓r_Cons, ↓r_Lst, ↓r_Tup, ↓r_Bl, ↓r_And, ↓r_Or, ↓r_NotM, ↓r_Yes, ↓r_If, ↓r_Chain, ↓r_Next, ↓r_Seq, ↓r_Bk, ↓r_Ct, ↓r_Never, ↓r_Ret, ↓r_RetN, ↓r_Expr, ↓r_sIf, ↓r_Set, ↓r_Asg, ↓r_Par, ↓r_bName, ↓r_bNil, ↓r_bCons, ↓r_bTup, ↓r_bTupL, ↓r_free, ↓f_non, ↓f_val, ↓f_own, ↓f_pin, ↓r_toSl, ↓r_fzR, ↓r_dAnd, ↓r_dOr, ↓r_dNot, ↓r_ixO, ↓r_Put, ↓r_Mut, ↓r_arNil, ↓r_arV, ↓r_arR, ↓r_Call, ↓r_CallK, ↓r_CallKD, ↓r_CallT, ↓r_For, ↓r_Lc, ↓r_iSeq, ↓r_iRng1, ↓r_iRng2, ↓r_iEnum, ↓r_iEnumA, ↓r_iEnumB, ↓r_TR1, ↓r_LenO, ↓r_NeO, ↓r_iZip, ↓r_iZipB, ↓r_LenSet, ↓r_step, ↓r_LR1, ↓r_LR2, ↓r_oNone, ↓r_oSome, ↓r_Cut, ↓r_Rev, ↓r_RevA, ↓r_keep, ↓r_Raise, ↓r_Try, ↓r_endX, ↓r_Exn, ↓r_Fld, ↓r_FldM, ↓r_FldAdd, ↓r_bFld, ↓r_Meth, ↓r_MethT, ↓r_Make, ↓r_Par3, ↓r_AugN, ↓r_AugPut, ↓f_exn, ↓nx_nil, ↓nx_n, ↓nx_v, ↓nx_o, ↓nx_x, ↓r_Isi, ↓r_IsiT, ↓r_Bor, ↓r_noEx, ↓r_wipe0, ↓r_wipe1, ↓r_outs0, ↓r_outs1, ↓r_out1, ↓r_out2, ↓r_mkA0, ↓r_mkA1, ↓r_mkA2, ↓r_wb0, ↓r_wb1, ↓r_wb2, ↓r_Said, ↓r_hide0, ↓r_hide1, ↓r_hideV, ↓r_hideO, ↓r_hideN, ↓r_IsE, ↓r_IsE2, ↓r_iZip3, ↓r_Mt, ↓r_Pre, ↓r_CutO, ↓r_setOwn, ↓r_Copy, ↓r_pick0, ↓r_pick1, ↓r_val0, ↓r_val1, ↓g0, ↓g1, ↓g2, ↓g3, ↓g4, ↓g5, ↓g6, ↓g7, ↓g8, ↓g9, ↓g10, ↓g11, ↓g12, ↓g13, ↓g14, ↓g15, ↓g16, ↓g17, ↓g18, ↓g19, ↓u0, ↓u1, ↓u2, ↓u3, ↓u4, ↓u5, ↓u6, ↓u7, ↓u8, ↓u9, ↓u10, ↓u11, ↓u12, ↓u13, ↓u14, ↓u15, ↓u16, ↓u17, ↓u18, ↓u19, v_eqE0, v_neE0, K_nb, K_ni, K_ns, K_nl, K_nt, K_bb, K_bi, K_bs, K_bl, K_bt, K_ib, K_ii, K_is, K_il, K_it, K_sb, K_si, K_ss, K_sl, K_st, K_lb, K_li, K_ls, K_ll, K_lt, K_tb, K_ti, K_ts, K_tl, K_tt, K_db, K_di, K_ds, K_dl, K_dt, t_n, t_d, t_s, r_outO1, r_outO2, r_Ask1, r_Ask2, v_TR, v_add, v_sub, v_neg, v_lt, v_le, v_gt, v_ge, v_eq, v_ne, v_max2, v_min2, v_mod, v_div, v_pow9, v_pow18, v_mulL, v_mulR, v_divmod, v_lenL, v_lenT, v_sum, v_eqL, v_listOf, v_inT2, v_sorted, sortB_f, v_sortL, v_sortT, v_sortDL, v_sortDT, v_sortDP, v_keep, v_tupL, v_tupT, v_sumL, v_sumT, v_app, v_neL, v_pow39, v_pow40, ob_nil, ob_zero, ob_1, ob_2, ob_3, ob_4, ob_5, ob_6, ob_7, ob_8, ll_n, ll_b, ll_i, ll_s, bs_n, bs_v, bs_l, bs_s, llA_ints, List.all_cons, List.all_nil, Bool.and_true, Bool.true_and, Bool.false_and, Bool.and_false, Bool.and_self, v_isN0, v_isNi, v_notN0, v_notNi, v_ixL, v_ixT, v_cutL, v_cutT, k_ii, k_ib, k_bi, k_bb, k_ll, k_lt, k_tl, k_tt, t_i, t_b, t_l, t_t, isR, if_true, true_and, and_true, and_self, if_false, if_pos, Bool.not_true, Bool.not_false, List.length_cons, List.length_nil, List.replicate, List.cons_append, List.nil_append, List.head?_cons, List.tail_cons, List.any_nil, List.any_cons, Bool.false_eq_true, Bool.or_false, Bool.false_or, beq_self_eq_true, Nat.reduceSub, Nat.reduceAdd, Nat.reduceLeDiff, Nat.reduceBEq, Nat.reduceEqDiff, reduceIte, eq_self, reduceCtorEq, kp_p1, kp_p2, kp_p3, kp_p4, kp_p5, kp_p6, kp_h, kp_d, kp_l1, kp_l2, kp_l3, kp_l4, kp_l5, kp_l6, kp_cups, kp_scoops, kp_rows, kp_looks, kp_held, kp_done, kp_choose, kp_nums, kp_stand, Int.reduceToNat, Int.reduceBEq, Nat.zero_add, Nat.reduceLT], by simp (maxSteps := 1000000) (disch := first | omega | exact Or.inl rfl | exact Or.inr rfl | exact f_non | exact f_val _ | exact f_own _ | (simp only [List.length_map, List.length_replicate, List.length_append, List.length_cons, List.length_nil, firstI_length, List.length_range, rowsD_length, List.length_drop, List.length_take, sortB_len, rangeI_len]; omega)) only [↓rb, ↓r_ofO, ↓r_den, ↓r_oX1, ↓r_oX2, ↓r_bX1, ↓r_bX2, ↓r_lX1, ↓r_lX2, ↓r_C, ↓r_Var, ↓r_Val, ↓r_Move, ↓r_fz, ↓r_ofD, ↓r_Op, ↓r_eOp, ↓r_Un, ↓r_CB, ↓r_eCB, ↓r_Mul, ↓r_Nil, ↓r_Cons, ↓r_Lst, ↓r_Tup, ↓r_Bl, ↓r_And, ↓r_Or, ↓r_NotM, ↓r_Yes, ↓r_If, ↓r_Chain, ↓r_Next, ↓r_Seq, ↓r_Bk, ↓r_Ct, ↓r_Never, ↓r_Ret, ↓r_RetN, ↓r_Expr, ↓r_sIf, ↓r_Set, ↓r_Asg, ↓r_Par, ↓r_bName, ↓r_bNil, ↓r_bCons, ↓r_bTup, ↓r_bTupL, ↓r_free, ↓f_non, ↓f_val, ↓f_own, ↓f_pin, ↓r_toSl, ↓r_fzR, ↓r_dAnd, ↓r_dOr, ↓r_dNot, ↓r_ixO, ↓r_Put, ↓r_Mut, ↓r_arNil, ↓r_arV, ↓r_arR, ↓r_Call, ↓r_CallK, ↓r_CallKD, ↓r_CallT, ↓r_For, ↓r_Lc, ↓r_iSeq, ↓r_iRng1, ↓r_iRng2, ↓r_iEnum, ↓r_iEnumA, ↓r_iEnumB, ↓r_TR1, ↓r_LenO, ↓r_NeO, ↓r_iZip, ↓r_iZipB, ↓r_LenSet, ↓r_step, ↓r_LR1, ↓r_LR2, ↓r_oNone, ↓r_oSome, ↓r_Cut, ↓r_Rev, ↓r_RevA, ↓r_keep, ↓r_Raise, ↓r_Try, ↓r_endX, ↓r_Exn, ↓r_Fld, ↓r_FldM, ↓r_FldAdd, ↓r_bFld, ↓r_Meth, ↓r_MethT, ↓r_Make, ↓r_Par3, ↓r_AugN, ↓r_AugPut, ↓f_exn, ↓nx_nil, ↓nx_n, ↓nx_v, ↓nx_o, ↓nx_x, ↓r_Isi, ↓r_IsiT, ↓r_Bor, ↓r_noEx, ↓r_wipe0, ↓r_wipe1, ↓r_outs0, ↓r_outs1, ↓r_out1, ↓r_out2, ↓r_mkA0, ↓r_mkA1, ↓r_mkA2, ↓r_wb0, ↓r_wb1, ↓r_wb2, ↓r_Said, ↓r_hide0, ↓r_hide1, ↓r_hideV, ↓r_hideO, ↓r_hideN, ↓r_IsE, ↓r_IsE2, ↓r_iZip3, ↓r_Mt, ↓r_Pre, ↓r_CutO, ↓r_setOwn, ↓r_Copy, ↓r_pick0, ↓r_pick1, ↓r_val0, ↓r_val1, ↓g0, ↓g1, ↓g2, ↓g3, ↓g4, ↓g5, ↓g6, ↓g7, ↓g8, ↓g9, ↓g10, ↓g11, ↓g12, ↓g13, ↓g14, ↓g15, ↓g16, ↓g17, ↓g18, ↓g19, ↓u0, ↓u1, ↓u2, ↓u3, ↓u4, ↓u5, ↓u6, ↓u7, ↓u8, ↓u9, ↓u10, ↓u11, ↓u12, ↓u13, ↓u14, ↓u15, ↓u16, ↓u17, ↓u18, ↓u19, v_eqE0, v_neE0, K_nb, K_ni, K_ns, K_nl, K_nt, K_bb, K_bi, K_bs, K_bl, K_bt, K_ib, K_ii, K_is, K_il, K_it, K_sb, K_si, K_ss, K_sl, K_st, K_lb, K_li, K_ls, K_ll, K_lt, K_tb, K_ti, K_ts, K_tl, K_tt, K_db, K_di, K_ds, K_dl, K_dt, t_n, t_d, t_s, r_outO1, r_outO2, r_Ask1, r_Ask2, v_TR, v_add, v_sub, v_neg, v_lt, v_le, v_gt, v_ge, v_eq, v_ne, v_max2, v_min2, v_mod, v_div, v_pow9, v_pow18, v_mulL, v_mulR, v_divmod, v_lenL, v_lenT, v_sum, v_eqL, v_listOf, v_inT2, v_sorted, sortB_f, v_sortL, v_sortT, v_sortDL, v_sortDT, v_sortDP, v_keep, v_tupL, v_tupT, v_sumL, v_sumT, v_app, v_neL, v_pow39, v_pow40, ob_nil, ob_zero, ob_1, ob_2, ob_3, ob_4, ob_5, ob_6, ob_7, ob_8, ll_n, ll_b, ll_i, ll_s, bs_n, bs_v, bs_l, bs_s, llA_ints, List.all_cons, List.all_nil, Bool.and_true, Bool.true_and, Bool.false_and, Bool.and_false, Bool.and_self, v_isN0, v_isNi, v_notN0, v_notNi, v_ixL, v_ixT, v_cutL, v_cutT, k_ii, k_ib, k_bi, k_bb, k_ll, k_lt, k_tl, k_tt, t_i, t_b, t_l, t_t, isR, if_true, true_and, and_true, and_self, if_false, if_pos, Bool.not_true, Bool.not_false, List.length_cons, List.length_nil, List.replicate, List.cons_append, List.nil_append, List.head?_cons, List.tail_cons, List.any_nil, List.any_cons, Bool.false_eq_true, Bool.or_false, Bool.false_or, beq_self_eq_true, Nat.reduceSub, Nat.reduceAdd, Nat.reduceLeDiff, Nat.reduceBEq, Nat.reduceEqDiff, reduceIte, eq_self, reduceCtorEq, kp_p1, kp_p2, kp_p3, kp_p4, kp_p5, kp_p6, kp_h, kp_d, kp_l1, kp_l2, kp_l3, kp_l4, kp_l5, kp_l6, kp_cups, kp_scoops, kp_rows, kp_looks, kp_held, kp_done, kp_choose, kp_nums, kp_stand, Int.reduceToNat, Int.reduceBEq, Nat.zero_add, Nat.reduceLT, z, Nat.zero_add], by simp (maxSteps := 1000000) (disch := first | omega | exact Or.inl rfl | exact Or.inr rfl | exact f_non | exact f_val _ | exact f_own _ | (simp only [List.length_map, List.length_replicate, List.length_append, List.length_cons, List.length_nil, firstI_length, List.length_range, rowsD_length, List.length_drop, List.length_take, sortB_len, rangeI_len]; omega)) only [↓rb, ↓r_ofO, ↓r_den, ↓r_oX1, ↓r_oX2, ↓r_bX1, ↓r_bX2, ↓r_lX1, ↓r_lX2, ↓r_C, ↓r_Var, ↓r_Val, ↓r_Move, ↓r_fz, ↓r_ofD, ↓r_Op, ↓r_eOp, ↓r_Un, ↓r_CB, ↓r_eCB, ↓r_Mul, ↓r_Nil, ↓r_Cons, ↓r_Lst, ↓r_Tup, ↓r_Bl, ↓r_And, ↓r_Or, ↓r_NotM, ↓r_Yes, ↓r_If, ↓r_Chain, ↓r_Next, ↓r_Seq, ↓r_Bk, ↓r_Ct, ↓r_Never, ↓r_Ret, ↓r_RetN, ↓r_Expr, ↓r_sIf, ↓r_Set, ↓r_Asg, ↓r_Par, ↓r_bName, ↓r_bNil, ↓r_bCons, ↓r_bTup, ↓r_bTupL, ↓r_free, ↓f_non, ↓f_val, ↓f_own, ↓f_pin, ↓r_toSl, ↓r_fzR, ↓r_dAnd, ↓r_dOr, ↓r_dNot, ↓r_ixO, ↓r_Put, ↓r_Mut, ↓r_arNil, ↓r_arV, ↓r_arR, ↓r_Call, ↓r_CallK, ↓r_CallKD, ↓r_CallT, ↓r_For, ↓r_Lc, ↓r_iSeq, ↓r_iRng1, ↓r_iRng2, ↓r_iEnum, ↓r_iEnumA, ↓r_iEnumB, ↓r_TR1, ↓r_LenO, ↓r_NeO, ↓r_iZip, ↓r_iZipB, ↓r_LenSet, ↓r_step, ↓r_LR1, ↓r_LR2, ↓r_oNone, ↓r_oSome, ↓r_Cut, ↓r_Rev, ↓r_RevA, ↓r_keep, ↓r_Raise, ↓r_Try, ↓r_endX, ↓r_Exn, ↓r_Fld, ↓r_FldM, ↓r_FldAdd, ↓r_bFld, ↓r_Meth, ↓r_MethT, ↓r_Make, ↓r_Par3, ↓r_AugN, ↓r_AugPut, ↓f_exn, ↓nx_nil, ↓nx_n, ↓nx_v, ↓nx_o, ↓nx_x, ↓r_Isi, ↓r_IsiT, ↓r_Bor, ↓r_noEx, ↓r_wipe0, ↓r_wipe1, ↓r_outs0, ↓r_outs1, ↓r_out1, ↓r_out2, ↓r_mkA0, ↓r_mkA1, ↓r_mkA2, ↓r_wb0, ↓r_wb1, ↓r_wb2, ↓r_Said, ↓r_hide0, ↓r_hide1, ↓r_hideV, ↓r_hideO, ↓r_hideN, ↓r_IsE, ↓r_IsE2, ↓r_iZip3, ↓r_Mt, ↓r_Pre, ↓r_CutO, ↓r_setOwn, ↓r_Copy, ↓r_pick0, ↓r_pick1, ↓r_val0, ↓r_val1, ↓g0, ↓g1, ↓g2, ↓g3, ↓g4, ↓g5, ↓g6, ↓g7, ↓g8, ↓g9, ↓g10, ↓g11, ↓g12, ↓g13, ↓g14, ↓g15, ↓g16, ↓g17, ↓g18, ↓g19, ↓u0, ↓u1, ↓u2, ↓u3, ↓u4, ↓u5, ↓u6, ↓u7, ↓u8, ↓u9, ↓u10, ↓u11, ↓u12, ↓u13, ↓u14, ↓u15, ↓u16, ↓u17, ↓u18, ↓u19, v_eqE0, v_neE0, K_nb, K_ni, K_ns, K_nl, K_nt, K_bb, K_bi, K_bs, K_bl, K_bt, K_ib, K_ii, K_is, K_il, K_it, K_sb, K_si, K_ss, K_sl, K_st, K_lb, K_li, K_ls, K_ll, K_lt, K_tb, K_ti, K_ts, K_tl, K_tt, K_db, K_di, K_ds, K_dl, K_dt, t_n, t_d, t_s, r_outO1, r_outO2, r_Ask1, r_Ask2, v_TR, v_add, v_sub, v_neg, v_lt, v_le, v_gt, v_ge, v_eq, v_ne, v_max2, v_min2, v_mod, v_div, v_pow9, v_pow18, v_mulL, v_mulR, v_divmod, v_lenL, v_lenT, v_sum, v_eqL, v_listOf, v_inT2, v_sorted, sortB_f, v_sortL, v_sortT, v_sortDL, v_sortDT, v_sortDP, v_keep, v_tupL, v_tupT, v_sumL, v_sumT, v_app, v_neL, v_pow39, v_pow40, ob_nil, ob_zero, ob_1, ob_2, ob_3, ob_4, ob_5, ob_6, ob_7, ob_8, ll_n, ll_b, ll_i, ll_s, bs_n, bs_v, bs_l, bs_s, llA_ints, List.all_cons, List.all_nil, Bool.and_true, Bool.true_and, Bool.false_and, Bool.and_false, Bool.and_self, v_isN0, v_isNi, v_notN0, v_notNi, v_ixL, v_ixT, v_cutL, v_cutT, k_ii, k_ib, k_bi, k_bb, k_ll, k_lt, k_tl, k_tt, t_i, t_b, t_l, t_t, isR, if_true, true_and, and_true, and_self, if_false, if_pos, Bool.not_true, Bool.not_false, List.length_cons, List.length_nil, List.replicate, List.cons_append, List.nil_append, List.head?_cons, List.tail_cons, List.any_nil, List.any_cons, Bool.false_eq_true, Bool.or_false, Bool.false_or, beq_self_eq_true, Nat.reduceSub, Nat.reduceAdd, Nat.reduceLeDiff, Nat.reduceBEq, Nat.reduceEqDiff, reduceIte, eq_self, reduceCtorEq, kp_p1, kp_p2, kp_p3, kp_p4, kp_p5, kp_p6, kp_h, kp_d, kp_l1, kp_l2, kp_l3, kp_l4, kp_l5, kp_l6, kp_cups, kp_scoops, kp_rows, kp_looks, kp_held, kp_done, kp_choose, kp_nums, kp_stand, Int.reduceToNat, Int.reduceBEq, Nat.zero_add, Nat.reduceLT]⟩) (by rw [rangeD_length]; simp; omega)
  rw [rangeD_length, List.nil_append, show (n - p + 1 - 1).toNat = (n - p).toNat by omega] at lc
  have e1 : (List.range (n - p).toNat).map (fun i => PyData.int (leastI n g p row (1 + ((0 + i : Nat) : Int)))) = (firstI n g p row).map .int := by
    unfold firstI
    rw [List.map_map]
    apply List.map_congr_left
    intro i _
    simp
  rw [e1] at lc
  have hl := firstI_length n g p row
  have e2 : (firstI n g p row)[(n - p).toNat - 1]? = some ((firstI n g p row).getD ((n - p).toNat - 1) 0) := by
    rw [List.getD_eq_getElem?_getD, List.getElem?_eq_getElem (by omega)]; rfl
  unfold d_next_row
  simp (maxSteps := 1000000) (disch := first | omega | exact Or.inl rfl | exact Or.inr rfl | exact f_non | exact f_val _ | exact f_own _ | (simp only [List.length_map, List.length_replicate, List.length_append, List.length_cons, List.length_nil, firstI_length, List.length_range, rowsD_length, List.length_drop, List.length_take, sortB_len, rangeI_len]; omega)) only [↓rb, ↓r_ofO, ↓r_den, ↓r_oX1, ↓r_oX2, ↓r_bX1, ↓r_bX2, ↓r_lX1, ↓r_lX2, ↓r_C, ↓r_Var, ↓r_Val, ↓r_Move, ↓r_fz, ↓r_ofD, ↓r_Op, ↓r_eOp, ↓r_Un, ↓r_CB, ↓r_eCB, ↓r_Mul, ↓r_Nil, ↓r_Cons, ↓r_Lst, ↓r_Tup, ↓r_Bl, ↓r_And, ↓r_Or, ↓r_NotM, ↓r_Yes, ↓r_If, ↓r_Chain, ↓r_Next, ↓r_Seq, ↓r_Bk, ↓r_Ct, ↓r_Never, ↓r_Ret, ↓r_RetN, ↓r_Expr, ↓r_sIf, ↓r_Set, ↓r_Asg, ↓r_Par, ↓r_bName, ↓r_bNil, ↓r_bCons, ↓r_bTup, ↓r_bTupL, ↓r_free, ↓f_non, ↓f_val, ↓f_own, ↓f_pin, ↓r_toSl, ↓r_fzR, ↓r_dAnd, ↓r_dOr, ↓r_dNot, ↓r_ixO, ↓r_Put, ↓r_Mut, ↓r_arNil, ↓r_arV, ↓r_arR, ↓r_Call, ↓r_CallK, ↓r_CallKD, ↓r_CallT, ↓r_For, ↓r_Lc, ↓r_iSeq, ↓r_iRng1, ↓r_iRng2, ↓r_iEnum, ↓r_iEnumA, ↓r_iEnumB, ↓r_TR1, ↓r_LenO, ↓r_NeO, ↓r_iZip, ↓r_iZipB, ↓r_LenSet, ↓r_step, ↓r_LR1, ↓r_LR2, ↓r_oNone, ↓r_oSome, ↓r_Cut, ↓r_Rev, ↓r_RevA, ↓r_keep, ↓r_Raise, ↓r_Try, ↓r_endX, ↓r_Exn, ↓r_Fld, ↓r_FldM, ↓r_FldAdd, ↓r_bFld, ↓r_Meth, ↓r_MethT, ↓r_Make, ↓r_Par3, ↓r_AugN, ↓r_AugPut, ↓f_exn, ↓nx_nil, ↓nx_n, ↓nx_v, ↓nx_o, ↓nx_x, ↓r_Isi, ↓r_IsiT, ↓r_Bor, ↓r_noEx, ↓r_wipe0, ↓r_wipe1, ↓r_outs0, ↓r_outs1, ↓r_out1, ↓r_out2, ↓r_mkA0, ↓r_mkA1, ↓r_mkA2, ↓r_wb0, ↓r_wb1, ↓r_wb2, ↓r_Said, ↓r_hide0, ↓r_hide1, ↓r_hideV, ↓r_hideO, ↓r_hideN, ↓r_IsE, ↓r_IsE2, ↓r_iZip3, ↓r_Mt, ↓r_Pre, ↓r_CutO, ↓r_setOwn, ↓r_Copy, ↓r_pick0, ↓r_pick1, ↓r_val0, ↓r_val1, ↓g0, ↓g1, ↓g2, ↓g3, ↓g4, ↓g5, ↓g6, ↓g7, ↓g8, ↓g9, ↓g10, ↓g11, ↓g12, ↓g13, ↓g14, ↓g15, ↓g16, ↓g17, ↓g18, ↓g19, ↓u0, ↓u1, ↓u2, ↓u3, ↓u4, ↓u5, ↓u6, ↓u7, ↓u8, ↓u9, ↓u10, ↓u11, ↓u12, ↓u13, ↓u14, ↓u15, ↓u16, ↓u17, ↓u18, ↓u19, v_eqE0, v_neE0, K_nb, K_ni, K_ns, K_nl, K_nt, K_bb, K_bi, K_bs, K_bl, K_bt, K_ib, K_ii, K_is, K_il, K_it, K_sb, K_si, K_ss, K_sl, K_st, K_lb, K_li, K_ls, K_ll, K_lt, K_tb, K_ti, K_ts, K_tl, K_tt, K_db, K_di, K_ds, K_dl, K_dt, t_n, t_d, t_s, r_outO1, r_outO2, r_Ask1, r_Ask2, v_TR, v_add, v_sub, v_neg, v_lt, v_le, v_gt, v_ge, v_eq, v_ne, v_max2, v_min2, v_mod, v_div, v_pow9, v_pow18, v_mulL, v_mulR, v_divmod, v_lenL, v_lenT, v_sum, v_eqL, v_listOf, v_inT2, v_sorted, sortB_f, v_sortL, v_sortT, v_sortDL, v_sortDT, v_sortDP, v_keep, v_tupL, v_tupT, v_sumL, v_sumT, v_app, v_neL, v_pow39, v_pow40, ob_nil, ob_zero, ob_1, ob_2, ob_3, ob_4, ob_5, ob_6, ob_7, ob_8, ll_n, ll_b, ll_i, ll_s, bs_n, bs_v, bs_l, bs_s, llA_ints, List.all_cons, List.all_nil, Bool.and_true, Bool.true_and, Bool.false_and, Bool.and_false, Bool.and_self, v_isN0, v_isNi, v_notN0, v_notNi, v_ixL, v_ixT, v_cutL, v_cutT, k_ii, k_ib, k_bi, k_bb, k_ll, k_lt, k_tl, k_tt, t_i, t_b, t_l, t_t, isR, if_true, true_and, and_true, and_self, if_false, if_pos, Bool.not_true, Bool.not_false, List.length_cons, List.length_nil, List.replicate, List.cons_append, List.nil_append, List.head?_cons, List.tail_cons, List.any_nil, List.any_cons, Bool.false_eq_true, Bool.or_false, Bool.false_or, beq_self_eq_true, Nat.reduceSub, Nat.reduceAdd, Nat.reduceLeDiff, Nat.reduceBEq, Nat.reduceEqDiff, reduceIte, eq_self, reduceCtorEq, kp_p1, kp_p2, kp_p3, kp_p4, kp_p5, kp_p6, kp_h, kp_d, kp_l1, kp_l2, kp_l3, kp_l4, kp_l5, kp_l6, kp_cups, kp_scoops, kp_rows, kp_looks, kp_held, kp_done, kp_choose, kp_nums, kp_stand, Int.reduceToNat, Int.reduceBEq, Nat.zero_add, Nat.reduceLT, show (n - p + 1 - 1).toNat = (n - p).toNat from by omega, lc, v_at_1, List.length_map, List.getElem?_map, hl, e2, Option.map_some, v_rep1, v_catL, List.length_replicate]
  unfold nextI
  rw [List.map_append, List.map_replicate]
theorem row_at_loop (n g p b : Int) (h1 : 2 ≤ n) (h2 : n ≤ 40) (h3 : 0 ≤ g) (h4 : 1 ≤ p) (h5 : p ≤ n - 1) : ∀ (f k : Nat) (s4 s6 : Sl), b = (k : Int) + (f : Nat) → (s4 = .val (.list ((rowI n g p k).map .int)) ∨ s4 = .own false (.lst ((rowI n g p k).map .int))) → (s6 = .non ∨ ∃ d, s6 = .val d) →
    ∃ r', sSeq (sWhile c_row_at_1 w_row_at_1) (sRet (ofD (dTup (dCons (dVar 4) (dCons (dVar 5) dNil))))) [.val (.int n), .val (.int g), .val (.int p), .val (.int b), s4, .val (.int (k : Nat)), s6] = .ok (.rt (.val (.tuple [.list ((rowI n g p (stopI n g p f k)).map .int), .int (stopI n g p f k : Nat)])), r')
  | 0, k, s4, s6, hb, h4', h6 => by
    have hb2 : ¬ (k : Int) < b := by omega
    rw [r_Seq, sWhile_step]
    rcases h4' with rfl | rfl <;> (simp (maxSteps := 1000000) (disch := first | omega | exact Or.inl rfl | exact Or.inr rfl | exact f_non | exact f_val _ | exact f_own _ | (simp only [List.length_map, List.length_replicate, List.length_append, List.length_cons, List.length_nil, firstI_length, List.length_range, rowsD_length, List.length_drop, List.length_take, sortB_len, rangeI_len]; omega)) only [↓rb, ↓r_ofO, ↓r_den, ↓r_oX1, ↓r_oX2, ↓r_bX1, ↓r_bX2, ↓r_lX1, ↓r_lX2, ↓r_C, ↓r_Var, ↓r_Val, ↓r_Move, ↓r_fz, ↓r_ofD, ↓r_Op, ↓r_eOp, ↓r_Un, ↓r_CB, ↓r_eCB, ↓r_Mul, ↓r_Nil, ↓r_Cons, ↓r_Lst, ↓r_Tup, ↓r_Bl, ↓r_And, ↓r_Or, ↓r_NotM, ↓r_Yes, ↓r_If, ↓r_Chain, ↓r_Next, ↓r_Seq, ↓r_Bk, ↓r_Ct, ↓r_Never, ↓r_Ret, ↓r_RetN, ↓r_Expr, ↓r_sIf, ↓r_Set, ↓r_Asg, ↓r_Par, ↓r_bName, ↓r_bNil, ↓r_bCons, ↓r_bTup, ↓r_bTupL, ↓r_free, ↓f_non, ↓f_val, ↓f_own, ↓f_pin, ↓r_toSl, ↓r_fzR, ↓r_dAnd, ↓r_dOr, ↓r_dNot, ↓r_ixO, ↓r_Put, ↓r_Mut, ↓r_arNil, ↓r_arV, ↓r_arR, ↓r_Call, ↓r_CallK, ↓r_CallKD, ↓r_CallT, ↓r_For, ↓r_Lc, ↓r_iSeq, ↓r_iRng1, ↓r_iRng2, ↓r_iEnum, ↓r_iEnumA, ↓r_iEnumB, ↓r_TR1, ↓r_LenO, ↓r_NeO, ↓r_iZip, ↓r_iZipB, ↓r_LenSet, ↓r_step, ↓r_LR1, ↓r_LR2, ↓r_oNone, ↓r_oSome, ↓r_Cut, ↓r_Rev, ↓r_RevA, ↓r_keep, ↓r_Raise, ↓r_Try, ↓r_endX, ↓r_Exn, ↓r_Fld, ↓r_FldM, ↓r_FldAdd, ↓r_bFld, ↓r_Meth, ↓r_MethT, ↓r_Make, ↓r_Par3, ↓r_AugN, ↓r_AugPut, ↓f_exn, ↓nx_nil, ↓nx_n, ↓nx_v, ↓nx_o, ↓nx_x, ↓r_Isi, ↓r_IsiT, ↓r_Bor, ↓r_noEx, ↓r_wipe0, ↓r_wipe1, ↓r_outs0, ↓r_outs1, ↓r_out1, ↓r_out2, ↓r_mkA0, ↓r_mkA1, ↓r_mkA2, ↓r_wb0, ↓r_wb1, ↓r_wb2, ↓r_Said, ↓r_hide0, ↓r_hide1, ↓r_hideV, ↓r_hideO, ↓r_hideN, ↓r_IsE, ↓r_IsE2, ↓r_iZip3, ↓r_Mt, ↓r_Pre, ↓r_CutO, ↓r_setOwn, ↓r_Copy, ↓r_pick0, ↓r_pick1, ↓r_val0, ↓r_val1, ↓g0, ↓g1, ↓g2, ↓g3, ↓g4, ↓g5, ↓g6, ↓g7, ↓g8, ↓g9, ↓g10, ↓g11, ↓g12, ↓g13, ↓g14, ↓g15, ↓g16, ↓g17, ↓g18, ↓g19, ↓u0, ↓u1, ↓u2, ↓u3, ↓u4, ↓u5, ↓u6, ↓u7, ↓u8, ↓u9, ↓u10, ↓u11, ↓u12, ↓u13, ↓u14, ↓u15, ↓u16, ↓u17, ↓u18, ↓u19, v_eqE0, v_neE0, K_nb, K_ni, K_ns, K_nl, K_nt, K_bb, K_bi, K_bs, K_bl, K_bt, K_ib, K_ii, K_is, K_il, K_it, K_sb, K_si, K_ss, K_sl, K_st, K_lb, K_li, K_ls, K_ll, K_lt, K_tb, K_ti, K_ts, K_tl, K_tt, K_db, K_di, K_ds, K_dl, K_dt, t_n, t_d, t_s, r_outO1, r_outO2, r_Ask1, r_Ask2, v_TR, v_add, v_sub, v_neg, v_lt, v_le, v_gt, v_ge, v_eq, v_ne, v_max2, v_min2, v_mod, v_div, v_pow9, v_pow18, v_mulL, v_mulR, v_divmod, v_lenL, v_lenT, v_sum, v_eqL, v_listOf, v_inT2, v_sorted, sortB_f, v_sortL, v_sortT, v_sortDL, v_sortDT, v_sortDP, v_keep, v_tupL, v_tupT, v_sumL, v_sumT, v_app, v_neL, v_pow39, v_pow40, ob_nil, ob_zero, ob_1, ob_2, ob_3, ob_4, ob_5, ob_6, ob_7, ob_8, ll_n, ll_b, ll_i, ll_s, bs_n, bs_v, bs_l, bs_s, llA_ints, List.all_cons, List.all_nil, Bool.and_true, Bool.true_and, Bool.false_and, Bool.and_false, Bool.and_self, v_isN0, v_isNi, v_notN0, v_notNi, v_ixL, v_ixT, v_cutL, v_cutT, k_ii, k_ib, k_bi, k_bb, k_ll, k_lt, k_tl, k_tt, t_i, t_b, t_l, t_t, isR, if_true, true_and, and_true, and_self, if_false, if_pos, Bool.not_true, Bool.not_false, List.length_cons, List.length_nil, List.replicate, List.cons_append, List.nil_append, List.head?_cons, List.tail_cons, List.any_nil, List.any_cons, Bool.false_eq_true, Bool.or_false, Bool.false_or, beq_self_eq_true, Nat.reduceSub, Nat.reduceAdd, Nat.reduceLeDiff, Nat.reduceBEq, Nat.reduceEqDiff, reduceIte, eq_self, reduceCtorEq, kp_p1, kp_p2, kp_p3, kp_p4, kp_p5, kp_p6, kp_h, kp_d, kp_l1, kp_l2, kp_l3, kp_l4, kp_l5, kp_l6, kp_cups, kp_scoops, kp_rows, kp_looks, kp_held, kp_done, kp_choose, kp_nums, kp_stand, Int.reduceToNat, Int.reduceBEq, Nat.zero_add, Nat.reduceLT, u_c_row_at_1, hb2, decide_false]; exact ⟨_, rfl⟩)
  | f + 1, k, s4, s6, hb, h4', h6 => by
    have hb2 : (k : Int) < b := by omega
    have R := row_ok h1 h3 h4 h5 k
    have en := e_next_row n g p (rowI n g p k) R h1 h2 h3 h4 h5
    have en2 : nextI n g p (rowI n g p k) = rowI n g p (k + 1) := rfl
    rw [en2] at en
    rw [r_Seq, sWhile_step]
    by_cases e : rowI n g p (k + 1) = rowI n g p k
    · have es : stopI n g p (f + 1) k = k := by unfold stopI; rw [if_pos e]
      rw [es]
      rcases h6 with rfl | ⟨d6, rfl⟩ <;> rcases h4' with rfl | rfl <;> (simp (maxSteps := 1000000) (disch := first | omega | exact Or.inl rfl | exact Or.inr rfl | exact f_non | exact f_val _ | exact f_own _ | (simp only [List.length_map, List.length_replicate, List.length_append, List.length_cons, List.length_nil, firstI_length, List.length_range, rowsD_length, List.length_drop, List.length_take, sortB_len, rangeI_len]; omega)) only [↓rb, ↓r_ofO, ↓r_den, ↓r_oX1, ↓r_oX2, ↓r_bX1, ↓r_bX2, ↓r_lX1, ↓r_lX2, ↓r_C, ↓r_Var, ↓r_Val, ↓r_Move, ↓r_fz, ↓r_ofD, ↓r_Op, ↓r_eOp, ↓r_Un, ↓r_CB, ↓r_eCB, ↓r_Mul, ↓r_Nil, ↓r_Cons, ↓r_Lst, ↓r_Tup, ↓r_Bl, ↓r_And, ↓r_Or, ↓r_NotM, ↓r_Yes, ↓r_If, ↓r_Chain, ↓r_Next, ↓r_Seq, ↓r_Bk, ↓r_Ct, ↓r_Never, ↓r_Ret, ↓r_RetN, ↓r_Expr, ↓r_sIf, ↓r_Set, ↓r_Asg, ↓r_Par, ↓r_bName, ↓r_bNil, ↓r_bCons, ↓r_bTup, ↓r_bTupL, ↓r_free, ↓f_non, ↓f_val, ↓f_own, ↓f_pin, ↓r_toSl, ↓r_fzR, ↓r_dAnd, ↓r_dOr, ↓r_dNot, ↓r_ixO, ↓r_Put, ↓r_Mut, ↓r_arNil, ↓r_arV, ↓r_arR, ↓r_Call, ↓r_CallK, ↓r_CallKD, ↓r_CallT, ↓r_For, ↓r_Lc, ↓r_iSeq, ↓r_iRng1, ↓r_iRng2, ↓r_iEnum, ↓r_iEnumA, ↓r_iEnumB, ↓r_TR1, ↓r_LenO, ↓r_NeO, ↓r_iZip, ↓r_iZipB, ↓r_LenSet, ↓r_step, ↓r_LR1, ↓r_LR2, ↓r_oNone, ↓r_oSome, ↓r_Cut, ↓r_Rev, ↓r_RevA, ↓r_keep, ↓r_Raise, ↓r_Try, ↓r_endX, ↓r_Exn, ↓r_Fld, ↓r_FldM, ↓r_FldAdd, ↓r_bFld, ↓r_Meth, ↓r_MethT, ↓r_Make, ↓r_Par3, ↓r_AugN, ↓r_AugPut, ↓f_exn, ↓nx_nil, ↓nx_n, ↓nx_v, ↓nx_o, ↓nx_x, ↓r_Isi, ↓r_IsiT, ↓r_Bor, ↓r_noEx, ↓r_wipe0, ↓r_wipe1, ↓r_outs0, ↓r_outs1, ↓r_out1, ↓r_out2, ↓r_mkA0, ↓r_mkA1, ↓r_mkA2, ↓r_wb0, ↓r_wb1, ↓r_wb2, ↓r_Said, ↓r_hide0, ↓r_hide1, ↓r_hideV, ↓r_hideO, ↓r_hideN, ↓r_IsE, ↓r_IsE2, ↓r_iZip3, ↓r_Mt, ↓r_Pre, ↓r_CutO, ↓r_setOwn, ↓r_Copy, ↓r_pick0, ↓r_pick1, ↓r_val0, ↓r_val1, ↓g0, ↓g1, ↓g2, ↓g3, ↓g4, ↓g5, ↓g6, ↓g7, ↓g8, ↓g9, ↓g10, ↓g11, ↓g12, ↓g13, ↓g14, ↓g15, ↓g16, ↓g17, ↓g18, ↓g19, ↓u0, ↓u1, ↓u2, ↓u3, ↓u4, ↓u5, ↓u6, ↓u7, ↓u8, ↓u9, ↓u10, ↓u11, ↓u12, ↓u13, ↓u14, ↓u15, ↓u16, ↓u17, ↓u18, ↓u19, v_eqE0, v_neE0, K_nb, K_ni, K_ns, K_nl, K_nt, K_bb, K_bi, K_bs, K_bl, K_bt, K_ib, K_ii, K_is, K_il, K_it, K_sb, K_si, K_ss, K_sl, K_st, K_lb, K_li, K_ls, K_ll, K_lt, K_tb, K_ti, K_ts, K_tl, K_tt, K_db, K_di, K_ds, K_dl, K_dt, t_n, t_d, t_s, r_outO1, r_outO2, r_Ask1, r_Ask2, v_TR, v_add, v_sub, v_neg, v_lt, v_le, v_gt, v_ge, v_eq, v_ne, v_max2, v_min2, v_mod, v_div, v_pow9, v_pow18, v_mulL, v_mulR, v_divmod, v_lenL, v_lenT, v_sum, v_eqL, v_listOf, v_inT2, v_sorted, sortB_f, v_sortL, v_sortT, v_sortDL, v_sortDT, v_sortDP, v_keep, v_tupL, v_tupT, v_sumL, v_sumT, v_app, v_neL, v_pow39, v_pow40, ob_nil, ob_zero, ob_1, ob_2, ob_3, ob_4, ob_5, ob_6, ob_7, ob_8, ll_n, ll_b, ll_i, ll_s, bs_n, bs_v, bs_l, bs_s, llA_ints, List.all_cons, List.all_nil, Bool.and_true, Bool.true_and, Bool.false_and, Bool.and_false, Bool.and_self, v_isN0, v_isNi, v_notN0, v_notNi, v_ixL, v_ixT, v_cutL, v_cutT, k_ii, k_ib, k_bi, k_bb, k_ll, k_lt, k_tl, k_tt, t_i, t_b, t_l, t_t, isR, if_true, true_and, and_true, and_self, if_false, if_pos, Bool.not_true, Bool.not_false, List.length_cons, List.length_nil, List.replicate, List.cons_append, List.nil_append, List.head?_cons, List.tail_cons, List.any_nil, List.any_cons, Bool.false_eq_true, Bool.or_false, Bool.false_or, beq_self_eq_true, Nat.reduceSub, Nat.reduceAdd, Nat.reduceLeDiff, Nat.reduceBEq, Nat.reduceEqDiff, reduceIte, eq_self, reduceCtorEq, kp_p1, kp_p2, kp_p3, kp_p4, kp_p5, kp_p6, kp_h, kp_d, kp_l1, kp_l2, kp_l3, kp_l4, kp_l5, kp_l6, kp_cups, kp_scoops, kp_rows, kp_looks, kp_held, kp_done, kp_choose, kp_nums, kp_stand, Int.reduceToNat, Int.reduceBEq, Nat.zero_add, Nat.reduceLT, u_c_row_at_1, hb2, decide_true, u_w_row_at_1, en, e]; exact ⟨_, rfl⟩)
    · have es : stopI n g p (f + 1) k = stopI n g p f (k + 1) := by conv => lhs; unfold stopI
                                                                    rw [if_neg e]
      obtain ⟨r', ih⟩ := row_at_loop n g p b h1 h2 h3 h4 h5 f (k + 1) (.val (.list ((rowI n g p (k + 1)).map .int))) (.val (.list ((rowI n g p (k + 1)).map .int))) (by omega) (.inl rfl) (.inr ⟨_, rfl⟩)
      rw [es]
      rw [r_Seq, rb] at ih
      have ek : ((k + 1 : Nat) : Int) = (k : Int) + 1 := by omega
      rw [ek] at ih
      refine ⟨r', ?_⟩
      rw [← ih]
      rcases h6 with rfl | ⟨d6, rfl⟩ <;> rcases h4' with rfl | rfl <;> (simp (maxSteps := 1000000) (disch := first | omega | exact Or.inl rfl | exact Or.inr rfl | exact f_non | exact f_val _ | exact f_own _ | (simp only [List.length_map, List.length_replicate, List.length_append, List.length_cons, List.length_nil, firstI_length, List.length_range, rowsD_length, List.length_drop, List.length_take, sortB_len, rangeI_len]; omega)) only [↓rb, ↓r_ofO, ↓r_den, ↓r_oX1, ↓r_oX2, ↓r_bX1, ↓r_bX2, ↓r_lX1, ↓r_lX2, ↓r_C, ↓r_Var, ↓r_Val, ↓r_Move, ↓r_fz, ↓r_ofD, ↓r_Op, ↓r_eOp, ↓r_Un, ↓r_CB, ↓r_eCB, ↓r_Mul, ↓r_Nil, ↓r_Cons, ↓r_Lst, ↓r_Tup, ↓r_Bl, ↓r_And, ↓r_Or, ↓r_NotM, ↓r_Yes, ↓r_If, ↓r_Chain, ↓r_Next, ↓r_Seq, ↓r_Bk, ↓r_Ct, ↓r_Never, ↓r_Ret, ↓r_RetN, ↓r_Expr, ↓r_sIf, ↓r_Set, ↓r_Asg, ↓r_Par, ↓r_bName, ↓r_bNil, ↓r_bCons, ↓r_bTup, ↓r_bTupL, ↓r_free, ↓f_non, ↓f_val, ↓f_own, ↓f_pin, ↓r_toSl, ↓r_fzR, ↓r_dAnd, ↓r_dOr, ↓r_dNot, ↓r_ixO, ↓r_Put, ↓r_Mut, ↓r_arNil, ↓r_arV, ↓r_arR, ↓r_Call, ↓r_CallK, ↓r_CallKD, ↓r_CallT, ↓r_For, ↓r_Lc, ↓r_iSeq, ↓r_iRng1, ↓r_iRng2, ↓r_iEnum, ↓r_iEnumA, ↓r_iEnumB, ↓r_TR1, ↓r_LenO, ↓r_NeO, ↓r_iZip, ↓r_iZipB, ↓r_LenSet, ↓r_step, ↓r_LR1, ↓r_LR2, ↓r_oNone, ↓r_oSome, ↓r_Cut, ↓r_Rev, ↓r_RevA, ↓r_keep, ↓r_Raise, ↓r_Try, ↓r_endX, ↓r_Exn, ↓r_Fld, ↓r_FldM, ↓r_FldAdd, ↓r_bFld, ↓r_Meth, ↓r_MethT, ↓r_Make, ↓r_Par3, ↓r_AugN, ↓r_AugPut, ↓f_exn, ↓nx_nil, ↓nx_n, ↓nx_v, ↓nx_o, ↓nx_x, ↓r_Isi, ↓r_IsiT, ↓r_Bor, ↓r_noEx, ↓r_wipe0, ↓r_wipe1, ↓r_outs0, ↓r_outs1, ↓r_out1, ↓r_out2, ↓r_mkA0, ↓r_mkA1, ↓r_mkA2, ↓r_wb0, ↓r_wb1, ↓r_wb2, ↓r_Said, ↓r_hide0, ↓r_hide1, ↓r_hideV, ↓r_hideO, ↓r_hideN, ↓r_IsE, ↓r_IsE2, ↓r_iZip3, ↓r_Mt, ↓r_Pre, ↓r_CutO, ↓r_setOwn, ↓r_Copy, ↓r_pick0, ↓r_pick1, ↓r_val0, ↓r_val1, ↓g0, ↓g1, ↓g2, ↓g3, ↓g4, ↓g5, ↓g6, ↓g7, ↓g8, ↓g9, ↓g10, ↓g11, ↓g12, ↓g13, ↓g14, ↓g15, ↓g16, ↓g17, ↓g18, ↓g19, ↓u0, ↓u1, ↓u2, ↓u3, ↓u4, ↓u5, ↓u6, ↓u7, ↓u8, ↓u9, ↓u10, ↓u11, ↓u12, ↓u13, ↓u14, ↓u15, ↓u16, ↓u17, ↓u18, ↓u19, v_eqE0, v_neE0, K_nb, K_ni, K_ns, K_nl, K_nt, K_bb, K_bi, K_bs, K_bl, K_bt, K_ib, K_ii, K_is, K_il, K_it, K_sb, K_si, K_ss, K_sl, K_st, K_lb, K_li, K_ls, K_ll, K_lt, K_tb, K_ti, K_ts, K_tl, K_tt, K_db, K_di, K_ds, K_dl, K_dt, t_n, t_d, t_s, r_outO1, r_outO2, r_Ask1, r_Ask2, v_TR, v_add, v_sub, v_neg, v_lt, v_le, v_gt, v_ge, v_eq, v_ne, v_max2, v_min2, v_mod, v_div, v_pow9, v_pow18, v_mulL, v_mulR, v_divmod, v_lenL, v_lenT, v_sum, v_eqL, v_listOf, v_inT2, v_sorted, sortB_f, v_sortL, v_sortT, v_sortDL, v_sortDT, v_sortDP, v_keep, v_tupL, v_tupT, v_sumL, v_sumT, v_app, v_neL, v_pow39, v_pow40, ob_nil, ob_zero, ob_1, ob_2, ob_3, ob_4, ob_5, ob_6, ob_7, ob_8, ll_n, ll_b, ll_i, ll_s, bs_n, bs_v, bs_l, bs_s, llA_ints, List.all_cons, List.all_nil, Bool.and_true, Bool.true_and, Bool.false_and, Bool.and_false, Bool.and_self, v_isN0, v_isNi, v_notN0, v_notNi, v_ixL, v_ixT, v_cutL, v_cutT, k_ii, k_ib, k_bi, k_bb, k_ll, k_lt, k_tl, k_tt, t_i, t_b, t_l, t_t, isR, if_true, true_and, and_true, and_self, if_false, if_pos, Bool.not_true, Bool.not_false, List.length_cons, List.length_nil, List.replicate, List.cons_append, List.nil_append, List.head?_cons, List.tail_cons, List.any_nil, List.any_cons, Bool.false_eq_true, Bool.or_false, Bool.false_or, beq_self_eq_true, Nat.reduceSub, Nat.reduceAdd, Nat.reduceLeDiff, Nat.reduceBEq, Nat.reduceEqDiff, reduceIte, eq_self, reduceCtorEq, kp_p1, kp_p2, kp_p3, kp_p4, kp_p5, kp_p6, kp_h, kp_d, kp_l1, kp_l2, kp_l3, kp_l4, kp_l5, kp_l6, kp_cups, kp_scoops, kp_rows, kp_looks, kp_held, kp_done, kp_choose, kp_nums, kp_stand, Int.reduceToNat, Int.reduceBEq, Nat.zero_add, Nat.reduceLT, u_c_row_at_1, hb2, decide_true, u_w_row_at_1, en, e, decide_false])
theorem e_row_at (n g p : Int) (b : Nat) (h1 : 2 ≤ n) (h2 : n ≤ 40) (h3 : 0 ≤ g) (h4 : 1 ≤ p) (h5 : p ≤ n - 1) :
    d_row_at [.val (.int n), .val (.int g), .val (.int p), .val (.int (b : Nat))] = .ok (.val (.tuple [.list ((rowI n g p b).map .int), .int (stopI n g p b 0 : Nat)]), [.val (.int n), .val (.int g), .val (.int p), .val (.int (b : Nat))]) := by
  obtain ⟨r', ih⟩ := row_at_loop n g p b h1 h2 h3 h4 h5 b 0 (.own false (.lst ((rowI n g p 0).map .int))) .non (by omega) (.inr rfl) (.inl rfl)
  rw [stop_row, Nat.zero_add] at ih
  have z : List.replicate n.toNat (PyData.int 0) = (rowI n g p 0).map PyData.int := by
    show _ = (zeroI n).map PyData.int
    unfold zeroI
    rw [List.map_replicate]
  rw [q_row_at]
  generalize sSeq (sWhile c_row_at_1 w_row_at_1) (sRet (ofD (dTup (dCons (dVar 4) (dCons (dVar 5) dNil))))) = S at ih ⊢
  simp (maxSteps := 1000000) (disch := first | omega | exact Or.inl rfl | exact Or.inr rfl | exact f_non | exact f_val _ | exact f_own _ | (simp only [List.length_map, List.length_replicate, List.length_append, List.length_cons, List.length_nil, firstI_length, List.length_range, rowsD_length, List.length_drop, List.length_take, sortB_len, rangeI_len]; omega)) only [↓rb, ↓r_ofO, ↓r_den, ↓r_oX1, ↓r_oX2, ↓r_bX1, ↓r_bX2, ↓r_lX1, ↓r_lX2, ↓r_C, ↓r_Var, ↓r_Val, ↓r_Move, ↓r_fz, ↓r_ofD, ↓r_Op, ↓r_eOp, ↓r_Un, ↓r_CB, ↓r_eCB, ↓r_Mul, ↓r_Nil, ↓r_Cons, ↓r_Lst, ↓r_Tup, ↓r_Bl, ↓r_And, ↓r_Or, ↓r_NotM, ↓r_Yes, ↓r_If, ↓r_Chain, ↓r_Next, ↓r_Seq, ↓r_Bk, ↓r_Ct, ↓r_Never, ↓r_Ret, ↓r_RetN, ↓r_Expr, ↓r_sIf, ↓r_Set, ↓r_Asg, ↓r_Par, ↓r_bName, ↓r_bNil, ↓r_bCons, ↓r_bTup, ↓r_bTupL, ↓r_free, ↓f_non, ↓f_val, ↓f_own, ↓f_pin, ↓r_toSl, ↓r_fzR, ↓r_dAnd, ↓r_dOr, ↓r_dNot, ↓r_ixO, ↓r_Put, ↓r_Mut, ↓r_arNil, ↓r_arV, ↓r_arR, ↓r_Call, ↓r_CallK, ↓r_CallKD, ↓r_CallT, ↓r_For, ↓r_Lc, ↓r_iSeq, ↓r_iRng1, ↓r_iRng2, ↓r_iEnum, ↓r_iEnumA, ↓r_iEnumB, ↓r_TR1, ↓r_LenO, ↓r_NeO, ↓r_iZip, ↓r_iZipB, ↓r_LenSet, ↓r_step, ↓r_LR1, ↓r_LR2, ↓r_oNone, ↓r_oSome, ↓r_Cut, ↓r_Rev, ↓r_RevA, ↓r_keep, ↓r_Raise, ↓r_Try, ↓r_endX, ↓r_Exn, ↓r_Fld, ↓r_FldM, ↓r_FldAdd, ↓r_bFld, ↓r_Meth, ↓r_MethT, ↓r_Make, ↓r_Par3, ↓r_AugN, ↓r_AugPut, ↓f_exn, ↓nx_nil, ↓nx_n, ↓nx_v, ↓nx_o, ↓nx_x, ↓r_Isi, ↓r_IsiT, ↓r_Bor, ↓r_noEx, ↓r_wipe0, ↓r_wipe1, ↓r_outs0, ↓r_outs1, ↓r_out1, ↓r_out2, ↓r_mkA0, ↓r_mkA1, ↓r_mkA2, ↓r_wb0, ↓r_wb1, ↓r_wb2, ↓r_Said, ↓r_hide0, ↓r_hide1, ↓r_hideV, ↓r_hideO, ↓r_hideN, ↓r_IsE, ↓r_IsE2, ↓r_iZip3, ↓r_Mt, ↓r_Pre, ↓r_CutO, ↓r_setOwn, ↓r_Copy, ↓r_pick0, ↓r_pick1, ↓r_val0, ↓r_val1, ↓g0, ↓g1, ↓g2, ↓g3, ↓g4, ↓g5, ↓g6, ↓g7, ↓g8, ↓g9, ↓g10, ↓g11, ↓g12, ↓g13, ↓g14, ↓g15, ↓g16, ↓g17, ↓g18, ↓g19, ↓u0, ↓u1, ↓u2, ↓u3, ↓u4, ↓u5, ↓u6, ↓u7, ↓u8, ↓u9, ↓u10, ↓u11, ↓u12, ↓u13, ↓u14, ↓u15, ↓u16, ↓u17, ↓u18, ↓u19, v_eqE0, v_neE0, K_nb, K_ni, K_ns, K_nl, K_nt, K_bb, K_bi, K_bs, K_bl, K_bt, K_ib, K_ii, K_is, K_il, K_it, K_sb, K_si, K_ss, K_sl, K_st, K_lb, K_li, K_ls, K_ll, K_lt, K_tb, K_ti, K_ts, K_tl, K_tt, K_db, K_di, K_ds, K_dl, K_dt, t_n, t_d, t_s, r_outO1, r_outO2, r_Ask1, r_Ask2, v_TR, v_add, v_sub, v_neg, v_lt, v_le, v_gt, v_ge, v_eq, v_ne, v_max2, v_min2, v_mod, v_div, v_pow9, v_pow18, v_mulL, v_mulR, v_divmod, v_lenL, v_lenT, v_sum, v_eqL, v_listOf, v_inT2, v_sorted, sortB_f, v_sortL, v_sortT, v_sortDL, v_sortDT, v_sortDP, v_keep, v_tupL, v_tupT, v_sumL, v_sumT, v_app, v_neL, v_pow39, v_pow40, ob_nil, ob_zero, ob_1, ob_2, ob_3, ob_4, ob_5, ob_6, ob_7, ob_8, ll_n, ll_b, ll_i, ll_s, bs_n, bs_v, bs_l, bs_s, llA_ints, List.all_cons, List.all_nil, Bool.and_true, Bool.true_and, Bool.false_and, Bool.and_false, Bool.and_self, v_isN0, v_isNi, v_notN0, v_notNi, v_ixL, v_ixT, v_cutL, v_cutT, k_ii, k_ib, k_bi, k_bb, k_ll, k_lt, k_tl, k_tt, t_i, t_b, t_l, t_t, isR, if_true, true_and, and_true, and_self, if_false, if_pos, Bool.not_true, Bool.not_false, List.length_cons, List.length_nil, List.replicate, List.cons_append, List.nil_append, List.head?_cons, List.tail_cons, List.any_nil, List.any_cons, Bool.false_eq_true, Bool.or_false, Bool.false_or, beq_self_eq_true, Nat.reduceSub, Nat.reduceAdd, Nat.reduceLeDiff, Nat.reduceBEq, Nat.reduceEqDiff, reduceIte, eq_self, reduceCtorEq, kp_p1, kp_p2, kp_p3, kp_p4, kp_p5, kp_p6, kp_h, kp_d, kp_l1, kp_l2, kp_l3, kp_l4, kp_l5, kp_l6, kp_cups, kp_scoops, kp_rows, kp_looks, kp_held, kp_done, kp_choose, kp_nums, kp_stand, Int.reduceToNat, Int.reduceBEq, Nat.zero_add, Nat.reduceLT, v_rep1, z]
  rw [show (((0 : Nat) : Int)) = 0 from rfl] at ih
  simp (maxSteps := 1000000) (disch := first | omega | exact Or.inl rfl | exact Or.inr rfl | exact f_non | exact f_val _ | exact f_own _ | (simp only [List.length_map, List.length_replicate, List.length_append, List.length_cons, List.length_nil, firstI_length, List.length_range, rowsD_length, List.length_drop, List.length_take, sortB_len, rangeI_len]; omega)) only [↓rb, ↓r_ofO, ↓r_den, ↓r_oX1, ↓r_oX2, ↓r_bX1, ↓r_bX2, ↓r_lX1, ↓r_lX2, ↓r_C, ↓r_Var, ↓r_Val, ↓r_Move, ↓r_fz, ↓r_ofD, ↓r_Op, ↓r_eOp, ↓r_Un, ↓r_CB, ↓r_eCB, ↓r_Mul, ↓r_Nil, ↓r_Cons, ↓r_Lst, ↓r_Tup, ↓r_Bl, ↓r_And, ↓r_Or, ↓r_NotM, ↓r_Yes, ↓r_If, ↓r_Chain, ↓r_Next, ↓r_Seq, ↓r_Bk, ↓r_Ct, ↓r_Never, ↓r_Ret, ↓r_RetN, ↓r_Expr, ↓r_sIf, ↓r_Set, ↓r_Asg, ↓r_Par, ↓r_bName, ↓r_bNil, ↓r_bCons, ↓r_bTup, ↓r_bTupL, ↓r_free, ↓f_non, ↓f_val, ↓f_own, ↓f_pin, ↓r_toSl, ↓r_fzR, ↓r_dAnd, ↓r_dOr, ↓r_dNot, ↓r_ixO, ↓r_Put, ↓r_Mut, ↓r_arNil, ↓r_arV, ↓r_arR, ↓r_Call, ↓r_CallK, ↓r_CallKD, ↓r_CallT, ↓r_For, ↓r_Lc, ↓r_iSeq, ↓r_iRng1, ↓r_iRng2, ↓r_iEnum, ↓r_iEnumA, ↓r_iEnumB, ↓r_TR1, ↓r_LenO, ↓r_NeO, ↓r_iZip, ↓r_iZipB, ↓r_LenSet, ↓r_step, ↓r_LR1, ↓r_LR2, ↓r_oNone, ↓r_oSome, ↓r_Cut, ↓r_Rev, ↓r_RevA, ↓r_keep, ↓r_Raise, ↓r_Try, ↓r_endX, ↓r_Exn, ↓r_Fld, ↓r_FldM, ↓r_FldAdd, ↓r_bFld, ↓r_Meth, ↓r_MethT, ↓r_Make, ↓r_Par3, ↓r_AugN, ↓r_AugPut, ↓f_exn, ↓nx_nil, ↓nx_n, ↓nx_v, ↓nx_o, ↓nx_x, ↓r_Isi, ↓r_IsiT, ↓r_Bor, ↓r_noEx, ↓r_wipe0, ↓r_wipe1, ↓r_outs0, ↓r_outs1, ↓r_out1, ↓r_out2, ↓r_mkA0, ↓r_mkA1, ↓r_mkA2, ↓r_wb0, ↓r_wb1, ↓r_wb2, ↓r_Said, ↓r_hide0, ↓r_hide1, ↓r_hideV, ↓r_hideO, ↓r_hideN, ↓r_IsE, ↓r_IsE2, ↓r_iZip3, ↓r_Mt, ↓r_Pre, ↓r_CutO, ↓r_setOwn, ↓r_Copy, ↓r_pick0, ↓r_pick1, ↓r_val0, ↓r_val1, ↓g0, ↓g1, ↓g2, ↓g3, ↓g4, ↓g5, ↓g6, ↓g7, ↓g8, ↓g9, ↓g10, ↓g11, ↓g12, ↓g13, ↓g14, ↓g15, ↓g16, ↓g17, ↓g18, ↓g19, ↓u0, ↓u1, ↓u2, ↓u3, ↓u4, ↓u5, ↓u6, ↓u7, ↓u8, ↓u9, ↓u10, ↓u11, ↓u12, ↓u13, ↓u14, ↓u15, ↓u16, ↓u17, ↓u18, ↓u19, v_eqE0, v_neE0, K_nb, K_ni, K_ns, K_nl, K_nt, K_bb, K_bi, K_bs, K_bl, K_bt, K_ib, K_ii, K_is, K_il, K_it, K_sb, K_si, K_ss, K_sl, K_st, K_lb, K_li, K_ls, K_ll, K_lt, K_tb, K_ti, K_ts, K_tl, K_tt, K_db, K_di, K_ds, K_dl, K_dt, t_n, t_d, t_s, r_outO1, r_outO2, r_Ask1, r_Ask2, v_TR, v_add, v_sub, v_neg, v_lt, v_le, v_gt, v_ge, v_eq, v_ne, v_max2, v_min2, v_mod, v_div, v_pow9, v_pow18, v_mulL, v_mulR, v_divmod, v_lenL, v_lenT, v_sum, v_eqL, v_listOf, v_inT2, v_sorted, sortB_f, v_sortL, v_sortT, v_sortDL, v_sortDT, v_sortDP, v_keep, v_tupL, v_tupT, v_sumL, v_sumT, v_app, v_neL, v_pow39, v_pow40, ob_nil, ob_zero, ob_1, ob_2, ob_3, ob_4, ob_5, ob_6, ob_7, ob_8, ll_n, ll_b, ll_i, ll_s, bs_n, bs_v, bs_l, bs_s, llA_ints, List.all_cons, List.all_nil, Bool.and_true, Bool.true_and, Bool.false_and, Bool.and_false, Bool.and_self, v_isN0, v_isNi, v_notN0, v_notNi, v_ixL, v_ixT, v_cutL, v_cutT, k_ii, k_ib, k_bi, k_bb, k_ll, k_lt, k_tl, k_tt, t_i, t_b, t_l, t_t, isR, if_true, true_and, and_true, and_self, if_false, if_pos, Bool.not_true, Bool.not_false, List.length_cons, List.length_nil, List.replicate, List.cons_append, List.nil_append, List.head?_cons, List.tail_cons, List.any_nil, List.any_cons, Bool.false_eq_true, Bool.or_false, Bool.false_or, beq_self_eq_true, Nat.reduceSub, Nat.reduceAdd, Nat.reduceLeDiff, Nat.reduceBEq, Nat.reduceEqDiff, reduceIte, eq_self, reduceCtorEq, kp_p1, kp_p2, kp_p3, kp_p4, kp_p5, kp_p6, kp_h, kp_d, kp_l1, kp_l2, kp_l3, kp_l4, kp_l5, kp_l6, kp_cups, kp_scoops, kp_rows, kp_looks, kp_held, kp_done, kp_choose, kp_nums, kp_stand, Int.reduceToNat, Int.reduceBEq, Nat.zero_add, Nat.reduceLT, ih]
theorem e_most (n g p j : Int) (b : Int) (h1 : 2 ≤ n) (h2 : n ≤ 40) (h3 : 0 ≤ g) (h4 : 1 ≤ p) (h5 : p ≤ n - 1) (h6 : 1 ≤ j) (h7 : j ≤ n) (h8 : 0 ≤ b) :
    d_most [.val (.int n), .val (.int g), .val (.int p), .val (.int j), .val (.int b)] = .ok (.val (.int ((rowI n g p b.toNat).getD (j - 1).toNat 0)), [.val (.int n), .val (.int g), .val (.int p), .val (.int j), .val (.int b)]) := by
  obtain ⟨b, rfl⟩ := Int.eq_ofNat_of_zero_le h8
  have hl := (row_ok h1 h3 h4 h5 b).len
  unfold d_most
  simp (maxSteps := 1000000) (disch := first | omega | exact Or.inl rfl | exact Or.inr rfl | exact f_non | exact f_val _ | exact f_own _ | (simp only [List.length_map, List.length_replicate, List.length_append, List.length_cons, List.length_nil, firstI_length, List.length_range, rowsD_length, List.length_drop, List.length_take, sortB_len, rangeI_len]; omega)) only [↓rb, ↓r_ofO, ↓r_den, ↓r_oX1, ↓r_oX2, ↓r_bX1, ↓r_bX2, ↓r_lX1, ↓r_lX2, ↓r_C, ↓r_Var, ↓r_Val, ↓r_Move, ↓r_fz, ↓r_ofD, ↓r_Op, ↓r_eOp, ↓r_Un, ↓r_CB, ↓r_eCB, ↓r_Mul, ↓r_Nil, ↓r_Cons, ↓r_Lst, ↓r_Tup, ↓r_Bl, ↓r_And, ↓r_Or, ↓r_NotM, ↓r_Yes, ↓r_If, ↓r_Chain, ↓r_Next, ↓r_Seq, ↓r_Bk, ↓r_Ct, ↓r_Never, ↓r_Ret, ↓r_RetN, ↓r_Expr, ↓r_sIf, ↓r_Set, ↓r_Asg, ↓r_Par, ↓r_bName, ↓r_bNil, ↓r_bCons, ↓r_bTup, ↓r_bTupL, ↓r_free, ↓f_non, ↓f_val, ↓f_own, ↓f_pin, ↓r_toSl, ↓r_fzR, ↓r_dAnd, ↓r_dOr, ↓r_dNot, ↓r_ixO, ↓r_Put, ↓r_Mut, ↓r_arNil, ↓r_arV, ↓r_arR, ↓r_Call, ↓r_CallK, ↓r_CallKD, ↓r_CallT, ↓r_For, ↓r_Lc, ↓r_iSeq, ↓r_iRng1, ↓r_iRng2, ↓r_iEnum, ↓r_iEnumA, ↓r_iEnumB, ↓r_TR1, ↓r_LenO, ↓r_NeO, ↓r_iZip, ↓r_iZipB, ↓r_LenSet, ↓r_step, ↓r_LR1, ↓r_LR2, ↓r_oNone, ↓r_oSome, ↓r_Cut, ↓r_Rev, ↓r_RevA, ↓r_keep, ↓r_Raise, ↓r_Try, ↓r_endX, ↓r_Exn, ↓r_Fld, ↓r_FldM, ↓r_FldAdd, ↓r_bFld, ↓r_Meth, ↓r_MethT, ↓r_Make, ↓r_Par3, ↓r_AugN, ↓r_AugPut, ↓f_exn, ↓nx_nil, ↓nx_n, ↓nx_v, ↓nx_o, ↓nx_x, ↓r_Isi, ↓r_IsiT, ↓r_Bor, ↓r_noEx, ↓r_wipe0, ↓r_wipe1, ↓r_outs0, ↓r_outs1, ↓r_out1, ↓r_out2, ↓r_mkA0, ↓r_mkA1, ↓r_mkA2, ↓r_wb0, ↓r_wb1, ↓r_wb2, ↓r_Said, ↓r_hide0, ↓r_hide1, ↓r_hideV, ↓r_hideO, ↓r_hideN, ↓r_IsE, ↓r_IsE2, ↓r_iZip3, ↓r_Mt, ↓r_Pre, ↓r_CutO, ↓r_setOwn, ↓r_Copy, ↓r_pick0, ↓r_pick1, ↓r_val0, ↓r_val1, ↓g0, ↓g1, ↓g2, ↓g3, ↓g4, ↓g5, ↓g6, ↓g7, ↓g8, ↓g9, ↓g10, ↓g11, ↓g12, ↓g13, ↓g14, ↓g15, ↓g16, ↓g17, ↓g18, ↓g19, ↓u0, ↓u1, ↓u2, ↓u3, ↓u4, ↓u5, ↓u6, ↓u7, ↓u8, ↓u9, ↓u10, ↓u11, ↓u12, ↓u13, ↓u14, ↓u15, ↓u16, ↓u17, ↓u18, ↓u19, v_eqE0, v_neE0, K_nb, K_ni, K_ns, K_nl, K_nt, K_bb, K_bi, K_bs, K_bl, K_bt, K_ib, K_ii, K_is, K_il, K_it, K_sb, K_si, K_ss, K_sl, K_st, K_lb, K_li, K_ls, K_ll, K_lt, K_tb, K_ti, K_ts, K_tl, K_tt, K_db, K_di, K_ds, K_dl, K_dt, t_n, t_d, t_s, r_outO1, r_outO2, r_Ask1, r_Ask2, v_TR, v_add, v_sub, v_neg, v_lt, v_le, v_gt, v_ge, v_eq, v_ne, v_max2, v_min2, v_mod, v_div, v_pow9, v_pow18, v_mulL, v_mulR, v_divmod, v_lenL, v_lenT, v_sum, v_eqL, v_listOf, v_inT2, v_sorted, sortB_f, v_sortL, v_sortT, v_sortDL, v_sortDT, v_sortDP, v_keep, v_tupL, v_tupT, v_sumL, v_sumT, v_app, v_neL, v_pow39, v_pow40, ob_nil, ob_zero, ob_1, ob_2, ob_3, ob_4, ob_5, ob_6, ob_7, ob_8, ll_n, ll_b, ll_i, ll_s, bs_n, bs_v, bs_l, bs_s, llA_ints, List.all_cons, List.all_nil, Bool.and_true, Bool.true_and, Bool.false_and, Bool.and_false, Bool.and_self, v_isN0, v_isNi, v_notN0, v_notNi, v_ixL, v_ixT, v_cutL, v_cutT, k_ii, k_ib, k_bi, k_bb, k_ll, k_lt, k_tl, k_tt, t_i, t_b, t_l, t_t, isR, if_true, true_and, and_true, and_self, if_false, if_pos, Bool.not_true, Bool.not_false, List.length_cons, List.length_nil, List.replicate, List.cons_append, List.nil_append, List.head?_cons, List.tail_cons, List.any_nil, List.any_cons, Bool.false_eq_true, Bool.or_false, Bool.false_or, beq_self_eq_true, Nat.reduceSub, Nat.reduceAdd, Nat.reduceLeDiff, Nat.reduceBEq, Nat.reduceEqDiff, reduceIte, eq_self, reduceCtorEq, kp_p1, kp_p2, kp_p3, kp_p4, kp_p5, kp_p6, kp_h, kp_d, kp_l1, kp_l2, kp_l3, kp_l4, kp_l5, kp_l6, kp_cups, kp_scoops, kp_rows, kp_looks, kp_held, kp_done, kp_choose, kp_nums, kp_stand, Int.reduceToNat, Int.reduceBEq, Nat.zero_add, Nat.reduceLT, e_want_sizes, e_want_fullest, e_want_count, e_row_at, at0, v_atG, Int.toNat_natCast]
theorem e_are_counts (l : List Int) (m : Int) (hn : ∀ z ∈ l, 0 ≤ z) (hl : (l.length : Int) = m) (hb : l.length ≤ 1000) : d_are_counts [.val (.tuple (l.map .int)), .val (.int m)] = .ok (.val (.bool true), [.val (.tuple (l.map .int)), .val (.int m)]) := by
  have lc : lcD [2] (bName 2) tYesM x_are_counts_1 (l.map .int) [] [.val (.tuple (l.map .int)), .val (.int m), .non] = .ok (l.map (fun z => .bool (decide (0 ≤ z))), [.val (.tuple (l.map .int)), .val (.int m), .non]) :=
    lcD_mapI .int (fun z => .bool (decide (0 ≤ z))) l (fun z _ => by simp (maxSteps := 1000000) (disch := first | omega | exact Or.inl rfl | exact Or.inr rfl | exact f_non | exact f_val _ | exact f_own _ | (simp only [List.length_map, List.length_replicate, List.length_append, List.length_cons, List.length_nil, firstI_length, List.length_range, rowsD_length, List.length_drop, List.length_take, sortB_len, rangeI_len]; omega)) only [↓rb, ↓r_ofO, ↓r_den, ↓r_oX1, ↓r_oX2, ↓r_bX1, ↓r_bX2, ↓r_lX1, ↓r_lX2, ↓r_C, ↓r_Var, ↓r_Val, ↓r_Move, ↓r_fz, ↓r_ofD, ↓r_Op, ↓r_eOp, ↓r_Un, ↓r_CB, ↓r_eCB, ↓r_Mul, ↓r_Nil, ↓r_Cons, ↓r_Lst, ↓r_Tup, ↓r_Bl, ↓r_And, ↓r_Or, ↓r_NotM, ↓r_Yes, ↓r_If, ↓r_Chain, ↓r_Next, ↓r_Seq, ↓r_Bk, ↓r_Ct, ↓r_Never, ↓r_Ret, ↓r_RetN, ↓r_Expr, ↓r_sIf, ↓r_Set, ↓r_Asg, ↓r_Par, ↓r_bName, ↓r_bNil, ↓r_bCons, ↓r_bTup, ↓r_bTupL, ↓r_free, ↓f_non, ↓f_val, ↓f_own, ↓f_pin, ↓r_toSl, ↓r_fzR, ↓r_dAnd, ↓r_dOr, ↓r_dNot, ↓r_ixO, ↓r_Put, ↓r_Mut, ↓r_arNil, ↓r_arV, ↓r_arR, ↓r_Call, ↓r_CallK, ↓r_CallKD, ↓r_CallT, ↓r_For, ↓r_Lc, ↓r_iSeq, ↓r_iRng1, ↓r_iRng2, ↓r_iEnum, ↓r_iEnumA, ↓r_iEnumB, ↓r_TR1, ↓r_LenO, ↓r_NeO, ↓r_iZip, ↓r_iZipB, ↓r_LenSet, ↓r_step, ↓r_LR1, ↓r_LR2, ↓r_oNone, ↓r_oSome, ↓r_Cut, ↓r_Rev, ↓r_RevA, ↓r_keep, ↓r_Raise, ↓r_Try, ↓r_endX, ↓r_Exn, ↓r_Fld, ↓r_FldM, ↓r_FldAdd, ↓r_bFld, ↓r_Meth, ↓r_MethT, ↓r_Make, ↓r_Par3, ↓r_AugN, ↓r_AugPut, ↓f_exn, ↓nx_nil, ↓nx_n, ↓nx_v, ↓nx_o, ↓nx_x, ↓r_Isi, ↓r_IsiT, ↓r_Bor, ↓r_noEx, ↓r_wipe0, ↓r_wipe1, ↓r_outs0, ↓r_outs1, ↓r_out1, ↓r_out2, ↓r_mkA0, ↓r_mkA1, ↓r_mkA2, ↓r_wb0, ↓r_wb1, ↓r_wb2, ↓r_Said, ↓r_hide0, ↓r_hide1, ↓r_hideV, ↓r_hideO, ↓r_hideN, ↓r_IsE, ↓r_IsE2, ↓r_iZip3, ↓r_Mt, ↓r_Pre, ↓r_CutO, ↓r_setOwn, ↓r_Copy, ↓r_pick0, ↓r_pick1, ↓r_val0, ↓r_val1, ↓g0, ↓g1, ↓g2, ↓g3, ↓g4, ↓g5, ↓g6, ↓g7, ↓g8, ↓g9, ↓g10, ↓g11, ↓g12, ↓g13, ↓g14, ↓g15, ↓g16, ↓g17, ↓g18, ↓g19, ↓u0, ↓u1, ↓u2, ↓u3, ↓u4, ↓u5, ↓u6, ↓u7, ↓u8, ↓u9, ↓u10, ↓u11, ↓u12, ↓u13, ↓u14, ↓u15, ↓u16, ↓u17, ↓u18, ↓u19, v_eqE0, v_neE0, K_nb, K_ni, K_ns, K_nl, K_nt, K_bb, K_bi, K_bs, K_bl, K_bt, K_ib, K_ii, K_is, K_il, K_it, K_sb, K_si, K_ss, K_sl, K_st, K_lb, K_li, K_ls, K_ll, K_lt, K_tb, K_ti, K_ts, K_tl, K_tt, K_db, K_di, K_ds, K_dl, K_dt, t_n, t_d, t_s, r_outO1, r_outO2, r_Ask1, r_Ask2, v_TR, v_add, v_sub, v_neg, v_lt, v_le, v_gt, v_ge, v_eq, v_ne, v_max2, v_min2, v_mod, v_div, v_pow9, v_pow18, v_mulL, v_mulR, v_divmod, v_lenL, v_lenT, v_sum, v_eqL, v_listOf, v_inT2, v_sorted, sortB_f, v_sortL, v_sortT, v_sortDL, v_sortDT, v_sortDP, v_keep, v_tupL, v_tupT, v_sumL, v_sumT, v_app, v_neL, v_pow39, v_pow40, ob_nil, ob_zero, ob_1, ob_2, ob_3, ob_4, ob_5, ob_6, ob_7, ob_8, ll_n, ll_b, ll_i, ll_s, bs_n, bs_v, bs_l, bs_s, llA_ints, List.all_cons, List.all_nil, Bool.and_true, Bool.true_and, Bool.false_and, Bool.and_false, Bool.and_self, v_isN0, v_isNi, v_notN0, v_notNi, v_ixL, v_ixT, v_cutL, v_cutT, k_ii, k_ib, k_bi, k_bb, k_ll, k_lt, k_tl, k_tt, t_i, t_b, t_l, t_t, isR, if_true, true_and, and_true, and_self, if_false, if_pos, Bool.not_true, Bool.not_false, List.length_cons, List.length_nil, List.replicate, List.cons_append, List.nil_append, List.head?_cons, List.tail_cons, List.any_nil, List.any_cons, Bool.false_eq_true, Bool.or_false, Bool.false_or, beq_self_eq_true, Nat.reduceSub, Nat.reduceAdd, Nat.reduceLeDiff, Nat.reduceBEq, Nat.reduceEqDiff, reduceIte, eq_self, reduceCtorEq, kp_p1, kp_p2, kp_p3, kp_p4, kp_p5, kp_p6, kp_h, kp_d, kp_l1, kp_l2, kp_l3, kp_l4, kp_l5, kp_l6, kp_cups, kp_scoops, kp_rows, kp_looks, kp_held, kp_done, kp_choose, kp_nums, kp_stand, Int.reduceToNat, Int.reduceBEq, Nat.zero_add, Nat.reduceLT, u_x_are_counts_1, e_is_count]) (by omega)
  have ha : l.all (fun z => decide (0 ≤ z)) = true := List.all_eq_true.mpr fun z hz => decide_eq_true (hn z hz)
  rw [q_are_counts]
  simp (maxSteps := 1000000) (disch := first | omega | exact Or.inl rfl | exact Or.inr rfl | exact f_non | exact f_val _ | exact f_own _ | (simp only [List.length_map, List.length_replicate, List.length_append, List.length_cons, List.length_nil, firstI_length, List.length_range, rowsD_length, List.length_drop, List.length_take, sortB_len, rangeI_len]; omega)) only [↓rb, ↓r_ofO, ↓r_den, ↓r_oX1, ↓r_oX2, ↓r_bX1, ↓r_bX2, ↓r_lX1, ↓r_lX2, ↓r_C, ↓r_Var, ↓r_Val, ↓r_Move, ↓r_fz, ↓r_ofD, ↓r_Op, ↓r_eOp, ↓r_Un, ↓r_CB, ↓r_eCB, ↓r_Mul, ↓r_Nil, ↓r_Cons, ↓r_Lst, ↓r_Tup, ↓r_Bl, ↓r_And, ↓r_Or, ↓r_NotM, ↓r_Yes, ↓r_If, ↓r_Chain, ↓r_Next, ↓r_Seq, ↓r_Bk, ↓r_Ct, ↓r_Never, ↓r_Ret, ↓r_RetN, ↓r_Expr, ↓r_sIf, ↓r_Set, ↓r_Asg, ↓r_Par, ↓r_bName, ↓r_bNil, ↓r_bCons, ↓r_bTup, ↓r_bTupL, ↓r_free, ↓f_non, ↓f_val, ↓f_own, ↓f_pin, ↓r_toSl, ↓r_fzR, ↓r_dAnd, ↓r_dOr, ↓r_dNot, ↓r_ixO, ↓r_Put, ↓r_Mut, ↓r_arNil, ↓r_arV, ↓r_arR, ↓r_Call, ↓r_CallK, ↓r_CallKD, ↓r_CallT, ↓r_For, ↓r_Lc, ↓r_iSeq, ↓r_iRng1, ↓r_iRng2, ↓r_iEnum, ↓r_iEnumA, ↓r_iEnumB, ↓r_TR1, ↓r_LenO, ↓r_NeO, ↓r_iZip, ↓r_iZipB, ↓r_LenSet, ↓r_step, ↓r_LR1, ↓r_LR2, ↓r_oNone, ↓r_oSome, ↓r_Cut, ↓r_Rev, ↓r_RevA, ↓r_keep, ↓r_Raise, ↓r_Try, ↓r_endX, ↓r_Exn, ↓r_Fld, ↓r_FldM, ↓r_FldAdd, ↓r_bFld, ↓r_Meth, ↓r_MethT, ↓r_Make, ↓r_Par3, ↓r_AugN, ↓r_AugPut, ↓f_exn, ↓nx_nil, ↓nx_n, ↓nx_v, ↓nx_o, ↓nx_x, ↓r_Isi, ↓r_IsiT, ↓r_Bor, ↓r_noEx, ↓r_wipe0, ↓r_wipe1, ↓r_outs0, ↓r_outs1, ↓r_out1, ↓r_out2, ↓r_mkA0, ↓r_mkA1, ↓r_mkA2, ↓r_wb0, ↓r_wb1, ↓r_wb2, ↓r_Said, ↓r_hide0, ↓r_hide1, ↓r_hideV, ↓r_hideO, ↓r_hideN, ↓r_IsE, ↓r_IsE2, ↓r_iZip3, ↓r_Mt, ↓r_Pre, ↓r_CutO, ↓r_setOwn, ↓r_Copy, ↓r_pick0, ↓r_pick1, ↓r_val0, ↓r_val1, ↓g0, ↓g1, ↓g2, ↓g3, ↓g4, ↓g5, ↓g6, ↓g7, ↓g8, ↓g9, ↓g10, ↓g11, ↓g12, ↓g13, ↓g14, ↓g15, ↓g16, ↓g17, ↓g18, ↓g19, ↓u0, ↓u1, ↓u2, ↓u3, ↓u4, ↓u5, ↓u6, ↓u7, ↓u8, ↓u9, ↓u10, ↓u11, ↓u12, ↓u13, ↓u14, ↓u15, ↓u16, ↓u17, ↓u18, ↓u19, v_eqE0, v_neE0, K_nb, K_ni, K_ns, K_nl, K_nt, K_bb, K_bi, K_bs, K_bl, K_bt, K_ib, K_ii, K_is, K_il, K_it, K_sb, K_si, K_ss, K_sl, K_st, K_lb, K_li, K_ls, K_ll, K_lt, K_tb, K_ti, K_ts, K_tl, K_tt, K_db, K_di, K_ds, K_dl, K_dt, t_n, t_d, t_s, r_outO1, r_outO2, r_Ask1, r_Ask2, v_TR, v_add, v_sub, v_neg, v_lt, v_le, v_gt, v_ge, v_eq, v_ne, v_max2, v_min2, v_mod, v_div, v_pow9, v_pow18, v_mulL, v_mulR, v_divmod, v_lenL, v_lenT, v_sum, v_eqL, v_listOf, v_inT2, v_sorted, sortB_f, v_sortL, v_sortT, v_sortDL, v_sortDT, v_sortDP, v_keep, v_tupL, v_tupT, v_sumL, v_sumT, v_app, v_neL, v_pow39, v_pow40, ob_nil, ob_zero, ob_1, ob_2, ob_3, ob_4, ob_5, ob_6, ob_7, ob_8, ll_n, ll_b, ll_i, ll_s, bs_n, bs_v, bs_l, bs_s, llA_ints, List.all_cons, List.all_nil, Bool.and_true, Bool.true_and, Bool.false_and, Bool.and_false, Bool.and_self, v_isN0, v_isNi, v_notN0, v_notNi, v_ixL, v_ixT, v_cutL, v_cutT, k_ii, k_ib, k_bi, k_bb, k_ll, k_lt, k_tl, k_tt, t_i, t_b, t_l, t_t, isR, if_true, true_and, and_true, and_self, if_false, if_pos, Bool.not_true, Bool.not_false, List.length_cons, List.length_nil, List.replicate, List.cons_append, List.nil_append, List.head?_cons, List.tail_cons, List.any_nil, List.any_cons, Bool.false_eq_true, Bool.or_false, Bool.false_or, beq_self_eq_true, Nat.reduceSub, Nat.reduceAdd, Nat.reduceLeDiff, Nat.reduceBEq, Nat.reduceEqDiff, reduceIte, eq_self, reduceCtorEq, kp_p1, kp_p2, kp_p3, kp_p4, kp_p5, kp_p6, kp_h, kp_d, kp_l1, kp_l2, kp_l3, kp_l4, kp_l5, kp_l6, kp_cups, kp_scoops, kp_rows, kp_looks, kp_held, kp_done, kp_choose, kp_nums, kp_stand, Int.reduceToNat, Int.reduceBEq, Nat.zero_add, Nat.reduceLT, List.length_map, hl, lc, v_allM, ha, eq_self, decide_true]
theorem e_want_standing (l : List Int) (S : Stg l) : d_want_standing [.val (.tuple (l.map .int))] = .ok (.val .none, [.val (.tuple (l.map .int))]) := by
  have h1 := S.lo
  have h2 := S.hi
  have h3 : (2 : Int) ≤ (l.length : Nat) := by omega
  have h4 : ((l.length : Nat) : Int) ≤ 40 := by omega
  unfold d_want_standing
  simp (maxSteps := 1000000) (disch := first | omega | exact Or.inl rfl | exact Or.inr rfl | exact f_non | exact f_val _ | exact f_own _ | (simp only [List.length_map, List.length_replicate, List.length_append, List.length_cons, List.length_nil, firstI_length, List.length_range, rowsD_length, List.length_drop, List.length_take, sortB_len, rangeI_len]; omega)) only [↓rb, ↓r_ofO, ↓r_den, ↓r_oX1, ↓r_oX2, ↓r_bX1, ↓r_bX2, ↓r_lX1, ↓r_lX2, ↓r_C, ↓r_Var, ↓r_Val, ↓r_Move, ↓r_fz, ↓r_ofD, ↓r_Op, ↓r_eOp, ↓r_Un, ↓r_CB, ↓r_eCB, ↓r_Mul, ↓r_Nil, ↓r_Cons, ↓r_Lst, ↓r_Tup, ↓r_Bl, ↓r_And, ↓r_Or, ↓r_NotM, ↓r_Yes, ↓r_If, ↓r_Chain, ↓r_Next, ↓r_Seq, ↓r_Bk, ↓r_Ct, ↓r_Never, ↓r_Ret, ↓r_RetN, ↓r_Expr, ↓r_sIf, ↓r_Set, ↓r_Asg, ↓r_Par, ↓r_bName, ↓r_bNil, ↓r_bCons, ↓r_bTup, ↓r_bTupL, ↓r_free, ↓f_non, ↓f_val, ↓f_own, ↓f_pin, ↓r_toSl, ↓r_fzR, ↓r_dAnd, ↓r_dOr, ↓r_dNot, ↓r_ixO, ↓r_Put, ↓r_Mut, ↓r_arNil, ↓r_arV, ↓r_arR, ↓r_Call, ↓r_CallK, ↓r_CallKD, ↓r_CallT, ↓r_For, ↓r_Lc, ↓r_iSeq, ↓r_iRng1, ↓r_iRng2, ↓r_iEnum, ↓r_iEnumA, ↓r_iEnumB, ↓r_TR1, ↓r_LenO, ↓r_NeO, ↓r_iZip, ↓r_iZipB, ↓r_LenSet, ↓r_step, ↓r_LR1, ↓r_LR2, ↓r_oNone, ↓r_oSome, ↓r_Cut, ↓r_Rev, ↓r_RevA, ↓r_keep, ↓r_Raise, ↓r_Try, ↓r_endX, ↓r_Exn, ↓r_Fld, ↓r_FldM, ↓r_FldAdd, ↓r_bFld, ↓r_Meth, ↓r_MethT, ↓r_Make, ↓r_Par3, ↓r_AugN, ↓r_AugPut, ↓f_exn, ↓nx_nil, ↓nx_n, ↓nx_v, ↓nx_o, ↓nx_x, ↓r_Isi, ↓r_IsiT, ↓r_Bor, ↓r_noEx, ↓r_wipe0, ↓r_wipe1, ↓r_outs0, ↓r_outs1, ↓r_out1, ↓r_out2, ↓r_mkA0, ↓r_mkA1, ↓r_mkA2, ↓r_wb0, ↓r_wb1, ↓r_wb2, ↓r_Said, ↓r_hide0, ↓r_hide1, ↓r_hideV, ↓r_hideO, ↓r_hideN, ↓r_IsE, ↓r_IsE2, ↓r_iZip3, ↓r_Mt, ↓r_Pre, ↓r_CutO, ↓r_setOwn, ↓r_Copy, ↓r_pick0, ↓r_pick1, ↓r_val0, ↓r_val1, ↓g0, ↓g1, ↓g2, ↓g3, ↓g4, ↓g5, ↓g6, ↓g7, ↓g8, ↓g9, ↓g10, ↓g11, ↓g12, ↓g13, ↓g14, ↓g15, ↓g16, ↓g17, ↓g18, ↓g19, ↓u0, ↓u1, ↓u2, ↓u3, ↓u4, ↓u5, ↓u6, ↓u7, ↓u8, ↓u9, ↓u10, ↓u11, ↓u12, ↓u13, ↓u14, ↓u15, ↓u16, ↓u17, ↓u18, ↓u19, v_eqE0, v_neE0, K_nb, K_ni, K_ns, K_nl, K_nt, K_bb, K_bi, K_bs, K_bl, K_bt, K_ib, K_ii, K_is, K_il, K_it, K_sb, K_si, K_ss, K_sl, K_st, K_lb, K_li, K_ls, K_ll, K_lt, K_tb, K_ti, K_ts, K_tl, K_tt, K_db, K_di, K_ds, K_dl, K_dt, t_n, t_d, t_s, r_outO1, r_outO2, r_Ask1, r_Ask2, v_TR, v_add, v_sub, v_neg, v_lt, v_le, v_gt, v_ge, v_eq, v_ne, v_max2, v_min2, v_mod, v_div, v_pow9, v_pow18, v_mulL, v_mulR, v_divmod, v_lenL, v_lenT, v_sum, v_eqL, v_listOf, v_inT2, v_sorted, sortB_f, v_sortL, v_sortT, v_sortDL, v_sortDT, v_sortDP, v_keep, v_tupL, v_tupT, v_sumL, v_sumT, v_app, v_neL, v_pow39, v_pow40, ob_nil, ob_zero, ob_1, ob_2, ob_3, ob_4, ob_5, ob_6, ob_7, ob_8, ll_n, ll_b, ll_i, ll_s, bs_n, bs_v, bs_l, bs_s, llA_ints, List.all_cons, List.all_nil, Bool.and_true, Bool.true_and, Bool.false_and, Bool.and_false, Bool.and_self, v_isN0, v_isNi, v_notN0, v_notNi, v_ixL, v_ixT, v_cutL, v_cutT, k_ii, k_ib, k_bi, k_bb, k_ll, k_lt, k_tl, k_tt, t_i, t_b, t_l, t_t, isR, if_true, true_and, and_true, and_self, if_false, if_pos, Bool.not_true, Bool.not_false, List.length_cons, List.length_nil, List.replicate, List.cons_append, List.nil_append, List.head?_cons, List.tail_cons, List.any_nil, List.any_cons, Bool.false_eq_true, Bool.or_false, Bool.false_or, beq_self_eq_true, Nat.reduceSub, Nat.reduceAdd, Nat.reduceLeDiff, Nat.reduceBEq, Nat.reduceEqDiff, reduceIte, eq_self, reduceCtorEq, kp_p1, kp_p2, kp_p3, kp_p4, kp_p5, kp_p6, kp_h, kp_d, kp_l1, kp_l2, kp_l3, kp_l4, kp_l5, kp_l6, kp_cups, kp_scoops, kp_rows, kp_looks, kp_held, kp_done, kp_choose, kp_nums, kp_stand, Int.reduceToNat, Int.reduceBEq, Nat.zero_add, Nat.reduceLT, List.length_map, h3, h4, decide_true, e_are_counts l _ S.nn rfl (by omega)]
theorem e_want_pour (l : List Int) (m : Int) (hn : ∀ z ∈ l, 0 ≤ z) (hl : (l.length : Int) = m) (hb : l.length ≤ 1000) : d_want_pour [.val (.tuple (l.map .int)), .val (.int m)] = .ok (.val .none, [.val (.tuple (l.map .int)), .val (.int m)]) := by
  unfold d_want_pour
  simp (maxSteps := 1000000) (disch := first | omega | exact Or.inl rfl | exact Or.inr rfl | exact f_non | exact f_val _ | exact f_own _ | (simp only [List.length_map, List.length_replicate, List.length_append, List.length_cons, List.length_nil, firstI_length, List.length_range, rowsD_length, List.length_drop, List.length_take, sortB_len, rangeI_len]; omega)) only [↓rb, ↓r_ofO, ↓r_den, ↓r_oX1, ↓r_oX2, ↓r_bX1, ↓r_bX2, ↓r_lX1, ↓r_lX2, ↓r_C, ↓r_Var, ↓r_Val, ↓r_Move, ↓r_fz, ↓r_ofD, ↓r_Op, ↓r_eOp, ↓r_Un, ↓r_CB, ↓r_eCB, ↓r_Mul, ↓r_Nil, ↓r_Cons, ↓r_Lst, ↓r_Tup, ↓r_Bl, ↓r_And, ↓r_Or, ↓r_NotM, ↓r_Yes, ↓r_If, ↓r_Chain, ↓r_Next, ↓r_Seq, ↓r_Bk, ↓r_Ct, ↓r_Never, ↓r_Ret, ↓r_RetN, ↓r_Expr, ↓r_sIf, ↓r_Set, ↓r_Asg, ↓r_Par, ↓r_bName, ↓r_bNil, ↓r_bCons, ↓r_bTup, ↓r_bTupL, ↓r_free, ↓f_non, ↓f_val, ↓f_own, ↓f_pin, ↓r_toSl, ↓r_fzR, ↓r_dAnd, ↓r_dOr, ↓r_dNot, ↓r_ixO, ↓r_Put, ↓r_Mut, ↓r_arNil, ↓r_arV, ↓r_arR, ↓r_Call, ↓r_CallK, ↓r_CallKD, ↓r_CallT, ↓r_For, ↓r_Lc, ↓r_iSeq, ↓r_iRng1, ↓r_iRng2, ↓r_iEnum, ↓r_iEnumA, ↓r_iEnumB, ↓r_TR1, ↓r_LenO, ↓r_NeO, ↓r_iZip, ↓r_iZipB, ↓r_LenSet, ↓r_step, ↓r_LR1, ↓r_LR2, ↓r_oNone, ↓r_oSome, ↓r_Cut, ↓r_Rev, ↓r_RevA, ↓r_keep, ↓r_Raise, ↓r_Try, ↓r_endX, ↓r_Exn, ↓r_Fld, ↓r_FldM, ↓r_FldAdd, ↓r_bFld, ↓r_Meth, ↓r_MethT, ↓r_Make, ↓r_Par3, ↓r_AugN, ↓r_AugPut, ↓f_exn, ↓nx_nil, ↓nx_n, ↓nx_v, ↓nx_o, ↓nx_x, ↓r_Isi, ↓r_IsiT, ↓r_Bor, ↓r_noEx, ↓r_wipe0, ↓r_wipe1, ↓r_outs0, ↓r_outs1, ↓r_out1, ↓r_out2, ↓r_mkA0, ↓r_mkA1, ↓r_mkA2, ↓r_wb0, ↓r_wb1, ↓r_wb2, ↓r_Said, ↓r_hide0, ↓r_hide1, ↓r_hideV, ↓r_hideO, ↓r_hideN, ↓r_IsE, ↓r_IsE2, ↓r_iZip3, ↓r_Mt, ↓r_Pre, ↓r_CutO, ↓r_setOwn, ↓r_Copy, ↓r_pick0, ↓r_pick1, ↓r_val0, ↓r_val1, ↓g0, ↓g1, ↓g2, ↓g3, ↓g4, ↓g5, ↓g6, ↓g7, ↓g8, ↓g9, ↓g10, ↓g11, ↓g12, ↓g13, ↓g14, ↓g15, ↓g16, ↓g17, ↓g18, ↓g19, ↓u0, ↓u1, ↓u2, ↓u3, ↓u4, ↓u5, ↓u6, ↓u7, ↓u8, ↓u9, ↓u10, ↓u11, ↓u12, ↓u13, ↓u14, ↓u15, ↓u16, ↓u17, ↓u18, ↓u19, v_eqE0, v_neE0, K_nb, K_ni, K_ns, K_nl, K_nt, K_bb, K_bi, K_bs, K_bl, K_bt, K_ib, K_ii, K_is, K_il, K_it, K_sb, K_si, K_ss, K_sl, K_st, K_lb, K_li, K_ls, K_ll, K_lt, K_tb, K_ti, K_ts, K_tl, K_tt, K_db, K_di, K_ds, K_dl, K_dt, t_n, t_d, t_s, r_outO1, r_outO2, r_Ask1, r_Ask2, v_TR, v_add, v_sub, v_neg, v_lt, v_le, v_gt, v_ge, v_eq, v_ne, v_max2, v_min2, v_mod, v_div, v_pow9, v_pow18, v_mulL, v_mulR, v_divmod, v_lenL, v_lenT, v_sum, v_eqL, v_listOf, v_inT2, v_sorted, sortB_f, v_sortL, v_sortT, v_sortDL, v_sortDT, v_sortDP, v_keep, v_tupL, v_tupT, v_sumL, v_sumT, v_app, v_neL, v_pow39, v_pow40, ob_nil, ob_zero, ob_1, ob_2, ob_3, ob_4, ob_5, ob_6, ob_7, ob_8, ll_n, ll_b, ll_i, ll_s, bs_n, bs_v, bs_l, bs_s, llA_ints, List.all_cons, List.all_nil, Bool.and_true, Bool.true_and, Bool.false_and, Bool.and_false, Bool.and_self, v_isN0, v_isNi, v_notN0, v_notNi, v_ixL, v_ixT, v_cutL, v_cutT, k_ii, k_ib, k_bi, k_bb, k_ll, k_lt, k_tl, k_tt, t_i, t_b, t_l, t_t, isR, if_true, true_and, and_true, and_self, if_false, if_pos, Bool.not_true, Bool.not_false, List.length_cons, List.length_nil, List.replicate, List.cons_append, List.nil_append, List.head?_cons, List.tail_cons, List.any_nil, List.any_cons, Bool.false_eq_true, Bool.or_false, Bool.false_or, beq_self_eq_true, Nat.reduceSub, Nat.reduceAdd, Nat.reduceLeDiff, Nat.reduceBEq, Nat.reduceEqDiff, reduceIte, eq_self, reduceCtorEq, kp_p1, kp_p2, kp_p3, kp_p4, kp_p5, kp_p6, kp_h, kp_d, kp_l1, kp_l2, kp_l3, kp_l4, kp_l5, kp_l6, kp_cups, kp_scoops, kp_rows, kp_looks, kp_held, kp_done, kp_choose, kp_nums, kp_stand, Int.reduceToNat, Int.reduceBEq, Nat.zero_add, Nat.reduceLT, e_are_counts l m hn hl hb]
theorem e_poured (a b : List Int) (S : Stg a) (hn : ∀ z ∈ b, 0 ≤ z) (hl : b.length = a.length) : d_poured [.val (.tuple (a.map .int)), .val (.tuple (b.map .int))] = .ok (.val (.tuple ((addI a b).map .int)), [.val (.tuple (a.map .int)), .val (.tuple (b.map .int))]) := by
  have h2 := S.hi
  have lc : lcD [2, 3] (bTup 2 (bCons (bName 2) (bCons (bName 3) bNil))) tYesM x_poured_1 ((a.zip b).map pairD) [] [.val (.tuple (a.map .int)), .val (.tuple (b.map .int)), .non, .non] = .ok ((a.zip b).map (fun p => .int (p.1 + p.2)), [.val (.tuple (a.map .int)), .val (.tuple (b.map .int)), .non, .non]) :=
    lcD_mapI pairD (fun p => .int (p.1 + p.2)) (a.zip b) (fun z _ => by simp (maxSteps := 1000000) (disch := first | omega | exact Or.inl rfl | exact Or.inr rfl | exact f_non | exact f_val _ | exact f_own _ | (simp only [List.length_map, List.length_replicate, List.length_append, List.length_cons, List.length_nil, firstI_length, List.length_range, rowsD_length, List.length_drop, List.length_take, sortB_len, rangeI_len]; omega)) only [↓rb, ↓r_ofO, ↓r_den, ↓r_oX1, ↓r_oX2, ↓r_bX1, ↓r_bX2, ↓r_lX1, ↓r_lX2, ↓r_C, ↓r_Var, ↓r_Val, ↓r_Move, ↓r_fz, ↓r_ofD, ↓r_Op, ↓r_eOp, ↓r_Un, ↓r_CB, ↓r_eCB, ↓r_Mul, ↓r_Nil, ↓r_Cons, ↓r_Lst, ↓r_Tup, ↓r_Bl, ↓r_And, ↓r_Or, ↓r_NotM, ↓r_Yes, ↓r_If, ↓r_Chain, ↓r_Next, ↓r_Seq, ↓r_Bk, ↓r_Ct, ↓r_Never, ↓r_Ret, ↓r_RetN, ↓r_Expr, ↓r_sIf, ↓r_Set, ↓r_Asg, ↓r_Par, ↓r_bName, ↓r_bNil, ↓r_bCons, ↓r_bTup, ↓r_bTupL, ↓r_free, ↓f_non, ↓f_val, ↓f_own, ↓f_pin, ↓r_toSl, ↓r_fzR, ↓r_dAnd, ↓r_dOr, ↓r_dNot, ↓r_ixO, ↓r_Put, ↓r_Mut, ↓r_arNil, ↓r_arV, ↓r_arR, ↓r_Call, ↓r_CallK, ↓r_CallKD, ↓r_CallT, ↓r_For, ↓r_Lc, ↓r_iSeq, ↓r_iRng1, ↓r_iRng2, ↓r_iEnum, ↓r_iEnumA, ↓r_iEnumB, ↓r_TR1, ↓r_LenO, ↓r_NeO, ↓r_iZip, ↓r_iZipB, ↓r_LenSet, ↓r_step, ↓r_LR1, ↓r_LR2, ↓r_oNone, ↓r_oSome, ↓r_Cut, ↓r_Rev, ↓r_RevA, ↓r_keep, ↓r_Raise, ↓r_Try, ↓r_endX, ↓r_Exn, ↓r_Fld, ↓r_FldM, ↓r_FldAdd, ↓r_bFld, ↓r_Meth, ↓r_MethT, ↓r_Make, ↓r_Par3, ↓r_AugN, ↓r_AugPut, ↓f_exn, ↓nx_nil, ↓nx_n, ↓nx_v, ↓nx_o, ↓nx_x, ↓r_Isi, ↓r_IsiT, ↓r_Bor, ↓r_noEx, ↓r_wipe0, ↓r_wipe1, ↓r_outs0, ↓r_outs1, ↓r_out1, ↓r_out2, ↓r_mkA0, ↓r_mkA1, ↓r_mkA2, ↓r_wb0, ↓r_wb1, ↓r_wb2, ↓r_Said, ↓r_hide0, ↓r_hide1, ↓r_hideV, ↓r_hideO, ↓r_hideN, ↓r_IsE, ↓r_IsE2, ↓r_iZip3, ↓r_Mt, ↓r_Pre, ↓r_CutO, ↓r_setOwn, ↓r_Copy, ↓r_pick0, ↓r_pick1, ↓r_val0, ↓r_val1, ↓g0, ↓g1, ↓g2, ↓g3, ↓g4, ↓g5, ↓g6, ↓g7, ↓g8, ↓g9, ↓g10, ↓g11, ↓g12, ↓g13, ↓g14, ↓g15, ↓g16, ↓g17, ↓g18, ↓g19, ↓u0, ↓u1, ↓u2, ↓u3, ↓u4, ↓u5, ↓u6, ↓u7, ↓u8, ↓u9, ↓u10, ↓u11, ↓u12, ↓u13, ↓u14, ↓u15, ↓u16, ↓u17, ↓u18, ↓u19, v_eqE0, v_neE0, K_nb, K_ni, K_ns, K_nl, K_nt, K_bb, K_bi, K_bs, K_bl, K_bt, K_ib, K_ii, K_is, K_il, K_it, K_sb, K_si, K_ss, K_sl, K_st, K_lb, K_li, K_ls, K_ll, K_lt, K_tb, K_ti, K_ts, K_tl, K_tt, K_db, K_di, K_ds, K_dl, K_dt, t_n, t_d, t_s, r_outO1, r_outO2, r_Ask1, r_Ask2, v_TR, v_add, v_sub, v_neg, v_lt, v_le, v_gt, v_ge, v_eq, v_ne, v_max2, v_min2, v_mod, v_div, v_pow9, v_pow18, v_mulL, v_mulR, v_divmod, v_lenL, v_lenT, v_sum, v_eqL, v_listOf, v_inT2, v_sorted, sortB_f, v_sortL, v_sortT, v_sortDL, v_sortDT, v_sortDP, v_keep, v_tupL, v_tupT, v_sumL, v_sumT, v_app, v_neL, v_pow39, v_pow40, ob_nil, ob_zero, ob_1, ob_2, ob_3, ob_4, ob_5, ob_6, ob_7, ob_8, ll_n, ll_b, ll_i, ll_s, bs_n, bs_v, bs_l, bs_s, llA_ints, List.all_cons, List.all_nil, Bool.and_true, Bool.true_and, Bool.false_and, Bool.and_false, Bool.and_self, v_isN0, v_isNi, v_notN0, v_notNi, v_ixL, v_ixT, v_cutL, v_cutT, k_ii, k_ib, k_bi, k_bb, k_ll, k_lt, k_tl, k_tt, t_i, t_b, t_l, t_t, isR, if_true, true_and, and_true, and_self, if_false, if_pos, Bool.not_true, Bool.not_false, List.length_cons, List.length_nil, List.replicate, List.cons_append, List.nil_append, List.head?_cons, List.tail_cons, List.any_nil, List.any_cons, Bool.false_eq_true, Bool.or_false, Bool.false_or, beq_self_eq_true, Nat.reduceSub, Nat.reduceAdd, Nat.reduceLeDiff, Nat.reduceBEq, Nat.reduceEqDiff, reduceIte, eq_self, reduceCtorEq, kp_p1, kp_p2, kp_p3, kp_p4, kp_p5, kp_p6, kp_h, kp_d, kp_l1, kp_l2, kp_l3, kp_l4, kp_l5, kp_l6, kp_cups, kp_scoops, kp_rows, kp_looks, kp_held, kp_done, kp_choose, kp_nums, kp_stand, Int.reduceToNat, Int.reduceBEq, Nat.zero_add, Nat.reduceLT, pairD, u_x_poured_1]) (by rw [List.length_zip]; omega)
  rw [q_poured]
  simp (maxSteps := 1000000) (disch := first | omega | exact Or.inl rfl | exact Or.inr rfl | exact f_non | exact f_val _ | exact f_own _ | (simp only [List.length_map, List.length_replicate, List.length_append, List.length_cons, List.length_nil, firstI_length, List.length_range, rowsD_length, List.length_drop, List.length_take, sortB_len, rangeI_len]; omega)) only [↓rb, ↓r_ofO, ↓r_den, ↓r_oX1, ↓r_oX2, ↓r_bX1, ↓r_bX2, ↓r_lX1, ↓r_lX2, ↓r_C, ↓r_Var, ↓r_Val, ↓r_Move, ↓r_fz, ↓r_ofD, ↓r_Op, ↓r_eOp, ↓r_Un, ↓r_CB, ↓r_eCB, ↓r_Mul, ↓r_Nil, ↓r_Cons, ↓r_Lst, ↓r_Tup, ↓r_Bl, ↓r_And, ↓r_Or, ↓r_NotM, ↓r_Yes, ↓r_If, ↓r_Chain, ↓r_Next, ↓r_Seq, ↓r_Bk, ↓r_Ct, ↓r_Never, ↓r_Ret, ↓r_RetN, ↓r_Expr, ↓r_sIf, ↓r_Set, ↓r_Asg, ↓r_Par, ↓r_bName, ↓r_bNil, ↓r_bCons, ↓r_bTup, ↓r_bTupL, ↓r_free, ↓f_non, ↓f_val, ↓f_own, ↓f_pin, ↓r_toSl, ↓r_fzR, ↓r_dAnd, ↓r_dOr, ↓r_dNot, ↓r_ixO, ↓r_Put, ↓r_Mut, ↓r_arNil, ↓r_arV, ↓r_arR, ↓r_Call, ↓r_CallK, ↓r_CallKD, ↓r_CallT, ↓r_For, ↓r_Lc, ↓r_iSeq, ↓r_iRng1, ↓r_iRng2, ↓r_iEnum, ↓r_iEnumA, ↓r_iEnumB, ↓r_TR1, ↓r_LenO, ↓r_NeO, ↓r_iZip, ↓r_iZipB, ↓r_LenSet, ↓r_step, ↓r_LR1, ↓r_LR2, ↓r_oNone, ↓r_oSome, ↓r_Cut, ↓r_Rev, ↓r_RevA, ↓r_keep, ↓r_Raise, ↓r_Try, ↓r_endX, ↓r_Exn, ↓r_Fld, ↓r_FldM, ↓r_FldAdd, ↓r_bFld, ↓r_Meth, ↓r_MethT, ↓r_Make, ↓r_Par3, ↓r_AugN, ↓r_AugPut, ↓f_exn, ↓nx_nil, ↓nx_n, ↓nx_v, ↓nx_o, ↓nx_x, ↓r_Isi, ↓r_IsiT, ↓r_Bor, ↓r_noEx, ↓r_wipe0, ↓r_wipe1, ↓r_outs0, ↓r_outs1, ↓r_out1, ↓r_out2, ↓r_mkA0, ↓r_mkA1, ↓r_mkA2, ↓r_wb0, ↓r_wb1, ↓r_wb2, ↓r_Said, ↓r_hide0, ↓r_hide1, ↓r_hideV, ↓r_hideO, ↓r_hideN, ↓r_IsE, ↓r_IsE2, ↓r_iZip3, ↓r_Mt, ↓r_Pre, ↓r_CutO, ↓r_setOwn, ↓r_Copy, ↓r_pick0, ↓r_pick1, ↓r_val0, ↓r_val1, ↓g0, ↓g1, ↓g2, ↓g3, ↓g4, ↓g5, ↓g6, ↓g7, ↓g8, ↓g9, ↓g10, ↓g11, ↓g12, ↓g13, ↓g14, ↓g15, ↓g16, ↓g17, ↓g18, ↓g19, ↓u0, ↓u1, ↓u2, ↓u3, ↓u4, ↓u5, ↓u6, ↓u7, ↓u8, ↓u9, ↓u10, ↓u11, ↓u12, ↓u13, ↓u14, ↓u15, ↓u16, ↓u17, ↓u18, ↓u19, v_eqE0, v_neE0, K_nb, K_ni, K_ns, K_nl, K_nt, K_bb, K_bi, K_bs, K_bl, K_bt, K_ib, K_ii, K_is, K_il, K_it, K_sb, K_si, K_ss, K_sl, K_st, K_lb, K_li, K_ls, K_ll, K_lt, K_tb, K_ti, K_ts, K_tl, K_tt, K_db, K_di, K_ds, K_dl, K_dt, t_n, t_d, t_s, r_outO1, r_outO2, r_Ask1, r_Ask2, v_TR, v_add, v_sub, v_neg, v_lt, v_le, v_gt, v_ge, v_eq, v_ne, v_max2, v_min2, v_mod, v_div, v_pow9, v_pow18, v_mulL, v_mulR, v_divmod, v_lenL, v_lenT, v_sum, v_eqL, v_listOf, v_inT2, v_sorted, sortB_f, v_sortL, v_sortT, v_sortDL, v_sortDT, v_sortDP, v_keep, v_tupL, v_tupT, v_sumL, v_sumT, v_app, v_neL, v_pow39, v_pow40, ob_nil, ob_zero, ob_1, ob_2, ob_3, ob_4, ob_5, ob_6, ob_7, ob_8, ll_n, ll_b, ll_i, ll_s, bs_n, bs_v, bs_l, bs_s, llA_ints, List.all_cons, List.all_nil, Bool.and_true, Bool.true_and, Bool.false_and, Bool.and_false, Bool.and_self, v_isN0, v_isNi, v_notN0, v_notNi, v_ixL, v_ixT, v_cutL, v_cutT, k_ii, k_ib, k_bi, k_bb, k_ll, k_lt, k_tl, k_tt, t_i, t_b, t_l, t_t, isR, if_true, true_and, and_true, and_self, if_false, if_pos, Bool.not_true, Bool.not_false, List.length_cons, List.length_nil, List.replicate, List.cons_append, List.nil_append, List.head?_cons, List.tail_cons, List.any_nil, List.any_cons, Bool.false_eq_true, Bool.or_false, Bool.false_or, beq_self_eq_true, Nat.reduceSub, Nat.reduceAdd, Nat.reduceLeDiff, Nat.reduceBEq, Nat.reduceEqDiff, reduceIte, eq_self, reduceCtorEq, kp_p1, kp_p2, kp_p3, kp_p4, kp_p5, kp_p6, kp_h, kp_d, kp_l1, kp_l2, kp_l3, kp_l4, kp_l5, kp_l6, kp_cups, kp_scoops, kp_rows, kp_looks, kp_held, kp_done, kp_choose, kp_nums, kp_stand, Int.reduceToNat, Int.reduceBEq, Nat.zero_add, Nat.reduceLT, e_want_standing a S, List.length_map, e_want_pour b _ hn (congrArg _ hl) (by omega), v_zipTT, hl, zipD_ints, lc]
  rw [show ((a.zip b).map fun p => PyData.int (p.1 + p.2)) = (addI a b).map PyData.int from by unfold addI; rw [List.map_map]; rfl]
theorem e_falling (l : List Int) : d_falling [.val (.tuple (l.map .int))] = .ok (.val (.tuple ((sortB true l).map .int)), [.val (.tuple (l.map .int))]) := by
  unfold d_falling
  simp (maxSteps := 1000000) (disch := first | omega | exact Or.inl rfl | exact Or.inr rfl | exact f_non | exact f_val _ | exact f_own _ | (simp only [List.length_map, List.length_replicate, List.length_append, List.length_cons, List.length_nil, firstI_length, List.length_range, rowsD_length, List.length_drop, List.length_take, sortB_len, rangeI_len]; omega)) only [↓rb, ↓r_ofO, ↓r_den, ↓r_oX1, ↓r_oX2, ↓r_bX1, ↓r_bX2, ↓r_lX1, ↓r_lX2, ↓r_C, ↓r_Var, ↓r_Val, ↓r_Move, ↓r_fz, ↓r_ofD, ↓r_Op, ↓r_eOp, ↓r_Un, ↓r_CB, ↓r_eCB, ↓r_Mul, ↓r_Nil, ↓r_Cons, ↓r_Lst, ↓r_Tup, ↓r_Bl, ↓r_And, ↓r_Or, ↓r_NotM, ↓r_Yes, ↓r_If, ↓r_Chain, ↓r_Next, ↓r_Seq, ↓r_Bk, ↓r_Ct, ↓r_Never, ↓r_Ret, ↓r_RetN, ↓r_Expr, ↓r_sIf, ↓r_Set, ↓r_Asg, ↓r_Par, ↓r_bName, ↓r_bNil, ↓r_bCons, ↓r_bTup, ↓r_bTupL, ↓r_free, ↓f_non, ↓f_val, ↓f_own, ↓f_pin, ↓r_toSl, ↓r_fzR, ↓r_dAnd, ↓r_dOr, ↓r_dNot, ↓r_ixO, ↓r_Put, ↓r_Mut, ↓r_arNil, ↓r_arV, ↓r_arR, ↓r_Call, ↓r_CallK, ↓r_CallKD, ↓r_CallT, ↓r_For, ↓r_Lc, ↓r_iSeq, ↓r_iRng1, ↓r_iRng2, ↓r_iEnum, ↓r_iEnumA, ↓r_iEnumB, ↓r_TR1, ↓r_LenO, ↓r_NeO, ↓r_iZip, ↓r_iZipB, ↓r_LenSet, ↓r_step, ↓r_LR1, ↓r_LR2, ↓r_oNone, ↓r_oSome, ↓r_Cut, ↓r_Rev, ↓r_RevA, ↓r_keep, ↓r_Raise, ↓r_Try, ↓r_endX, ↓r_Exn, ↓r_Fld, ↓r_FldM, ↓r_FldAdd, ↓r_bFld, ↓r_Meth, ↓r_MethT, ↓r_Make, ↓r_Par3, ↓r_AugN, ↓r_AugPut, ↓f_exn, ↓nx_nil, ↓nx_n, ↓nx_v, ↓nx_o, ↓nx_x, ↓r_Isi, ↓r_IsiT, ↓r_Bor, ↓r_noEx, ↓r_wipe0, ↓r_wipe1, ↓r_outs0, ↓r_outs1, ↓r_out1, ↓r_out2, ↓r_mkA0, ↓r_mkA1, ↓r_mkA2, ↓r_wb0, ↓r_wb1, ↓r_wb2, ↓r_Said, ↓r_hide0, ↓r_hide1, ↓r_hideV, ↓r_hideO, ↓r_hideN, ↓r_IsE, ↓r_IsE2, ↓r_iZip3, ↓r_Mt, ↓r_Pre, ↓r_CutO, ↓r_setOwn, ↓r_Copy, ↓r_pick0, ↓r_pick1, ↓r_val0, ↓r_val1, ↓g0, ↓g1, ↓g2, ↓g3, ↓g4, ↓g5, ↓g6, ↓g7, ↓g8, ↓g9, ↓g10, ↓g11, ↓g12, ↓g13, ↓g14, ↓g15, ↓g16, ↓g17, ↓g18, ↓g19, ↓u0, ↓u1, ↓u2, ↓u3, ↓u4, ↓u5, ↓u6, ↓u7, ↓u8, ↓u9, ↓u10, ↓u11, ↓u12, ↓u13, ↓u14, ↓u15, ↓u16, ↓u17, ↓u18, ↓u19, v_eqE0, v_neE0, K_nb, K_ni, K_ns, K_nl, K_nt, K_bb, K_bi, K_bs, K_bl, K_bt, K_ib, K_ii, K_is, K_il, K_it, K_sb, K_si, K_ss, K_sl, K_st, K_lb, K_li, K_ls, K_ll, K_lt, K_tb, K_ti, K_ts, K_tl, K_tt, K_db, K_di, K_ds, K_dl, K_dt, t_n, t_d, t_s, r_outO1, r_outO2, r_Ask1, r_Ask2, v_TR, v_add, v_sub, v_neg, v_lt, v_le, v_gt, v_ge, v_eq, v_ne, v_max2, v_min2, v_mod, v_div, v_pow9, v_pow18, v_mulL, v_mulR, v_divmod, v_lenL, v_lenT, v_sum, v_eqL, v_listOf, v_inT2, v_sorted, sortB_f, v_sortL, v_sortT, v_sortDL, v_sortDT, v_sortDP, v_keep, v_tupL, v_tupT, v_sumL, v_sumT, v_app, v_neL, v_pow39, v_pow40, ob_nil, ob_zero, ob_1, ob_2, ob_3, ob_4, ob_5, ob_6, ob_7, ob_8, ll_n, ll_b, ll_i, ll_s, bs_n, bs_v, bs_l, bs_s, llA_ints, List.all_cons, List.all_nil, Bool.and_true, Bool.true_and, Bool.false_and, Bool.and_false, Bool.and_self, v_isN0, v_isNi, v_notN0, v_notNi, v_ixL, v_ixT, v_cutL, v_cutT, k_ii, k_ib, k_bi, k_bb, k_ll, k_lt, k_tl, k_tt, t_i, t_b, t_l, t_t, isR, if_true, true_and, and_true, and_self, if_false, if_pos, Bool.not_true, Bool.not_false, List.length_cons, List.length_nil, List.replicate, List.cons_append, List.nil_append, List.head?_cons, List.tail_cons, List.any_nil, List.any_cons, Bool.false_eq_true, Bool.or_false, Bool.false_or, beq_self_eq_true, Nat.reduceSub, Nat.reduceAdd, Nat.reduceLeDiff, Nat.reduceBEq, Nat.reduceEqDiff, reduceIte, eq_self, reduceCtorEq, kp_p1, kp_p2, kp_p3, kp_p4, kp_p5, kp_p6, kp_h, kp_d, kp_l1, kp_l2, kp_l3, kp_l4, kp_l5, kp_l6, kp_cups, kp_scoops, kp_rows, kp_looks, kp_held, kp_done, kp_choose, kp_nums, kp_stand, Int.reduceToNat, Int.reduceBEq, Nat.zero_add, Nat.reduceLT]
theorem e_is_nowhere_less (a b : List Int) (hl : a.length = b.length) (hb : a.length ≤ 1000) : d_is_nowhere_less [.val (.tuple (a.map .int)), .val (.tuple (b.map .int))] = .ok (.val (.bool ((a.zip b).all fun p => decide (p.2 ≤ p.1))), [.val (.tuple (a.map .int)), .val (.tuple (b.map .int))]) := by
  have lc : lcD [2, 3] (bTup 2 (bCons (bName 2) (bCons (bName 3) bNil))) tYesM x_is_nowhere_less_1 ((a.zip b).map pairD) [] [.val (.tuple (a.map .int)), .val (.tuple (b.map .int)), .non, .non] = .ok ((a.zip b).map (fun p => .bool (decide (p.2 ≤ p.1))), [.val (.tuple (a.map .int)), .val (.tuple (b.map .int)), .non, .non]) :=
    lcD_mapI pairD (fun p => .bool (decide (p.2 ≤ p.1))) (a.zip b) (fun z _ => by simp (maxSteps := 1000000) (disch := first | omega | exact Or.inl rfl | exact Or.inr rfl | exact f_non | exact f_val _ | exact f_own _ | (simp only [List.length_map, List.length_replicate, List.length_append, List.length_cons, List.length_nil, firstI_length, List.length_range, rowsD_length, List.length_drop, List.length_take, sortB_len, rangeI_len]; omega)) only [↓rb, ↓r_ofO, ↓r_den, ↓r_oX1, ↓r_oX2, ↓r_bX1, ↓r_bX2, ↓r_lX1, ↓r_lX2, ↓r_C, ↓r_Var, ↓r_Val, ↓r_Move, ↓r_fz, ↓r_ofD, ↓r_Op, ↓r_eOp, ↓r_Un, ↓r_CB, ↓r_eCB, ↓r_Mul, ↓r_Nil, ↓r_Cons, ↓r_Lst, ↓r_Tup, ↓r_Bl, ↓r_And, ↓r_Or, ↓r_NotM, ↓r_Yes, ↓r_If, ↓r_Chain, ↓r_Next, ↓r_Seq, ↓r_Bk, ↓r_Ct, ↓r_Never, ↓r_Ret, ↓r_RetN, ↓r_Expr, ↓r_sIf, ↓r_Set, ↓r_Asg, ↓r_Par, ↓r_bName, ↓r_bNil, ↓r_bCons, ↓r_bTup, ↓r_bTupL, ↓r_free, ↓f_non, ↓f_val, ↓f_own, ↓f_pin, ↓r_toSl, ↓r_fzR, ↓r_dAnd, ↓r_dOr, ↓r_dNot, ↓r_ixO, ↓r_Put, ↓r_Mut, ↓r_arNil, ↓r_arV, ↓r_arR, ↓r_Call, ↓r_CallK, ↓r_CallKD, ↓r_CallT, ↓r_For, ↓r_Lc, ↓r_iSeq, ↓r_iRng1, ↓r_iRng2, ↓r_iEnum, ↓r_iEnumA, ↓r_iEnumB, ↓r_TR1, ↓r_LenO, ↓r_NeO, ↓r_iZip, ↓r_iZipB, ↓r_LenSet, ↓r_step, ↓r_LR1, ↓r_LR2, ↓r_oNone, ↓r_oSome, ↓r_Cut, ↓r_Rev, ↓r_RevA, ↓r_keep, ↓r_Raise, ↓r_Try, ↓r_endX, ↓r_Exn, ↓r_Fld, ↓r_FldM, ↓r_FldAdd, ↓r_bFld, ↓r_Meth, ↓r_MethT, ↓r_Make, ↓r_Par3, ↓r_AugN, ↓r_AugPut, ↓f_exn, ↓nx_nil, ↓nx_n, ↓nx_v, ↓nx_o, ↓nx_x, ↓r_Isi, ↓r_IsiT, ↓r_Bor, ↓r_noEx, ↓r_wipe0, ↓r_wipe1, ↓r_outs0, ↓r_outs1, ↓r_out1, ↓r_out2, ↓r_mkA0, ↓r_mkA1, ↓r_mkA2, ↓r_wb0, ↓r_wb1, ↓r_wb2, ↓r_Said, ↓r_hide0, ↓r_hide1, ↓r_hideV, ↓r_hideO, ↓r_hideN, ↓r_IsE, ↓r_IsE2, ↓r_iZip3, ↓r_Mt, ↓r_Pre, ↓r_CutO, ↓r_setOwn, ↓r_Copy, ↓r_pick0, ↓r_pick1, ↓r_val0, ↓r_val1, ↓g0, ↓g1, ↓g2, ↓g3, ↓g4, ↓g5, ↓g6, ↓g7, ↓g8, ↓g9, ↓g10, ↓g11, ↓g12, ↓g13, ↓g14, ↓g15, ↓g16, ↓g17, ↓g18, ↓g19, ↓u0, ↓u1, ↓u2, ↓u3, ↓u4, ↓u5, ↓u6, ↓u7, ↓u8, ↓u9, ↓u10, ↓u11, ↓u12, ↓u13, ↓u14, ↓u15, ↓u16, ↓u17, ↓u18, ↓u19, v_eqE0, v_neE0, K_nb, K_ni, K_ns, K_nl, K_nt, K_bb, K_bi, K_bs, K_bl, K_bt, K_ib, K_ii, K_is, K_il, K_it, K_sb, K_si, K_ss, K_sl, K_st, K_lb, K_li, K_ls, K_ll, K_lt, K_tb, K_ti, K_ts, K_tl, K_tt, K_db, K_di, K_ds, K_dl, K_dt, t_n, t_d, t_s, r_outO1, r_outO2, r_Ask1, r_Ask2, v_TR, v_add, v_sub, v_neg, v_lt, v_le, v_gt, v_ge, v_eq, v_ne, v_max2, v_min2, v_mod, v_div, v_pow9, v_pow18, v_mulL, v_mulR, v_divmod, v_lenL, v_lenT, v_sum, v_eqL, v_listOf, v_inT2, v_sorted, sortB_f, v_sortL, v_sortT, v_sortDL, v_sortDT, v_sortDP, v_keep, v_tupL, v_tupT, v_sumL, v_sumT, v_app, v_neL, v_pow39, v_pow40, ob_nil, ob_zero, ob_1, ob_2, ob_3, ob_4, ob_5, ob_6, ob_7, ob_8, ll_n, ll_b, ll_i, ll_s, bs_n, bs_v, bs_l, bs_s, llA_ints, List.all_cons, List.all_nil, Bool.and_true, Bool.true_and, Bool.false_and, Bool.and_false, Bool.and_self, v_isN0, v_isNi, v_notN0, v_notNi, v_ixL, v_ixT, v_cutL, v_cutT, k_ii, k_ib, k_bi, k_bb, k_ll, k_lt, k_tl, k_tt, t_i, t_b, t_l, t_t, isR, if_true, true_and, and_true, and_self, if_false, if_pos, Bool.not_true, Bool.not_false, List.length_cons, List.length_nil, List.replicate, List.cons_append, List.nil_append, List.head?_cons, List.tail_cons, List.any_nil, List.any_cons, Bool.false_eq_true, Bool.or_false, Bool.false_or, beq_self_eq_true, Nat.reduceSub, Nat.reduceAdd, Nat.reduceLeDiff, Nat.reduceBEq, Nat.reduceEqDiff, reduceIte, eq_self, reduceCtorEq, kp_p1, kp_p2, kp_p3, kp_p4, kp_p5, kp_p6, kp_h, kp_d, kp_l1, kp_l2, kp_l3, kp_l4, kp_l5, kp_l6, kp_cups, kp_scoops, kp_rows, kp_looks, kp_held, kp_done, kp_choose, kp_nums, kp_stand, Int.reduceToNat, Int.reduceBEq, Nat.zero_add, Nat.reduceLT, pairD, u_x_is_nowhere_less_1]) (by rw [List.length_zip]; omega)
  rw [q_is_nowhere_less]
  simp (maxSteps := 1000000) (disch := first | omega | exact Or.inl rfl | exact Or.inr rfl | exact f_non | exact f_val _ | exact f_own _ | (simp only [List.length_map, List.length_replicate, List.length_append, List.length_cons, List.length_nil, firstI_length, List.length_range, rowsD_length, List.length_drop, List.length_take, sortB_len, rangeI_len]; omega)) only [↓rb, ↓r_ofO, ↓r_den, ↓r_oX1, ↓r_oX2, ↓r_bX1, ↓r_bX2, ↓r_lX1, ↓r_lX2, ↓r_C, ↓r_Var, ↓r_Val, ↓r_Move, ↓r_fz, ↓r_ofD, ↓r_Op, ↓r_eOp, ↓r_Un, ↓r_CB, ↓r_eCB, ↓r_Mul, ↓r_Nil, ↓r_Cons, ↓r_Lst, ↓r_Tup, ↓r_Bl, ↓r_And, ↓r_Or, ↓r_NotM, ↓r_Yes, ↓r_If, ↓r_Chain, ↓r_Next, ↓r_Seq, ↓r_Bk, ↓r_Ct, ↓r_Never, ↓r_Ret, ↓r_RetN, ↓r_Expr, ↓r_sIf, ↓r_Set, ↓r_Asg, ↓r_Par, ↓r_bName, ↓r_bNil, ↓r_bCons, ↓r_bTup, ↓r_bTupL, ↓r_free, ↓f_non, ↓f_val, ↓f_own, ↓f_pin, ↓r_toSl, ↓r_fzR, ↓r_dAnd, ↓r_dOr, ↓r_dNot, ↓r_ixO, ↓r_Put, ↓r_Mut, ↓r_arNil, ↓r_arV, ↓r_arR, ↓r_Call, ↓r_CallK, ↓r_CallKD, ↓r_CallT, ↓r_For, ↓r_Lc, ↓r_iSeq, ↓r_iRng1, ↓r_iRng2, ↓r_iEnum, ↓r_iEnumA, ↓r_iEnumB, ↓r_TR1, ↓r_LenO, ↓r_NeO, ↓r_iZip, ↓r_iZipB, ↓r_LenSet, ↓r_step, ↓r_LR1, ↓r_LR2, ↓r_oNone, ↓r_oSome, ↓r_Cut, ↓r_Rev, ↓r_RevA, ↓r_keep, ↓r_Raise, ↓r_Try, ↓r_endX, ↓r_Exn, ↓r_Fld, ↓r_FldM, ↓r_FldAdd, ↓r_bFld, ↓r_Meth, ↓r_MethT, ↓r_Make, ↓r_Par3, ↓r_AugN, ↓r_AugPut, ↓f_exn, ↓nx_nil, ↓nx_n, ↓nx_v, ↓nx_o, ↓nx_x, ↓r_Isi, ↓r_IsiT, ↓r_Bor, ↓r_noEx, ↓r_wipe0, ↓r_wipe1, ↓r_outs0, ↓r_outs1, ↓r_out1, ↓r_out2, ↓r_mkA0, ↓r_mkA1, ↓r_mkA2, ↓r_wb0, ↓r_wb1, ↓r_wb2, ↓r_Said, ↓r_hide0, ↓r_hide1, ↓r_hideV, ↓r_hideO, ↓r_hideN, ↓r_IsE, ↓r_IsE2, ↓r_iZip3, ↓r_Mt, ↓r_Pre, ↓r_CutO, ↓r_setOwn, ↓r_Copy, ↓r_pick0, ↓r_pick1, ↓r_val0, ↓r_val1, ↓g0, ↓g1, ↓g2, ↓g3, ↓g4, ↓g5, ↓g6, ↓g7, ↓g8, ↓g9, ↓g10, ↓g11, ↓g12, ↓g13, ↓g14, ↓g15, ↓g16, ↓g17, ↓g18, ↓g19, ↓u0, ↓u1, ↓u2, ↓u3, ↓u4, ↓u5, ↓u6, ↓u7, ↓u8, ↓u9, ↓u10, ↓u11, ↓u12, ↓u13, ↓u14, ↓u15, ↓u16, ↓u17, ↓u18, ↓u19, v_eqE0, v_neE0, K_nb, K_ni, K_ns, K_nl, K_nt, K_bb, K_bi, K_bs, K_bl, K_bt, K_ib, K_ii, K_is, K_il, K_it, K_sb, K_si, K_ss, K_sl, K_st, K_lb, K_li, K_ls, K_ll, K_lt, K_tb, K_ti, K_ts, K_tl, K_tt, K_db, K_di, K_ds, K_dl, K_dt, t_n, t_d, t_s, r_outO1, r_outO2, r_Ask1, r_Ask2, v_TR, v_add, v_sub, v_neg, v_lt, v_le, v_gt, v_ge, v_eq, v_ne, v_max2, v_min2, v_mod, v_div, v_pow9, v_pow18, v_mulL, v_mulR, v_divmod, v_lenL, v_lenT, v_sum, v_eqL, v_listOf, v_inT2, v_sorted, sortB_f, v_sortL, v_sortT, v_sortDL, v_sortDT, v_sortDP, v_keep, v_tupL, v_tupT, v_sumL, v_sumT, v_app, v_neL, v_pow39, v_pow40, ob_nil, ob_zero, ob_1, ob_2, ob_3, ob_4, ob_5, ob_6, ob_7, ob_8, ll_n, ll_b, ll_i, ll_s, bs_n, bs_v, bs_l, bs_s, llA_ints, List.all_cons, List.all_nil, Bool.and_true, Bool.true_and, Bool.false_and, Bool.and_false, Bool.and_self, v_isN0, v_isNi, v_notN0, v_notNi, v_ixL, v_ixT, v_cutL, v_cutT, k_ii, k_ib, k_bi, k_bb, k_ll, k_lt, k_tl, k_tt, t_i, t_b, t_l, t_t, isR, if_true, true_and, and_true, and_self, if_false, if_pos, Bool.not_true, Bool.not_false, List.length_cons, List.length_nil, List.replicate, List.cons_append, List.nil_append, List.head?_cons, List.tail_cons, List.any_nil, List.any_cons, Bool.false_eq_true, Bool.or_false, Bool.false_or, beq_self_eq_true, Nat.reduceSub, Nat.reduceAdd, Nat.reduceLeDiff, Nat.reduceBEq, Nat.reduceEqDiff, reduceIte, eq_self, reduceCtorEq, kp_p1, kp_p2, kp_p3, kp_p4, kp_p5, kp_p6, kp_h, kp_d, kp_l1, kp_l2, kp_l3, kp_l4, kp_l5, kp_l6, kp_cups, kp_scoops, kp_rows, kp_looks, kp_held, kp_done, kp_choose, kp_nums, kp_stand, Int.reduceToNat, Int.reduceBEq, Nat.zero_add, Nat.reduceLT, v_zipTT, List.length_map, hl, zipD_ints, lc, v_allM]
theorem e_what_stays (a b : List Int) (k : Int) (S : Stg a) (hn : ∀ z ∈ b, 0 ≤ z) (hl : b.length = a.length) (h1 : 1 ≤ k) (h2 : k < a.length) : d_what_stays [.val (.tuple (a.map .int)), .val (.tuple (b.map .int)), .val (.int k)] = .ok (.val (.tuple ((staysI (addI a b) k.toNat).map .int)), [.val (.tuple (a.map .int)), .val (.tuple (b.map .int)), .val (.int k)]) := by
  have h3 := S.hi
  obtain ⟨k, rfl⟩ := Int.eq_ofNat_of_zero_le (show 0 ≤ k by omega)
  have hx : (addI a b).length = a.length := addI_len hl
  unfold d_what_stays
  simp (maxSteps := 1000000) (disch := first | omega | exact Or.inl rfl | exact Or.inr rfl | exact f_non | exact f_val _ | exact f_own _ | (simp only [List.length_map, List.length_replicate, List.length_append, List.length_cons, List.length_nil, firstI_length, List.length_range, rowsD_length, List.length_drop, List.length_take, sortB_len, rangeI_len]; omega)) only [↓rb, ↓r_ofO, ↓r_den, ↓r_oX1, ↓r_oX2, ↓r_bX1, ↓r_bX2, ↓r_lX1, ↓r_lX2, ↓r_C, ↓r_Var, ↓r_Val, ↓r_Move, ↓r_fz, ↓r_ofD, ↓r_Op, ↓r_eOp, ↓r_Un, ↓r_CB, ↓r_eCB, ↓r_Mul, ↓r_Nil, ↓r_Cons, ↓r_Lst, ↓r_Tup, ↓r_Bl, ↓r_And, ↓r_Or, ↓r_NotM, ↓r_Yes, ↓r_If, ↓r_Chain, ↓r_Next, ↓r_Seq, ↓r_Bk, ↓r_Ct, ↓r_Never, ↓r_Ret, ↓r_RetN, ↓r_Expr, ↓r_sIf, ↓r_Set, ↓r_Asg, ↓r_Par, ↓r_bName, ↓r_bNil, ↓r_bCons, ↓r_bTup, ↓r_bTupL, ↓r_free, ↓f_non, ↓f_val, ↓f_own, ↓f_pin, ↓r_toSl, ↓r_fzR, ↓r_dAnd, ↓r_dOr, ↓r_dNot, ↓r_ixO, ↓r_Put, ↓r_Mut, ↓r_arNil, ↓r_arV, ↓r_arR, ↓r_Call, ↓r_CallK, ↓r_CallKD, ↓r_CallT, ↓r_For, ↓r_Lc, ↓r_iSeq, ↓r_iRng1, ↓r_iRng2, ↓r_iEnum, ↓r_iEnumA, ↓r_iEnumB, ↓r_TR1, ↓r_LenO, ↓r_NeO, ↓r_iZip, ↓r_iZipB, ↓r_LenSet, ↓r_step, ↓r_LR1, ↓r_LR2, ↓r_oNone, ↓r_oSome, ↓r_Cut, ↓r_Rev, ↓r_RevA, ↓r_keep, ↓r_Raise, ↓r_Try, ↓r_endX, ↓r_Exn, ↓r_Fld, ↓r_FldM, ↓r_FldAdd, ↓r_bFld, ↓r_Meth, ↓r_MethT, ↓r_Make, ↓r_Par3, ↓r_AugN, ↓r_AugPut, ↓f_exn, ↓nx_nil, ↓nx_n, ↓nx_v, ↓nx_o, ↓nx_x, ↓r_Isi, ↓r_IsiT, ↓r_Bor, ↓r_noEx, ↓r_wipe0, ↓r_wipe1, ↓r_outs0, ↓r_outs1, ↓r_out1, ↓r_out2, ↓r_mkA0, ↓r_mkA1, ↓r_mkA2, ↓r_wb0, ↓r_wb1, ↓r_wb2, ↓r_Said, ↓r_hide0, ↓r_hide1, ↓r_hideV, ↓r_hideO, ↓r_hideN, ↓r_IsE, ↓r_IsE2, ↓r_iZip3, ↓r_Mt, ↓r_Pre, ↓r_CutO, ↓r_setOwn, ↓r_Copy, ↓r_pick0, ↓r_pick1, ↓r_val0, ↓r_val1, ↓g0, ↓g1, ↓g2, ↓g3, ↓g4, ↓g5, ↓g6, ↓g7, ↓g8, ↓g9, ↓g10, ↓g11, ↓g12, ↓g13, ↓g14, ↓g15, ↓g16, ↓g17, ↓g18, ↓g19, ↓u0, ↓u1, ↓u2, ↓u3, ↓u4, ↓u5, ↓u6, ↓u7, ↓u8, ↓u9, ↓u10, ↓u11, ↓u12, ↓u13, ↓u14, ↓u15, ↓u16, ↓u17, ↓u18, ↓u19, v_eqE0, v_neE0, K_nb, K_ni, K_ns, K_nl, K_nt, K_bb, K_bi, K_bs, K_bl, K_bt, K_ib, K_ii, K_is, K_il, K_it, K_sb, K_si, K_ss, K_sl, K_st, K_lb, K_li, K_ls, K_ll, K_lt, K_tb, K_ti, K_ts, K_tl, K_tt, K_db, K_di, K_ds, K_dl, K_dt, t_n, t_d, t_s, r_outO1, r_outO2, r_Ask1, r_Ask2, v_TR, v_add, v_sub, v_neg, v_lt, v_le, v_gt, v_ge, v_eq, v_ne, v_max2, v_min2, v_mod, v_div, v_pow9, v_pow18, v_mulL, v_mulR, v_divmod, v_lenL, v_lenT, v_sum, v_eqL, v_listOf, v_inT2, v_sorted, sortB_f, v_sortL, v_sortT, v_sortDL, v_sortDT, v_sortDP, v_keep, v_tupL, v_tupT, v_sumL, v_sumT, v_app, v_neL, v_pow39, v_pow40, ob_nil, ob_zero, ob_1, ob_2, ob_3, ob_4, ob_5, ob_6, ob_7, ob_8, ll_n, ll_b, ll_i, ll_s, bs_n, bs_v, bs_l, bs_s, llA_ints, List.all_cons, List.all_nil, Bool.and_true, Bool.true_and, Bool.false_and, Bool.and_false, Bool.and_self, v_isN0, v_isNi, v_notN0, v_notNi, v_ixL, v_ixT, v_cutL, v_cutT, k_ii, k_ib, k_bi, k_bb, k_ll, k_lt, k_tl, k_tt, t_i, t_b, t_l, t_t, isR, if_true, true_and, and_true, and_self, if_false, if_pos, Bool.not_true, Bool.not_false, List.length_cons, List.length_nil, List.replicate, List.cons_append, List.nil_append, List.head?_cons, List.tail_cons, List.any_nil, List.any_cons, Bool.false_eq_true, Bool.or_false, Bool.false_or, beq_self_eq_true, Nat.reduceSub, Nat.reduceAdd, Nat.reduceLeDiff, Nat.reduceBEq, Nat.reduceEqDiff, reduceIte, eq_self, reduceCtorEq, kp_p1, kp_p2, kp_p3, kp_p4, kp_p5, kp_p6, kp_h, kp_d, kp_l1, kp_l2, kp_l3, kp_l4, kp_l5, kp_l6, kp_cups, kp_scoops, kp_rows, kp_looks, kp_held, kp_done, kp_choose, kp_nums, kp_stand, Int.reduceToNat, Int.reduceBEq, Nat.zero_add, Nat.reduceLT, e_poured a b S hn hl, e_falling, cut_from, v_tm1, v_catT, List.length_drop, List.length_map, sortB_len, hx, List.length_replicate]
  unfold staysI
  rw [List.map_append, List.map_drop, List.map_replicate]
  rfl
theorem e_even (t c : Int) (h1 : 0 ≤ t) (h2 : 1 ≤ c) (h3 : c ≤ 40) : d_even [.val (.int t), .val (.int c)] = .ok (.own (.lst ((evenI t c).map .int)), [.val (.int t), .val (.int c)]) := by
  have z1 := Int.emod_nonneg t (show c ≠ 0 by omega)
  have z2 := Int.emod_lt_of_pos t (show 0 < c by omega)
  unfold d_even
  simp (maxSteps := 1000000) (disch := first | omega | exact Or.inl rfl | exact Or.inr rfl | exact f_non | exact f_val _ | exact f_own _ | (simp only [List.length_map, List.length_replicate, List.length_append, List.length_cons, List.length_nil, firstI_length, List.length_range, rowsD_length, List.length_drop, List.length_take, sortB_len, rangeI_len]; omega)) only [↓rb, ↓r_ofO, ↓r_den, ↓r_oX1, ↓r_oX2, ↓r_bX1, ↓r_bX2, ↓r_lX1, ↓r_lX2, ↓r_C, ↓r_Var, ↓r_Val, ↓r_Move, ↓r_fz, ↓r_ofD, ↓r_Op, ↓r_eOp, ↓r_Un, ↓r_CB, ↓r_eCB, ↓r_Mul, ↓r_Nil, ↓r_Cons, ↓r_Lst, ↓r_Tup, ↓r_Bl, ↓r_And, ↓r_Or, ↓r_NotM, ↓r_Yes, ↓r_If, ↓r_Chain, ↓r_Next, ↓r_Seq, ↓r_Bk, ↓r_Ct, ↓r_Never, ↓r_Ret, ↓r_RetN, ↓r_Expr, ↓r_sIf, ↓r_Set, ↓r_Asg, ↓r_Par, ↓r_bName, ↓r_bNil, ↓r_bCons, ↓r_bTup, ↓r_bTupL, ↓r_free, ↓f_non, ↓f_val, ↓f_own, ↓f_pin, ↓r_toSl, ↓r_fzR, ↓r_dAnd, ↓r_dOr, ↓r_dNot, ↓r_ixO, ↓r_Put, ↓r_Mut, ↓r_arNil, ↓r_arV, ↓r_arR, ↓r_Call, ↓r_CallK, ↓r_CallKD, ↓r_CallT, ↓r_For, ↓r_Lc, ↓r_iSeq, ↓r_iRng1, ↓r_iRng2, ↓r_iEnum, ↓r_iEnumA, ↓r_iEnumB, ↓r_TR1, ↓r_LenO, ↓r_NeO, ↓r_iZip, ↓r_iZipB, ↓r_LenSet, ↓r_step, ↓r_LR1, ↓r_LR2, ↓r_oNone, ↓r_oSome, ↓r_Cut, ↓r_Rev, ↓r_RevA, ↓r_keep, ↓r_Raise, ↓r_Try, ↓r_endX, ↓r_Exn, ↓r_Fld, ↓r_FldM, ↓r_FldAdd, ↓r_bFld, ↓r_Meth, ↓r_MethT, ↓r_Make, ↓r_Par3, ↓r_AugN, ↓r_AugPut, ↓f_exn, ↓nx_nil, ↓nx_n, ↓nx_v, ↓nx_o, ↓nx_x, ↓r_Isi, ↓r_IsiT, ↓r_Bor, ↓r_noEx, ↓r_wipe0, ↓r_wipe1, ↓r_outs0, ↓r_outs1, ↓r_out1, ↓r_out2, ↓r_mkA0, ↓r_mkA1, ↓r_mkA2, ↓r_wb0, ↓r_wb1, ↓r_wb2, ↓r_Said, ↓r_hide0, ↓r_hide1, ↓r_hideV, ↓r_hideO, ↓r_hideN, ↓r_IsE, ↓r_IsE2, ↓r_iZip3, ↓r_Mt, ↓r_Pre, ↓r_CutO, ↓r_setOwn, ↓r_Copy, ↓r_pick0, ↓r_pick1, ↓r_val0, ↓r_val1, ↓g0, ↓g1, ↓g2, ↓g3, ↓g4, ↓g5, ↓g6, ↓g7, ↓g8, ↓g9, ↓g10, ↓g11, ↓g12, ↓g13, ↓g14, ↓g15, ↓g16, ↓g17, ↓g18, ↓g19, ↓u0, ↓u1, ↓u2, ↓u3, ↓u4, ↓u5, ↓u6, ↓u7, ↓u8, ↓u9, ↓u10, ↓u11, ↓u12, ↓u13, ↓u14, ↓u15, ↓u16, ↓u17, ↓u18, ↓u19, v_eqE0, v_neE0, K_nb, K_ni, K_ns, K_nl, K_nt, K_bb, K_bi, K_bs, K_bl, K_bt, K_ib, K_ii, K_is, K_il, K_it, K_sb, K_si, K_ss, K_sl, K_st, K_lb, K_li, K_ls, K_ll, K_lt, K_tb, K_ti, K_ts, K_tl, K_tt, K_db, K_di, K_ds, K_dl, K_dt, t_n, t_d, t_s, r_outO1, r_outO2, r_Ask1, r_Ask2, v_TR, v_add, v_sub, v_neg, v_lt, v_le, v_gt, v_ge, v_eq, v_ne, v_max2, v_min2, v_mod, v_div, v_pow9, v_pow18, v_mulL, v_mulR, v_divmod, v_lenL, v_lenT, v_sum, v_eqL, v_listOf, v_inT2, v_sorted, sortB_f, v_sortL, v_sortT, v_sortDL, v_sortDT, v_sortDP, v_keep, v_tupL, v_tupT, v_sumL, v_sumT, v_app, v_neL, v_pow39, v_pow40, ob_nil, ob_zero, ob_1, ob_2, ob_3, ob_4, ob_5, ob_6, ob_7, ob_8, ll_n, ll_b, ll_i, ll_s, bs_n, bs_v, bs_l, bs_s, llA_ints, List.all_cons, List.all_nil, Bool.and_true, Bool.true_and, Bool.false_and, Bool.and_false, Bool.and_self, v_isN0, v_isNi, v_notN0, v_notNi, v_ixL, v_ixT, v_cutL, v_cutT, k_ii, k_ib, k_bi, k_bb, k_ll, k_lt, k_tl, k_tt, t_i, t_b, t_l, t_t, isR, if_true, true_and, and_true, and_self, if_false, if_pos, Bool.not_true, Bool.not_false, List.length_cons, List.length_nil, List.replicate, List.cons_append, List.nil_append, List.head?_cons, List.tail_cons, List.any_nil, List.any_cons, Bool.false_eq_true, Bool.or_false, Bool.false_or, beq_self_eq_true, Nat.reduceSub, Nat.reduceAdd, Nat.reduceLeDiff, Nat.reduceBEq, Nat.reduceEqDiff, reduceIte, eq_self, reduceCtorEq, kp_p1, kp_p2, kp_p3, kp_p4, kp_p5, kp_p6, kp_h, kp_d, kp_l1, kp_l2, kp_l3, kp_l4, kp_l5, kp_l6, kp_cups, kp_scoops, kp_rows, kp_looks, kp_held, kp_done, kp_choose, kp_nums, kp_stand, Int.reduceToNat, Int.reduceBEq, Nat.zero_add, Nat.reduceLT, e_want_shares, v_rep1, v_catL, List.length_replicate]
  unfold evenI
  rw [List.map_append, List.map_replicate, List.map_replicate]
theorem e_evening_out (st : List Int) (g L : Int) (hn : ∀ z ∈ st, 0 ≤ z) (hg : 0 ≤ g) (h1 : 1 ≤ L) (h2 : L ≤ st.length) (h3 : st.length ≤ 40) :
    d_evening_out [.val (.tuple (st.map .int)), .val (.int g), .val (.int L)] = .ok (.val (.tuple ((subI (evenI ((st.take L.toNat).sum + g) L) (st.take L.toNat) ++ List.replicate ((st.length : Int) - L).toNat 0).map .int)), [.val (.tuple (st.map .int)), .val (.int g), .val (.int L)]) := by
  have hs : 0 ≤ (st.take L.toNat).sum := by
    have := sum_ge_of (st.take L.toNat) 0 fun y hy => hn y (List.mem_of_mem_take hy)
    omega
  have hc : cutD (st.map PyData.int) none (some L) = (st.take L.toNat).map .int := cut_ints_to st L (by omega)
  generalize ht : st.take L.toNat = tk at *
  have hl := evenI_length (t := tk.sum + g) (c := L) (by omega)
  have hk0 : tk.length = L.toNat := by rw [← ht, List.length_take]; omega
  have hk : tk.length = (evenI (tk.sum + g) L).length := by omega
  have ee := e_even (tk.sum + g) L (by omega) h1 (by omega)
  generalize evenI (tk.sum + g) L = ev at *
  have lc : lcD [5, 6] (bTup 2 (bCons (bName 5) (bCons (bName 6) bNil))) tYesM x_evening_out_1 ((ev.zip tk).map pairD) [] [.val (.tuple (st.map .int)), .val (.int g), .val (.int L), .val (.list (ev.map .int)), .non, .non, .non] = .ok ((ev.zip tk).map (fun p => .int (p.1 - p.2)), [.val (.tuple (st.map .int)), .val (.int g), .val (.int L), .val (.list (ev.map .int)), .non, .non, .non]) :=
    lcD_mapI pairD (fun p => .int (p.1 - p.2)) (ev.zip tk) (fun z _ => by simp (maxSteps := 1000000) (disch := first | omega | exact Or.inl rfl | exact Or.inr rfl | exact f_non | exact f_val _ | exact f_own _ | (simp only [List.length_map, List.length_replicate, List.length_append, List.length_cons, List.length_nil, firstI_length, List.length_range, rowsD_length, List.length_drop, List.length_take, sortB_len, rangeI_len]; omega)) only [↓rb, ↓r_ofO, ↓r_den, ↓r_oX1, ↓r_oX2, ↓r_bX1, ↓r_bX2, ↓r_lX1, ↓r_lX2, ↓r_C, ↓r_Var, ↓r_Val, ↓r_Move, ↓r_fz, ↓r_ofD, ↓r_Op, ↓r_eOp, ↓r_Un, ↓r_CB, ↓r_eCB, ↓r_Mul, ↓r_Nil, ↓r_Cons, ↓r_Lst, ↓r_Tup, ↓r_Bl, ↓r_And, ↓r_Or, ↓r_NotM, ↓r_Yes, ↓r_If, ↓r_Chain, ↓r_Next, ↓r_Seq, ↓r_Bk, ↓r_Ct, ↓r_Never, ↓r_Ret, ↓r_RetN, ↓r_Expr, ↓r_sIf, ↓r_Set, ↓r_Asg, ↓r_Par, ↓r_bName, ↓r_bNil, ↓r_bCons, ↓r_bTup, ↓r_bTupL, ↓r_free, ↓f_non, ↓f_val, ↓f_own, ↓f_pin, ↓r_toSl, ↓r_fzR, ↓r_dAnd, ↓r_dOr, ↓r_dNot, ↓r_ixO, ↓r_Put, ↓r_Mut, ↓r_arNil, ↓r_arV, ↓r_arR, ↓r_Call, ↓r_CallK, ↓r_CallKD, ↓r_CallT, ↓r_For, ↓r_Lc, ↓r_iSeq, ↓r_iRng1, ↓r_iRng2, ↓r_iEnum, ↓r_iEnumA, ↓r_iEnumB, ↓r_TR1, ↓r_LenO, ↓r_NeO, ↓r_iZip, ↓r_iZipB, ↓r_LenSet, ↓r_step, ↓r_LR1, ↓r_LR2, ↓r_oNone, ↓r_oSome, ↓r_Cut, ↓r_Rev, ↓r_RevA, ↓r_keep, ↓r_Raise, ↓r_Try, ↓r_endX, ↓r_Exn, ↓r_Fld, ↓r_FldM, ↓r_FldAdd, ↓r_bFld, ↓r_Meth, ↓r_MethT, ↓r_Make, ↓r_Par3, ↓r_AugN, ↓r_AugPut, ↓f_exn, ↓nx_nil, ↓nx_n, ↓nx_v, ↓nx_o, ↓nx_x, ↓r_Isi, ↓r_IsiT, ↓r_Bor, ↓r_noEx, ↓r_wipe0, ↓r_wipe1, ↓r_outs0, ↓r_outs1, ↓r_out1, ↓r_out2, ↓r_mkA0, ↓r_mkA1, ↓r_mkA2, ↓r_wb0, ↓r_wb1, ↓r_wb2, ↓r_Said, ↓r_hide0, ↓r_hide1, ↓r_hideV, ↓r_hideO, ↓r_hideN, ↓r_IsE, ↓r_IsE2, ↓r_iZip3, ↓r_Mt, ↓r_Pre, ↓r_CutO, ↓r_setOwn, ↓r_Copy, ↓r_pick0, ↓r_pick1, ↓r_val0, ↓r_val1, ↓g0, ↓g1, ↓g2, ↓g3, ↓g4, ↓g5, ↓g6, ↓g7, ↓g8, ↓g9, ↓g10, ↓g11, ↓g12, ↓g13, ↓g14, ↓g15, ↓g16, ↓g17, ↓g18, ↓g19, ↓u0, ↓u1, ↓u2, ↓u3, ↓u4, ↓u5, ↓u6, ↓u7, ↓u8, ↓u9, ↓u10, ↓u11, ↓u12, ↓u13, ↓u14, ↓u15, ↓u16, ↓u17, ↓u18, ↓u19, v_eqE0, v_neE0, K_nb, K_ni, K_ns, K_nl, K_nt, K_bb, K_bi, K_bs, K_bl, K_bt, K_ib, K_ii, K_is, K_il, K_it, K_sb, K_si, K_ss, K_sl, K_st, K_lb, K_li, K_ls, K_ll, K_lt, K_tb, K_ti, K_ts, K_tl, K_tt, K_db, K_di, K_ds, K_dl, K_dt, t_n, t_d, t_s, r_outO1, r_outO2, r_Ask1, r_Ask2, v_TR, v_add, v_sub, v_neg, v_lt, v_le, v_gt, v_ge, v_eq, v_ne, v_max2, v_min2, v_mod, v_div, v_pow9, v_pow18, v_mulL, v_mulR, v_divmod, v_lenL, v_lenT, v_sum, v_eqL, v_listOf, v_inT2, v_sorted, sortB_f, v_sortL, v_sortT, v_sortDL, v_sortDT, v_sortDP, v_keep, v_tupL, v_tupT, v_sumL, v_sumT, v_app, v_neL, v_pow39, v_pow40, ob_nil, ob_zero, ob_1, ob_2, ob_3, ob_4, ob_5, ob_6, ob_7, ob_8, ll_n, ll_b, ll_i, ll_s, bs_n, bs_v, bs_l, bs_s, llA_ints, List.all_cons, List.all_nil, Bool.and_true, Bool.true_and, Bool.false_and, Bool.and_false, Bool.and_self, v_isN0, v_isNi, v_notN0, v_notNi, v_ixL, v_ixT, v_cutL, v_cutT, k_ii, k_ib, k_bi, k_bb, k_ll, k_lt, k_tl, k_tt, t_i, t_b, t_l, t_t, isR, if_true, true_and, and_true, and_self, if_false, if_pos, Bool.not_true, Bool.not_false, List.length_cons, List.length_nil, List.replicate, List.cons_append, List.nil_append, List.head?_cons, List.tail_cons, List.any_nil, List.any_cons, Bool.false_eq_true, Bool.or_false, Bool.false_or, beq_self_eq_true, Nat.reduceSub, Nat.reduceAdd, Nat.reduceLeDiff, Nat.reduceBEq, Nat.reduceEqDiff, reduceIte, eq_self, reduceCtorEq, kp_p1, kp_p2, kp_p3, kp_p4, kp_p5, kp_p6, kp_h, kp_d, kp_l1, kp_l2, kp_l3, kp_l4, kp_l5, kp_l6, kp_cups, kp_scoops, kp_rows, kp_looks, kp_held, kp_done, kp_choose, kp_nums, kp_stand, Int.reduceToNat, Int.reduceBEq, Nat.zero_add, Nat.reduceLT, pairD, u_x_evening_out_1]) (by rw [List.length_zip]; omega)
  have hzl : (ev.zip tk).length ≤ 40 := by rw [List.length_zip]; omega
  rw [q_evening_out]
  simp (maxSteps := 1000000) (disch := first | omega | exact Or.inl rfl | exact Or.inr rfl | exact f_non | exact f_val _ | exact f_own _ | (simp only [List.length_map, List.length_replicate, List.length_append, List.length_cons, List.length_nil, firstI_length, List.length_range, rowsD_length, List.length_drop, List.length_take, sortB_len, rangeI_len]; omega)) only [↓rb, ↓r_ofO, ↓r_den, ↓r_oX1, ↓r_oX2, ↓r_bX1, ↓r_bX2, ↓r_lX1, ↓r_lX2, ↓r_C, ↓r_Var, ↓r_Val, ↓r_Move, ↓r_fz, ↓r_ofD, ↓r_Op, ↓r_eOp, ↓r_Un, ↓r_CB, ↓r_eCB, ↓r_Mul, ↓r_Nil, ↓r_Cons, ↓r_Lst, ↓r_Tup, ↓r_Bl, ↓r_And, ↓r_Or, ↓r_NotM, ↓r_Yes, ↓r_If, ↓r_Chain, ↓r_Next, ↓r_Seq, ↓r_Bk, ↓r_Ct, ↓r_Never, ↓r_Ret, ↓r_RetN, ↓r_Expr, ↓r_sIf, ↓r_Set, ↓r_Asg, ↓r_Par, ↓r_bName, ↓r_bNil, ↓r_bCons, ↓r_bTup, ↓r_bTupL, ↓r_free, ↓f_non, ↓f_val, ↓f_own, ↓f_pin, ↓r_toSl, ↓r_fzR, ↓r_dAnd, ↓r_dOr, ↓r_dNot, ↓r_ixO, ↓r_Put, ↓r_Mut, ↓r_arNil, ↓r_arV, ↓r_arR, ↓r_Call, ↓r_CallK, ↓r_CallKD, ↓r_CallT, ↓r_For, ↓r_Lc, ↓r_iSeq, ↓r_iRng1, ↓r_iRng2, ↓r_iEnum, ↓r_iEnumA, ↓r_iEnumB, ↓r_TR1, ↓r_LenO, ↓r_NeO, ↓r_iZip, ↓r_iZipB, ↓r_LenSet, ↓r_step, ↓r_LR1, ↓r_LR2, ↓r_oNone, ↓r_oSome, ↓r_Cut, ↓r_Rev, ↓r_RevA, ↓r_keep, ↓r_Raise, ↓r_Try, ↓r_endX, ↓r_Exn, ↓r_Fld, ↓r_FldM, ↓r_FldAdd, ↓r_bFld, ↓r_Meth, ↓r_MethT, ↓r_Make, ↓r_Par3, ↓r_AugN, ↓r_AugPut, ↓f_exn, ↓nx_nil, ↓nx_n, ↓nx_v, ↓nx_o, ↓nx_x, ↓r_Isi, ↓r_IsiT, ↓r_Bor, ↓r_noEx, ↓r_wipe0, ↓r_wipe1, ↓r_outs0, ↓r_outs1, ↓r_out1, ↓r_out2, ↓r_mkA0, ↓r_mkA1, ↓r_mkA2, ↓r_wb0, ↓r_wb1, ↓r_wb2, ↓r_Said, ↓r_hide0, ↓r_hide1, ↓r_hideV, ↓r_hideO, ↓r_hideN, ↓r_IsE, ↓r_IsE2, ↓r_iZip3, ↓r_Mt, ↓r_Pre, ↓r_CutO, ↓r_setOwn, ↓r_Copy, ↓r_pick0, ↓r_pick1, ↓r_val0, ↓r_val1, ↓g0, ↓g1, ↓g2, ↓g3, ↓g4, ↓g5, ↓g6, ↓g7, ↓g8, ↓g9, ↓g10, ↓g11, ↓g12, ↓g13, ↓g14, ↓g15, ↓g16, ↓g17, ↓g18, ↓g19, ↓u0, ↓u1, ↓u2, ↓u3, ↓u4, ↓u5, ↓u6, ↓u7, ↓u8, ↓u9, ↓u10, ↓u11, ↓u12, ↓u13, ↓u14, ↓u15, ↓u16, ↓u17, ↓u18, ↓u19, v_eqE0, v_neE0, K_nb, K_ni, K_ns, K_nl, K_nt, K_bb, K_bi, K_bs, K_bl, K_bt, K_ib, K_ii, K_is, K_il, K_it, K_sb, K_si, K_ss, K_sl, K_st, K_lb, K_li, K_ls, K_ll, K_lt, K_tb, K_ti, K_ts, K_tl, K_tt, K_db, K_di, K_ds, K_dl, K_dt, t_n, t_d, t_s, r_outO1, r_outO2, r_Ask1, r_Ask2, v_TR, v_add, v_sub, v_neg, v_lt, v_le, v_gt, v_ge, v_eq, v_ne, v_max2, v_min2, v_mod, v_div, v_pow9, v_pow18, v_mulL, v_mulR, v_divmod, v_lenL, v_lenT, v_sum, v_eqL, v_listOf, v_inT2, v_sorted, sortB_f, v_sortL, v_sortT, v_sortDL, v_sortDT, v_sortDP, v_keep, v_tupL, v_tupT, v_sumL, v_sumT, v_app, v_neL, v_pow39, v_pow40, ob_nil, ob_zero, ob_1, ob_2, ob_3, ob_4, ob_5, ob_6, ob_7, ob_8, ll_n, ll_b, ll_i, ll_s, bs_n, bs_v, bs_l, bs_s, llA_ints, List.all_cons, List.all_nil, Bool.and_true, Bool.true_and, Bool.false_and, Bool.and_false, Bool.and_self, v_isN0, v_isNi, v_notN0, v_notNi, v_ixL, v_ixT, v_cutL, v_cutT, k_ii, k_ib, k_bi, k_bb, k_ll, k_lt, k_tl, k_tt, t_i, t_b, t_l, t_t, isR, if_true, true_and, and_true, and_self, if_false, if_pos, Bool.not_true, Bool.not_false, List.length_cons, List.length_nil, List.replicate, List.cons_append, List.nil_append, List.head?_cons, List.tail_cons, List.any_nil, List.any_cons, Bool.false_eq_true, Bool.or_false, Bool.false_or, beq_self_eq_true, Nat.reduceSub, Nat.reduceAdd, Nat.reduceLeDiff, Nat.reduceBEq, Nat.reduceEqDiff, reduceIte, eq_self, reduceCtorEq, kp_p1, kp_p2, kp_p3, kp_p4, kp_p5, kp_p6, kp_h, kp_d, kp_l1, kp_l2, kp_l3, kp_l4, kp_l5, kp_l6, kp_cups, kp_scoops, kp_rows, kp_looks, kp_held, kp_done, kp_choose, kp_nums, kp_stand, Int.reduceToNat, Int.reduceBEq, Nat.zero_add, Nat.reduceLT, hc, ee, v_zipLT, List.length_map, hk, zipD_ints, lc, v_rep1, v_catL, List.length_replicate]
  rw [show ((ev.zip tk).map fun p => PyData.int (p.1 - p.2)) = (subI ev tk).map PyData.int from by unfold subI; rw [List.map_map]; rfl, List.map_append, List.map_replicate]
theorem r_RngDn {ms : M (List D)} {r : Rho} : iRngDn ms r = (ms r).bind fun a => match a.1 with
  | [.int i, .int j, .int c] => @ite _ (c = -1 ∧ -(2 ^ 62) ≤ i ∧ i < 2 ^ 62 ∧ -(2 ^ 62) ≤ j ∧ j < 2 ^ 62) (Classical.propDecidable _) (.ok (downD i (i - j).toNat, a.2)) .no
  | _ => .no := rfl
theorem e_ladder (n g p j : Int) (T : Nat) (h1 : 2 ≤ n) (h2 : n ≤ 40) (h3 : 0 ≤ g) (h4 : 1 ≤ p) (h5 : p ≤ n - 1) (h6 : 1 ≤ j) (h7 : j ≤ n) (h8 : T ≤ 1000) :
    d_ladder [.val (.int n), .val (.int g), .val (.int p), .val (.int j), .val (.int (T : Nat))] = .ok (.own (.lst ((stepsLad n g p j T).map stepD)), [.val (.int n), .val (.int g), .val (.int p), .val (.int j), .val (.int (T : Nat))]) := by
  obtain ⟨r', e, s7, s8, f7, f8, rfl⟩ := forD_inv (b := bName 7) (body := w_ladder_1) (fun k r => ∃ s7 s8, fre (some s7) = true ∧ fre (some s8) = true ∧ r = [.val (.int n), .val (.int g), .val (.int p), .val (.int j), .val (.int (T : Nat)), .own false (.lst (((List.range k).map fun k => (stLad n g p j T k, poLad n g p j T k)).map stepD)), .val (.tuple ((stLad n g p j T k).map .int)), s7, s8]) (downD (T : Nat) T)
    [.val (.int n), .val (.int g), .val (.int p), .val (.int j), .val (.int (T : Nat)), .own false (.lst []), .val (.tuple ((stLad n g p j T 0).map .int)), .non, .non] ⟨.non, .non, rfl, rfl, rfl⟩ (fun k d hd r ⟨s7, s8, f7, f8, hr⟩ => by
      obtain ⟨hk, rfl⟩ := downD_at hd
      subst hr
      obtain ⟨a1, a2, a3, a4⟩ := lLad_in (n := n) (p := p) (j := j) h4 h5 h6 hk
      have hl := stLad_len (n := n) (g := g) (p := p) (j := j) (T := T) (k := k) h4 h5 h6 (by omega)
      have hl2 := poLad_len (n := n) (g := g) (p := p) (j := j) (T := T) (k := k) h4 h5 h6 hk
      have nn : ∀ z ∈ stLad n g p j T k, 0 ≤ z := live_nn (jLad_in h4 h5 h6 (by omega)).1 (uLad_nn h1 h3 h4 h5)
      have S : Stg (stLad n g p j T k) := ⟨nn, by omega, by omega⟩
      have e1 := e_evening_out (stLad n g p j T k) g (lLad n p j T k) nn h3 (by omega) (by omega) (by omega)
      rw [show (((stLad n g p j T k).length : Int) - lLad n p j T k).toNat = (n - lLad n p j T k).toNat by rw [hl], even_out h4 h5 h6 hk] at e1
      have e2 := e_what_stays (stLad n g p j T k) (poLad n g p j T k) p S (poLad_nn h1 h3 h4 h5 h6 hk) (by omega) h4 (by omega)
      rw [add_poLad h4 h5 h6 hk, stays_go h1 h3 h4 h5 h6 hk] at e2
      have em : min n (j + p * ((T : Int) - (k : Nat))) = lLad n p j T k := rfl
      refine ⟨_, .inl ?_, .val (.int ((T : Int) - (k : Nat))), .val (.tuple ((poLad n g p j T k).map .int)), rfl, rfl, rfl⟩
      rw [List.range_succ, List.map_append, List.map_append]
      simp (maxSteps := 1000000) (disch := first | omega | exact Or.inl rfl | exact Or.inr rfl | exact f_non | exact f_val _ | exact f_own _ | (simp only [List.length_map, List.length_replicate, List.length_append, List.length_cons, List.length_nil, firstI_length, List.length_range, rowsD_length, List.length_drop, List.length_take, sortB_len, rangeI_len]; omega)) only [↓rb, ↓r_ofO, ↓r_den, ↓r_oX1, ↓r_oX2, ↓r_bX1, ↓r_bX2, ↓r_lX1, ↓r_lX2, ↓r_C, ↓r_Var, ↓r_Val, ↓r_Move, ↓r_fz, ↓r_ofD, ↓r_Op, ↓r_eOp, ↓r_Un, ↓r_CB, ↓r_eCB, ↓r_Mul, ↓r_Nil, ↓r_Cons, ↓r_Lst, ↓r_Tup, ↓r_Bl, ↓r_And, ↓r_Or, ↓r_NotM, ↓r_Yes, ↓r_If, ↓r_Chain, ↓r_Next, ↓r_Seq, ↓r_Bk, ↓r_Ct, ↓r_Never, ↓r_Ret, ↓r_RetN, ↓r_Expr, ↓r_sIf, ↓r_Set, ↓r_Asg, ↓r_Par, ↓r_bName, ↓r_bNil, ↓r_bCons, ↓r_bTup, ↓r_bTupL, ↓r_free, ↓f_non, ↓f_val, ↓f_own, ↓f_pin, ↓r_toSl, ↓r_fzR, ↓r_dAnd, ↓r_dOr, ↓r_dNot, ↓r_ixO, ↓r_Put, ↓r_Mut, ↓r_arNil, ↓r_arV, ↓r_arR, ↓r_Call, ↓r_CallK, ↓r_CallKD, ↓r_CallT, ↓r_For, ↓r_Lc, ↓r_iSeq, ↓r_iRng1, ↓r_iRng2, ↓r_iEnum, ↓r_iEnumA, ↓r_iEnumB, ↓r_TR1, ↓r_LenO, ↓r_NeO, ↓r_iZip, ↓r_iZipB, ↓r_LenSet, ↓r_step, ↓r_LR1, ↓r_LR2, ↓r_oNone, ↓r_oSome, ↓r_Cut, ↓r_Rev, ↓r_RevA, ↓r_keep, ↓r_Raise, ↓r_Try, ↓r_endX, ↓r_Exn, ↓r_Fld, ↓r_FldM, ↓r_FldAdd, ↓r_bFld, ↓r_Meth, ↓r_MethT, ↓r_Make, ↓r_Par3, ↓r_AugN, ↓r_AugPut, ↓f_exn, ↓nx_nil, ↓nx_n, ↓nx_v, ↓nx_o, ↓nx_x, ↓r_Isi, ↓r_IsiT, ↓r_Bor, ↓r_noEx, ↓r_wipe0, ↓r_wipe1, ↓r_outs0, ↓r_outs1, ↓r_out1, ↓r_out2, ↓r_mkA0, ↓r_mkA1, ↓r_mkA2, ↓r_wb0, ↓r_wb1, ↓r_wb2, ↓r_Said, ↓r_hide0, ↓r_hide1, ↓r_hideV, ↓r_hideO, ↓r_hideN, ↓r_IsE, ↓r_IsE2, ↓r_iZip3, ↓r_Mt, ↓r_Pre, ↓r_CutO, ↓r_setOwn, ↓r_Copy, ↓r_pick0, ↓r_pick1, ↓r_val0, ↓r_val1, ↓g0, ↓g1, ↓g2, ↓g3, ↓g4, ↓g5, ↓g6, ↓g7, ↓g8, ↓g9, ↓g10, ↓g11, ↓g12, ↓g13, ↓g14, ↓g15, ↓g16, ↓g17, ↓g18, ↓g19, ↓u0, ↓u1, ↓u2, ↓u3, ↓u4, ↓u5, ↓u6, ↓u7, ↓u8, ↓u9, ↓u10, ↓u11, ↓u12, ↓u13, ↓u14, ↓u15, ↓u16, ↓u17, ↓u18, ↓u19, v_eqE0, v_neE0, K_nb, K_ni, K_ns, K_nl, K_nt, K_bb, K_bi, K_bs, K_bl, K_bt, K_ib, K_ii, K_is, K_il, K_it, K_sb, K_si, K_ss, K_sl, K_st, K_lb, K_li, K_ls, K_ll, K_lt, K_tb, K_ti, K_ts, K_tl, K_tt, K_db, K_di, K_ds, K_dl, K_dt, t_n, t_d, t_s, r_outO1, r_outO2, r_Ask1, r_Ask2, v_TR, v_add, v_sub, v_neg, v_lt, v_le, v_gt, v_ge, v_eq, v_ne, v_max2, v_min2, v_mod, v_div, v_pow9, v_pow18, v_mulL, v_mulR, v_divmod, v_lenL, v_lenT, v_sum, v_eqL, v_listOf, v_inT2, v_sorted, sortB_f, v_sortL, v_sortT, v_sortDL, v_sortDT, v_sortDP, v_keep, v_tupL, v_tupT, v_sumL, v_sumT, v_app, v_neL, v_pow39, v_pow40, ob_nil, ob_zero, ob_1, ob_2, ob_3, ob_4, ob_5, ob_6, ob_7, ob_8, ll_n, ll_b, ll_i, ll_s, bs_n, bs_v, bs_l, bs_s, llA_ints, List.all_cons, List.all_nil, Bool.and_true, Bool.true_and, Bool.false_and, Bool.and_false, Bool.and_self, v_isN0, v_isNi, v_notN0, v_notNi, v_ixL, v_ixT, v_cutL, v_cutT, k_ii, k_ib, k_bi, k_bb, k_ll, k_lt, k_tl, k_tt, t_i, t_b, t_l, t_t, isR, if_true, true_and, and_true, and_self, if_false, if_pos, Bool.not_true, Bool.not_false, List.length_cons, List.length_nil, List.replicate, List.cons_append, List.nil_append, List.head?_cons, List.tail_cons, List.any_nil, List.any_cons, Bool.false_eq_true, Bool.or_false, Bool.false_or, beq_self_eq_true, Nat.reduceSub, Nat.reduceAdd, Nat.reduceLeDiff, Nat.reduceBEq, Nat.reduceEqDiff, reduceIte, eq_self, reduceCtorEq, kp_p1, kp_p2, kp_p3, kp_p4, kp_p5, kp_p6, kp_h, kp_d, kp_l1, kp_l2, kp_l3, kp_l4, kp_l5, kp_l6, kp_cups, kp_scoops, kp_rows, kp_looks, kp_held, kp_done, kp_choose, kp_nums, kp_stand, Int.reduceToNat, Int.reduceBEq, Nat.zero_add, Nat.reduceLT, f7, f8, u_w_ladder_1, em, e1, e2, List.length_map, List.length_range, List.map_cons, List.map_nil]
      rfl)
  have e0 : stLad n g p j T 0 = zeroI n := stLad_zero h1 h4 h5 h6
  have hz : (zeroI n).map PyData.int = List.replicate n.toNat (PyData.int 0) := by unfold zeroI; rw [List.map_replicate]
  have hr : iRngDn (dCons (dVar 4) (dCons (dC (.int 0)) (dCons (dUn pNeg (dC (.int 1))) dNil))) [.val (.int n), .val (.int g), .val (.int p), .val (.int j), .val (.int (T : Nat)), .own false (.lst []), .val (.tuple ((stLad n g p j T 0).map .int)), .non, .non] = .ok (downD (T : Nat) T, [.val (.int n), .val (.int g), .val (.int p), .val (.int j), .val (.int (T : Nat)), .own false (.lst []), .val (.tuple ((stLad n g p j T 0).map .int)), .non, .non]) := by
    rw [r_RngDn]
    simp (maxSteps := 1000000) (disch := first | omega | exact Or.inl rfl | exact Or.inr rfl | exact f_non | exact f_val _ | exact f_own _ | (simp only [List.length_map, List.length_replicate, List.length_append, List.length_cons, List.length_nil, firstI_length, List.length_range, rowsD_length, List.length_drop, List.length_take, sortB_len, rangeI_len]; omega)) only [↓rb, ↓r_ofO, ↓r_den, ↓r_oX1, ↓r_oX2, ↓r_bX1, ↓r_bX2, ↓r_lX1, ↓r_lX2, ↓r_C, ↓r_Var, ↓r_Val, ↓r_Move, ↓r_fz, ↓r_ofD, ↓r_Op, ↓r_eOp, ↓r_Un, ↓r_CB, ↓r_eCB, ↓r_Mul, ↓r_Nil, ↓r_Cons, ↓r_Lst, ↓r_Tup, ↓r_Bl, ↓r_And, ↓r_Or, ↓r_NotM, ↓r_Yes, ↓r_If, ↓r_Chain, ↓r_Next, ↓r_Seq, ↓r_Bk, ↓r_Ct, ↓r_Never, ↓r_Ret, ↓r_RetN, ↓r_Expr, ↓r_sIf, ↓r_Set, ↓r_Asg, ↓r_Par, ↓r_bName, ↓r_bNil, ↓r_bCons, ↓r_bTup, ↓r_bTupL, ↓r_free, ↓f_non, ↓f_val, ↓f_own, ↓f_pin, ↓r_toSl, ↓r_fzR, ↓r_dAnd, ↓r_dOr, ↓r_dNot, ↓r_ixO, ↓r_Put, ↓r_Mut, ↓r_arNil, ↓r_arV, ↓r_arR, ↓r_Call, ↓r_CallK, ↓r_CallKD, ↓r_CallT, ↓r_For, ↓r_Lc, ↓r_iSeq, ↓r_iRng1, ↓r_iRng2, ↓r_iEnum, ↓r_iEnumA, ↓r_iEnumB, ↓r_TR1, ↓r_LenO, ↓r_NeO, ↓r_iZip, ↓r_iZipB, ↓r_LenSet, ↓r_step, ↓r_LR1, ↓r_LR2, ↓r_oNone, ↓r_oSome, ↓r_Cut, ↓r_Rev, ↓r_RevA, ↓r_keep, ↓r_Raise, ↓r_Try, ↓r_endX, ↓r_Exn, ↓r_Fld, ↓r_FldM, ↓r_FldAdd, ↓r_bFld, ↓r_Meth, ↓r_MethT, ↓r_Make, ↓r_Par3, ↓r_AugN, ↓r_AugPut, ↓f_exn, ↓nx_nil, ↓nx_n, ↓nx_v, ↓nx_o, ↓nx_x, ↓r_Isi, ↓r_IsiT, ↓r_Bor, ↓r_noEx, ↓r_wipe0, ↓r_wipe1, ↓r_outs0, ↓r_outs1, ↓r_out1, ↓r_out2, ↓r_mkA0, ↓r_mkA1, ↓r_mkA2, ↓r_wb0, ↓r_wb1, ↓r_wb2, ↓r_Said, ↓r_hide0, ↓r_hide1, ↓r_hideV, ↓r_hideO, ↓r_hideN, ↓r_IsE, ↓r_IsE2, ↓r_iZip3, ↓r_Mt, ↓r_Pre, ↓r_CutO, ↓r_setOwn, ↓r_Copy, ↓r_pick0, ↓r_pick1, ↓r_val0, ↓r_val1, ↓g0, ↓g1, ↓g2, ↓g3, ↓g4, ↓g5, ↓g6, ↓g7, ↓g8, ↓g9, ↓g10, ↓g11, ↓g12, ↓g13, ↓g14, ↓g15, ↓g16, ↓g17, ↓g18, ↓g19, ↓u0, ↓u1, ↓u2, ↓u3, ↓u4, ↓u5, ↓u6, ↓u7, ↓u8, ↓u9, ↓u10, ↓u11, ↓u12, ↓u13, ↓u14, ↓u15, ↓u16, ↓u17, ↓u18, ↓u19, v_eqE0, v_neE0, K_nb, K_ni, K_ns, K_nl, K_nt, K_bb, K_bi, K_bs, K_bl, K_bt, K_ib, K_ii, K_is, K_il, K_it, K_sb, K_si, K_ss, K_sl, K_st, K_lb, K_li, K_ls, K_ll, K_lt, K_tb, K_ti, K_ts, K_tl, K_tt, K_db, K_di, K_ds, K_dl, K_dt, t_n, t_d, t_s, r_outO1, r_outO2, r_Ask1, r_Ask2, v_TR, v_add, v_sub, v_neg, v_lt, v_le, v_gt, v_ge, v_eq, v_ne, v_max2, v_min2, v_mod, v_div, v_pow9, v_pow18, v_mulL, v_mulR, v_divmod, v_lenL, v_lenT, v_sum, v_eqL, v_listOf, v_inT2, v_sorted, sortB_f, v_sortL, v_sortT, v_sortDL, v_sortDT, v_sortDP, v_keep, v_tupL, v_tupT, v_sumL, v_sumT, v_app, v_neL, v_pow39, v_pow40, ob_nil, ob_zero, ob_1, ob_2, ob_3, ob_4, ob_5, ob_6, ob_7, ob_8, ll_n, ll_b, ll_i, ll_s, bs_n, bs_v, bs_l, bs_s, llA_ints, List.all_cons, List.all_nil, Bool.and_true, Bool.true_and, Bool.false_and, Bool.and_false, Bool.and_self, v_isN0, v_isNi, v_notN0, v_notNi, v_ixL, v_ixT, v_cutL, v_cutT, k_ii, k_ib, k_bi, k_bb, k_ll, k_lt, k_tl, k_tt, t_i, t_b, t_l, t_t, isR, if_true, true_and, and_true, and_self, if_false, if_pos, Bool.not_true, Bool.not_false, List.length_cons, List.length_nil, List.replicate, List.cons_append, List.nil_append, List.head?_cons, List.tail_cons, List.any_nil, List.any_cons, Bool.false_eq_true, Bool.or_false, Bool.false_or, beq_self_eq_true, Nat.reduceSub, Nat.reduceAdd, Nat.reduceLeDiff, Nat.reduceBEq, Nat.reduceEqDiff, reduceIte, eq_self, reduceCtorEq, kp_p1, kp_p2, kp_p3, kp_p4, kp_p5, kp_p6, kp_h, kp_d, kp_l1, kp_l2, kp_l3, kp_l4, kp_l5, kp_l6, kp_cups, kp_scoops, kp_rows, kp_looks, kp_held, kp_done, kp_choose, kp_nums, kp_stand, Int.reduceToNat, Int.reduceBEq, Nat.zero_add, Nat.reduceLT]
    rw [show ((T : Int) - 0).toNat = T by omega]
  rw [downD_length] at e
  have hT : decide ((1000 : Int) < (T : Int)) = false := by simpa using (by omega : (T : Int) ≤ 1000)
  rw [q_ladder]
  simp (maxSteps := 1000000) (disch := first | omega | exact Or.inl rfl | exact Or.inr rfl | exact f_non | exact f_val _ | exact f_own _ | (simp only [List.length_map, List.length_replicate, List.length_append, List.length_cons, List.length_nil, firstI_length, List.length_range, rowsD_length, List.length_drop, List.length_take, sortB_len, rangeI_len]; omega)) only [↓rb, ↓r_ofO, ↓r_den, ↓r_oX1, ↓r_oX2, ↓r_bX1, ↓r_bX2, ↓r_lX1, ↓r_lX2, ↓r_C, ↓r_Var, ↓r_Val, ↓r_Move, ↓r_fz, ↓r_ofD, ↓r_Op, ↓r_eOp, ↓r_Un, ↓r_CB, ↓r_eCB, ↓r_Mul, ↓r_Nil, ↓r_Cons, ↓r_Lst, ↓r_Tup, ↓r_Bl, ↓r_And, ↓r_Or, ↓r_NotM, ↓r_Yes, ↓r_If, ↓r_Chain, ↓r_Next, ↓r_Seq, ↓r_Bk, ↓r_Ct, ↓r_Never, ↓r_Ret, ↓r_RetN, ↓r_Expr, ↓r_sIf, ↓r_Set, ↓r_Asg, ↓r_Par, ↓r_bName, ↓r_bNil, ↓r_bCons, ↓r_bTup, ↓r_bTupL, ↓r_free, ↓f_non, ↓f_val, ↓f_own, ↓f_pin, ↓r_toSl, ↓r_fzR, ↓r_dAnd, ↓r_dOr, ↓r_dNot, ↓r_ixO, ↓r_Put, ↓r_Mut, ↓r_arNil, ↓r_arV, ↓r_arR, ↓r_Call, ↓r_CallK, ↓r_CallKD, ↓r_CallT, ↓r_For, ↓r_Lc, ↓r_iSeq, ↓r_iRng1, ↓r_iRng2, ↓r_iEnum, ↓r_iEnumA, ↓r_iEnumB, ↓r_TR1, ↓r_LenO, ↓r_NeO, ↓r_iZip, ↓r_iZipB, ↓r_LenSet, ↓r_step, ↓r_LR1, ↓r_LR2, ↓r_oNone, ↓r_oSome, ↓r_Cut, ↓r_Rev, ↓r_RevA, ↓r_keep, ↓r_Raise, ↓r_Try, ↓r_endX, ↓r_Exn, ↓r_Fld, ↓r_FldM, ↓r_FldAdd, ↓r_bFld, ↓r_Meth, ↓r_MethT, ↓r_Make, ↓r_Par3, ↓r_AugN, ↓r_AugPut, ↓f_exn, ↓nx_nil, ↓nx_n, ↓nx_v, ↓nx_o, ↓nx_x, ↓r_Isi, ↓r_IsiT, ↓r_Bor, ↓r_noEx, ↓r_wipe0, ↓r_wipe1, ↓r_outs0, ↓r_outs1, ↓r_out1, ↓r_out2, ↓r_mkA0, ↓r_mkA1, ↓r_mkA2, ↓r_wb0, ↓r_wb1, ↓r_wb2, ↓r_Said, ↓r_hide0, ↓r_hide1, ↓r_hideV, ↓r_hideO, ↓r_hideN, ↓r_IsE, ↓r_IsE2, ↓r_iZip3, ↓r_Mt, ↓r_Pre, ↓r_CutO, ↓r_setOwn, ↓r_Copy, ↓r_pick0, ↓r_pick1, ↓r_val0, ↓r_val1, ↓g0, ↓g1, ↓g2, ↓g3, ↓g4, ↓g5, ↓g6, ↓g7, ↓g8, ↓g9, ↓g10, ↓g11, ↓g12, ↓g13, ↓g14, ↓g15, ↓g16, ↓g17, ↓g18, ↓g19, ↓u0, ↓u1, ↓u2, ↓u3, ↓u4, ↓u5, ↓u6, ↓u7, ↓u8, ↓u9, ↓u10, ↓u11, ↓u12, ↓u13, ↓u14, ↓u15, ↓u16, ↓u17, ↓u18, ↓u19, v_eqE0, v_neE0, K_nb, K_ni, K_ns, K_nl, K_nt, K_bb, K_bi, K_bs, K_bl, K_bt, K_ib, K_ii, K_is, K_il, K_it, K_sb, K_si, K_ss, K_sl, K_st, K_lb, K_li, K_ls, K_ll, K_lt, K_tb, K_ti, K_ts, K_tl, K_tt, K_db, K_di, K_ds, K_dl, K_dt, t_n, t_d, t_s, r_outO1, r_outO2, r_Ask1, r_Ask2, v_TR, v_add, v_sub, v_neg, v_lt, v_le, v_gt, v_ge, v_eq, v_ne, v_max2, v_min2, v_mod, v_div, v_pow9, v_pow18, v_mulL, v_mulR, v_divmod, v_lenL, v_lenT, v_sum, v_eqL, v_listOf, v_inT2, v_sorted, sortB_f, v_sortL, v_sortT, v_sortDL, v_sortDT, v_sortDP, v_keep, v_tupL, v_tupT, v_sumL, v_sumT, v_app, v_neL, v_pow39, v_pow40, ob_nil, ob_zero, ob_1, ob_2, ob_3, ob_4, ob_5, ob_6, ob_7, ob_8, ll_n, ll_b, ll_i, ll_s, bs_n, bs_v, bs_l, bs_s, llA_ints, List.all_cons, List.all_nil, Bool.and_true, Bool.true_and, Bool.false_and, Bool.and_false, Bool.and_self, v_isN0, v_isNi, v_notN0, v_notNi, v_ixL, v_ixT, v_cutL, v_cutT, k_ii, k_ib, k_bi, k_bb, k_ll, k_lt, k_tl, k_tt, t_i, t_b, t_l, t_t, isR, if_true, true_and, and_true, and_self, if_false, if_pos, Bool.not_true, Bool.not_false, List.length_cons, List.length_nil, List.replicate, List.cons_append, List.nil_append, List.head?_cons, List.tail_cons, List.any_nil, List.any_cons, Bool.false_eq_true, Bool.or_false, Bool.false_or, beq_self_eq_true, Nat.reduceSub, Nat.reduceAdd, Nat.reduceLeDiff, Nat.reduceBEq, Nat.reduceEqDiff, reduceIte, eq_self, reduceCtorEq, kp_p1, kp_p2, kp_p3, kp_p4, kp_p5, kp_p6, kp_h, kp_d, kp_l1, kp_l2, kp_l3, kp_l4, kp_l5, kp_l6, kp_cups, kp_scoops, kp_rows, kp_looks, kp_held, kp_done, kp_choose, kp_nums, kp_stand, Int.reduceToNat, Int.reduceBEq, Nat.zero_add, Nat.reduceLT, e_want_sizes, e_want_fullest, e_want_count, hT, v_tm1, ← hz, ← e0, hr, e]
  rfl
theorem e_is_step (n g : Int) (came : List Int) (s : List Int × List Int) (O : OkStep n g came s) (hc : (came.length : Int) = n) (h2 : n ≤ 40) :
    d_is_step [.val (.int n), .val (.int g), .val (.tuple (came.map .int)), .val (stepD s)] = .ok (.val (.bool true), [.val (.int n), .val (.int g), .val (.tuple (came.map .int)), .val (stepD s)]) := by
  obtain ⟨a, b⟩ := s
  have l1 := O.l1
  have l2 := O.l2
  dsimp only at l1 l2
  have e1 := e_are_counts a n O.n1 l1 (by omega)
  have e2 := e_are_counts b n O.n2 l2 (by omega)
  have e3 : sortB true a = a := sortB_self O.falls
  have e4 : b.sum = g := O.sum
  have e5 := e_is_nowhere_less came a (by omega) (by omega)
  have e6 : ((came.zip a).all fun p => decide (p.2 ≤ p.1)) = true := List.all_eq_true.mpr fun q hq => by
    obtain ⟨i, hi, rfl⟩ := List.mem_iff_getElem.mp hq
    rw [List.length_zip] at hi
    rw [List.getElem_zip]
    have := O.over i
    dsimp only at this
    rw [List.getD_eq_getElem?_getD, List.getD_eq_getElem?_getD, List.getElem?_eq_getElem (show i < a.length by omega), List.getElem?_eq_getElem (show i < came.length by omega)] at this
    exact decide_eq_true this
  rw [e6] at e5
  unfold d_is_step
  simp (maxSteps := 1000000) (disch := first | omega | exact Or.inl rfl | exact Or.inr rfl | exact f_non | exact f_val _ | exact f_own _ | (simp only [List.length_map, List.length_replicate, List.length_append, List.length_cons, List.length_nil, firstI_length, List.length_range, rowsD_length, List.length_drop, List.length_take, sortB_len, rangeI_len]; omega)) only [↓rb, ↓r_ofO, ↓r_den, ↓r_oX1, ↓r_oX2, ↓r_bX1, ↓r_bX2, ↓r_lX1, ↓r_lX2, ↓r_C, ↓r_Var, ↓r_Val, ↓r_Move, ↓r_fz, ↓r_ofD, ↓r_Op, ↓r_eOp, ↓r_Un, ↓r_CB, ↓r_eCB, ↓r_Mul, ↓r_Nil, ↓r_Cons, ↓r_Lst, ↓r_Tup, ↓r_Bl, ↓r_And, ↓r_Or, ↓r_NotM, ↓r_Yes, ↓r_If, ↓r_Chain, ↓r_Next, ↓r_Seq, ↓r_Bk, ↓r_Ct, ↓r_Never, ↓r_Ret, ↓r_RetN, ↓r_Expr, ↓r_sIf, ↓r_Set, ↓r_Asg, ↓r_Par, ↓r_bName, ↓r_bNil, ↓r_bCons, ↓r_bTup, ↓r_bTupL, ↓r_free, ↓f_non, ↓f_val, ↓f_own, ↓f_pin, ↓r_toSl, ↓r_fzR, ↓r_dAnd, ↓r_dOr, ↓r_dNot, ↓r_ixO, ↓r_Put, ↓r_Mut, ↓r_arNil, ↓r_arV, ↓r_arR, ↓r_Call, ↓r_CallK, ↓r_CallKD, ↓r_CallT, ↓r_For, ↓r_Lc, ↓r_iSeq, ↓r_iRng1, ↓r_iRng2, ↓r_iEnum, ↓r_iEnumA, ↓r_iEnumB, ↓r_TR1, ↓r_LenO, ↓r_NeO, ↓r_iZip, ↓r_iZipB, ↓r_LenSet, ↓r_step, ↓r_LR1, ↓r_LR2, ↓r_oNone, ↓r_oSome, ↓r_Cut, ↓r_Rev, ↓r_RevA, ↓r_keep, ↓r_Raise, ↓r_Try, ↓r_endX, ↓r_Exn, ↓r_Fld, ↓r_FldM, ↓r_FldAdd, ↓r_bFld, ↓r_Meth, ↓r_MethT, ↓r_Make, ↓r_Par3, ↓r_AugN, ↓r_AugPut, ↓f_exn, ↓nx_nil, ↓nx_n, ↓nx_v, ↓nx_o, ↓nx_x, ↓r_Isi, ↓r_IsiT, ↓r_Bor, ↓r_noEx, ↓r_wipe0, ↓r_wipe1, ↓r_outs0, ↓r_outs1, ↓r_out1, ↓r_out2, ↓r_mkA0, ↓r_mkA1, ↓r_mkA2, ↓r_wb0, ↓r_wb1, ↓r_wb2, ↓r_Said, ↓r_hide0, ↓r_hide1, ↓r_hideV, ↓r_hideO, ↓r_hideN, ↓r_IsE, ↓r_IsE2, ↓r_iZip3, ↓r_Mt, ↓r_Pre, ↓r_CutO, ↓r_setOwn, ↓r_Copy, ↓r_pick0, ↓r_pick1, ↓r_val0, ↓r_val1, ↓g0, ↓g1, ↓g2, ↓g3, ↓g4, ↓g5, ↓g6, ↓g7, ↓g8, ↓g9, ↓g10, ↓g11, ↓g12, ↓g13, ↓g14, ↓g15, ↓g16, ↓g17, ↓g18, ↓g19, ↓u0, ↓u1, ↓u2, ↓u3, ↓u4, ↓u5, ↓u6, ↓u7, ↓u8, ↓u9, ↓u10, ↓u11, ↓u12, ↓u13, ↓u14, ↓u15, ↓u16, ↓u17, ↓u18, ↓u19, v_eqE0, v_neE0, K_nb, K_ni, K_ns, K_nl, K_nt, K_bb, K_bi, K_bs, K_bl, K_bt, K_ib, K_ii, K_is, K_il, K_it, K_sb, K_si, K_ss, K_sl, K_st, K_lb, K_li, K_ls, K_ll, K_lt, K_tb, K_ti, K_ts, K_tl, K_tt, K_db, K_di, K_ds, K_dl, K_dt, t_n, t_d, t_s, r_outO1, r_outO2, r_Ask1, r_Ask2, v_TR, v_add, v_sub, v_neg, v_lt, v_le, v_gt, v_ge, v_eq, v_ne, v_max2, v_min2, v_mod, v_div, v_pow9, v_pow18, v_mulL, v_mulR, v_divmod, v_lenL, v_lenT, v_sum, v_eqL, v_listOf, v_inT2, v_sorted, sortB_f, v_sortL, v_sortT, v_sortDL, v_sortDT, v_sortDP, v_keep, v_tupL, v_tupT, v_sumL, v_sumT, v_app, v_neL, v_pow39, v_pow40, ob_nil, ob_zero, ob_1, ob_2, ob_3, ob_4, ob_5, ob_6, ob_7, ob_8, ll_n, ll_b, ll_i, ll_s, bs_n, bs_v, bs_l, bs_s, llA_ints, List.all_cons, List.all_nil, Bool.and_true, Bool.true_and, Bool.false_and, Bool.and_false, Bool.and_self, v_isN0, v_isNi, v_notN0, v_notNi, v_ixL, v_ixT, v_cutL, v_cutT, k_ii, k_ib, k_bi, k_bb, k_ll, k_lt, k_tl, k_tt, t_i, t_b, t_l, t_t, isR, if_true, true_and, and_true, and_self, if_false, if_pos, Bool.not_true, Bool.not_false, List.length_cons, List.length_nil, List.replicate, List.cons_append, List.nil_append, List.head?_cons, List.tail_cons, List.any_nil, List.any_cons, Bool.false_eq_true, Bool.or_false, Bool.false_or, beq_self_eq_true, Nat.reduceSub, Nat.reduceAdd, Nat.reduceLeDiff, Nat.reduceBEq, Nat.reduceEqDiff, reduceIte, eq_self, reduceCtorEq, kp_p1, kp_p2, kp_p3, kp_p4, kp_p5, kp_p6, kp_h, kp_d, kp_l1, kp_l2, kp_l3, kp_l4, kp_l5, kp_l6, kp_cups, kp_scoops, kp_rows, kp_looks, kp_held, kp_done, kp_choose, kp_nums, kp_stand, Int.reduceToNat, Int.reduceBEq, Nat.zero_add, Nat.reduceLT, stepD, show ((2 : Nat) : Int) = 2 from rfl, e1, e2, e_falling, e3, v_eqT, decide_true, e4, e5]
theorem e_start_none (n : Int) (h1 : 1 ≤ n) (h2 : n ≤ 40) : d_start_of [.val (.int n), .val .none] = .ok (.val (.tuple ((zeroI n).map .int)), [.val (.int n), .val .none]) := by
  have hz : (zeroI n).map PyData.int = List.replicate n.toNat (PyData.int 0) := by unfold zeroI; rw [List.map_replicate]
  unfold d_start_of
  simp (maxSteps := 1000000) (disch := first | omega | exact Or.inl rfl | exact Or.inr rfl | exact f_non | exact f_val _ | exact f_own _ | (simp only [List.length_map, List.length_replicate, List.length_append, List.length_cons, List.length_nil, firstI_length, List.length_range, rowsD_length, List.length_drop, List.length_take, sortB_len, rangeI_len]; omega)) only [↓rb, ↓r_ofO, ↓r_den, ↓r_oX1, ↓r_oX2, ↓r_bX1, ↓r_bX2, ↓r_lX1, ↓r_lX2, ↓r_C, ↓r_Var, ↓r_Val, ↓r_Move, ↓r_fz, ↓r_ofD, ↓r_Op, ↓r_eOp, ↓r_Un, ↓r_CB, ↓r_eCB, ↓r_Mul, ↓r_Nil, ↓r_Cons, ↓r_Lst, ↓r_Tup, ↓r_Bl, ↓r_And, ↓r_Or, ↓r_NotM, ↓r_Yes, ↓r_If, ↓r_Chain, ↓r_Next, ↓r_Seq, ↓r_Bk, ↓r_Ct, ↓r_Never, ↓r_Ret, ↓r_RetN, ↓r_Expr, ↓r_sIf, ↓r_Set, ↓r_Asg, ↓r_Par, ↓r_bName, ↓r_bNil, ↓r_bCons, ↓r_bTup, ↓r_bTupL, ↓r_free, ↓f_non, ↓f_val, ↓f_own, ↓f_pin, ↓r_toSl, ↓r_fzR, ↓r_dAnd, ↓r_dOr, ↓r_dNot, ↓r_ixO, ↓r_Put, ↓r_Mut, ↓r_arNil, ↓r_arV, ↓r_arR, ↓r_Call, ↓r_CallK, ↓r_CallKD, ↓r_CallT, ↓r_For, ↓r_Lc, ↓r_iSeq, ↓r_iRng1, ↓r_iRng2, ↓r_iEnum, ↓r_iEnumA, ↓r_iEnumB, ↓r_TR1, ↓r_LenO, ↓r_NeO, ↓r_iZip, ↓r_iZipB, ↓r_LenSet, ↓r_step, ↓r_LR1, ↓r_LR2, ↓r_oNone, ↓r_oSome, ↓r_Cut, ↓r_Rev, ↓r_RevA, ↓r_keep, ↓r_Raise, ↓r_Try, ↓r_endX, ↓r_Exn, ↓r_Fld, ↓r_FldM, ↓r_FldAdd, ↓r_bFld, ↓r_Meth, ↓r_MethT, ↓r_Make, ↓r_Par3, ↓r_AugN, ↓r_AugPut, ↓f_exn, ↓nx_nil, ↓nx_n, ↓nx_v, ↓nx_o, ↓nx_x, ↓r_Isi, ↓r_IsiT, ↓r_Bor, ↓r_noEx, ↓r_wipe0, ↓r_wipe1, ↓r_outs0, ↓r_outs1, ↓r_out1, ↓r_out2, ↓r_mkA0, ↓r_mkA1, ↓r_mkA2, ↓r_wb0, ↓r_wb1, ↓r_wb2, ↓r_Said, ↓r_hide0, ↓r_hide1, ↓r_hideV, ↓r_hideO, ↓r_hideN, ↓r_IsE, ↓r_IsE2, ↓r_iZip3, ↓r_Mt, ↓r_Pre, ↓r_CutO, ↓r_setOwn, ↓r_Copy, ↓r_pick0, ↓r_pick1, ↓r_val0, ↓r_val1, ↓g0, ↓g1, ↓g2, ↓g3, ↓g4, ↓g5, ↓g6, ↓g7, ↓g8, ↓g9, ↓g10, ↓g11, ↓g12, ↓g13, ↓g14, ↓g15, ↓g16, ↓g17, ↓g18, ↓g19, ↓u0, ↓u1, ↓u2, ↓u3, ↓u4, ↓u5, ↓u6, ↓u7, ↓u8, ↓u9, ↓u10, ↓u11, ↓u12, ↓u13, ↓u14, ↓u15, ↓u16, ↓u17, ↓u18, ↓u19, v_eqE0, v_neE0, K_nb, K_ni, K_ns, K_nl, K_nt, K_bb, K_bi, K_bs, K_bl, K_bt, K_ib, K_ii, K_is, K_il, K_it, K_sb, K_si, K_ss, K_sl, K_st, K_lb, K_li, K_ls, K_ll, K_lt, K_tb, K_ti, K_ts, K_tl, K_tt, K_db, K_di, K_ds, K_dl, K_dt, t_n, t_d, t_s, r_outO1, r_outO2, r_Ask1, r_Ask2, v_TR, v_add, v_sub, v_neg, v_lt, v_le, v_gt, v_ge, v_eq, v_ne, v_max2, v_min2, v_mod, v_div, v_pow9, v_pow18, v_mulL, v_mulR, v_divmod, v_lenL, v_lenT, v_sum, v_eqL, v_listOf, v_inT2, v_sorted, sortB_f, v_sortL, v_sortT, v_sortDL, v_sortDT, v_sortDP, v_keep, v_tupL, v_tupT, v_sumL, v_sumT, v_app, v_neL, v_pow39, v_pow40, ob_nil, ob_zero, ob_1, ob_2, ob_3, ob_4, ob_5, ob_6, ob_7, ob_8, ll_n, ll_b, ll_i, ll_s, bs_n, bs_v, bs_l, bs_s, llA_ints, List.all_cons, List.all_nil, Bool.and_true, Bool.true_and, Bool.false_and, Bool.and_false, Bool.and_self, v_isN0, v_isNi, v_notN0, v_notNi, v_ixL, v_ixT, v_cutL, v_cutT, k_ii, k_ib, k_bi, k_bb, k_ll, k_lt, k_tl, k_tt, t_i, t_b, t_l, t_t, isR, if_true, true_and, and_true, and_self, if_false, if_pos, Bool.not_true, Bool.not_false, List.length_cons, List.length_nil, List.replicate, List.cons_append, List.nil_append, List.head?_cons, List.tail_cons, List.any_nil, List.any_cons, Bool.false_eq_true, Bool.or_false, Bool.false_or, beq_self_eq_true, Nat.reduceSub, Nat.reduceAdd, Nat.reduceLeDiff, Nat.reduceBEq, Nat.reduceEqDiff, reduceIte, eq_self, reduceCtorEq, kp_p1, kp_p2, kp_p3, kp_p4, kp_p5, kp_p6, kp_h, kp_d, kp_l1, kp_l2, kp_l3, kp_l4, kp_l5, kp_l6, kp_cups, kp_scoops, kp_rows, kp_looks, kp_held, kp_done, kp_choose, kp_nums, kp_stand, Int.reduceToNat, Int.reduceBEq, Nat.zero_add, Nat.reduceLT, v_tm1, ← hz]
theorem e_start_some (n : Int) (st : List Int) (hn : ∀ z ∈ st, 0 ≤ z) (hl : (st.length : Int) = n) (h2 : n ≤ 40) : d_start_of [.val (.int n), .val (.tuple (st.map .int))] = .ok (.val (.tuple ((sortB true st).map .int)), [.val (.int n), .val (.tuple (st.map .int))]) := by
  have e1 := e_are_counts st n hn hl (by omega)
  have e2 : pIsN (.tuple (st.map .int)) .none = some (.bool false) := rfl
  unfold d_start_of
  simp (maxSteps := 1000000) (disch := first | omega | exact Or.inl rfl | exact Or.inr rfl | exact f_non | exact f_val _ | exact f_own _ | (simp only [List.length_map, List.length_replicate, List.length_append, List.length_cons, List.length_nil, firstI_length, List.length_range, rowsD_length, List.length_drop, List.length_take, sortB_len, rangeI_len]; omega)) only [↓rb, ↓r_ofO, ↓r_den, ↓r_oX1, ↓r_oX2, ↓r_bX1, ↓r_bX2, ↓r_lX1, ↓r_lX2, ↓r_C, ↓r_Var, ↓r_Val, ↓r_Move, ↓r_fz, ↓r_ofD, ↓r_Op, ↓r_eOp, ↓r_Un, ↓r_CB, ↓r_eCB, ↓r_Mul, ↓r_Nil, ↓r_Cons, ↓r_Lst, ↓r_Tup, ↓r_Bl, ↓r_And, ↓r_Or, ↓r_NotM, ↓r_Yes, ↓r_If, ↓r_Chain, ↓r_Next, ↓r_Seq, ↓r_Bk, ↓r_Ct, ↓r_Never, ↓r_Ret, ↓r_RetN, ↓r_Expr, ↓r_sIf, ↓r_Set, ↓r_Asg, ↓r_Par, ↓r_bName, ↓r_bNil, ↓r_bCons, ↓r_bTup, ↓r_bTupL, ↓r_free, ↓f_non, ↓f_val, ↓f_own, ↓f_pin, ↓r_toSl, ↓r_fzR, ↓r_dAnd, ↓r_dOr, ↓r_dNot, ↓r_ixO, ↓r_Put, ↓r_Mut, ↓r_arNil, ↓r_arV, ↓r_arR, ↓r_Call, ↓r_CallK, ↓r_CallKD, ↓r_CallT, ↓r_For, ↓r_Lc, ↓r_iSeq, ↓r_iRng1, ↓r_iRng2, ↓r_iEnum, ↓r_iEnumA, ↓r_iEnumB, ↓r_TR1, ↓r_LenO, ↓r_NeO, ↓r_iZip, ↓r_iZipB, ↓r_LenSet, ↓r_step, ↓r_LR1, ↓r_LR2, ↓r_oNone, ↓r_oSome, ↓r_Cut, ↓r_Rev, ↓r_RevA, ↓r_keep, ↓r_Raise, ↓r_Try, ↓r_endX, ↓r_Exn, ↓r_Fld, ↓r_FldM, ↓r_FldAdd, ↓r_bFld, ↓r_Meth, ↓r_MethT, ↓r_Make, ↓r_Par3, ↓r_AugN, ↓r_AugPut, ↓f_exn, ↓nx_nil, ↓nx_n, ↓nx_v, ↓nx_o, ↓nx_x, ↓r_Isi, ↓r_IsiT, ↓r_Bor, ↓r_noEx, ↓r_wipe0, ↓r_wipe1, ↓r_outs0, ↓r_outs1, ↓r_out1, ↓r_out2, ↓r_mkA0, ↓r_mkA1, ↓r_mkA2, ↓r_wb0, ↓r_wb1, ↓r_wb2, ↓r_Said, ↓r_hide0, ↓r_hide1, ↓r_hideV, ↓r_hideO, ↓r_hideN, ↓r_IsE, ↓r_IsE2, ↓r_iZip3, ↓r_Mt, ↓r_Pre, ↓r_CutO, ↓r_setOwn, ↓r_Copy, ↓r_pick0, ↓r_pick1, ↓r_val0, ↓r_val1, ↓g0, ↓g1, ↓g2, ↓g3, ↓g4, ↓g5, ↓g6, ↓g7, ↓g8, ↓g9, ↓g10, ↓g11, ↓g12, ↓g13, ↓g14, ↓g15, ↓g16, ↓g17, ↓g18, ↓g19, ↓u0, ↓u1, ↓u2, ↓u3, ↓u4, ↓u5, ↓u6, ↓u7, ↓u8, ↓u9, ↓u10, ↓u11, ↓u12, ↓u13, ↓u14, ↓u15, ↓u16, ↓u17, ↓u18, ↓u19, v_eqE0, v_neE0, K_nb, K_ni, K_ns, K_nl, K_nt, K_bb, K_bi, K_bs, K_bl, K_bt, K_ib, K_ii, K_is, K_il, K_it, K_sb, K_si, K_ss, K_sl, K_st, K_lb, K_li, K_ls, K_ll, K_lt, K_tb, K_ti, K_ts, K_tl, K_tt, K_db, K_di, K_ds, K_dl, K_dt, t_n, t_d, t_s, r_outO1, r_outO2, r_Ask1, r_Ask2, v_TR, v_add, v_sub, v_neg, v_lt, v_le, v_gt, v_ge, v_eq, v_ne, v_max2, v_min2, v_mod, v_div, v_pow9, v_pow18, v_mulL, v_mulR, v_divmod, v_lenL, v_lenT, v_sum, v_eqL, v_listOf, v_inT2, v_sorted, sortB_f, v_sortL, v_sortT, v_sortDL, v_sortDT, v_sortDP, v_keep, v_tupL, v_tupT, v_sumL, v_sumT, v_app, v_neL, v_pow39, v_pow40, ob_nil, ob_zero, ob_1, ob_2, ob_3, ob_4, ob_5, ob_6, ob_7, ob_8, ll_n, ll_b, ll_i, ll_s, bs_n, bs_v, bs_l, bs_s, llA_ints, List.all_cons, List.all_nil, Bool.and_true, Bool.true_and, Bool.false_and, Bool.and_false, Bool.and_self, v_isN0, v_isNi, v_notN0, v_notNi, v_ixL, v_ixT, v_cutL, v_cutT, k_ii, k_ib, k_bi, k_bb, k_ll, k_lt, k_tl, k_tt, t_i, t_b, t_l, t_t, isR, if_true, true_and, and_true, and_self, if_false, if_pos, Bool.not_true, Bool.not_false, List.length_cons, List.length_nil, List.replicate, List.cons_append, List.nil_append, List.head?_cons, List.tail_cons, List.any_nil, List.any_cons, Bool.false_eq_true, Bool.or_false, Bool.false_or, beq_self_eq_true, Nat.reduceSub, Nat.reduceAdd, Nat.reduceLeDiff, Nat.reduceBEq, Nat.reduceEqDiff, reduceIte, eq_self, reduceCtorEq, kp_p1, kp_p2, kp_p3, kp_p4, kp_p5, kp_p6, kp_h, kp_d, kp_l1, kp_l2, kp_l3, kp_l4, kp_l5, kp_l6, kp_cups, kp_scoops, kp_rows, kp_looks, kp_held, kp_done, kp_choose, kp_nums, kp_stand, Int.reduceToNat, Int.reduceBEq, Nat.zero_add, Nat.reduceLT, ↓e2, e1, e_falling]
theorem check_loop (n g p : Int) (h2 : n ≤ 40) (h4 : 1 ≤ p) (h5 : p ≤ n - 1) (S3 S4 S5 S6 : Sl) : ∀ (a : List (List Int × List Int)) (k : Int) (c e : List Int) (s8 s9 : Sl), Lad n g p c a e → (c.length : Int) = n → fre (some s8) = true → fre (some s9) = true → ∃ s8' s9', fre (some s8') = true ∧ fre (some s9') = true ∧ (e.length : Int) = n ∧
    forD (bTup 2 (bCons (bName 8) (bCons (bName 9) bNil))) w_check_ladder_1 (enumD k (a.map stepD)) [.val (.int n), .val (.int g), .val (.int p), S3, S4, S5, S6, .val (.tuple (c.map .int)), s8, s9] = .ok (.nx, [.val (.int n), .val (.int g), .val (.int p), S3, S4, S5, S6, .val (.tuple (e.map .int)), s8', s9'])
  | [], k, c, e, s8, s9, hL, hc, f8, f9 => by
    cases hL
    exact ⟨s8, s9, f8, f9, hc, rfl⟩
  | s :: a, k, c, e, s8, s9, hL, hc, f8, f9 => by
    obtain ⟨O, hL⟩ := hL
    have l1 := O.l1
    have l2 := O.l2
    have S : Stg s.1 := ⟨O.n1, by omega, by omega⟩
    have e1 := e_is_step n g c s O hc h2
    have e2 := e_what_stays s.1 s.2 p S O.n2 (by omega) h4 (by omega)
    have ha : atI [PyData.tuple (s.1.map .int), PyData.tuple (s.2.map .int)] 0 = some (PyData.tuple (s.1.map .int)) := at0 _ _
    have hb : atI [PyData.tuple (s.1.map .int), PyData.tuple (s.2.map .int)] 1 = some (PyData.tuple (s.2.map .int)) := at1 _ _ _
    have hx : (addI s.1 s.2).length = s.1.length := addI_len (by omega)
    obtain ⟨s8', s9', f8', f9', hl, ih⟩ := check_loop n g p h2 h4 h5 S3 S4 S5 S6 a (k + 1) (staysI (addI s.1 s.2) p.toNat) e (.val (.int k)) (.val (stepD s)) hL (by rw [staysI_len _ (by omega), hx]; omega) rfl rfl
    refine ⟨s8', s9', f8', f9', hl, ?_⟩
    rw [List.map_cons, show enumD k (stepD s :: a.map stepD) = .tuple [.int k, stepD s] :: enumD (k + 1) (a.map stepD) from rfl, forD_nx (r2 := [.val (.int n), .val (.int g), .val (.int p), S3, S4, S5, S6, .val (.tuple ((staysI (addI s.1 s.2) p.toNat).map .int)), .val (.int k), .val (stepD s)]) ?_, ih]
    simp (maxSteps := 1000000) (disch := first | omega | exact Or.inl rfl | exact Or.inr rfl | exact f_non | exact f_val _ | exact f_own _ | (simp only [List.length_map, List.length_replicate, List.length_append, List.length_cons, List.length_nil, firstI_length, List.length_range, rowsD_length, List.length_drop, List.length_take, sortB_len, rangeI_len]; omega)) only [↓rb, ↓r_ofO, ↓r_den, ↓r_oX1, ↓r_oX2, ↓r_bX1, ↓r_bX2, ↓r_lX1, ↓r_lX2, ↓r_C, ↓r_Var, ↓r_Val, ↓r_Move, ↓r_fz, ↓r_ofD, ↓r_Op, ↓r_eOp, ↓r_Un, ↓r_CB, ↓r_eCB, ↓r_Mul, ↓r_Nil, ↓r_Cons, ↓r_Lst, ↓r_Tup, ↓r_Bl, ↓r_And, ↓r_Or, ↓r_NotM, ↓r_Yes, ↓r_If, ↓r_Chain, ↓r_Next, ↓r_Seq, ↓r_Bk, ↓r_Ct, ↓r_Never, ↓r_Ret, ↓r_RetN, ↓r_Expr, ↓r_sIf, ↓r_Set, ↓r_Asg, ↓r_Par, ↓r_bName, ↓r_bNil, ↓r_bCons, ↓r_bTup, ↓r_bTupL, ↓r_free, ↓f_non, ↓f_val, ↓f_own, ↓f_pin, ↓r_toSl, ↓r_fzR, ↓r_dAnd, ↓r_dOr, ↓r_dNot, ↓r_ixO, ↓r_Put, ↓r_Mut, ↓r_arNil, ↓r_arV, ↓r_arR, ↓r_Call, ↓r_CallK, ↓r_CallKD, ↓r_CallT, ↓r_For, ↓r_Lc, ↓r_iSeq, ↓r_iRng1, ↓r_iRng2, ↓r_iEnum, ↓r_iEnumA, ↓r_iEnumB, ↓r_TR1, ↓r_LenO, ↓r_NeO, ↓r_iZip, ↓r_iZipB, ↓r_LenSet, ↓r_step, ↓r_LR1, ↓r_LR2, ↓r_oNone, ↓r_oSome, ↓r_Cut, ↓r_Rev, ↓r_RevA, ↓r_keep, ↓r_Raise, ↓r_Try, ↓r_endX, ↓r_Exn, ↓r_Fld, ↓r_FldM, ↓r_FldAdd, ↓r_bFld, ↓r_Meth, ↓r_MethT, ↓r_Make, ↓r_Par3, ↓r_AugN, ↓r_AugPut, ↓f_exn, ↓nx_nil, ↓nx_n, ↓nx_v, ↓nx_o, ↓nx_x, ↓r_Isi, ↓r_IsiT, ↓r_Bor, ↓r_noEx, ↓r_wipe0, ↓r_wipe1, ↓r_outs0, ↓r_outs1, ↓r_out1, ↓r_out2, ↓r_mkA0, ↓r_mkA1, ↓r_mkA2, ↓r_wb0, ↓r_wb1, ↓r_wb2, ↓r_Said, ↓r_hide0, ↓r_hide1, ↓r_hideV, ↓r_hideO, ↓r_hideN, ↓r_IsE, ↓r_IsE2, ↓r_iZip3, ↓r_Mt, ↓r_Pre, ↓r_CutO, ↓r_setOwn, ↓r_Copy, ↓r_pick0, ↓r_pick1, ↓r_val0, ↓r_val1, ↓g0, ↓g1, ↓g2, ↓g3, ↓g4, ↓g5, ↓g6, ↓g7, ↓g8, ↓g9, ↓g10, ↓g11, ↓g12, ↓g13, ↓g14, ↓g15, ↓g16, ↓g17, ↓g18, ↓g19, ↓u0, ↓u1, ↓u2, ↓u3, ↓u4, ↓u5, ↓u6, ↓u7, ↓u8, ↓u9, ↓u10, ↓u11, ↓u12, ↓u13, ↓u14, ↓u15, ↓u16, ↓u17, ↓u18, ↓u19, v_eqE0, v_neE0, K_nb, K_ni, K_ns, K_nl, K_nt, K_bb, K_bi, K_bs, K_bl, K_bt, K_ib, K_ii, K_is, K_il, K_it, K_sb, K_si, K_ss, K_sl, K_st, K_lb, K_li, K_ls, K_ll, K_lt, K_tb, K_ti, K_ts, K_tl, K_tt, K_db, K_di, K_ds, K_dl, K_dt, t_n, t_d, t_s, r_outO1, r_outO2, r_Ask1, r_Ask2, v_TR, v_add, v_sub, v_neg, v_lt, v_le, v_gt, v_ge, v_eq, v_ne, v_max2, v_min2, v_mod, v_div, v_pow9, v_pow18, v_mulL, v_mulR, v_divmod, v_lenL, v_lenT, v_sum, v_eqL, v_listOf, v_inT2, v_sorted, sortB_f, v_sortL, v_sortT, v_sortDL, v_sortDT, v_sortDP, v_keep, v_tupL, v_tupT, v_sumL, v_sumT, v_app, v_neL, v_pow39, v_pow40, ob_nil, ob_zero, ob_1, ob_2, ob_3, ob_4, ob_5, ob_6, ob_7, ob_8, ll_n, ll_b, ll_i, ll_s, bs_n, bs_v, bs_l, bs_s, llA_ints, List.all_cons, List.all_nil, Bool.and_true, Bool.true_and, Bool.false_and, Bool.and_false, Bool.and_self, v_isN0, v_isNi, v_notN0, v_notNi, v_ixL, v_ixT, v_cutL, v_cutT, k_ii, k_ib, k_bi, k_bb, k_ll, k_lt, k_tl, k_tt, t_i, t_b, t_l, t_t, isR, if_true, true_and, and_true, and_self, if_false, if_pos, Bool.not_true, Bool.not_false, List.length_cons, List.length_nil, List.replicate, List.cons_append, List.nil_append, List.head?_cons, List.tail_cons, List.any_nil, List.any_cons, Bool.false_eq_true, Bool.or_false, Bool.false_or, beq_self_eq_true, Nat.reduceSub, Nat.reduceAdd, Nat.reduceLeDiff, Nat.reduceBEq, Nat.reduceEqDiff, reduceIte, eq_self, reduceCtorEq, kp_p1, kp_p2, kp_p3, kp_p4, kp_p5, kp_p6, kp_h, kp_d, kp_l1, kp_l2, kp_l3, kp_l4, kp_l5, kp_l6, kp_cups, kp_scoops, kp_rows, kp_looks, kp_held, kp_done, kp_choose, kp_nums, kp_stand, Int.reduceToNat, Int.reduceBEq, Nat.zero_add, Nat.reduceLT, f8, f9, u_w_check_ladder_1, e1, show pIx (stepD s) (.int 0) = some (PyData.tuple (s.1.map .int)) from ha, show pIx (stepD s) (.int 1) = some (PyData.tuple (s.2.map .int)) from hb, e2]
/-- a start as it is told, and what it is in falling order -/
def startD : Option (List Int) → D
  | none => .none
  | some st => .tuple (st.map .int)
def startI (n : Int) : Option (List Int) → List Int
  | none => zeroI n
  | some st => sortB true st
def StartOk (n : Int) (st : Option (List Int)) : Prop := ∀ l, st = some l → (∀ z ∈ l, 0 ≤ z) ∧ (l.length : Int) = n
theorem e_start_of (n : Int) (st : Option (List Int)) (hs : StartOk n st) (h1 : 1 ≤ n) (h2 : n ≤ 40) : d_start_of [.val (.int n), .val (startD st)] = .ok (.val (.tuple ((startI n st).map .int)), [.val (.int n), .val (startD st)]) := by
  cases st with
  | none => exact e_start_none n h1 h2
  | some l => exact e_start_some n l (hs l rfl).1 (hs l rfl).2 h2
theorem startI_len (n : Int) (st : Option (List Int)) (hs : StartOk n st) (h1 : 0 ≤ n) : ((startI n st).length : Int) = n := by
  cases st with
  | none => unfold startI zeroI; rw [List.length_replicate]; omega
  | some l => unfold startI; rw [sortB_len]; exact (hs l rfl).2
theorem e_check_ladder (n g p j h : Int) (a : List (List Int × List Int)) (st : Option (List Int)) (e : List Int) (h1 : 2 ≤ n) (h2 : n ≤ 40) (h3 : 0 ≤ g) (h4 : 1 ≤ p) (h5 : p ≤ n - 1) (h6 : 1 ≤ j) (h7 : j ≤ n) (h8 : 0 ≤ h) (hs : StartOk n st) (hL : Lad n g p (startI n st) a e) (hh : h ≤ (e.take j.toNat).sum) :
    d_check_ladder [.val (.int n), .val (.int g), .val (.int p), .val (.int j), .val (.int h), .val (.list (a.map stepD)), .val (startD st)] = .ok (.val .none, [.val (.int n), .val (.int g), .val (.int p), .val (.int j), .val (.int h), .val (.list (a.map stepD)), .val (startD st)]) := by
  have e0 := e_start_of n st hs (by omega) h2
  obtain ⟨s8', s9', f8, f9, hl, el⟩ := check_loop n g p h2 h4 h5 (.val (.int j)) (.val (.int h)) (.val (.list (a.map stepD))) (.val (startD st)) a 0 (startI n st) e .non .non hL (startI_len n st hs (by omega)) rfl rfl
  have hc : cutD (e.map PyData.int) none (some j) = (e.take j.toNat).map .int := cut_ints_to e j (by omega)
  have hd : decide ((e.take j.toNat).sum < h) = false := by simpa using hh
  rw [q_check_ladder]
  simp (maxSteps := 1000000) (disch := first | omega | exact Or.inl rfl | exact Or.inr rfl | exact f_non | exact f_val _ | exact f_own _ | (simp only [List.length_map, List.length_replicate, List.length_append, List.length_cons, List.length_nil, firstI_length, List.length_range, rowsD_length, List.length_drop, List.length_take, sortB_len, rangeI_len]; omega)) only [↓rb, ↓r_ofO, ↓r_den, ↓r_oX1, ↓r_oX2, ↓r_bX1, ↓r_bX2, ↓r_lX1, ↓r_lX2, ↓r_C, ↓r_Var, ↓r_Val, ↓r_Move, ↓r_fz, ↓r_ofD, ↓r_Op, ↓r_eOp, ↓r_Un, ↓r_CB, ↓r_eCB, ↓r_Mul, ↓r_Nil, ↓r_Cons, ↓r_Lst, ↓r_Tup, ↓r_Bl, ↓r_And, ↓r_Or, ↓r_NotM, ↓r_Yes, ↓r_If, ↓r_Chain, ↓r_Next, ↓r_Seq, ↓r_Bk, ↓r_Ct, ↓r_Never, ↓r_Ret, ↓r_RetN, ↓r_Expr, ↓r_sIf, ↓r_Set, ↓r_Asg, ↓r_Par, ↓r_bName, ↓r_bNil, ↓r_bCons, ↓r_bTup, ↓r_bTupL, ↓r_free, ↓f_non, ↓f_val, ↓f_own, ↓f_pin, ↓r_toSl, ↓r_fzR, ↓r_dAnd, ↓r_dOr, ↓r_dNot, ↓r_ixO, ↓r_Put, ↓r_Mut, ↓r_arNil, ↓r_arV, ↓r_arR, ↓r_Call, ↓r_CallK, ↓r_CallKD, ↓r_CallT, ↓r_For, ↓r_Lc, ↓r_iSeq, ↓r_iRng1, ↓r_iRng2, ↓r_iEnum, ↓r_iEnumA, ↓r_iEnumB, ↓r_TR1, ↓r_LenO, ↓r_NeO, ↓r_iZip, ↓r_iZipB, ↓r_LenSet, ↓r_step, ↓r_LR1, ↓r_LR2, ↓r_oNone, ↓r_oSome, ↓r_Cut, ↓r_Rev, ↓r_RevA, ↓r_keep, ↓r_Raise, ↓r_Try, ↓r_endX, ↓r_Exn, ↓r_Fld, ↓r_FldM, ↓r_FldAdd, ↓r_bFld, ↓r_Meth, ↓r_MethT, ↓r_Make, ↓r_Par3, ↓r_AugN, ↓r_AugPut, ↓f_exn, ↓nx_nil, ↓nx_n, ↓nx_v, ↓nx_o, ↓nx_x, ↓r_Isi, ↓r_IsiT, ↓r_Bor, ↓r_noEx, ↓r_wipe0, ↓r_wipe1, ↓r_outs0, ↓r_outs1, ↓r_out1, ↓r_out2, ↓r_mkA0, ↓r_mkA1, ↓r_mkA2, ↓r_wb0, ↓r_wb1, ↓r_wb2, ↓r_Said, ↓r_hide0, ↓r_hide1, ↓r_hideV, ↓r_hideO, ↓r_hideN, ↓r_IsE, ↓r_IsE2, ↓r_iZip3, ↓r_Mt, ↓r_Pre, ↓r_CutO, ↓r_setOwn, ↓r_Copy, ↓r_pick0, ↓r_pick1, ↓r_val0, ↓r_val1, ↓g0, ↓g1, ↓g2, ↓g3, ↓g4, ↓g5, ↓g6, ↓g7, ↓g8, ↓g9, ↓g10, ↓g11, ↓g12, ↓g13, ↓g14, ↓g15, ↓g16, ↓g17, ↓g18, ↓g19, ↓u0, ↓u1, ↓u2, ↓u3, ↓u4, ↓u5, ↓u6, ↓u7, ↓u8, ↓u9, ↓u10, ↓u11, ↓u12, ↓u13, ↓u14, ↓u15, ↓u16, ↓u17, ↓u18, ↓u19, v_eqE0, v_neE0, K_nb, K_ni, K_ns, K_nl, K_nt, K_bb, K_bi, K_bs, K_bl, K_bt, K_ib, K_ii, K_is, K_il, K_it, K_sb, K_si, K_ss, K_sl, K_st, K_lb, K_li, K_ls, K_ll, K_lt, K_tb, K_ti, K_ts, K_tl, K_tt, K_db, K_di, K_ds, K_dl, K_dt, t_n, t_d, t_s, r_outO1, r_outO2, r_Ask1, r_Ask2, v_TR, v_add, v_sub, v_neg, v_lt, v_le, v_gt, v_ge, v_eq, v_ne, v_max2, v_min2, v_mod, v_div, v_pow9, v_pow18, v_mulL, v_mulR, v_divmod, v_lenL, v_lenT, v_sum, v_eqL, v_listOf, v_inT2, v_sorted, sortB_f, v_sortL, v_sortT, v_sortDL, v_sortDT, v_sortDP, v_keep, v_tupL, v_tupT, v_sumL, v_sumT, v_app, v_neL, v_pow39, v_pow40, ob_nil, ob_zero, ob_1, ob_2, ob_3, ob_4, ob_5, ob_6, ob_7, ob_8, ll_n, ll_b, ll_i, ll_s, bs_n, bs_v, bs_l, bs_s, llA_ints, List.all_cons, List.all_nil, Bool.and_true, Bool.true_and, Bool.false_and, Bool.and_false, Bool.and_self, v_isN0, v_isNi, v_notN0, v_notNi, v_ixL, v_ixT, v_cutL, v_cutT, k_ii, k_ib, k_bi, k_bb, k_ll, k_lt, k_tl, k_tt, t_i, t_b, t_l, t_t, isR, if_true, true_and, and_true, and_self, if_false, if_pos, Bool.not_true, Bool.not_false, List.length_cons, List.length_nil, List.replicate, List.cons_append, List.nil_append, List.head?_cons, List.tail_cons, List.any_nil, List.any_cons, Bool.false_eq_true, Bool.or_false, Bool.false_or, beq_self_eq_true, Nat.reduceSub, Nat.reduceAdd, Nat.reduceLeDiff, Nat.reduceBEq, Nat.reduceEqDiff, reduceIte, eq_self, reduceCtorEq, kp_p1, kp_p2, kp_p3, kp_p4, kp_p5, kp_p6, kp_h, kp_d, kp_l1, kp_l2, kp_l3, kp_l4, kp_l5, kp_l6, kp_cups, kp_scoops, kp_rows, kp_looks, kp_held, kp_done, kp_choose, kp_nums, kp_stand, Int.reduceToNat, Int.reduceBEq, Nat.zero_add, Nat.reduceLT, e_want_sizes, e_want_fullest, e_want_count, e0, el, hc, hd]
theorem v_pow17 : pPow (.int 10) (.int 17) = some (.int 100000000000000000) := (v_pow 10 17 (by decide) (by decide) (by decide)).trans (congrArg (fun z => some (PyData.int z)) (by decide : (10 : Int) ^ (17 : Int).toNat = 100000000000000000))
theorem e_house (s : Src) (f : Int) (h1 : 2 ≤ f) (h2 : f ≤ 40) : ∃ (s' : Src) (n g p : Int), d__law_house [.own true (srcO s), .val (.int f)] = .ok (.val (.tuple [.int n, .int g, .int p]), [.own true (srcO s'), .val (.int f)]) ∧ 2 ≤ n ∧ n ≤ f ∧ 0 ≤ g ∧ g ≤ 200000000000000000 ∧ 1 ≤ p ∧ p ≤ n - 1 := by
  have a1 := tkV_nn s (m := f - 1) (by omega)
  have a2 := tkV_lt s (m := f - 1) (by omega)
  have e1 := e_take s (f - 1) (by omega) (by omega)
  generalize tkV s (f - 1) = a at *
  generalize tkS s (f - 1) = s1 at *
  have b1 := tkV_nn s1 (m := 2 + a - 1) (by omega)
  have b2 := tkV_lt s1 (m := 2 + a - 1) (by omega)
  have e2 := e_take s1 (2 + a - 1) (by omega) (by omega)
  generalize tkV s1 (2 + a - 1) = b at *
  generalize tkS s1 (2 + a - 1) = s2 at *
  have c1 := tkV_nn s2 (m := 4) (by omega)
  have c2 := tkV_lt s2 (m := 4) (by omega)
  have e3 := e_take s2 4 (by omega) (by omega)
  generalize tkV s2 4 = c at *
  generalize tkS s2 4 = s3 at *
  obtain ⟨p, hp, p1, p2⟩ := pickI (fun p => 1 ≤ p ∧ p ≤ 2 + a - 1) [1, 1, 1 + b, 2 + a - 1] c c1 (by simpa using c2) (by
    intro x hx
    simp only [List.mem_cons, List.not_mem_nil, or_false] at hx
    omega)
  have d1 := tkV_nn s3 (m := 12) (by omega)
  have d2 := tkV_lt s3 (m := 12) (by omega)
  have e4 := e_take s3 12 (by omega) (by omega)
  generalize tkV s3 12 = d at *
  generalize tkS s3 12 = s4 at *
  have f1 := tkV_nn s4 (m := 200) (by omega)
  have f2 := tkV_lt s4 (m := 200) (by omega)
  have e5 := e_take s4 200 (by omega) (by omega)
  generalize tkV s4 200 = e at *
  generalize tkS s4 200 = s5 at *
  have kk1 := tkV_nn s5 (m := 100000000000000000) (by omega)
  have kk2 := tkV_lt s5 (m := 100000000000000000) (by omega)
  have e6 := e_take s5 100000000000000000 (by omega) (by omega)
  generalize tkV s5 100000000000000000 = q at *
  generalize tkS s5 100000000000000000 = s6 at *
  have i1 := tkV_nn s6 (m := 4) (by omega)
  have i2 := tkV_lt s6 (m := 4) (by omega)
  have e7 := e_take s6 4 (by omega) (by omega)
  generalize tkV s6 4 = i at *
  generalize tkS s6 4 = s7 at *
  obtain ⟨g, hg, q1, q2⟩ := pickI (fun g => 0 ≤ g ∧ g ≤ 200000000000000000) [d, d, e, 100000000000000000 + q] i i1 (by simpa using i2) (by
    intro x hx
    simp only [List.mem_cons, List.not_mem_nil, or_false] at hx
    omega)
  simp only [List.map_cons, List.map_nil] at hp hg
  refine ⟨s7, 2 + a, g, p, ?_, by omega, by omega, q1, q2, p1, by omega⟩
  unfold d__law_house
  simp (maxSteps := 1000000) (disch := first | omega | exact Or.inl rfl | exact Or.inr rfl | exact f_non | exact f_val _ | exact f_own _ | (simp only [List.length_map, List.length_replicate, List.length_append, List.length_cons, List.length_nil, firstI_length, List.length_range, rowsD_length, List.length_drop, List.length_take, sortB_len, rangeI_len]; omega)) only [↓rb, ↓r_ofO, ↓r_den, ↓r_oX1, ↓r_oX2, ↓r_bX1, ↓r_bX2, ↓r_lX1, ↓r_lX2, ↓r_C, ↓r_Var, ↓r_Val, ↓r_Move, ↓r_fz, ↓r_ofD, ↓r_Op, ↓r_eOp, ↓r_Un, ↓r_CB, ↓r_eCB, ↓r_Mul, ↓r_Nil, ↓r_Cons, ↓r_Lst, ↓r_Tup, ↓r_Bl, ↓r_And, ↓r_Or, ↓r_NotM, ↓r_Yes, ↓r_If, ↓r_Chain, ↓r_Next, ↓r_Seq, ↓r_Bk, ↓r_Ct, ↓r_Never, ↓r_Ret, ↓r_RetN, ↓r_Expr, ↓r_sIf, ↓r_Set, ↓r_Asg, ↓r_Par, ↓r_bName, ↓r_bNil, ↓r_bCons, ↓r_bTup, ↓r_bTupL, ↓r_free, ↓f_non, ↓f_val, ↓f_own, ↓f_pin, ↓r_toSl, ↓r_fzR, ↓r_dAnd, ↓r_dOr, ↓r_dNot, ↓r_ixO, ↓r_Put, ↓r_Mut, ↓r_arNil, ↓r_arV, ↓r_arR, ↓r_Call, ↓r_CallK, ↓r_CallKD, ↓r_CallT, ↓r_For, ↓r_Lc, ↓r_iSeq, ↓r_iRng1, ↓r_iRng2, ↓r_iEnum, ↓r_iEnumA, ↓r_iEnumB, ↓r_TR1, ↓r_LenO, ↓r_NeO, ↓r_iZip, ↓r_iZipB, ↓r_LenSet, ↓r_step, ↓r_LR1, ↓r_LR2, ↓r_oNone, ↓r_oSome, ↓r_Cut, ↓r_Rev, ↓r_RevA, ↓r_keep, ↓r_Raise, ↓r_Try, ↓r_endX, ↓r_Exn, ↓r_Fld, ↓r_FldM, ↓r_FldAdd, ↓r_bFld, ↓r_Meth, ↓r_MethT, ↓r_Make, ↓r_Par3, ↓r_AugN, ↓r_AugPut, ↓f_exn, ↓nx_nil, ↓nx_n, ↓nx_v, ↓nx_o, ↓nx_x, ↓r_Isi, ↓r_IsiT, ↓r_Bor, ↓r_noEx, ↓r_wipe0, ↓r_wipe1, ↓r_outs0, ↓r_outs1, ↓r_out1, ↓r_out2, ↓r_mkA0, ↓r_mkA1, ↓r_mkA2, ↓r_wb0, ↓r_wb1, ↓r_wb2, ↓r_Said, ↓r_hide0, ↓r_hide1, ↓r_hideV, ↓r_hideO, ↓r_hideN, ↓r_IsE, ↓r_IsE2, ↓r_iZip3, ↓r_Mt, ↓r_Pre, ↓r_CutO, ↓r_setOwn, ↓r_Copy, ↓r_pick0, ↓r_pick1, ↓r_val0, ↓r_val1, ↓g0, ↓g1, ↓g2, ↓g3, ↓g4, ↓g5, ↓g6, ↓g7, ↓g8, ↓g9, ↓g10, ↓g11, ↓g12, ↓g13, ↓g14, ↓g15, ↓g16, ↓g17, ↓g18, ↓g19, ↓u0, ↓u1, ↓u2, ↓u3, ↓u4, ↓u5, ↓u6, ↓u7, ↓u8, ↓u9, ↓u10, ↓u11, ↓u12, ↓u13, ↓u14, ↓u15, ↓u16, ↓u17, ↓u18, ↓u19, v_eqE0, v_neE0, K_nb, K_ni, K_ns, K_nl, K_nt, K_bb, K_bi, K_bs, K_bl, K_bt, K_ib, K_ii, K_is, K_il, K_it, K_sb, K_si, K_ss, K_sl, K_st, K_lb, K_li, K_ls, K_ll, K_lt, K_tb, K_ti, K_ts, K_tl, K_tt, K_db, K_di, K_ds, K_dl, K_dt, t_n, t_d, t_s, r_outO1, r_outO2, r_Ask1, r_Ask2, v_TR, v_add, v_sub, v_neg, v_lt, v_le, v_gt, v_ge, v_eq, v_ne, v_max2, v_min2, v_mod, v_div, v_pow9, v_pow18, v_mulL, v_mulR, v_divmod, v_lenL, v_lenT, v_sum, v_eqL, v_listOf, v_inT2, v_sorted, sortB_f, v_sortL, v_sortT, v_sortDL, v_sortDT, v_sortDP, v_keep, v_tupL, v_tupT, v_sumL, v_sumT, v_app, v_neL, v_pow39, v_pow40, ob_nil, ob_zero, ob_1, ob_2, ob_3, ob_4, ob_5, ob_6, ob_7, ob_8, ll_n, ll_b, ll_i, ll_s, bs_n, bs_v, bs_l, bs_s, llA_ints, List.all_cons, List.all_nil, Bool.and_true, Bool.true_and, Bool.false_and, Bool.and_false, Bool.and_self, v_isN0, v_isNi, v_notN0, v_notNi, v_ixL, v_ixT, v_cutL, v_cutT, k_ii, k_ib, k_bi, k_bb, k_ll, k_lt, k_tl, k_tt, t_i, t_b, t_l, t_t, isR, if_true, true_and, and_true, and_self, if_false, if_pos, Bool.not_true, Bool.not_false, List.length_cons, List.length_nil, List.replicate, List.cons_append, List.nil_append, List.head?_cons, List.tail_cons, List.any_nil, List.any_cons, Bool.false_eq_true, Bool.or_false, Bool.false_or, beq_self_eq_true, Nat.reduceSub, Nat.reduceAdd, Nat.reduceLeDiff, Nat.reduceBEq, Nat.reduceEqDiff, reduceIte, eq_self, reduceCtorEq, kp_p1, kp_p2, kp_p3, kp_p4, kp_p5, kp_p6, kp_h, kp_d, kp_l1, kp_l2, kp_l3, kp_l4, kp_l5, kp_l6, kp_cups, kp_scoops, kp_rows, kp_looks, kp_held, kp_done, kp_choose, kp_nums, kp_stand, Int.reduceToNat, Int.reduceBEq, Nat.zero_add, Nat.reduceLT, e1, e2, e3, hp, e4, e5, v_pow17, e6, e7, hg]
theorem e_is_let (n g p j h : Int) (a : List (List Int × List Int)) (e : List Int) (h1 : 2 ≤ n) (h2 : n ≤ 40) (h3 : 0 ≤ g) (h4 : 1 ≤ p) (h5 : p ≤ n - 1) (h6 : 1 ≤ j) (h7 : j ≤ n) (h8 : 0 ≤ h) (hL : Lad n g p (zeroI n) a e) (hh : h ≤ (e.take j.toNat).sum) :
    d__law_is_let [.val (.tuple [.int n, .int g, .int p]), .val (.int j), .val (.int h), .val (.list (a.map stepD))] = .ok (.val (.bool true), [.val (.tuple [.int n, .int g, .int p]), .val (.int j), .val (.int h), .val (.list (a.map stepD))]) := by
  have e1 := e_check_ladder n g p j h a none e h1 h2 h3 h4 h5 h6 h7 h8 (fun l z => nomatch z) hL hh
  have e1 : d_check_ladder [.val (.int n), .val (.int g), .val (.int p), .val (.int j), .val (.int h), .val (.list (a.map stepD)), .val .none] = _ := e1
  unfold d__law_is_let
  simp (maxSteps := 1000000) (disch := first | omega | exact Or.inl rfl | exact Or.inr rfl | exact f_non | exact f_val _ | exact f_own _ | (simp only [List.length_map, List.length_replicate, List.length_append, List.length_cons, List.length_nil, firstI_length, List.length_range, rowsD_length, List.length_drop, List.length_take, sortB_len, rangeI_len]; omega)) only [↓rb, ↓r_ofO, ↓r_den, ↓r_oX1, ↓r_oX2, ↓r_bX1, ↓r_bX2, ↓r_lX1, ↓r_lX2, ↓r_C, ↓r_Var, ↓r_Val, ↓r_Move, ↓r_fz, ↓r_ofD, ↓r_Op, ↓r_eOp, ↓r_Un, ↓r_CB, ↓r_eCB, ↓r_Mul, ↓r_Nil, ↓r_Cons, ↓r_Lst, ↓r_Tup, ↓r_Bl, ↓r_And, ↓r_Or, ↓r_NotM, ↓r_Yes, ↓r_If, ↓r_Chain, ↓r_Next, ↓r_Seq, ↓r_Bk, ↓r_Ct, ↓r_Never, ↓r_Ret, ↓r_RetN, ↓r_Expr, ↓r_sIf, ↓r_Set, ↓r_Asg, ↓r_Par, ↓r_bName, ↓r_bNil, ↓r_bCons, ↓r_bTup, ↓r_bTupL, ↓r_free, ↓f_non, ↓f_val, ↓f_own, ↓f_pin, ↓r_toSl, ↓r_fzR, ↓r_dAnd, ↓r_dOr, ↓r_dNot, ↓r_ixO, ↓r_Put, ↓r_Mut, ↓r_arNil, ↓r_arV, ↓r_arR, ↓r_Call, ↓r_CallK, ↓r_CallKD, ↓r_CallT, ↓r_For, ↓r_Lc, ↓r_iSeq, ↓r_iRng1, ↓r_iRng2, ↓r_iEnum, ↓r_iEnumA, ↓r_iEnumB, ↓r_TR1, ↓r_LenO, ↓r_NeO, ↓r_iZip, ↓r_iZipB, ↓r_LenSet, ↓r_step, ↓r_LR1, ↓r_LR2, ↓r_oNone, ↓r_oSome, ↓r_Cut, ↓r_Rev, ↓r_RevA, ↓r_keep, ↓r_Raise, ↓r_Try, ↓r_endX, ↓r_Exn, ↓r_Fld, ↓r_FldM, ↓r_FldAdd, ↓r_bFld, ↓r_Meth, ↓r_MethT, ↓r_Make, ↓r_Par3, ↓r_AugN, ↓r_AugPut, ↓f_exn, ↓nx_nil, ↓nx_n, ↓nx_v, ↓nx_o, ↓nx_x, ↓r_Isi, ↓r_IsiT, ↓r_Bor, ↓r_noEx, ↓r_wipe0, ↓r_wipe1, ↓r_outs0, ↓r_outs1, ↓r_out1, ↓r_out2, ↓r_mkA0, ↓r_mkA1, ↓r_mkA2, ↓r_wb0, ↓r_wb1, ↓r_wb2, ↓r_Said, ↓r_hide0, ↓r_hide1, ↓r_hideV, ↓r_hideO, ↓r_hideN, ↓r_IsE, ↓r_IsE2, ↓r_iZip3, ↓r_Mt, ↓r_Pre, ↓r_CutO, ↓r_setOwn, ↓r_Copy, ↓r_pick0, ↓r_pick1, ↓r_val0, ↓r_val1, ↓g0, ↓g1, ↓g2, ↓g3, ↓g4, ↓g5, ↓g6, ↓g7, ↓g8, ↓g9, ↓g10, ↓g11, ↓g12, ↓g13, ↓g14, ↓g15, ↓g16, ↓g17, ↓g18, ↓g19, ↓u0, ↓u1, ↓u2, ↓u3, ↓u4, ↓u5, ↓u6, ↓u7, ↓u8, ↓u9, ↓u10, ↓u11, ↓u12, ↓u13, ↓u14, ↓u15, ↓u16, ↓u17, ↓u18, ↓u19, v_eqE0, v_neE0, K_nb, K_ni, K_ns, K_nl, K_nt, K_bb, K_bi, K_bs, K_bl, K_bt, K_ib, K_ii, K_is, K_il, K_it, K_sb, K_si, K_ss, K_sl, K_st, K_lb, K_li, K_ls, K_ll, K_lt, K_tb, K_ti, K_ts, K_tl, K_tt, K_db, K_di, K_ds, K_dl, K_dt, t_n, t_d, t_s, r_outO1, r_outO2, r_Ask1, r_Ask2, v_TR, v_add, v_sub, v_neg, v_lt, v_le, v_gt, v_ge, v_eq, v_ne, v_max2, v_min2, v_mod, v_div, v_pow9, v_pow18, v_mulL, v_mulR, v_divmod, v_lenL, v_lenT, v_sum, v_eqL, v_listOf, v_inT2, v_sorted, sortB_f, v_sortL, v_sortT, v_sortDL, v_sortDT, v_sortDP, v_keep, v_tupL, v_tupT, v_sumL, v_sumT, v_app, v_neL, v_pow39, v_pow40, ob_nil, ob_zero, ob_1, ob_2, ob_3, ob_4, ob_5, ob_6, ob_7, ob_8, ll_n, ll_b, ll_i, ll_s, bs_n, bs_v, bs_l, bs_s, llA_ints, List.all_cons, List.all_nil, Bool.and_true, Bool.true_and, Bool.false_and, Bool.and_false, Bool.and_self, v_isN0, v_isNi, v_notN0, v_notNi, v_ixL, v_ixT, v_cutL, v_cutT, k_ii, k_ib, k_bi, k_bb, k_ll, k_lt, k_tl, k_tt, t_i, t_b, t_l, t_t, isR, if_true, true_and, and_true, and_self, if_false, if_pos, Bool.not_true, Bool.not_false, List.length_cons, List.length_nil, List.replicate, List.cons_append, List.nil_append, List.head?_cons, List.tail_cons, List.any_nil, List.any_cons, Bool.false_eq_true, Bool.or_false, Bool.false_or, beq_self_eq_true, Nat.reduceSub, Nat.reduceAdd, Nat.reduceLeDiff, Nat.reduceBEq, Nat.reduceEqDiff, reduceIte, eq_self, reduceCtorEq, kp_p1, kp_p2, kp_p3, kp_p4, kp_p5, kp_p6, kp_h, kp_d, kp_l1, kp_l2, kp_l3, kp_l4, kp_l5, kp_l6, kp_cups, kp_scoops, kp_rows, kp_looks, kp_held, kp_done, kp_choose, kp_nums, kp_stand, Int.reduceToNat, Int.reduceBEq, Nat.zero_add, Nat.reduceLT, at0, at1, at2, e1]
/-! ladders made of a ladder -/
def timesL (m : Int) (a : List (List Int × List Int)) : List (List Int × List Int) := a.map fun s => (s.1.map (· * m), s.2.map (· * m))
def widerL (a : List (List Int × List Int)) : List (List Int × List Int) := a.map fun s => (s.1 ++ [0], s.2 ++ [0])
theorem getD_times (m : Int) (l : List Int) (i : Nat) : (l.map (· * m)).getD i 0 = l.getD i 0 * m := by
  rw [List.getD_eq_getElem?_getD, List.getD_eq_getElem?_getD, List.getElem?_map]
  cases l[i]? with
  | none => show (0 : Int) = 0 * m; omega
  | some x => rfl
theorem sort_times {m : Int} (hm : 0 ≤ m) (l : List Int) : sortB true (l.map (· * m)) = (sortB true l).map (· * m) := by
  have h : ((sortB true l).map (· * m)).Pairwise (· ≥ ·) := by
    rw [List.pairwise_map]
    exact (sortB_down l).imp fun h => Int.mul_le_mul_of_nonneg_right h hm
  rw [← sortB_self h]
  exact sortB_eq ((sortB_perm true l).map _).symm
theorem add_times (m : Int) (a b : List Int) (h : b.length = a.length) : addI (a.map (· * m)) (b.map (· * m)) = (addI a b).map (· * m) :=
  ext_getD (by rw [addI_len (by rw [List.length_map, List.length_map]; exact h), List.length_map, List.length_map, addI_len h]) fun i _ => by
    rw [addI_at (by rw [List.length_map, List.length_map]; exact h), getD_times, getD_times, getD_times, addI_at h, Int.add_mul]
theorem stays_times {m : Int} (hm : 0 ≤ m) (l : List Int) (k : Nat) : staysI (l.map (· * m)) k = (staysI l k).map (· * m) := by
  unfold staysI
  rw [sort_times hm, List.map_append, List.map_drop, List.map_replicate, Int.zero_mul]
theorem sum_timesR (m : Int) : ∀ l : List Int, (l.map (· * m)).sum = l.sum * m
  | [] => by show (0 : Int) = 0 * m; omega
  | x :: l => by rw [List.map_cons, List.sum_cons, List.sum_cons, sum_timesR m l, Int.add_mul]
theorem lad_times {n g p m : Int} (hm : 0 ≤ m) : ∀ {a : List (List Int × List Int)} {c e : List Int}, Lad n g p c a e → Lad n (g * m) p (c.map (· * m)) (timesL m a) (e.map (· * m))
  | [], _, _, h => by cases h; rfl
  | s :: a, c, e, ⟨O, h⟩ => by
    have l1 := O.l1
    have l2 := O.l2
    refine ⟨⟨by rw [List.length_map]; exact O.l1, fun z hz => ?_, by rw [List.length_map]; exact O.l2, fun z hz => ?_, ?_, ?_, fun i => ?_⟩, ?_⟩
    · obtain ⟨x, hx, rfl⟩ := List.mem_map.mp hz
      exact Int.mul_nonneg (O.n1 x hx) hm
    · obtain ⟨x, hx, rfl⟩ := List.mem_map.mp hz
      exact Int.mul_nonneg (O.n2 x hx) hm
    · rw [List.pairwise_map]
      exact O.falls.imp fun h => Int.mul_le_mul_of_nonneg_right h hm
    · rw [sum_timesR, O.sum]
    · rw [getD_times, getD_times]
      exact Int.mul_le_mul_of_nonneg_right (O.over i) hm
    · have ih := lad_times hm h
      show Lad _ _ _ (staysI (addI (s.1.map (· * m)) (s.2.map (· * m))) p.toNat) _ _
      rw [add_times m _ _ (by omega), stays_times hm]
      exact ih
theorem zero_times (n m : Int) : (zeroI n).map (· * m) = zeroI n := by
  unfold zeroI
  rw [List.map_replicate, Int.zero_mul]
theorem sort_wider {l : List Int} (h : ∀ z ∈ l, 0 ≤ z) : sortB true (l ++ [0]) = sortB true l ++ [0] := by
  have q : (sortB true l ++ [0]).Pairwise (· ≥ ·) := down_zeros (sortB_down l) (sortB_nn h) 1
  rw [← sortB_self q]
  exact sortB_eq ((sortB_perm true l).symm.append (List.Perm.refl _))
theorem add_wider (a b : List Int) (h : b.length = a.length) : addI (a ++ [0]) (b ++ [0]) = addI a b ++ [0] := by
  unfold addI
  rw [List.zip_append h.symm, List.map_append]
  rfl
theorem getD_wider (l : List Int) (i : Nat) : (l ++ [0]).getD i 0 = l.getD i 0 := by
  rw [List.getD_eq_getElem?_getD, List.getD_eq_getElem?_getD]
  by_cases h : i < l.length
  · rw [List.getElem?_append_left h]
  · rw [List.getElem?_append_right (by omega), List.getElem?_eq_none (show l.length ≤ i by omega)]
    cases i - l.length <;> rfl
theorem stays_wider {l : List Int} (h : ∀ z ∈ l, 0 ≤ z) (k : Nat) (hk : k ≤ l.length) : staysI (l ++ [0]) k = staysI l k ++ [0] := by
  unfold staysI
  rw [sort_wider h, List.drop_append_of_le_length (by rw [sortB_len]; exact hk), List.append_assoc, List.append_assoc]
  congr 1
  show List.replicate 1 0 ++ List.replicate k 0 = List.replicate k 0 ++ List.replicate 1 0
  rw [List.replicate_append_replicate, List.replicate_append_replicate, Nat.add_comm]
theorem lad_wider {n g p : Int} (h4 : 1 ≤ p) (h5 : p ≤ n - 1) : ∀ {a : List (List Int × List Int)} {c e : List Int}, Lad n g p c a e → Lad (n + 1) g p (c ++ [0]) (widerL a) (e ++ [0])
  | [], _, _, h => by cases h; rfl
  | s :: a, c, e, ⟨O, h⟩ => by
    have l1 := O.l1
    have l2 := O.l2
    refine ⟨⟨by rw [List.length_append]; show ((s.1.length + 1 : Nat) : Int) = _; omega, fun z hz => ?_, by rw [List.length_append]; show ((s.2.length + 1 : Nat) : Int) = _; omega, fun z hz => ?_, ?_, ?_, fun i => ?_⟩, ?_⟩
    · rcases List.mem_append.mp hz with q | q
      · exact O.n1 z q
      · rw [List.mem_singleton.mp q]; exact Int.le_refl _
    · rcases List.mem_append.mp hz with q | q
      · exact O.n2 z q
      · rw [List.mem_singleton.mp q]; exact Int.le_refl _
    · exact down_zeros O.falls O.n1 1
    · show (s.2 ++ [0]).sum = g
      rw [List.sum_append, O.sum]
      show g + 0 = g
      omega
    · show (s.1 ++ [0]).getD i 0 ≤ (c ++ [0]).getD i 0
      rw [getD_wider, getD_wider]
      exact O.over i
    · have ih := lad_wider h4 h5 h
      show Lad _ _ _ (staysI (addI (s.1 ++ [0]) (s.2 ++ [0])) p.toNat) _ _
      rw [add_wider _ _ (by omega), stays_wider (addI_nn O.n1 O.n2) _ (by rw [addI_len (by omega)]; omega)]
      exact ih
theorem zero_wider (n : Int) (h : 0 ≤ n) : zeroI n ++ [0] = zeroI (n + 1) := by
  unfold zeroI
  rw [show (n + 1).toNat = n.toNat + 1 by omega, List.replicate_succ']
theorem stays_fewer {l : List Int} (h : ∀ z ∈ l, 0 ≤ z) (k : Nat) (i : Nat) : (staysI l (k + 1)).getD i 0 ≤ (staysI l k).getD i 0 := by
  unfold staysI
  have hd := sortB_down l
  have hn := sortB_nn (b := true) h
  generalize sortB true l = q at *
  by_cases h1 : i < q.length - (k + 1)
  · rw [List.getD_eq_getElem?_getD, List.getD_eq_getElem?_getD, List.getElem?_append_left (by rw [List.length_drop]; exact h1), List.getElem?_append_left (by rw [List.length_drop]; omega), List.getElem?_drop, List.getElem?_drop, List.getElem?_eq_getElem (by omega), List.getElem?_eq_getElem (by omega)]
    exact down_at hd (by omega) (by omega)
  · have e : (q.drop (k + 1) ++ List.replicate (k + 1) 0).getD i 0 = 0 := by
      rw [List.getD_eq_getElem?_getD, List.getElem?_append_right (by rw [List.length_drop]; omega), List.getElem?_replicate]
      split <;> rfl
    rw [e]
    exact getD_nn (fun z hz => by
      rcases List.mem_append.mp hz with q' | q'
      · exact hn z (List.mem_of_mem_drop q')
      · rw [List.eq_of_mem_replicate q']; exact Int.le_refl _) i
theorem lad_fewer {n g p : Int} (h4 : 1 ≤ p) : ∀ {a : List (List Int × List Int)} {c e d : List Int}, Lad n g (p + 1) c a e → (∀ i, c.getD i 0 ≤ d.getD i 0) → ∃ e', Lad n g p d a e' ∧ ∀ i, e.getD i 0 ≤ e'.getD i 0
  | [], _, _, d, h, k => by cases h; exact ⟨d, rfl, k⟩
  | s :: a, c, e, d, ⟨O, h⟩, k => by
    have l1 := O.l1
    have l2 := O.l2
    obtain ⟨e', h1, h2⟩ := lad_fewer (d := staysI (addI s.1 s.2) p.toNat) h4 h fun i => by
      rw [show (p + 1).toNat = p.toNat + 1 by omega]
      exact stays_fewer (addI_nn O.n1 O.n2) _ i
    exact ⟨e', ⟨⟨O.l1, O.n1, O.l2, O.n2, O.falls, O.sum, fun i => Int.le_trans (O.over i) (k i)⟩, h1⟩, h2⟩
theorem take_sum_le : ∀ {a b : List Int} (k : Nat), a.length = b.length → (∀ i, a.getD i 0 ≤ b.getD i 0) → (a.take k).sum ≤ (b.take k).sum
  | [], [], _, _, _ => by simp
  | x :: a, y :: b, 0, _, _ => by simp
  | x :: a, y :: b, k + 1, hl, h => by
    have h0 : x ≤ y := h 0
    have ih := take_sum_le (a := a) (b := b) k (by simpa using hl) fun i => h (i + 1)
    rw [List.take_succ_cons, List.take_succ_cons, List.sum_cons, List.sum_cons]
    omega
  | [], _ :: _, _, h, _ => by simp at h
  | _ :: _, [], _, h, _ => by simp at h
theorem lad_len {n g p : Int} (h4 : 1 ≤ p) (h5 : p ≤ n - 1) : ∀ {a : List (List Int × List Int)} {c e : List Int}, Lad n g p c a e → (c.length : Int) = n → (e.length : Int) = n
  | [], _, _, h, hc => by cases h; exact hc
  | s :: a, c, e, ⟨O, h⟩, _ => lad_len h4 h5 h (by
    have l1 := O.l1
    have l2 := O.l2
    have hx : (addI s.1 s.2).length = s.1.length := addI_len (by omega)
    rw [staysI_len _ (by omega), hx]
    exact l1)
theorem e_times (a : List (List Int × List Int)) (m : Int) (h1 : 0 ≤ m) (h2 : m ≤ 1000000) (ha : a.length ≤ 1000) (hs : ∀ s ∈ a, s.1.length ≤ 1000 ∧ s.2.length ≤ 1000) : d__law_times [.val (.list (a.map stepD)), .val (.int m)] = .ok (.own (.lst ((timesL m a).map stepD)), [.val (.list (a.map stepD)), .val (.int m)]) := by
  have lc : lcD [2, 3] (bTup 2 (bCons (bName 2) (bCons (bName 3) bNil))) tYesM x__law_times_1 (a.map stepD) [] [.val (.list (a.map stepD)), .val (.int m), .non, .non, .non] = .ok (a.map (fun s => stepD (s.1.map (· * m), s.2.map (· * m))), [.val (.list (a.map stepD)), .val (.int m), .non, .non, .non]) :=
    lcD_mapI stepD (fun s => stepD (s.1.map (· * m), s.2.map (· * m))) a (fun s hs' => by
      have q := hs s hs'
      have l1 : lcD [4] (bName 4) tYesM x__law_times_2 (s.1.map PyData.int) [] [.val (.list (a.map stepD)), .val (.int m), .val (.tuple (s.1.map .int)), .val (.tuple (s.2.map .int)), .non] = .ok (s.1.map (fun z => .int (z * m)), [.val (.list (a.map stepD)), .val (.int m), .val (.tuple (s.1.map .int)), .val (.tuple (s.2.map .int)), .non]) :=
        lcD_mapI .int (fun z => .int (z * m)) s.1 (fun z _ => by simp (maxSteps := 1000000) (disch := first | omega | exact Or.inl rfl | exact Or.inr rfl | exact f_non | exact f_val _ | exact f_own _ | (simp only [List.length_map, List.length_replicate, List.length_append, List.length_cons, List.length_nil, firstI_length, List.length_range, rowsD_length, List.length_drop, List.length_take, sortB_len, rangeI_len]; omega)) only [↓rb, ↓r_ofO, ↓r_den, ↓r_oX1, ↓r_oX2, ↓r_bX1, ↓r_bX2, ↓r_lX1, ↓r_lX2, ↓r_C, ↓r_Var, ↓r_Val, ↓r_Move, ↓r_fz, ↓r_ofD, ↓r_Op, ↓r_eOp, ↓r_Un, ↓r_CB, ↓r_eCB, ↓r_Mul, ↓r_Nil, ↓r_Cons, ↓r_Lst, ↓r_Tup, ↓r_Bl, ↓r_And, ↓r_Or, ↓r_NotM, ↓r_Yes, ↓r_If, ↓r_Chain, ↓r_Next, ↓r_Seq, ↓r_Bk, ↓r_Ct, ↓r_Never, ↓r_Ret, ↓r_RetN, ↓r_Expr, ↓r_sIf, ↓r_Set, ↓r_Asg, ↓r_Par, ↓r_bName, ↓r_bNil, ↓r_bCons, ↓r_bTup, ↓r_bTupL, ↓r_free, ↓f_non, ↓f_val, ↓f_own, ↓f_pin, ↓r_toSl, ↓r_fzR, ↓r_dAnd, ↓r_dOr, ↓r_dNot, ↓r_ixO, ↓r_Put, ↓r_Mut, ↓r_arNil, ↓r_arV, ↓r_arR, ↓r_Call, ↓r_CallK, ↓r_CallKD, ↓r_CallT, ↓r_For, ↓r_Lc, ↓r_iSeq, ↓r_iRng1, ↓r_iRng2, ↓r_iEnum, ↓r_iEnumA, ↓r_iEnumB, ↓r_TR1, ↓r_LenO, ↓r_NeO, ↓r_iZip, ↓r_iZipB, ↓r_LenSet, ↓r_step, ↓r_LR1, ↓r_LR2, ↓r_oNone, ↓r_oSome, ↓r_Cut, ↓r_Rev, ↓r_RevA, ↓r_keep, ↓r_Raise, ↓r_Try, ↓r_endX, ↓r_Exn, ↓r_Fld, ↓r_FldM, ↓r_FldAdd, ↓r_bFld, ↓r_Meth, ↓r_MethT, ↓r_Make, ↓r_Par3, ↓r_AugN, ↓r_AugPut, ↓f_exn, ↓nx_nil, ↓nx_n, ↓nx_v, ↓nx_o, ↓nx_x, ↓r_Isi, ↓r_IsiT, ↓r_Bor, ↓r_noEx, ↓r_wipe0, ↓r_wipe1, ↓r_outs0, ↓r_outs1, ↓r_out1, ↓r_out2, ↓r_mkA0, ↓r_mkA1, ↓r_mkA2, ↓r_wb0, ↓r_wb1, ↓r_wb2, ↓r_Said, ↓r_hide0, ↓r_hide1, ↓r_hideV, ↓r_hideO, ↓r_hideN, ↓r_IsE, ↓r_IsE2, ↓r_iZip3, ↓r_Mt, ↓r_Pre, ↓r_CutO, ↓r_setOwn, ↓r_Copy, ↓r_pick0, ↓r_pick1, ↓r_val0, ↓r_val1, ↓g0, ↓g1, ↓g2, ↓g3, ↓g4, ↓g5, ↓g6, ↓g7, ↓g8, ↓g9, ↓g10, ↓g11, ↓g12, ↓g13, ↓g14, ↓g15, ↓g16, ↓g17, ↓g18, ↓g19, ↓u0, ↓u1, ↓u2, ↓u3, ↓u4, ↓u5, ↓u6, ↓u7, ↓u8, ↓u9, ↓u10, ↓u11, ↓u12, ↓u13, ↓u14, ↓u15, ↓u16, ↓u17, ↓u18, ↓u19, v_eqE0, v_neE0, K_nb, K_ni, K_ns, K_nl, K_nt, K_bb, K_bi, K_bs, K_bl, K_bt, K_ib, K_ii, K_is, K_il, K_it, K_sb, K_si, K_ss, K_sl, K_st, K_lb, K_li, K_ls, K_ll, K_lt, K_tb, K_ti, K_ts, K_tl, K_tt, K_db, K_di, K_ds, K_dl, K_dt, t_n, t_d, t_s, r_outO1, r_outO2, r_Ask1, r_Ask2, v_TR, v_add, v_sub, v_neg, v_lt, v_le, v_gt, v_ge, v_eq, v_ne, v_max2, v_min2, v_mod, v_div, v_pow9, v_pow18, v_mulL, v_mulR, v_divmod, v_lenL, v_lenT, v_sum, v_eqL, v_listOf, v_inT2, v_sorted, sortB_f, v_sortL, v_sortT, v_sortDL, v_sortDT, v_sortDP, v_keep, v_tupL, v_tupT, v_sumL, v_sumT, v_app, v_neL, v_pow39, v_pow40, ob_nil, ob_zero, ob_1, ob_2, ob_3, ob_4, ob_5, ob_6, ob_7, ob_8, ll_n, ll_b, ll_i, ll_s, bs_n, bs_v, bs_l, bs_s, llA_ints, List.all_cons, List.all_nil, Bool.and_true, Bool.true_and, Bool.false_and, Bool.and_false, Bool.and_self, v_isN0, v_isNi, v_notN0, v_notNi, v_ixL, v_ixT, v_cutL, v_cutT, k_ii, k_ib, k_bi, k_bb, k_ll, k_lt, k_tl, k_tt, t_i, t_b, t_l, t_t, isR, if_true, true_and, and_true, and_self, if_false, if_pos, Bool.not_true, Bool.not_false, List.length_cons, List.length_nil, List.replicate, List.cons_append, List.nil_append, List.head?_cons, List.tail_cons, List.any_nil, List.any_cons, Bool.false_eq_true, Bool.or_false, Bool.false_or, beq_self_eq_true, Nat.reduceSub, Nat.reduceAdd, Nat.reduceLeDiff, Nat.reduceBEq, Nat.reduceEqDiff, reduceIte, eq_self, reduceCtorEq, kp_p1, kp_p2, kp_p3, kp_p4, kp_p5, kp_p6, kp_h, kp_d, kp_l1, kp_l2, kp_l3, kp_l4, kp_l5, kp_l6, kp_cups, kp_scoops, kp_rows, kp_looks, kp_held, kp_done, kp_choose, kp_nums, kp_stand, Int.reduceToNat, Int.reduceBEq, Nat.zero_add, Nat.reduceLT, u_x__law_times_2]) (by omega)
      have l2 : lcD [4] (bName 4) tYesM x__law_times_3 (s.2.map PyData.int) [] [.val (.list (a.map stepD)), .val (.int m), .val (.tuple (s.1.map .int)), .val (.tuple (s.2.map .int)), .non] = .ok (s.2.map (fun z => .int (z * m)), [.val (.list (a.map stepD)), .val (.int m), .val (.tuple (s.1.map .int)), .val (.tuple (s.2.map .int)), .non]) :=
        lcD_mapI .int (fun z => .int (z * m)) s.2 (fun z _ => by simp (maxSteps := 1000000) (disch := first | omega | exact Or.inl rfl | exact Or.inr rfl | exact f_non | exact f_val _ | exact f_own _ | (simp only [List.length_map, List.length_replicate, List.length_append, List.length_cons, List.length_nil, firstI_length, List.length_range, rowsD_length, List.length_drop, List.length_take, sortB_len, rangeI_len]; omega)) only [↓rb, ↓r_ofO, ↓r_den, ↓r_oX1, ↓r_oX2, ↓r_bX1, ↓r_bX2, ↓r_lX1, ↓r_lX2, ↓r_C, ↓r_Var, ↓r_Val, ↓r_Move, ↓r_fz, ↓r_ofD, ↓r_Op, ↓r_eOp, ↓r_Un, ↓r_CB, ↓r_eCB, ↓r_Mul, ↓r_Nil, ↓r_Cons, ↓r_Lst, ↓r_Tup, ↓r_Bl, ↓r_And, ↓r_Or, ↓r_NotM, ↓r_Yes, ↓r_If, ↓r_Chain, ↓r_Next, ↓r_Seq, ↓r_Bk, ↓r_Ct, ↓r_Never, ↓r_Ret, ↓r_RetN, ↓r_Expr, ↓r_sIf, ↓r_Set, ↓r_Asg, ↓r_Par, ↓r_bName, ↓r_bNil, ↓r_bCons, ↓r_bTup, ↓r_bTupL, ↓r_free, ↓f_non, ↓f_val, ↓f_own, ↓f_pin, ↓r_toSl, ↓r_fzR, ↓r_dAnd, ↓r_dOr, ↓r_dNot, ↓r_ixO, ↓r_Put, ↓r_Mut, ↓r_arNil, ↓r_arV, ↓r_arR, ↓r_Call, ↓r_CallK, ↓r_CallKD, ↓r_CallT, ↓r_For, ↓r_Lc, ↓r_iSeq, ↓r_iRng1, ↓r_iRng2, ↓r_iEnum, ↓r_iEnumA, ↓r_iEnumB, ↓r_TR1, ↓r_LenO, ↓r_NeO, ↓r_iZip, ↓r_iZipB, ↓r_LenSet, ↓r_step, ↓r_LR1, ↓r_LR2, ↓r_oNone, ↓r_oSome, ↓r_Cut, ↓r_Rev, ↓r_RevA, ↓r_keep, ↓r_Raise, ↓r_Try, ↓r_endX, ↓r_Exn, ↓r_Fld, ↓r_FldM, ↓r_FldAdd, ↓r_bFld, ↓r_Meth, ↓r_MethT, ↓r_Make, ↓r_Par3, ↓r_AugN, ↓r_AugPut, ↓f_exn, ↓nx_nil, ↓nx_n, ↓nx_v, ↓nx_o, ↓nx_x, ↓r_Isi, ↓r_IsiT, ↓r_Bor, ↓r_noEx, ↓r_wipe0, ↓r_wipe1, ↓r_outs0, ↓r_outs1, ↓r_out1, ↓r_out2, ↓r_mkA0, ↓r_mkA1, ↓r_mkA2, ↓r_wb0, ↓r_wb1, ↓r_wb2, ↓r_Said, ↓r_hide0, ↓r_hide1, ↓r_hideV, ↓r_hideO, ↓r_hideN, ↓r_IsE, ↓r_IsE2, ↓r_iZip3, ↓r_Mt, ↓r_Pre, ↓r_CutO, ↓r_setOwn, ↓r_Copy, ↓r_pick0, ↓r_pick1, ↓r_val0, ↓r_val1, ↓g0, ↓g1, ↓g2, ↓g3, ↓g4, ↓g5, ↓g6, ↓g7, ↓g8, ↓g9, ↓g10, ↓g11, ↓g12, ↓g13, ↓g14, ↓g15, ↓g16, ↓g17, ↓g18, ↓g19, ↓u0, ↓u1, ↓u2, ↓u3, ↓u4, ↓u5, ↓u6, ↓u7, ↓u8, ↓u9, ↓u10, ↓u11, ↓u12, ↓u13, ↓u14, ↓u15, ↓u16, ↓u17, ↓u18, ↓u19, v_eqE0, v_neE0, K_nb, K_ni, K_ns, K_nl, K_nt, K_bb, K_bi, K_bs, K_bl, K_bt, K_ib, K_ii, K_is, K_il, K_it, K_sb, K_si, K_ss, K_sl, K_st, K_lb, K_li, K_ls, K_ll, K_lt, K_tb, K_ti, K_ts, K_tl, K_tt, K_db, K_di, K_ds, K_dl, K_dt, t_n, t_d, t_s, r_outO1, r_outO2, r_Ask1, r_Ask2, v_TR, v_add, v_sub, v_neg, v_lt, v_le, v_gt, v_ge, v_eq, v_ne, v_max2, v_min2, v_mod, v_div, v_pow9, v_pow18, v_mulL, v_mulR, v_divmod, v_lenL, v_lenT, v_sum, v_eqL, v_listOf, v_inT2, v_sorted, sortB_f, v_sortL, v_sortT, v_sortDL, v_sortDT, v_sortDP, v_keep, v_tupL, v_tupT, v_sumL, v_sumT, v_app, v_neL, v_pow39, v_pow40, ob_nil, ob_zero, ob_1, ob_2, ob_3, ob_4, ob_5, ob_6, ob_7, ob_8, ll_n, ll_b, ll_i, ll_s, bs_n, bs_v, bs_l, bs_s, llA_ints, List.all_cons, List.all_nil, Bool.and_true, Bool.true_and, Bool.false_and, Bool.and_false, Bool.and_self, v_isN0, v_isNi, v_notN0, v_notNi, v_ixL, v_ixT, v_cutL, v_cutT, k_ii, k_ib, k_bi, k_bb, k_ll, k_lt, k_tl, k_tt, t_i, t_b, t_l, t_t, isR, if_true, true_and, and_true, and_self, if_false, if_pos, Bool.not_true, Bool.not_false, List.length_cons, List.length_nil, List.replicate, List.cons_append, List.nil_append, List.head?_cons, List.tail_cons, List.any_nil, List.any_cons, Bool.false_eq_true, Bool.or_false, Bool.false_or, beq_self_eq_true, Nat.reduceSub, Nat.reduceAdd, Nat.reduceLeDiff, Nat.reduceBEq, Nat.reduceEqDiff, reduceIte, eq_self, reduceCtorEq, kp_p1, kp_p2, kp_p3, kp_p4, kp_p5, kp_p6, kp_h, kp_d, kp_l1, kp_l2, kp_l3, kp_l4, kp_l5, kp_l6, kp_cups, kp_scoops, kp_rows, kp_looks, kp_held, kp_done, kp_choose, kp_nums, kp_stand, Int.reduceToNat, Int.reduceBEq, Nat.zero_add, Nat.reduceLT, u_x__law_times_3]) (by omega)
      simp (maxSteps := 1000000) (disch := first | omega | exact Or.inl rfl | exact Or.inr rfl | exact f_non | exact f_val _ | exact f_own _ | (simp only [List.length_map, List.length_replicate, List.length_append, List.length_cons, List.length_nil, firstI_length, List.length_range, rowsD_length, List.length_drop, List.length_take, sortB_len, rangeI_len]; omega)) only [↓rb, ↓r_ofO, ↓r_den, ↓r_oX1, ↓r_oX2, ↓r_bX1, ↓r_bX2, ↓r_lX1, ↓r_lX2, ↓r_C, ↓r_Var, ↓r_Val, ↓r_Move, ↓r_fz, ↓r_ofD, ↓r_Op, ↓r_eOp, ↓r_Un, ↓r_CB, ↓r_eCB, ↓r_Mul, ↓r_Nil, ↓r_Cons, ↓r_Lst, ↓r_Tup, ↓r_Bl, ↓r_And, ↓r_Or, ↓r_NotM, ↓r_Yes, ↓r_If, ↓r_Chain, ↓r_Next, ↓r_Seq, ↓r_Bk, ↓r_Ct, ↓r_Never, ↓r_Ret, ↓r_RetN, ↓r_Expr, ↓r_sIf, ↓r_Set, ↓r_Asg, ↓r_Par, ↓r_bName, ↓r_bNil, ↓r_bCons, ↓r_bTup, ↓r_bTupL, ↓r_free, ↓f_non, ↓f_val, ↓f_own, ↓f_pin, ↓r_toSl, ↓r_fzR, ↓r_dAnd, ↓r_dOr, ↓r_dNot, ↓r_ixO, ↓r_Put, ↓r_Mut, ↓r_arNil, ↓r_arV, ↓r_arR, ↓r_Call, ↓r_CallK, ↓r_CallKD, ↓r_CallT, ↓r_For, ↓r_Lc, ↓r_iSeq, ↓r_iRng1, ↓r_iRng2, ↓r_iEnum, ↓r_iEnumA, ↓r_iEnumB, ↓r_TR1, ↓r_LenO, ↓r_NeO, ↓r_iZip, ↓r_iZipB, ↓r_LenSet, ↓r_step, ↓r_LR1, ↓r_LR2, ↓r_oNone, ↓r_oSome, ↓r_Cut, ↓r_Rev, ↓r_RevA, ↓r_keep, ↓r_Raise, ↓r_Try, ↓r_endX, ↓r_Exn, ↓r_Fld, ↓r_FldM, ↓r_FldAdd, ↓r_bFld, ↓r_Meth, ↓r_MethT, ↓r_Make, ↓r_Par3, ↓r_AugN, ↓r_AugPut, ↓f_exn, ↓nx_nil, ↓nx_n, ↓nx_v, ↓nx_o, ↓nx_x, ↓r_Isi, ↓r_IsiT, ↓r_Bor, ↓r_noEx, ↓r_wipe0, ↓r_wipe1, ↓r_outs0, ↓r_outs1, ↓r_out1, ↓r_out2, ↓r_mkA0, ↓r_mkA1, ↓r_mkA2, ↓r_wb0, ↓r_wb1, ↓r_wb2, ↓r_Said, ↓r_hide0, ↓r_hide1, ↓r_hideV, ↓r_hideO, ↓r_hideN, ↓r_IsE, ↓r_IsE2, ↓r_iZip3, ↓r_Mt, ↓r_Pre, ↓r_CutO, ↓r_setOwn, ↓r_Copy, ↓r_pick0, ↓r_pick1, ↓r_val0, ↓r_val1, ↓g0, ↓g1, ↓g2, ↓g3, ↓g4, ↓g5, ↓g6, ↓g7, ↓g8, ↓g9, ↓g10, ↓g11, ↓g12, ↓g13, ↓g14, ↓g15, ↓g16, ↓g17, ↓g18, ↓g19, ↓u0, ↓u1, ↓u2, ↓u3, ↓u4, ↓u5, ↓u6, ↓u7, ↓u8, ↓u9, ↓u10, ↓u11, ↓u12, ↓u13, ↓u14, ↓u15, ↓u16, ↓u17, ↓u18, ↓u19, v_eqE0, v_neE0, K_nb, K_ni, K_ns, K_nl, K_nt, K_bb, K_bi, K_bs, K_bl, K_bt, K_ib, K_ii, K_is, K_il, K_it, K_sb, K_si, K_ss, K_sl, K_st, K_lb, K_li, K_ls, K_ll, K_lt, K_tb, K_ti, K_ts, K_tl, K_tt, K_db, K_di, K_ds, K_dl, K_dt, t_n, t_d, t_s, r_outO1, r_outO2, r_Ask1, r_Ask2, v_TR, v_add, v_sub, v_neg, v_lt, v_le, v_gt, v_ge, v_eq, v_ne, v_max2, v_min2, v_mod, v_div, v_pow9, v_pow18, v_mulL, v_mulR, v_divmod, v_lenL, v_lenT, v_sum, v_eqL, v_listOf, v_inT2, v_sorted, sortB_f, v_sortL, v_sortT, v_sortDL, v_sortDT, v_sortDP, v_keep, v_tupL, v_tupT, v_sumL, v_sumT, v_app, v_neL, v_pow39, v_pow40, ob_nil, ob_zero, ob_1, ob_2, ob_3, ob_4, ob_5, ob_6, ob_7, ob_8, ll_n, ll_b, ll_i, ll_s, bs_n, bs_v, bs_l, bs_s, llA_ints, List.all_cons, List.all_nil, Bool.and_true, Bool.true_and, Bool.false_and, Bool.and_false, Bool.and_self, v_isN0, v_isNi, v_notN0, v_notNi, v_ixL, v_ixT, v_cutL, v_cutT, k_ii, k_ib, k_bi, k_bb, k_ll, k_lt, k_tl, k_tt, t_i, t_b, t_l, t_t, isR, if_true, true_and, and_true, and_self, if_false, if_pos, Bool.not_true, Bool.not_false, List.length_cons, List.length_nil, List.replicate, List.cons_append, List.nil_append, List.head?_cons, List.tail_cons, List.any_nil, List.any_cons, Bool.false_eq_true, Bool.or_false, Bool.false_or, beq_self_eq_true, Nat.reduceSub, Nat.reduceAdd, Nat.reduceLeDiff, Nat.reduceBEq, Nat.reduceEqDiff, reduceIte, eq_self, reduceCtorEq, kp_p1, kp_p2, kp_p3, kp_p4, kp_p5, kp_p6, kp_h, kp_d, kp_l1, kp_l2, kp_l3, kp_l4, kp_l5, kp_l6, kp_cups, kp_scoops, kp_rows, kp_looks, kp_held, kp_done, kp_choose, kp_nums, kp_stand, Int.reduceToNat, Int.reduceBEq, Nat.zero_add, Nat.reduceLT, stepD, u_x__law_times_1, l1, l2, List.map_map]
      rfl) (by omega)
  rw [q__law_times]
  simp (maxSteps := 1000000) (disch := first | omega | exact Or.inl rfl | exact Or.inr rfl | exact f_non | exact f_val _ | exact f_own _ | (simp only [List.length_map, List.length_replicate, List.length_append, List.length_cons, List.length_nil, firstI_length, List.length_range, rowsD_length, List.length_drop, List.length_take, sortB_len, rangeI_len]; omega)) only [↓rb, ↓r_ofO, ↓r_den, ↓r_oX1, ↓r_oX2, ↓r_bX1, ↓r_bX2, ↓r_lX1, ↓r_lX2, ↓r_C, ↓r_Var, ↓r_Val, ↓r_Move, ↓r_fz, ↓r_ofD, ↓r_Op, ↓r_eOp, ↓r_Un, ↓r_CB, ↓r_eCB, ↓r_Mul, ↓r_Nil, ↓r_Cons, ↓r_Lst, ↓r_Tup, ↓r_Bl, ↓r_And, ↓r_Or, ↓r_NotM, ↓r_Yes, ↓r_If, ↓r_Chain, ↓r_Next, ↓r_Seq, ↓r_Bk, ↓r_Ct, ↓r_Never, ↓r_Ret, ↓r_RetN, ↓r_Expr, ↓r_sIf, ↓r_Set, ↓r_Asg, ↓r_Par, ↓r_bName, ↓r_bNil, ↓r_bCons, ↓r_bTup, ↓r_bTupL, ↓r_free, ↓f_non, ↓f_val, ↓f_own, ↓f_pin, ↓r_toSl, ↓r_fzR, ↓r_dAnd, ↓r_dOr, ↓r_dNot, ↓r_ixO, ↓r_Put, ↓r_Mut, ↓r_arNil, ↓r_arV, ↓r_arR, ↓r_Call, ↓r_CallK, ↓r_CallKD, ↓r_CallT, ↓r_For, ↓r_Lc, ↓r_iSeq, ↓r_iRng1, ↓r_iRng2, ↓r_iEnum, ↓r_iEnumA, ↓r_iEnumB, ↓r_TR1, ↓r_LenO, ↓r_NeO, ↓r_iZip, ↓r_iZipB, ↓r_LenSet, ↓r_step, ↓r_LR1, ↓r_LR2, ↓r_oNone, ↓r_oSome, ↓r_Cut, ↓r_Rev, ↓r_RevA, ↓r_keep, ↓r_Raise, ↓r_Try, ↓r_endX, ↓r_Exn, ↓r_Fld, ↓r_FldM, ↓r_FldAdd, ↓r_bFld, ↓r_Meth, ↓r_MethT, ↓r_Make, ↓r_Par3, ↓r_AugN, ↓r_AugPut, ↓f_exn, ↓nx_nil, ↓nx_n, ↓nx_v, ↓nx_o, ↓nx_x, ↓r_Isi, ↓r_IsiT, ↓r_Bor, ↓r_noEx, ↓r_wipe0, ↓r_wipe1, ↓r_outs0, ↓r_outs1, ↓r_out1, ↓r_out2, ↓r_mkA0, ↓r_mkA1, ↓r_mkA2, ↓r_wb0, ↓r_wb1, ↓r_wb2, ↓r_Said, ↓r_hide0, ↓r_hide1, ↓r_hideV, ↓r_hideO, ↓r_hideN, ↓r_IsE, ↓r_IsE2, ↓r_iZip3, ↓r_Mt, ↓r_Pre, ↓r_CutO, ↓r_setOwn, ↓r_Copy, ↓r_pick0, ↓r_pick1, ↓r_val0, ↓r_val1, ↓g0, ↓g1, ↓g2, ↓g3, ↓g4, ↓g5, ↓g6, ↓g7, ↓g8, ↓g9, ↓g10, ↓g11, ↓g12, ↓g13, ↓g14, ↓g15, ↓g16, ↓g17, ↓g18, ↓g19, ↓u0, ↓u1, ↓u2, ↓u3, ↓u4, ↓u5, ↓u6, ↓u7, ↓u8, ↓u9, ↓u10, ↓u11, ↓u12, ↓u13, ↓u14, ↓u15, ↓u16, ↓u17, ↓u18, ↓u19, v_eqE0, v_neE0, K_nb, K_ni, K_ns, K_nl, K_nt, K_bb, K_bi, K_bs, K_bl, K_bt, K_ib, K_ii, K_is, K_il, K_it, K_sb, K_si, K_ss, K_sl, K_st, K_lb, K_li, K_ls, K_ll, K_lt, K_tb, K_ti, K_ts, K_tl, K_tt, K_db, K_di, K_ds, K_dl, K_dt, t_n, t_d, t_s, r_outO1, r_outO2, r_Ask1, r_Ask2, v_TR, v_add, v_sub, v_neg, v_lt, v_le, v_gt, v_ge, v_eq, v_ne, v_max2, v_min2, v_mod, v_div, v_pow9, v_pow18, v_mulL, v_mulR, v_divmod, v_lenL, v_lenT, v_sum, v_eqL, v_listOf, v_inT2, v_sorted, sortB_f, v_sortL, v_sortT, v_sortDL, v_sortDT, v_sortDP, v_keep, v_tupL, v_tupT, v_sumL, v_sumT, v_app, v_neL, v_pow39, v_pow40, ob_nil, ob_zero, ob_1, ob_2, ob_3, ob_4, ob_5, ob_6, ob_7, ob_8, ll_n, ll_b, ll_i, ll_s, bs_n, bs_v, bs_l, bs_s, llA_ints, List.all_cons, List.all_nil, Bool.and_true, Bool.true_and, Bool.false_and, Bool.and_false, Bool.and_self, v_isN0, v_isNi, v_notN0, v_notNi, v_ixL, v_ixT, v_cutL, v_cutT, k_ii, k_ib, k_bi, k_bb, k_ll, k_lt, k_tl, k_tt, t_i, t_b, t_l, t_t, isR, if_true, true_and, and_true, and_self, if_false, if_pos, Bool.not_true, Bool.not_false, List.length_cons, List.length_nil, List.replicate, List.cons_append, List.nil_append, List.head?_cons, List.tail_cons, List.any_nil, List.any_cons, Bool.false_eq_true, Bool.or_false, Bool.false_or, beq_self_eq_true, Nat.reduceSub, Nat.reduceAdd, Nat.reduceLeDiff, Nat.reduceBEq, Nat.reduceEqDiff, reduceIte, eq_self, reduceCtorEq, kp_p1, kp_p2, kp_p3, kp_p4, kp_p5, kp_p6, kp_h, kp_d, kp_l1, kp_l2, kp_l3, kp_l4, kp_l5, kp_l6, kp_cups, kp_scoops, kp_rows, kp_looks, kp_held, kp_done, kp_choose, kp_nums, kp_stand, Int.reduceToNat, Int.reduceBEq, Nat.zero_add, Nat.reduceLT, lc]
  unfold timesL
  rw [List.map_map]
  rfl
theorem e_wider (a : List (List Int × List Int)) (ha : a.length ≤ 1000) (hs : ∀ s ∈ a, s.1.length ≤ 1000 ∧ s.2.length ≤ 1000) : d__law_wider [.val (.list (a.map stepD))] = .ok (.own (.lst ((widerL a).map stepD)), [.val (.list (a.map stepD))]) := by
  have lc : lcD [1, 2] (bTup 2 (bCons (bName 1) (bCons (bName 2) bNil))) tYesM x__law_wider_1 (a.map stepD) [] [.val (.list (a.map stepD)), .non, .non] = .ok (a.map (fun s => stepD (s.1 ++ [0], s.2 ++ [0])), [.val (.list (a.map stepD)), .non, .non]) :=
    lcD_mapI stepD (fun s => stepD (s.1 ++ [0], s.2 ++ [0])) a (fun s hs' => by
      have q := hs s hs'
      simp (maxSteps := 1000000) (disch := first | omega | exact Or.inl rfl | exact Or.inr rfl | exact f_non | exact f_val _ | exact f_own _ | (simp only [List.length_map, List.length_replicate, List.length_append, List.length_cons, List.length_nil, firstI_length, List.length_range, rowsD_length, List.length_drop, List.length_take, sortB_len, rangeI_len]; omega)) only [↓rb, ↓r_ofO, ↓r_den, ↓r_oX1, ↓r_oX2, ↓r_bX1, ↓r_bX2, ↓r_lX1, ↓r_lX2, ↓r_C, ↓r_Var, ↓r_Val, ↓r_Move, ↓r_fz, ↓r_ofD, ↓r_Op, ↓r_eOp, ↓r_Un, ↓r_CB, ↓r_eCB, ↓r_Mul, ↓r_Nil, ↓r_Cons, ↓r_Lst, ↓r_Tup, ↓r_Bl, ↓r_And, ↓r_Or, ↓r_NotM, ↓r_Yes, ↓r_If, ↓r_Chain, ↓r_Next, ↓r_Seq, ↓r_Bk, ↓r_Ct, ↓r_Never, ↓r_Ret, ↓r_RetN, ↓r_Expr, ↓r_sIf, ↓r_Set, ↓r_Asg, ↓r_Par, ↓r_bName, ↓r_bNil, ↓r_bCons, ↓r_bTup, ↓r_bTupL, ↓r_free, ↓f_non, ↓f_val, ↓f_own, ↓f_pin, ↓r_toSl, ↓r_fzR, ↓r_dAnd, ↓r_dOr, ↓r_dNot, ↓r_ixO, ↓r_Put, ↓r_Mut, ↓r_arNil, ↓r_arV, ↓r_arR, ↓r_Call, ↓r_CallK, ↓r_CallKD, ↓r_CallT, ↓r_For, ↓r_Lc, ↓r_iSeq, ↓r_iRng1, ↓r_iRng2, ↓r_iEnum, ↓r_iEnumA, ↓r_iEnumB, ↓r_TR1, ↓r_LenO, ↓r_NeO, ↓r_iZip, ↓r_iZipB, ↓r_LenSet, ↓r_step, ↓r_LR1, ↓r_LR2, ↓r_oNone, ↓r_oSome, ↓r_Cut, ↓r_Rev, ↓r_RevA, ↓r_keep, ↓r_Raise, ↓r_Try, ↓r_endX, ↓r_Exn, ↓r_Fld, ↓r_FldM, ↓r_FldAdd, ↓r_bFld, ↓r_Meth, ↓r_MethT, ↓r_Make, ↓r_Par3, ↓r_AugN, ↓r_AugPut, ↓f_exn, ↓nx_nil, ↓nx_n, ↓nx_v, ↓nx_o, ↓nx_x, ↓r_Isi, ↓r_IsiT, ↓r_Bor, ↓r_noEx, ↓r_wipe0, ↓r_wipe1, ↓r_outs0, ↓r_outs1, ↓r_out1, ↓r_out2, ↓r_mkA0, ↓r_mkA1, ↓r_mkA2, ↓r_wb0, ↓r_wb1, ↓r_wb2, ↓r_Said, ↓r_hide0, ↓r_hide1, ↓r_hideV, ↓r_hideO, ↓r_hideN, ↓r_IsE, ↓r_IsE2, ↓r_iZip3, ↓r_Mt, ↓r_Pre, ↓r_CutO, ↓r_setOwn, ↓r_Copy, ↓r_pick0, ↓r_pick1, ↓r_val0, ↓r_val1, ↓g0, ↓g1, ↓g2, ↓g3, ↓g4, ↓g5, ↓g6, ↓g7, ↓g8, ↓g9, ↓g10, ↓g11, ↓g12, ↓g13, ↓g14, ↓g15, ↓g16, ↓g17, ↓g18, ↓g19, ↓u0, ↓u1, ↓u2, ↓u3, ↓u4, ↓u5, ↓u6, ↓u7, ↓u8, ↓u9, ↓u10, ↓u11, ↓u12, ↓u13, ↓u14, ↓u15, ↓u16, ↓u17, ↓u18, ↓u19, v_eqE0, v_neE0, K_nb, K_ni, K_ns, K_nl, K_nt, K_bb, K_bi, K_bs, K_bl, K_bt, K_ib, K_ii, K_is, K_il, K_it, K_sb, K_si, K_ss, K_sl, K_st, K_lb, K_li, K_ls, K_ll, K_lt, K_tb, K_ti, K_ts, K_tl, K_tt, K_db, K_di, K_ds, K_dl, K_dt, t_n, t_d, t_s, r_outO1, r_outO2, r_Ask1, r_Ask2, v_TR, v_add, v_sub, v_neg, v_lt, v_le, v_gt, v_ge, v_eq, v_ne, v_max2, v_min2, v_mod, v_div, v_pow9, v_pow18, v_mulL, v_mulR, v_divmod, v_lenL, v_lenT, v_sum, v_eqL, v_listOf, v_inT2, v_sorted, sortB_f, v_sortL, v_sortT, v_sortDL, v_sortDT, v_sortDP, v_keep, v_tupL, v_tupT, v_sumL, v_sumT, v_app, v_neL, v_pow39, v_pow40, ob_nil, ob_zero, ob_1, ob_2, ob_3, ob_4, ob_5, ob_6, ob_7, ob_8, ll_n, ll_b, ll_i, ll_s, bs_n, bs_v, bs_l, bs_s, llA_ints, List.all_cons, List.all_nil, Bool.and_true, Bool.true_and, Bool.false_and, Bool.and_false, Bool.and_self, v_isN0, v_isNi, v_notN0, v_notNi, v_ixL, v_ixT, v_cutL, v_cutT, k_ii, k_ib, k_bi, k_bb, k_ll, k_lt, k_tl, k_tt, t_i, t_b, t_l, t_t, isR, if_true, true_and, and_true, and_self, if_false, if_pos, Bool.not_true, Bool.not_false, List.length_cons, List.length_nil, List.replicate, List.cons_append, List.nil_append, List.head?_cons, List.tail_cons, List.any_nil, List.any_cons, Bool.false_eq_true, Bool.or_false, Bool.false_or, beq_self_eq_true, Nat.reduceSub, Nat.reduceAdd, Nat.reduceLeDiff, Nat.reduceBEq, Nat.reduceEqDiff, reduceIte, eq_self, reduceCtorEq, kp_p1, kp_p2, kp_p3, kp_p4, kp_p5, kp_p6, kp_h, kp_d, kp_l1, kp_l2, kp_l3, kp_l4, kp_l5, kp_l6, kp_cups, kp_scoops, kp_rows, kp_looks, kp_held, kp_done, kp_choose, kp_nums, kp_stand, Int.reduceToNat, Int.reduceBEq, Nat.zero_add, Nat.reduceLT, stepD, u_x__law_wider_1, v_catT, List.length_map, List.map_append, List.map_cons, List.map_nil]) (by omega)
  rw [q__law_wider]
  simp (maxSteps := 1000000) (disch := first | omega | exact Or.inl rfl | exact Or.inr rfl | exact f_non | exact f_val _ | exact f_own _ | (simp only [List.length_map, List.length_replicate, List.length_append, List.length_cons, List.length_nil, firstI_length, List.length_range, rowsD_length, List.length_drop, List.length_take, sortB_len, rangeI_len]; omega)) only [↓rb, ↓r_ofO, ↓r_den, ↓r_oX1, ↓r_oX2, ↓r_bX1, ↓r_bX2, ↓r_lX1, ↓r_lX2, ↓r_C, ↓r_Var, ↓r_Val, ↓r_Move, ↓r_fz, ↓r_ofD, ↓r_Op, ↓r_eOp, ↓r_Un, ↓r_CB, ↓r_eCB, ↓r_Mul, ↓r_Nil, ↓r_Cons, ↓r_Lst, ↓r_Tup, ↓r_Bl, ↓r_And, ↓r_Or, ↓r_NotM, ↓r_Yes, ↓r_If, ↓r_Chain, ↓r_Next, ↓r_Seq, ↓r_Bk, ↓r_Ct, ↓r_Never, ↓r_Ret, ↓r_RetN, ↓r_Expr, ↓r_sIf, ↓r_Set, ↓r_Asg, ↓r_Par, ↓r_bName, ↓r_bNil, ↓r_bCons, ↓r_bTup, ↓r_bTupL, ↓r_free, ↓f_non, ↓f_val, ↓f_own, ↓f_pin, ↓r_toSl, ↓r_fzR, ↓r_dAnd, ↓r_dOr, ↓r_dNot, ↓r_ixO, ↓r_Put, ↓r_Mut, ↓r_arNil, ↓r_arV, ↓r_arR, ↓r_Call, ↓r_CallK, ↓r_CallKD, ↓r_CallT, ↓r_For, ↓r_Lc, ↓r_iSeq, ↓r_iRng1, ↓r_iRng2, ↓r_iEnum, ↓r_iEnumA, ↓r_iEnumB, ↓r_TR1, ↓r_LenO, ↓r_NeO, ↓r_iZip, ↓r_iZipB, ↓r_LenSet, ↓r_step, ↓r_LR1, ↓r_LR2, ↓r_oNone, ↓r_oSome, ↓r_Cut, ↓r_Rev, ↓r_RevA, ↓r_keep, ↓r_Raise, ↓r_Try, ↓r_endX, ↓r_Exn, ↓r_Fld, ↓r_FldM, ↓r_FldAdd, ↓r_bFld, ↓r_Meth, ↓r_MethT, ↓r_Make, ↓r_Par3, ↓r_AugN, ↓r_AugPut, ↓f_exn, ↓nx_nil, ↓nx_n, ↓nx_v, ↓nx_o, ↓nx_x, ↓r_Isi, ↓r_IsiT, ↓r_Bor, ↓r_noEx, ↓r_wipe0, ↓r_wipe1, ↓r_outs0, ↓r_outs1, ↓r_out1, ↓r_out2, ↓r_mkA0, ↓r_mkA1, ↓r_mkA2, ↓r_wb0, ↓r_wb1, ↓r_wb2, ↓r_Said, ↓r_hide0, ↓r_hide1, ↓r_hideV, ↓r_hideO, ↓r_hideN, ↓r_IsE, ↓r_IsE2, ↓r_iZip3, ↓r_Mt, ↓r_Pre, ↓r_CutO, ↓r_setOwn, ↓r_Copy, ↓r_pick0, ↓r_pick1, ↓r_val0, ↓r_val1, ↓g0, ↓g1, ↓g2, ↓g3, ↓g4, ↓g5, ↓g6, ↓g7, ↓g8, ↓g9, ↓g10, ↓g11, ↓g12, ↓g13, ↓g14, ↓g15, ↓g16, ↓g17, ↓g18, ↓g19, ↓u0, ↓u1, ↓u2, ↓u3, ↓u4, ↓u5, ↓u6, ↓u7, ↓u8, ↓u9, ↓u10, ↓u11, ↓u12, ↓u13, ↓u14, ↓u15, ↓u16, ↓u17, ↓u18, ↓u19, v_eqE0, v_neE0, K_nb, K_ni, K_ns, K_nl, K_nt, K_bb, K_bi, K_bs, K_bl, K_bt, K_ib, K_ii, K_is, K_il, K_it, K_sb, K_si, K_ss, K_sl, K_st, K_lb, K_li, K_ls, K_ll, K_lt, K_tb, K_ti, K_ts, K_tl, K_tt, K_db, K_di, K_ds, K_dl, K_dt, t_n, t_d, t_s, r_outO1, r_outO2, r_Ask1, r_Ask2, v_TR, v_add, v_sub, v_neg, v_lt, v_le, v_gt, v_ge, v_eq, v_ne, v_max2, v_min2, v_mod, v_div, v_pow9, v_pow18, v_mulL, v_mulR, v_divmod, v_lenL, v_lenT, v_sum, v_eqL, v_listOf, v_inT2, v_sorted, sortB_f, v_sortL, v_sortT, v_sortDL, v_sortDT, v_sortDP, v_keep, v_tupL, v_tupT, v_sumL, v_sumT, v_app, v_neL, v_pow39, v_pow40, ob_nil, ob_zero, ob_1, ob_2, ob_3, ob_4, ob_5, ob_6, ob_7, ob_8, ll_n, ll_b, ll_i, ll_s, bs_n, bs_v, bs_l, bs_s, llA_ints, List.all_cons, List.all_nil, Bool.and_true, Bool.true_and, Bool.false_and, Bool.and_false, Bool.and_self, v_isN0, v_isNi, v_notN0, v_notNi, v_ixL, v_ixT, v_cutL, v_cutT, k_ii, k_ib, k_bi, k_bb, k_ll, k_lt, k_tl, k_tt, t_i, t_b, t_l, t_t, isR, if_true, true_and, and_true, and_self, if_false, if_pos, Bool.not_true, Bool.not_false, List.length_cons, List.length_nil, List.replicate, List.cons_append, List.nil_append, List.head?_cons, List.tail_cons, List.any_nil, List.any_cons, Bool.false_eq_true, Bool.or_false, Bool.false_or, beq_self_eq_true, Nat.reduceSub, Nat.reduceAdd, Nat.reduceLeDiff, Nat.reduceBEq, Nat.reduceEqDiff, reduceIte, eq_self, reduceCtorEq, kp_p1, kp_p2, kp_p3, kp_p4, kp_p5, kp_p6, kp_h, kp_d, kp_l1, kp_l2, kp_l3, kp_l4, kp_l5, kp_l6, kp_cups, kp_scoops, kp_rows, kp_looks, kp_held, kp_done, kp_choose, kp_nums, kp_stand, Int.reduceToNat, Int.reduceBEq, Nat.zero_add, Nat.reduceLT, lc]
  unfold widerL
  rw [List.map_map]
  rfl
theorem v_pow6 : pPow (.int 10) (.int 6) = some (.int 1000000) := (v_pow 10 6 (by decide) (by decide) (by decide)).trans (congrArg (fun z => some (PyData.int z)) (by decide : (10 : Int) ^ (6 : Int).toNat = 1000000))
theorem cat_steps (a b : List (List Int × List Int)) (h : a.length + b.length ≤ 1000) : pAdd (.list (a.map stepD)) (.list (b.map stepD)) = some (.own (.lst ((a ++ b).map stepD))) := by
  rw [v_catL _ _ (by rw [List.length_map, List.length_map]; omega), List.map_append]
theorem steps_len (n g p j : Int) (T : Nat) : (stepsLad n g p j T).length = T := by unfold stepsLad; rw [List.length_map, List.length_range]
theorem lad_steps {n g p : Int} : ∀ {a : List (List Int × List Int)} {c e : List Int}, Lad n g p c a e → ∀ s ∈ a, (s.1.length : Int) = n ∧ (s.2.length : Int) = n
  | [], _, _, _, _, h => by cases h
  | s :: a, _, _, ⟨O, h⟩, t, ht => by
    rcases List.mem_cons.mp ht with rfl | ht
    · exact ⟨O.l1, O.l2⟩
    · exact lad_steps h t ht
theorem stays_len2 {n : Int} {l : List Int} (h : (l.length : Int) = n) (i : Nat) (hl : ∀ z ∈ l, 0 ≤ z) : (zeroI n).getD i 0 ≤ l.getD i 0 := by rw [zeroI_get]; exact getD_nn hl i
theorem lad_nn {n g p : Int} : ∀ {a : List (List Int × List Int)} {c e : List Int}, Lad n g p c a e → (∀ z ∈ c, 0 ≤ z) → ∀ z ∈ e, 0 ≤ z
  | [], _, _, h, hc => by cases h; exact hc
  | s :: a, _, _, ⟨O, h⟩, _ => lad_nn h (staysI_nn (addI_nn O.n1 O.n2))
theorem zero_nn (n : Int) : ∀ z ∈ zeroI n, 0 ≤ z := fun z hz => by unfold zeroI at hz; rw [List.eq_of_mem_replicate hz]; exact Int.le_refl _
/-- one ladder behind another, both from empty cups -/
theorem lad_then {n g p : Int} (h1 : 2 ≤ n) (h4 : 1 ≤ p) (h5 : p ≤ n - 1) {a b : List (List Int × List Int)} {d e : List Int} (ha : Lad n g p (zeroI n) a d) (hb : Lad n g p (zeroI n) b e) (k : Nat) : ∃ e', Lad n g p (zeroI n) (a ++ b) e' ∧ (e.take k).sum ≤ (e'.take k).sum := by
  have hz : ((zeroI n).length : Int) = n := by unfold zeroI; rw [List.length_replicate]; omega
  have dl := lad_len h4 h5 ha hz
  obtain ⟨e', q1, q2, _, _⟩ := Lad.from hb (d := d) fun i => stays_len2 dl i (lad_nn ha (zero_nn n))
  exact ⟨e', ha.app q1, take_sum_le k (by have := lad_len h4 h5 hb hz; have := lad_len h4 h5 q1 dl; omega) q2⟩
theorem e_right (s : Src) (n g p j : Int) (T1 T2 : Nat) (h1 : 2 ≤ n) (h2 : n ≤ 20) (h3 : 0 ≤ g) (h3' : g ≤ 200000000000000000) (h4 : 1 ≤ p) (h5 : p ≤ n - 1) (h6 : 1 ≤ j) (h7 : j ≤ n) (h8 : T1 ≤ 12) (h9 : T2 ≤ 12) :
    ∃ s', d__law_right [.own true (srcO s), .val (.tuple [.int n, .int g, .int p]), .val (.int j), .val (.int (T1 : Nat)), .val (.int (T2 : Nat))] = .ok (.val (.bool true), [.own true (srcO s'), .val (.tuple [.int n, .int g, .int p]), .val (.int j), .val (.int (T1 : Nat)), .val (.int (T2 : Nat))]) := by
  have hz : ((zeroI n).length : Int) = n := by unfold zeroI; rw [List.length_replicate]; omega
  have lc1 : lcD [16] (bName 16) tYesM x__law_right_1 [.int (T1 : Nat), .int (T2 : Nat)] [] [.own true (srcO s), .val (.tuple [.int n, .int g, .int p]), .val (.int j), .val (.int (T1 : Nat)), .val (.int (T2 : Nat)), .val (.int n), .val (.int g), .val (.int p), .non, .non, .non, .non, .non, .non, .non, .non, .non, .non]
      = .ok ([.list ((stepsLad n g p j T1).map stepD), .list ((stepsLad n g p j T2).map stepD)], [.own true (srcO s), .val (.tuple [.int n, .int g, .int p]), .val (.int j), .val (.int (T1 : Nat)), .val (.int (T2 : Nat)), .val (.int n), .val (.int g), .val (.int p), .non, .non, .non, .non, .non, .non, .non, .non, .non, .non]) :=
    lcD_mapI (fun t : Nat => PyData.int (t : Int)) (fun t : Nat => PyData.list ((stepsLad n g p j t).map stepD)) [T1, T2] (fun t ht => by
      have hT : t ≤ 12 := by
        simp only [List.mem_cons, List.not_mem_nil, or_false] at ht
        omega
      have e := e_ladder n g p j t h1 (by omega) h3 h4 h5 h6 h7 (by omega)
      simp (maxSteps := 1000000) (disch := first | omega | exact Or.inl rfl | exact Or.inr rfl | exact f_non | exact f_val _ | exact f_own _ | (simp only [List.length_map, List.length_replicate, List.length_append, List.length_cons, List.length_nil, firstI_length, List.length_range, rowsD_length, List.length_drop, List.length_take, sortB_len, rangeI_len]; omega)) only [↓rb, ↓r_ofO, ↓r_den, ↓r_oX1, ↓r_oX2, ↓r_bX1, ↓r_bX2, ↓r_lX1, ↓r_lX2, ↓r_C, ↓r_Var, ↓r_Val, ↓r_Move, ↓r_fz, ↓r_ofD, ↓r_Op, ↓r_eOp, ↓r_Un, ↓r_CB, ↓r_eCB, ↓r_Mul, ↓r_Nil, ↓r_Cons, ↓r_Lst, ↓r_Tup, ↓r_Bl, ↓r_And, ↓r_Or, ↓r_NotM, ↓r_Yes, ↓r_If, ↓r_Chain, ↓r_Next, ↓r_Seq, ↓r_Bk, ↓r_Ct, ↓r_Never, ↓r_Ret, ↓r_RetN, ↓r_Expr, ↓r_sIf, ↓r_Set, ↓r_Asg, ↓r_Par, ↓r_bName, ↓r_bNil, ↓r_bCons, ↓r_bTup, ↓r_bTupL, ↓r_free, ↓f_non, ↓f_val, ↓f_own, ↓f_pin, ↓r_toSl, ↓r_fzR, ↓r_dAnd, ↓r_dOr, ↓r_dNot, ↓r_ixO, ↓r_Put, ↓r_Mut, ↓r_arNil, ↓r_arV, ↓r_arR, ↓r_Call, ↓r_CallK, ↓r_CallKD, ↓r_CallT, ↓r_For, ↓r_Lc, ↓r_iSeq, ↓r_iRng1, ↓r_iRng2, ↓r_iEnum, ↓r_iEnumA, ↓r_iEnumB, ↓r_TR1, ↓r_LenO, ↓r_NeO, ↓r_iZip, ↓r_iZipB, ↓r_LenSet, ↓r_step, ↓r_LR1, ↓r_LR2, ↓r_oNone, ↓r_oSome, ↓r_Cut, ↓r_Rev, ↓r_RevA, ↓r_keep, ↓r_Raise, ↓r_Try, ↓r_endX, ↓r_Exn, ↓r_Fld, ↓r_FldM, ↓r_FldAdd, ↓r_bFld, ↓r_Meth, ↓r_MethT, ↓r_Make, ↓r_Par3, ↓r_AugN, ↓r_AugPut, ↓f_exn, ↓nx_nil, ↓nx_n, ↓nx_v, ↓nx_o, ↓nx_x, ↓r_Isi, ↓r_IsiT, ↓r_Bor, ↓r_noEx, ↓r_wipe0, ↓r_wipe1, ↓r_outs0, ↓r_outs1, ↓r_out1, ↓r_out2, ↓r_mkA0, ↓r_mkA1, ↓r_mkA2, ↓r_wb0, ↓r_wb1, ↓r_wb2, ↓r_Said, ↓r_hide0, ↓r_hide1, ↓r_hideV, ↓r_hideO, ↓r_hideN, ↓r_IsE, ↓r_IsE2, ↓r_iZip3, ↓r_Mt, ↓r_Pre, ↓r_CutO, ↓r_setOwn, ↓r_Copy, ↓r_pick0, ↓r_pick1, ↓r_val0, ↓r_val1, ↓g0, ↓g1, ↓g2, ↓g3, ↓g4, ↓g5, ↓g6, ↓g7, ↓g8, ↓g9, ↓g10, ↓g11, ↓g12, ↓g13, ↓g14, ↓g15, ↓g16, ↓g17, ↓g18, ↓g19, ↓u0, ↓u1, ↓u2, ↓u3, ↓u4, ↓u5, ↓u6, ↓u7, ↓u8, ↓u9, ↓u10, ↓u11, ↓u12, ↓u13, ↓u14, ↓u15, ↓u16, ↓u17, ↓u18, ↓u19, v_eqE0, v_neE0, K_nb, K_ni, K_ns, K_nl, K_nt, K_bb, K_bi, K_bs, K_bl, K_bt, K_ib, K_ii, K_is, K_il, K_it, K_sb, K_si, K_ss, K_sl, K_st, K_lb, K_li, K_ls, K_ll, K_lt, K_tb, K_ti, K_ts, K_tl, K_tt, K_db, K_di, K_ds, K_dl, K_dt, t_n, t_d, t_s, r_outO1, r_outO2, r_Ask1, r_Ask2, v_TR, v_add, v_sub, v_neg, v_lt, v_le, v_gt, v_ge, v_eq, v_ne, v_max2, v_min2, v_mod, v_div, v_pow9, v_pow18, v_mulL, v_mulR, v_divmod, v_lenL, v_lenT, v_sum, v_eqL, v_listOf, v_inT2, v_sorted, sortB_f, v_sortL, v_sortT, v_sortDL, v_sortDT, v_sortDP, v_keep, v_tupL, v_tupT, v_sumL, v_sumT, v_app, v_neL, v_pow39, v_pow40, ob_nil, ob_zero, ob_1, ob_2, ob_3, ob_4, ob_5, ob_6, ob_7, ob_8, ll_n, ll_b, ll_i, ll_s, bs_n, bs_v, bs_l, bs_s, llA_ints, List.all_cons, List.all_nil, Bool.and_true, Bool.true_and, Bool.false_and, Bool.and_false, Bool.and_self, v_isN0, v_isNi, v_notN0, v_notNi, v_ixL, v_ixT, v_cutL, v_cutT, k_ii, k_ib, k_bi, k_bb, k_ll, k_lt, k_tl, k_tt, t_i, t_b, t_l, t_t, isR, if_true, true_and, and_true, and_self, if_false, if_pos, Bool.not_true, Bool.not_false, List.length_cons, List.length_nil, List.replicate, List.cons_append, List.nil_append, List.head?_cons, List.tail_cons, List.any_nil, List.any_cons, Bool.false_eq_true, Bool.or_false, Bool.false_or, beq_self_eq_true, Nat.reduceSub, Nat.reduceAdd, Nat.reduceLeDiff, Nat.reduceBEq, Nat.reduceEqDiff, reduceIte, eq_self, reduceCtorEq, kp_p1, kp_p2, kp_p3, kp_p4, kp_p5, kp_p6, kp_h, kp_d, kp_l1, kp_l2, kp_l3, kp_l4, kp_l5, kp_l6, kp_cups, kp_scoops, kp_rows, kp_looks, kp_held, kp_done, kp_choose, kp_nums, kp_stand, Int.reduceToNat, Int.reduceBEq, Nat.zero_add, Nat.reduceLT, u_x__law_right_1, e]) (by simp)
  generalize hA : stepsLad n g p j T1 = A at *
  generalize hB : stepsLad n g p j T2 = B at *
  have L1 : Lad n g p (zeroI n) A (stLad n g p j T1 T1) := by rw [← hA]; exact lad_all h1 h3 h4 h5 h6
  have L2 : Lad n g p (zeroI n) B (stLad n g p j T2 T2) := by rw [← hB]; exact lad_all h1 h3 h4 h5 h6
  have lA : A.length ≤ 12 := by rw [← hA, steps_len]; exact h8
  have lB : B.length ≤ 12 := by rw [← hB, steps_len]; exact h9
  have E1 := stLad_end (T := T1) h1 h3 h4 h5 h6 h7
  have E2 := stLad_end (T := T2) h1 h3 h4 h5 h6 h7
  generalize stLad n g p j T1 T1 = d1 at *
  generalize stLad n g p j T2 T2 = d2 at *
  have lc2 : lcD [16] (bName 16) tYesM x__law_right_2 [.int (T1 : Nat), .int (T2 : Nat)] [] [.own true (srcO s), .val (.tuple [.int n, .int g, .int p]), .val (.int j), .val (.int (T1 : Nat)), .val (.int (T2 : Nat)), .val (.int n), .val (.int g), .val (.int p), .val (.list (A.map stepD)), .val (.list (B.map stepD)), .non, .non, .non, .non, .non, .non, .non, .non]
      = .ok ([.int ((rowI n g p T1).getD (j - 1).toNat 0), .int ((rowI n g p T2).getD (j - 1).toNat 0)], [.own true (srcO s), .val (.tuple [.int n, .int g, .int p]), .val (.int j), .val (.int (T1 : Nat)), .val (.int (T2 : Nat)), .val (.int n), .val (.int g), .val (.int p), .val (.list (A.map stepD)), .val (.list (B.map stepD)), .non, .non, .non, .non, .non, .non, .non, .non]) :=
    lcD_mapI (fun t : Nat => PyData.int (t : Int)) (fun t : Nat => PyData.int ((rowI n g p t).getD (j - 1).toNat 0)) [T1, T2] (fun t ht => by
      have e := e_most n g p j (t : Nat) h1 (by omega) h3 h4 h5 h6 h7 (by omega)
      rw [Int.toNat_natCast] at e
      simp (maxSteps := 1000000) (disch := first | omega | exact Or.inl rfl | exact Or.inr rfl | exact f_non | exact f_val _ | exact f_own _ | (simp only [List.length_map, List.length_replicate, List.length_append, List.length_cons, List.length_nil, firstI_length, List.length_range, rowsD_length, List.length_drop, List.length_take, sortB_len, rangeI_len]; omega)) only [↓rb, ↓r_ofO, ↓r_den, ↓r_oX1, ↓r_oX2, ↓r_bX1, ↓r_bX2, ↓r_lX1, ↓r_lX2, ↓r_C, ↓r_Var, ↓r_Val, ↓r_Move, ↓r_fz, ↓r_ofD, ↓r_Op, ↓r_eOp, ↓r_Un, ↓r_CB, ↓r_eCB, ↓r_Mul, ↓r_Nil, ↓r_Cons, ↓r_Lst, ↓r_Tup, ↓r_Bl, ↓r_And, ↓r_Or, ↓r_NotM, ↓r_Yes, ↓r_If, ↓r_Chain, ↓r_Next, ↓r_Seq, ↓r_Bk, ↓r_Ct, ↓r_Never, ↓r_Ret, ↓r_RetN, ↓r_Expr, ↓r_sIf, ↓r_Set, ↓r_Asg, ↓r_Par, ↓r_bName, ↓r_bNil, ↓r_bCons, ↓r_bTup, ↓r_bTupL, ↓r_free, ↓f_non, ↓f_val, ↓f_own, ↓f_pin, ↓r_toSl, ↓r_fzR, ↓r_dAnd, ↓r_dOr, ↓r_dNot, ↓r_ixO, ↓r_Put, ↓r_Mut, ↓r_arNil, ↓r_arV, ↓r_arR, ↓r_Call, ↓r_CallK, ↓r_CallKD, ↓r_CallT, ↓r_For, ↓r_Lc, ↓r_iSeq, ↓r_iRng1, ↓r_iRng2, ↓r_iEnum, ↓r_iEnumA, ↓r_iEnumB, ↓r_TR1, ↓r_LenO, ↓r_NeO, ↓r_iZip, ↓r_iZipB, ↓r_LenSet, ↓r_step, ↓r_LR1, ↓r_LR2, ↓r_oNone, ↓r_oSome, ↓r_Cut, ↓r_Rev, ↓r_RevA, ↓r_keep, ↓r_Raise, ↓r_Try, ↓r_endX, ↓r_Exn, ↓r_Fld, ↓r_FldM, ↓r_FldAdd, ↓r_bFld, ↓r_Meth, ↓r_MethT, ↓r_Make, ↓r_Par3, ↓r_AugN, ↓r_AugPut, ↓f_exn, ↓nx_nil, ↓nx_n, ↓nx_v, ↓nx_o, ↓nx_x, ↓r_Isi, ↓r_IsiT, ↓r_Bor, ↓r_noEx, ↓r_wipe0, ↓r_wipe1, ↓r_outs0, ↓r_outs1, ↓r_out1, ↓r_out2, ↓r_mkA0, ↓r_mkA1, ↓r_mkA2, ↓r_wb0, ↓r_wb1, ↓r_wb2, ↓r_Said, ↓r_hide0, ↓r_hide1, ↓r_hideV, ↓r_hideO, ↓r_hideN, ↓r_IsE, ↓r_IsE2, ↓r_iZip3, ↓r_Mt, ↓r_Pre, ↓r_CutO, ↓r_setOwn, ↓r_Copy, ↓r_pick0, ↓r_pick1, ↓r_val0, ↓r_val1, ↓g0, ↓g1, ↓g2, ↓g3, ↓g4, ↓g5, ↓g6, ↓g7, ↓g8, ↓g9, ↓g10, ↓g11, ↓g12, ↓g13, ↓g14, ↓g15, ↓g16, ↓g17, ↓g18, ↓g19, ↓u0, ↓u1, ↓u2, ↓u3, ↓u4, ↓u5, ↓u6, ↓u7, ↓u8, ↓u9, ↓u10, ↓u11, ↓u12, ↓u13, ↓u14, ↓u15, ↓u16, ↓u17, ↓u18, ↓u19, v_eqE0, v_neE0, K_nb, K_ni, K_ns, K_nl, K_nt, K_bb, K_bi, K_bs, K_bl, K_bt, K_ib, K_ii, K_is, K_il, K_it, K_sb, K_si, K_ss, K_sl, K_st, K_lb, K_li, K_ls, K_ll, K_lt, K_tb, K_ti, K_ts, K_tl, K_tt, K_db, K_di, K_ds, K_dl, K_dt, t_n, t_d, t_s, r_outO1, r_outO2, r_Ask1, r_Ask2, v_TR, v_add, v_sub, v_neg, v_lt, v_le, v_gt, v_ge, v_eq, v_ne, v_max2, v_min2, v_mod, v_div, v_pow9, v_pow18, v_mulL, v_mulR, v_divmod, v_lenL, v_lenT, v_sum, v_eqL, v_listOf, v_inT2, v_sorted, sortB_f, v_sortL, v_sortT, v_sortDL, v_sortDT, v_sortDP, v_keep, v_tupL, v_tupT, v_sumL, v_sumT, v_app, v_neL, v_pow39, v_pow40, ob_nil, ob_zero, ob_1, ob_2, ob_3, ob_4, ob_5, ob_6, ob_7, ob_8, ll_n, ll_b, ll_i, ll_s, bs_n, bs_v, bs_l, bs_s, llA_ints, List.all_cons, List.all_nil, Bool.and_true, Bool.true_and, Bool.false_and, Bool.and_false, Bool.and_self, v_isN0, v_isNi, v_notN0, v_notNi, v_ixL, v_ixT, v_cutL, v_cutT, k_ii, k_ib, k_bi, k_bb, k_ll, k_lt, k_tl, k_tt, t_i, t_b, t_l, t_t, isR, if_true, true_and, and_true, and_self, if_false, if_pos, Bool.not_true, Bool.not_false, List.length_cons, List.length_nil, List.replicate, List.cons_append, List.nil_append, List.head?_cons, List.tail_cons, List.any_nil, List.any_cons, Bool.false_eq_true, Bool.or_false, Bool.false_or, beq_self_eq_true, Nat.reduceSub, Nat.reduceAdd, Nat.reduceLeDiff, Nat.reduceBEq, Nat.reduceEqDiff, reduceIte, eq_self, reduceCtorEq, kp_p1, kp_p2, kp_p3, kp_p4, kp_p5, kp_p6, kp_h, kp_d, kp_l1, kp_l2, kp_l3, kp_l4, kp_l5, kp_l6, kp_cups, kp_scoops, kp_rows, kp_looks, kp_held, kp_done, kp_choose, kp_nums, kp_stand, Int.reduceToNat, Int.reduceBEq, Nat.zero_add, Nat.reduceLT, u_x__law_right_2, e]) (by simp)
  have U1 := getD_nn (row_ok h1 h3 h4 h5 T1).nn (j - 1).toNat
  have U2 := getD_nn (row_ok h1 h3 h4 h5 T2).nn (j - 1).toNat
  -- how many times
  have a1 := tkV_nn s (m := 4) (by omega)
  have a2 := tkV_lt s (m := 4) (by omega)
  have e1 := e_take s 4 (by omega) (by omega)
  generalize tkV s 4 = a at *
  generalize tkS s 4 = s1 at *
  obtain ⟨m, hm, m1, m2⟩ := pickI (fun m => 2 ≤ m ∧ m ≤ 1000000) [2, 3, 7, 1000000] a a1 (by simpa using a2) (by
    intro x hx
    simp only [List.mem_cons, List.not_mem_nil, or_false] at hx
    omega)
  simp only [List.map_cons, List.map_nil] at hm
  have et := e_times A m (by omega) m2 (by omega) fun s hs => by
    have := lad_steps L1 s hs
    omega
  have hgm : 0 ≤ g * m := Int.mul_nonneg h3 (by omega)
  have q1 := e_is_let n (g * m) p j ((rowI n g p T1).getD (j - 1).toNat 0 * m) (timesL m A) (d1.map (· * m)) h1 (by omega) hgm h4 h5 h6 h7 (Int.mul_nonneg U1 (by omega)) (by have := lad_times (m := m) (by omega) L1; rwa [zero_times] at this) (by rw [← List.map_take, sum_timesR, E1]; exact Int.le_refl _)
  have q2 := e_most n (g * m) p j (T1 : Nat) h1 (by omega) hgm h4 h5 h6 h7 (by omega)
  rw [Int.toNat_natCast] at q2
  have q2' : decide ((rowI n (g * m) p T1).getD (j - 1).toNat 0 < (rowI n g p T1).getD (j - 1).toNat 0 * m) = false := by
    have := row_often (m := m) h1 h3 h4 h5 (by omega) T1 (j - 1).toNat (by omega)
    rw [Int.mul_comm m g, Int.mul_comm m] at this
    simpa using this
  -- a cup more
  have ew := e_wider A (by omega) fun s hs => by
    have := lad_steps L1 s hs
    omega
  have q3 := e_is_let (n + 1) g p j ((rowI n g p T1).getD (j - 1).toNat 0) (widerL A) (d1 ++ [0]) (by omega) (by omega) h3 h4 (by omega) h6 (by omega) U1 (by have := lad_wider h4 h5 L1; rwa [zero_wider n (by omega)] at this) (by
    have := lad_len h4 h5 L1 hz
    rw [List.take_append_of_le_length (by omega), E1]; exact Int.le_refl _)
  have q4 := e_most (n + 1) g p j (T1 : Nat) (by omega) (by omega) h3 h4 (by omega) h6 (by omega) (by omega)
  rw [Int.toNat_natCast] at q4
  have q4' : decide ((rowI (n + 1) g p T1).getD (j - 1).toNat 0 < (rowI n g p T1).getD (j - 1).toNat 0) = false := by
    have := row_cup h1 h3 h4 h5 T1 (j - 1).toNat (by omega)
    simpa using this
  -- one behind the other
  obtain ⟨e12, L12, S12⟩ := lad_then h1 h4 h5 L1 L2 j.toNat
  obtain ⟨e21, L21, S21⟩ := lad_then h1 h4 h5 L2 L1 j.toNat
  have q7 := e_is_let n g p j ((rowI n g p T2).getD (j - 1).toNat 0) (A ++ B) e12 h1 (by omega) h3 h4 h5 h6 h7 U2 L12 (by rw [← E2]; exact S12)
  have q8 := e_is_let n g p j ((rowI n g p T1).getD (j - 1).toNat 0) (B ++ A) e21 h1 (by omega) h3 h4 h5 h6 h7 U1 L21 (by rw [← E1]; exact S21)
  have c1 := cat_steps A B (by omega)
  have c2 := cat_steps B A (by omega)
  -- from a start
  have b1 := tkV_nn s1 (m := 3) (by omega)
  have b2 := tkV_lt s1 (m := 3) (by omega)
  have e2 := e_take s1 3 (by omega) (by omega)
  generalize tkV s1 3 = b at *
  generalize tkS s1 3 = s2 at *
  obtain ⟨f, hf, f1, f2⟩ := pickI (fun f => 1 ≤ f ∧ f ≤ 100000000000000000) [1, 9, 100000000000000000] b b1 (by simpa using b2) (by
    intro x hx
    simp only [List.mem_cons, List.not_mem_nil, or_false] at hx
    omega)
  simp only [List.map_cons, List.map_nil] at hf
  obtain ⟨s3, be, lc3, l3, n3⟩ := draws x__law_right_3 n (by omega) (by omega) (fun z => 0 ≤ z) (fun s => [.own true (srcO s), .val (.tuple [.int n, .int g, .int p]), .val (.int j), .val (.int (T1 : Nat)), .val (.int (T2 : Nat)), .val (.int n), .val (.int g), .val (.int p), .val (.list (A.map stepD)), .val (.list (B.map stepD)), .val (.int ((rowI n g p T1).getD (j - 1).toNat 0)), .val (.int ((rowI n g p T2).getD (j - 1).toNat 0)), .val (.int m), .val (.tuple [.int n, .int (g * m), .int p]), .val (.int f), .non, .non, .non]) (bName 17) [17] (fun s k => ⟨tkS s f, tkV s f, by simp (maxSteps := 1000000) (disch := first | omega | exact Or.inl rfl | exact Or.inr rfl | exact f_non | exact f_val _ | exact f_own _ | (simp only [List.length_map, List.length_replicate, List.length_append, List.length_cons, List.length_nil, firstI_length, List.length_range, rowsD_length, List.length_drop, List.length_take, sortB_len, rangeI_len]; omega)) only [↓rb, ↓r_ofO, ↓r_den, ↓r_oX1, ↓r_oX2, ↓r_bX1, ↓r_bX2, ↓r_lX1, ↓r_lX2, ↓r_C, ↓r_Var, ↓r_Val, ↓r_Move, ↓r_fz, ↓r_ofD, ↓r_Op, ↓r_eOp, ↓r_Un, ↓r_CB, ↓r_eCB, ↓r_Mul, ↓r_Nil, ↓r_Cons, ↓r_Lst, ↓r_Tup, ↓r_Bl, ↓r_And, ↓r_Or, ↓r_NotM, ↓r_Yes, ↓r_If, ↓r_Chain, ↓r_Next, ↓r_Seq, ↓r_Bk, ↓r_Ct, ↓r_Never, ↓r_Ret, ↓r_RetN, ↓r_Expr, ↓r_sIf, ↓r_Set, ↓r_Asg, ↓r_Par, ↓r_bName, ↓r_bNil, ↓r_bCons, ↓r_bTup, ↓r_bTupL, ↓r_free, ↓f_non, ↓f_val, ↓f_own, ↓f_pin, ↓r_toSl, ↓r_fzR, ↓r_dAnd, ↓r_dOr, ↓r_dNot, ↓r_ixO, ↓r_Put, ↓r_Mut, ↓r_arNil, ↓r_arV, ↓r_arR, ↓r_Call, ↓r_CallK, ↓r_CallKD, ↓r_CallT, ↓r_For, ↓r_Lc, ↓r_iSeq, ↓r_iRng1, ↓r_iRng2, ↓r_iEnum, ↓r_iEnumA, ↓r_iEnumB, ↓r_TR1, ↓r_LenO, ↓r_NeO, ↓r_iZip, ↓r_iZipB, ↓r_LenSet, ↓r_step, ↓r_LR1, ↓r_LR2, ↓r_oNone, ↓r_oSome, ↓r_Cut, ↓r_Rev, ↓r_RevA, ↓r_keep, ↓r_Raise, ↓r_Try, ↓r_endX, ↓r_Exn, ↓r_Fld, ↓r_FldM, ↓r_FldAdd, ↓r_bFld, ↓r_Meth, ↓r_MethT, ↓r_Make, ↓r_Par3, ↓r_AugN, ↓r_AugPut, ↓f_exn, ↓nx_nil, ↓nx_n, ↓nx_v, ↓nx_o, ↓nx_x, ↓r_Isi, ↓r_IsiT, ↓r_Bor, ↓r_noEx, ↓r_wipe0, ↓r_wipe1, ↓r_outs0, ↓r_outs1, ↓r_out1, ↓r_out2, ↓r_mkA0, ↓r_mkA1, ↓r_mkA2, ↓r_wb0, ↓r_wb1, ↓r_wb2, ↓r_Said, ↓r_hide0, ↓r_hide1, ↓r_hideV, ↓r_hideO, ↓r_hideN, ↓r_IsE, ↓r_IsE2, ↓r_iZip3, ↓r_Mt, ↓r_Pre, ↓r_CutO, ↓r_setOwn, ↓r_Copy, ↓r_pick0, ↓r_pick1, ↓r_val0, ↓r_val1, ↓g0, ↓g1, ↓g2, ↓g3, ↓g4, ↓g5, ↓g6, ↓g7, ↓g8, ↓g9, ↓g10, ↓g11, ↓g12, ↓g13, ↓g14, ↓g15, ↓g16, ↓g17, ↓g18, ↓g19, ↓u0, ↓u1, ↓u2, ↓u3, ↓u4, ↓u5, ↓u6, ↓u7, ↓u8, ↓u9, ↓u10, ↓u11, ↓u12, ↓u13, ↓u14, ↓u15, ↓u16, ↓u17, ↓u18, ↓u19, v_eqE0, v_neE0, K_nb, K_ni, K_ns, K_nl, K_nt, K_bb, K_bi, K_bs, K_bl, K_bt, K_ib, K_ii, K_is, K_il, K_it, K_sb, K_si, K_ss, K_sl, K_st, K_lb, K_li, K_ls, K_ll, K_lt, K_tb, K_ti, K_ts, K_tl, K_tt, K_db, K_di, K_ds, K_dl, K_dt, t_n, t_d, t_s, r_outO1, r_outO2, r_Ask1, r_Ask2, v_TR, v_add, v_sub, v_neg, v_lt, v_le, v_gt, v_ge, v_eq, v_ne, v_max2, v_min2, v_mod, v_div, v_pow9, v_pow18, v_mulL, v_mulR, v_divmod, v_lenL, v_lenT, v_sum, v_eqL, v_listOf, v_inT2, v_sorted, sortB_f, v_sortL, v_sortT, v_sortDL, v_sortDT, v_sortDP, v_keep, v_tupL, v_tupT, v_sumL, v_sumT, v_app, v_neL, v_pow39, v_pow40, ob_nil, ob_zero, ob_1, ob_2, ob_3, ob_4, ob_5, ob_6, ob_7, ob_8, ll_n, ll_b, ll_i, ll_s, bs_n, bs_v, bs_l, bs_s, llA_ints, List.all_cons, List.all_nil, Bool.and_true, Bool.true_and, Bool.false_and, Bool.and_false, Bool.and_self, v_isN0, v_isNi, v_notN0, v_notNi, v_ixL, v_ixT, v_cutL, v_cutT, k_ii, k_ib, k_bi, k_bb, k_ll, k_lt, k_tl, k_tt, t_i, t_b, t_l, t_t, isR, if_true, true_and, and_true, and_self, if_false, if_pos, Bool.not_true, Bool.not_false, List.length_cons, List.length_nil, List.replicate, List.cons_append, List.nil_append, List.head?_cons, List.tail_cons, List.any_nil, List.any_cons, Bool.false_eq_true, Bool.or_false, Bool.false_or, beq_self_eq_true, Nat.reduceSub, Nat.reduceAdd, Nat.reduceLeDiff, Nat.reduceBEq, Nat.reduceEqDiff, reduceIte, eq_self, reduceCtorEq, kp_p1, kp_p2, kp_p3, kp_p4, kp_p5, kp_p6, kp_h, kp_d, kp_l1, kp_l2, kp_l3, kp_l4, kp_l5, kp_l6, kp_cups, kp_scoops, kp_rows, kp_looks, kp_held, kp_done, kp_choose, kp_nums, kp_stand, Int.reduceToNat, Int.reduceBEq, Nat.zero_add, Nat.reduceLT, u_x__law_right_3, e_take], tkV_nn s (by omega)⟩) s2
  have lsb : ((sortB true be).length : Int) = n := by rw [sortB_len]; exact l3
  obtain ⟨e9, L9, S9, _, _⟩ := Lad.from L1 (d := sortB true be) fun i => stays_len2 lsb i (sortB_nn n3)
  have q9 := e_check_ladder n g p j ((rowI n g p T1).getD (j - 1).toNat 0) A (some be) e9 h1 (by omega) h3 h4 h5 h6 h7 U1 (fun l z => by cases z; exact ⟨n3, l3⟩) L9 (by
    rw [← E1]
    exact take_sum_le _ (by have := lad_len h4 h5 L1 hz; have := lad_len h4 h5 L9 lsb; omega) S9)
  have q9 : d_check_ladder [.val (.int n), .val (.int g), .val (.int p), .val (.int j), .val (.int ((rowI n g p T1).getD (j - 1).toNat 0)), .val (.list (A.map stepD)), .val (.tuple (be.map .int))] = _ := q9
  -- more beats
  have q10 := e_most n g p j ((T1 : Int) + (T2 : Int)) h1 (by omega) h3 h4 h5 h6 h7 (by omega)
  rw [show ((T1 : Int) + (T2 : Int)).toNat = T1 + T2 by omega] at q10
  have q10' : decide (max ((rowI n g p T1).getD (j - 1).toNat 0) ((rowI n g p T2).getD (j - 1).toNat 0) ≤ (rowI n g p (T1 + T2)).getD (j - 1).toNat 0) = true := by
    have r1 := row_rise h1 h3 h4 h5 T1 (j - 1).toNat T2
    have r2 := row_rise h1 h3 h4 h5 T2 (j - 1).toNat T1
    rw [Nat.add_comm T2 T1] at r2
    exact decide_eq_true (by omega)
  by_cases hp : 1 < p
  · have hp' : decide (1 < p) = true := decide_eq_true hp
    obtain ⟨e5, L5, S5⟩ := lad_fewer (n := n) (g := g) (p := p - 1) (c := zeroI n) (d := zeroI n) (a := A) (e := d1) (by omega) (by rw [show p - 1 + 1 = p by omega]; exact L1) fun _ => Int.le_refl _
    have q5 := e_is_let n g (p - 1) j ((rowI n g p T1).getD (j - 1).toNat 0) A e5 h1 (by omega) h3 (by omega) (by omega) h6 h7 U1 L5 (by
      rw [← E1]
      exact take_sum_le _ (by have := lad_len h4 h5 L1 hz; have := lad_len (p := p - 1) (by omega) (by omega) L5 hz; omega) S5)
    have q6 := e_most n g (p - 1) j (T1 : Nat) h1 (by omega) h3 (by omega) (by omega) h6 h7 (by omega)
    rw [Int.toNat_natCast] at q6
    have q6' : decide ((rowI n g (p - 1) T1).getD (j - 1).toNat 0 < (rowI n g p T1).getD (j - 1).toNat 0) = false := by
      have := row_scoop (p := p - 1) h1 h3 (by omega) (by omega) T1 (j - 1).toNat (by omega)
      rw [show p - 1 + 1 = p by omega] at this
      simpa using this
    refine ⟨s3, ?_⟩
    rw [q__law_right]
    simp (maxSteps := 1000000) (disch := first | omega | exact Or.inl rfl | exact Or.inr rfl | exact f_non | exact f_val _ | exact f_own _ | (simp only [List.length_map, List.length_replicate, List.length_append, List.length_cons, List.length_nil, firstI_length, List.length_range, rowsD_length, List.length_drop, List.length_take, sortB_len, rangeI_len]; omega)) only [↓rb, ↓r_ofO, ↓r_den, ↓r_oX1, ↓r_oX2, ↓r_bX1, ↓r_bX2, ↓r_lX1, ↓r_lX2, ↓r_C, ↓r_Var, ↓r_Val, ↓r_Move, ↓r_fz, ↓r_ofD, ↓r_Op, ↓r_eOp, ↓r_Un, ↓r_CB, ↓r_eCB, ↓r_Mul, ↓r_Nil, ↓r_Cons, ↓r_Lst, ↓r_Tup, ↓r_Bl, ↓r_And, ↓r_Or, ↓r_NotM, ↓r_Yes, ↓r_If, ↓r_Chain, ↓r_Next, ↓r_Seq, ↓r_Bk, ↓r_Ct, ↓r_Never, ↓r_Ret, ↓r_RetN, ↓r_Expr, ↓r_sIf, ↓r_Set, ↓r_Asg, ↓r_Par, ↓r_bName, ↓r_bNil, ↓r_bCons, ↓r_bTup, ↓r_bTupL, ↓r_free, ↓f_non, ↓f_val, ↓f_own, ↓f_pin, ↓r_toSl, ↓r_fzR, ↓r_dAnd, ↓r_dOr, ↓r_dNot, ↓r_ixO, ↓r_Put, ↓r_Mut, ↓r_arNil, ↓r_arV, ↓r_arR, ↓r_Call, ↓r_CallK, ↓r_CallKD, ↓r_CallT, ↓r_For, ↓r_Lc, ↓r_iSeq, ↓r_iRng1, ↓r_iRng2, ↓r_iEnum, ↓r_iEnumA, ↓r_iEnumB, ↓r_TR1, ↓r_LenO, ↓r_NeO, ↓r_iZip, ↓r_iZipB, ↓r_LenSet, ↓r_step, ↓r_LR1, ↓r_LR2, ↓r_oNone, ↓r_oSome, ↓r_Cut, ↓r_Rev, ↓r_RevA, ↓r_keep, ↓r_Raise, ↓r_Try, ↓r_endX, ↓r_Exn, ↓r_Fld, ↓r_FldM, ↓r_FldAdd, ↓r_bFld, ↓r_Meth, ↓r_MethT, ↓r_Make, ↓r_Par3, ↓r_AugN, ↓r_AugPut, ↓f_exn, ↓nx_nil, ↓nx_n, ↓nx_v, ↓nx_o, ↓nx_x, ↓r_Isi, ↓r_IsiT, ↓r_Bor, ↓r_noEx, ↓r_wipe0, ↓r_wipe1, ↓r_outs0, ↓r_outs1, ↓r_out1, ↓r_out2, ↓r_mkA0, ↓r_mkA1, ↓r_mkA2, ↓r_wb0, ↓r_wb1, ↓r_wb2, ↓r_Said, ↓r_hide0, ↓r_hide1, ↓r_hideV, ↓r_hideO, ↓r_hideN, ↓r_IsE, ↓r_IsE2, ↓r_iZip3, ↓r_Mt, ↓r_Pre, ↓r_CutO, ↓r_setOwn, ↓r_Copy, ↓r_pick0, ↓r_pick1, ↓r_val0, ↓r_val1, ↓g0, ↓g1, ↓g2, ↓g3, ↓g4, ↓g5, ↓g6, ↓g7, ↓g8, ↓g9, ↓g10, ↓g11, ↓g12, ↓g13, ↓g14, ↓g15, ↓g16, ↓g17, ↓g18, ↓g19, ↓u0, ↓u1, ↓u2, ↓u3, ↓u4, ↓u5, ↓u6, ↓u7, ↓u8, ↓u9, ↓u10, ↓u11, ↓u12, ↓u13, ↓u14, ↓u15, ↓u16, ↓u17, ↓u18, ↓u19, v_eqE0, v_neE0, K_nb, K_ni, K_ns, K_nl, K_nt, K_bb, K_bi, K_bs, K_bl, K_bt, K_ib, K_ii, K_is, K_il, K_it, K_sb, K_si, K_ss, K_sl, K_st, K_lb, K_li, K_ls, K_ll, K_lt, K_tb, K_ti, K_ts, K_tl, K_tt, K_db, K_di, K_ds, K_dl, K_dt, t_n, t_d, t_s, r_outO1, r_outO2, r_Ask1, r_Ask2, v_TR, v_add, v_sub, v_neg, v_lt, v_le, v_gt, v_ge, v_eq, v_ne, v_max2, v_min2, v_mod, v_div, v_pow9, v_pow18, v_mulL, v_mulR, v_divmod, v_lenL, v_lenT, v_sum, v_eqL, v_listOf, v_inT2, v_sorted, sortB_f, v_sortL, v_sortT, v_sortDL, v_sortDT, v_sortDP, v_keep, v_tupL, v_tupT, v_sumL, v_sumT, v_app, v_neL, v_pow39, v_pow40, ob_nil, ob_zero, ob_1, ob_2, ob_3, ob_4, ob_5, ob_6, ob_7, ob_8, ll_n, ll_b, ll_i, ll_s, bs_n, bs_v, bs_l, bs_s, llA_ints, List.all_cons, List.all_nil, Bool.and_true, Bool.true_and, Bool.false_and, Bool.and_false, Bool.and_self, v_isN0, v_isNi, v_notN0, v_notNi, v_ixL, v_ixT, v_cutL, v_cutT, k_ii, k_ib, k_bi, k_bb, k_ll, k_lt, k_tl, k_tt, t_i, t_b, t_l, t_t, isR, if_true, true_and, and_true, and_self, if_false, if_pos, Bool.not_true, Bool.not_false, List.length_cons, List.length_nil, List.replicate, List.cons_append, List.nil_append, List.head?_cons, List.tail_cons, List.any_nil, List.any_cons, Bool.false_eq_true, Bool.or_false, Bool.false_or, beq_self_eq_true, Nat.reduceSub, Nat.reduceAdd, Nat.reduceLeDiff, Nat.reduceBEq, Nat.reduceEqDiff, reduceIte, eq_self, reduceCtorEq, kp_p1, kp_p2, kp_p3, kp_p4, kp_p5, kp_p6, kp_h, kp_d, kp_l1, kp_l2, kp_l3, kp_l4, kp_l5, kp_l6, kp_cups, kp_scoops, kp_rows, kp_looks, kp_held, kp_done, kp_choose, kp_nums, kp_stand, Int.reduceToNat, Int.reduceBEq, Nat.zero_add, Nat.reduceLT, lc1, lc2, e1, v_pow6, hm, et, q1, q2, q2', ew, q3, q4, q4', hp', q5, q6, q6', c1, q7, c2, q8, e2, v_pow17, hf, lc3, q9, q10, q10']
  · have hp' : decide (1 < p) = false := decide_eq_false hp
    refine ⟨s3, ?_⟩
    rw [q__law_right]
    simp (maxSteps := 1000000) (disch := first | omega | exact Or.inl rfl | exact Or.inr rfl | exact f_non | exact f_val _ | exact f_own _ | (simp only [List.length_map, List.length_replicate, List.length_append, List.length_cons, List.length_nil, firstI_length, List.length_range, rowsD_length, List.length_drop, List.length_take, sortB_len, rangeI_len]; omega)) only [↓rb, ↓r_ofO, ↓r_den, ↓r_oX1, ↓r_oX2, ↓r_bX1, ↓r_bX2, ↓r_lX1, ↓r_lX2, ↓r_C, ↓r_Var, ↓r_Val, ↓r_Move, ↓r_fz, ↓r_ofD, ↓r_Op, ↓r_eOp, ↓r_Un, ↓r_CB, ↓r_eCB, ↓r_Mul, ↓r_Nil, ↓r_Cons, ↓r_Lst, ↓r_Tup, ↓r_Bl, ↓r_And, ↓r_Or, ↓r_NotM, ↓r_Yes, ↓r_If, ↓r_Chain, ↓r_Next, ↓r_Seq, ↓r_Bk, ↓r_Ct, ↓r_Never, ↓r_Ret, ↓r_RetN, ↓r_Expr, ↓r_sIf, ↓r_Set, ↓r_Asg, ↓r_Par, ↓r_bName, ↓r_bNil, ↓r_bCons, ↓r_bTup, ↓r_bTupL, ↓r_free, ↓f_non, ↓f_val, ↓f_own, ↓f_pin, ↓r_toSl, ↓r_fzR, ↓r_dAnd, ↓r_dOr, ↓r_dNot, ↓r_ixO, ↓r_Put, ↓r_Mut, ↓r_arNil, ↓r_arV, ↓r_arR, ↓r_Call, ↓r_CallK, ↓r_CallKD, ↓r_CallT, ↓r_For, ↓r_Lc, ↓r_iSeq, ↓r_iRng1, ↓r_iRng2, ↓r_iEnum, ↓r_iEnumA, ↓r_iEnumB, ↓r_TR1, ↓r_LenO, ↓r_NeO, ↓r_iZip, ↓r_iZipB, ↓r_LenSet, ↓r_step, ↓r_LR1, ↓r_LR2, ↓r_oNone, ↓r_oSome, ↓r_Cut, ↓r_Rev, ↓r_RevA, ↓r_keep, ↓r_Raise, ↓r_Try, ↓r_endX, ↓r_Exn, ↓r_Fld, ↓r_FldM, ↓r_FldAdd, ↓r_bFld, ↓r_Meth, ↓r_MethT, ↓r_Make, ↓r_Par3, ↓r_AugN, ↓r_AugPut, ↓f_exn, ↓nx_nil, ↓nx_n, ↓nx_v, ↓nx_o, ↓nx_x, ↓r_Isi, ↓r_IsiT, ↓r_Bor, ↓r_noEx, ↓r_wipe0, ↓r_wipe1, ↓r_outs0, ↓r_outs1, ↓r_out1, ↓r_out2, ↓r_mkA0, ↓r_mkA1, ↓r_mkA2, ↓r_wb0, ↓r_wb1, ↓r_wb2, ↓r_Said, ↓r_hide0, ↓r_hide1, ↓r_hideV, ↓r_hideO, ↓r_hideN, ↓r_IsE, ↓r_IsE2, ↓r_iZip3, ↓r_Mt, ↓r_Pre, ↓r_CutO, ↓r_setOwn, ↓r_Copy, ↓r_pick0, ↓r_pick1, ↓r_val0, ↓r_val1, ↓g0, ↓g1, ↓g2, ↓g3, ↓g4, ↓g5, ↓g6, ↓g7, ↓g8, ↓g9, ↓g10, ↓g11, ↓g12, ↓g13, ↓g14, ↓g15, ↓g16, ↓g17, ↓g18, ↓g19, ↓u0, ↓u1, ↓u2, ↓u3, ↓u4, ↓u5, ↓u6, ↓u7, ↓u8, ↓u9, ↓u10, ↓u11, ↓u12, ↓u13, ↓u14, ↓u15, ↓u16, ↓u17, ↓u18, ↓u19, v_eqE0, v_neE0, K_nb, K_ni, K_ns, K_nl, K_nt, K_bb, K_bi, K_bs, K_bl, K_bt, K_ib, K_ii, K_is, K_il, K_it, K_sb, K_si, K_ss, K_sl, K_st, K_lb, K_li, K_ls, K_ll, K_lt, K_tb, K_ti, K_ts, K_tl, K_tt, K_db, K_di, K_ds, K_dl, K_dt, t_n, t_d, t_s, r_outO1, r_outO2, r_Ask1, r_Ask2, v_TR, v_add, v_sub, v_neg, v_lt, v_le, v_gt, v_ge, v_eq, v_ne, v_max2, v_min2, v_mod, v_div, v_pow9, v_pow18, v_mulL, v_mulR, v_divmod, v_lenL, v_lenT, v_sum, v_eqL, v_listOf, v_inT2, v_sorted, sortB_f, v_sortL, v_sortT, v_sortDL, v_sortDT, v_sortDP, v_keep, v_tupL, v_tupT, v_sumL, v_sumT, v_app, v_neL, v_pow39, v_pow40, ob_nil, ob_zero, ob_1, ob_2, ob_3, ob_4, ob_5, ob_6, ob_7, ob_8, ll_n, ll_b, ll_i, ll_s, bs_n, bs_v, bs_l, bs_s, llA_ints, List.all_cons, List.all_nil, Bool.and_true, Bool.true_and, Bool.false_and, Bool.and_false, Bool.and_self, v_isN0, v_isNi, v_notN0, v_notNi, v_ixL, v_ixT, v_cutL, v_cutT, k_ii, k_ib, k_bi, k_bb, k_ll, k_lt, k_tl, k_tt, t_i, t_b, t_l, t_t, isR, if_true, true_and, and_true, and_self, if_false, if_pos, Bool.not_true, Bool.not_false, List.length_cons, List.length_nil, List.replicate, List.cons_append, List.nil_append, List.head?_cons, List.tail_cons, List.any_nil, List.any_cons, Bool.false_eq_true, Bool.or_false, Bool.false_or, beq_self_eq_true, Nat.reduceSub, Nat.reduceAdd, Nat.reduceLeDiff, Nat.reduceBEq, Nat.reduceEqDiff, reduceIte, eq_self, reduceCtorEq, kp_p1, kp_p2, kp_p3, kp_p4, kp_p5, kp_p6, kp_h, kp_d, kp_l1, kp_l2, kp_l3, kp_l4, kp_l5, kp_l6, kp_cups, kp_scoops, kp_rows, kp_looks, kp_held, kp_done, kp_choose, kp_nums, kp_stand, Int.reduceToNat, Int.reduceBEq, Nat.zero_add, Nat.reduceLT, lc1, lc2, e1, v_pow6, hm, et, q1, q2, q2', ew, q3, q4, q4', hp', c1, q7, c2, q8, e2, v_pow17, hf, lc3, q9, q10, q10']
theorem law_true (ns : List Int) (hn : ns.length ≤ 63) (_ : ∀ z ∈ ns, Builtin.Int.intBits z ≤ 1048576) : ∃ r', d_law [.val (.list (ns.map .int))] = .ok (.val (.bool true), r') := by
  obtain ⟨r', e, s1, s2, s3, s4, f1, f2, f3, f4, rfl⟩ := forD_inv (b := bName 1) (body := w_law_1) (fun _ r => ∃ s1 s2 s3 s4, fre (some s1) = true ∧ fre (some s2) = true ∧ fre (some s3) = true ∧ fre (some s4) = true ∧ r = [.val (.list (ns.map .int)), s1, s2, s3, s4]) (((ns ++ [0]).take 3).map PyData.int)
    [.val (.list (ns.map .int)), .non, .non, .non, .non] ⟨.non, .non, .non, .non, rfl, rfl, rfl, rfl, rfl⟩ (fun i d hd r ⟨s1, s2, s3, s4, f1, f2, f3, f4, hr⟩ => by
      subst hr
      obtain ⟨z, _, rfl⟩ := ints_at hd
      obtain ⟨sa, n, g, p, ea, a1, a2, a3, a4, a5, a6⟩ := e_house (z, z, 0) 20 (by omega) (by omega)
      have b1 := tkV_nn sa (m := n) (by omega)
      have b2 := tkV_lt sa (m := n) (by omega)
      have eb := e_take sa n (by omega) (by omega)
      generalize tkV sa n = j at *
      generalize tkS sa n = sb at *
      have c1 := tkV_nn sb (m := 13) (by omega)
      have c2 := tkV_lt sb (m := 13) (by omega)
      have ec := e_take sb 13 (by omega) (by omega)
      generalize tkV sb 13 = t1 at *
      generalize tkS sb 13 = sc at *
      have d1 := tkV_nn sc (m := 13) (by omega)
      have d2 := tkV_lt sc (m := 13) (by omega)
      have ed := e_take sc 13 (by omega) (by omega)
      generalize tkV sc 13 = t2 at *
      generalize tkS sc 13 = sd at *
      obtain ⟨T1, rfl⟩ := Int.eq_ofNat_of_zero_le c1
      obtain ⟨T2, rfl⟩ := Int.eq_ofNat_of_zero_le d1
      obtain ⟨se, er⟩ := e_right sd n g p (1 + j) T1 T2 a1 a2 a3 a4 a5 a6 (by omega) (by omega) (by omega) (by omega)
      refine ⟨_, .inl ?_, .val (.int z), .own false (srcO se), .val (.tuple [.int n, .int g, .int p]), .val (.int (1 + j)), rfl, rfl, rfl, rfl, rfl⟩
      simp (maxSteps := 1000000) (disch := first | omega | exact Or.inl rfl | exact Or.inr rfl | exact f_non | exact f_val _ | exact f_own _ | (simp only [List.length_map, List.length_replicate, List.length_append, List.length_cons, List.length_nil, firstI_length, List.length_range, rowsD_length, List.length_drop, List.length_take, sortB_len, rangeI_len]; omega)) only [↓rb, ↓r_ofO, ↓r_den, ↓r_oX1, ↓r_oX2, ↓r_bX1, ↓r_bX2, ↓r_lX1, ↓r_lX2, ↓r_C, ↓r_Var, ↓r_Val, ↓r_Move, ↓r_fz, ↓r_ofD, ↓r_Op, ↓r_eOp, ↓r_Un, ↓r_CB, ↓r_eCB, ↓r_Mul, ↓r_Nil, ↓r_Cons, ↓r_Lst, ↓r_Tup, ↓r_Bl, ↓r_And, ↓r_Or, ↓r_NotM, ↓r_Yes, ↓r_If, ↓r_Chain, ↓r_Next, ↓r_Seq, ↓r_Bk, ↓r_Ct, ↓r_Never, ↓r_Ret, ↓r_RetN, ↓r_Expr, ↓r_sIf, ↓r_Set, ↓r_Asg, ↓r_Par, ↓r_bName, ↓r_bNil, ↓r_bCons, ↓r_bTup, ↓r_bTupL, ↓r_free, ↓f_non, ↓f_val, ↓f_own, ↓f_pin, ↓r_toSl, ↓r_fzR, ↓r_dAnd, ↓r_dOr, ↓r_dNot, ↓r_ixO, ↓r_Put, ↓r_Mut, ↓r_arNil, ↓r_arV, ↓r_arR, ↓r_Call, ↓r_CallK, ↓r_CallKD, ↓r_CallT, ↓r_For, ↓r_Lc, ↓r_iSeq, ↓r_iRng1, ↓r_iRng2, ↓r_iEnum, ↓r_iEnumA, ↓r_iEnumB, ↓r_TR1, ↓r_LenO, ↓r_NeO, ↓r_iZip, ↓r_iZipB, ↓r_LenSet, ↓r_step, ↓r_LR1, ↓r_LR2, ↓r_oNone, ↓r_oSome, ↓r_Cut, ↓r_Rev, ↓r_RevA, ↓r_keep, ↓r_Raise, ↓r_Try, ↓r_endX, ↓r_Exn, ↓r_Fld, ↓r_FldM, ↓r_FldAdd, ↓r_bFld, ↓r_Meth, ↓r_MethT, ↓r_Make, ↓r_Par3, ↓r_AugN, ↓r_AugPut, ↓f_exn, ↓nx_nil, ↓nx_n, ↓nx_v, ↓nx_o, ↓nx_x, ↓r_Isi, ↓r_IsiT, ↓r_Bor, ↓r_noEx, ↓r_wipe0, ↓r_wipe1, ↓r_outs0, ↓r_outs1, ↓r_out1, ↓r_out2, ↓r_mkA0, ↓r_mkA1, ↓r_mkA2, ↓r_wb0, ↓r_wb1, ↓r_wb2, ↓r_Said, ↓r_hide0, ↓r_hide1, ↓r_hideV, ↓r_hideO, ↓r_hideN, ↓r_IsE, ↓r_IsE2, ↓r_iZip3, ↓r_Mt, ↓r_Pre, ↓r_CutO, ↓r_setOwn, ↓r_Copy, ↓r_pick0, ↓r_pick1, ↓r_val0, ↓r_val1, ↓g0, ↓g1, ↓g2, ↓g3, ↓g4, ↓g5, ↓g6, ↓g7, ↓g8, ↓g9, ↓g10, ↓g11, ↓g12, ↓g13, ↓g14, ↓g15, ↓g16, ↓g17, ↓g18, ↓g19, ↓u0, ↓u1, ↓u2, ↓u3, ↓u4, ↓u5, ↓u6, ↓u7, ↓u8, ↓u9, ↓u10, ↓u11, ↓u12, ↓u13, ↓u14, ↓u15, ↓u16, ↓u17, ↓u18, ↓u19, v_eqE0, v_neE0, K_nb, K_ni, K_ns, K_nl, K_nt, K_bb, K_bi, K_bs, K_bl, K_bt, K_ib, K_ii, K_is, K_il, K_it, K_sb, K_si, K_ss, K_sl, K_st, K_lb, K_li, K_ls, K_ll, K_lt, K_tb, K_ti, K_ts, K_tl, K_tt, K_db, K_di, K_ds, K_dl, K_dt, t_n, t_d, t_s, r_outO1, r_outO2, r_Ask1, r_Ask2, v_TR, v_add, v_sub, v_neg, v_lt, v_le, v_gt, v_ge, v_eq, v_ne, v_max2, v_min2, v_mod, v_div, v_pow9, v_pow18, v_mulL, v_mulR, v_divmod, v_lenL, v_lenT, v_sum, v_eqL, v_listOf, v_inT2, v_sorted, sortB_f, v_sortL, v_sortT, v_sortDL, v_sortDT, v_sortDP, v_keep, v_tupL, v_tupT, v_sumL, v_sumT, v_app, v_neL, v_pow39, v_pow40, ob_nil, ob_zero, ob_1, ob_2, ob_3, ob_4, ob_5, ob_6, ob_7, ob_8, ll_n, ll_b, ll_i, ll_s, bs_n, bs_v, bs_l, bs_s, llA_ints, List.all_cons, List.all_nil, Bool.and_true, Bool.true_and, Bool.false_and, Bool.and_false, Bool.and_self, v_isN0, v_isNi, v_notN0, v_notNi, v_ixL, v_ixT, v_cutL, v_cutT, k_ii, k_ib, k_bi, k_bb, k_ll, k_lt, k_tl, k_tt, t_i, t_b, t_l, t_t, isR, if_true, true_and, and_true, and_self, if_false, if_pos, Bool.not_true, Bool.not_false, List.length_cons, List.length_nil, List.replicate, List.cons_append, List.nil_append, List.head?_cons, List.tail_cons, List.any_nil, List.any_cons, Bool.false_eq_true, Bool.or_false, Bool.false_or, beq_self_eq_true, Nat.reduceSub, Nat.reduceAdd, Nat.reduceLeDiff, Nat.reduceBEq, Nat.reduceEqDiff, reduceIte, eq_self, reduceCtorEq, kp_p1, kp_p2, kp_p3, kp_p4, kp_p5, kp_p6, kp_h, kp_d, kp_l1, kp_l2, kp_l3, kp_l4, kp_l5, kp_l6, kp_cups, kp_scoops, kp_rows, kp_looks, kp_held, kp_done, kp_choose, kp_nums, kp_stand, Int.reduceToNat, Int.reduceBEq, Nat.zero_add, Nat.reduceLT, f1, f2, f3, f4, u_w_law_1, e_source, ea, at0, eb, ec, ed, er])
  rw [q_law]
  simp (maxSteps := 1000000) (disch := first | omega | exact Or.inl rfl | exact Or.inr rfl | exact f_non | exact f_val _ | exact f_own _ | (simp only [List.length_map, List.length_replicate, List.length_append, List.length_cons, List.length_nil, firstI_length, List.length_range, rowsD_length, List.length_drop, List.length_take, sortB_len, rangeI_len]; omega)) only [↓rb, ↓r_ofO, ↓r_den, ↓r_oX1, ↓r_oX2, ↓r_bX1, ↓r_bX2, ↓r_lX1, ↓r_lX2, ↓r_C, ↓r_Var, ↓r_Val, ↓r_Move, ↓r_fz, ↓r_ofD, ↓r_Op, ↓r_eOp, ↓r_Un, ↓r_CB, ↓r_eCB, ↓r_Mul, ↓r_Nil, ↓r_Cons, ↓r_Lst, ↓r_Tup, ↓r_Bl, ↓r_And, ↓r_Or, ↓r_NotM, ↓r_Yes, ↓r_If, ↓r_Chain, ↓r_Next, ↓r_Seq, ↓r_Bk, ↓r_Ct, ↓r_Never, ↓r_Ret, ↓r_RetN, ↓r_Expr, ↓r_sIf, ↓r_Set, ↓r_Asg, ↓r_Par, ↓r_bName, ↓r_bNil, ↓r_bCons, ↓r_bTup, ↓r_bTupL, ↓r_free, ↓f_non, ↓f_val, ↓f_own, ↓f_pin, ↓r_toSl, ↓r_fzR, ↓r_dAnd, ↓r_dOr, ↓r_dNot, ↓r_ixO, ↓r_Put, ↓r_Mut, ↓r_arNil, ↓r_arV, ↓r_arR, ↓r_Call, ↓r_CallK, ↓r_CallKD, ↓r_CallT, ↓r_For, ↓r_Lc, ↓r_iSeq, ↓r_iRng1, ↓r_iRng2, ↓r_iEnum, ↓r_iEnumA, ↓r_iEnumB, ↓r_TR1, ↓r_LenO, ↓r_NeO, ↓r_iZip, ↓r_iZipB, ↓r_LenSet, ↓r_step, ↓r_LR1, ↓r_LR2, ↓r_oNone, ↓r_oSome, ↓r_Cut, ↓r_Rev, ↓r_RevA, ↓r_keep, ↓r_Raise, ↓r_Try, ↓r_endX, ↓r_Exn, ↓r_Fld, ↓r_FldM, ↓r_FldAdd, ↓r_bFld, ↓r_Meth, ↓r_MethT, ↓r_Make, ↓r_Par3, ↓r_AugN, ↓r_AugPut, ↓f_exn, ↓nx_nil, ↓nx_n, ↓nx_v, ↓nx_o, ↓nx_x, ↓r_Isi, ↓r_IsiT, ↓r_Bor, ↓r_noEx, ↓r_wipe0, ↓r_wipe1, ↓r_outs0, ↓r_outs1, ↓r_out1, ↓r_out2, ↓r_mkA0, ↓r_mkA1, ↓r_mkA2, ↓r_wb0, ↓r_wb1, ↓r_wb2, ↓r_Said, ↓r_hide0, ↓r_hide1, ↓r_hideV, ↓r_hideO, ↓r_hideN, ↓r_IsE, ↓r_IsE2, ↓r_iZip3, ↓r_Mt, ↓r_Pre, ↓r_CutO, ↓r_setOwn, ↓r_Copy, ↓r_pick0, ↓r_pick1, ↓r_val0, ↓r_val1, ↓g0, ↓g1, ↓g2, ↓g3, ↓g4, ↓g5, ↓g6, ↓g7, ↓g8, ↓g9, ↓g10, ↓g11, ↓g12, ↓g13, ↓g14, ↓g15, ↓g16, ↓g17, ↓g18, ↓g19, ↓u0, ↓u1, ↓u2, ↓u3, ↓u4, ↓u5, ↓u6, ↓u7, ↓u8, ↓u9, ↓u10, ↓u11, ↓u12, ↓u13, ↓u14, ↓u15, ↓u16, ↓u17, ↓u18, ↓u19, v_eqE0, v_neE0, K_nb, K_ni, K_ns, K_nl, K_nt, K_bb, K_bi, K_bs, K_bl, K_bt, K_ib, K_ii, K_is, K_il, K_it, K_sb, K_si, K_ss, K_sl, K_st, K_lb, K_li, K_ls, K_ll, K_lt, K_tb, K_ti, K_ts, K_tl, K_tt, K_db, K_di, K_ds, K_dl, K_dt, t_n, t_d, t_s, r_outO1, r_outO2, r_Ask1, r_Ask2, v_TR, v_add, v_sub, v_neg, v_lt, v_le, v_gt, v_ge, v_eq, v_ne, v_max2, v_min2, v_mod, v_div, v_pow9, v_pow18, v_mulL, v_mulR, v_divmod, v_lenL, v_lenT, v_sum, v_eqL, v_listOf, v_inT2, v_sorted, sortB_f, v_sortL, v_sortT, v_sortDL, v_sortDT, v_sortDP, v_keep, v_tupL, v_tupT, v_sumL, v_sumT, v_app, v_neL, v_pow39, v_pow40, ob_nil, ob_zero, ob_1, ob_2, ob_3, ob_4, ob_5, ob_6, ob_7, ob_8, ll_n, ll_b, ll_i, ll_s, bs_n, bs_v, bs_l, bs_s, llA_ints, List.all_cons, List.all_nil, Bool.and_true, Bool.true_and, Bool.false_and, Bool.and_false, Bool.and_self, v_isN0, v_isNi, v_notN0, v_notNi, v_ixL, v_ixT, v_cutL, v_cutT, k_ii, k_ib, k_bi, k_bb, k_ll, k_lt, k_tl, k_tt, t_i, t_b, t_l, t_t, isR, if_true, true_and, and_true, and_self, if_false, if_pos, Bool.not_true, Bool.not_false, List.length_cons, List.length_nil, List.replicate, List.cons_append, List.nil_append, List.head?_cons, List.tail_cons, List.any_nil, List.any_cons, Bool.false_eq_true, Bool.or_false, Bool.false_or, beq_self_eq_true, Nat.reduceSub, Nat.reduceAdd, Nat.reduceLeDiff, Nat.reduceBEq, Nat.reduceEqDiff, reduceIte, eq_self, reduceCtorEq, kp_p1, kp_p2, kp_p3, kp_p4, kp_p5, kp_p6, kp_h, kp_d, kp_l1, kp_l2, kp_l3, kp_l4, kp_l5, kp_l6, kp_cups, kp_scoops, kp_rows, kp_looks, kp_held, kp_done, kp_choose, kp_nums, kp_stand, Int.reduceToNat, Int.reduceBEq, Nat.zero_add, Nat.reduceLT, v_catL, cut_ints ns 3 3 rfl, e]
  exact ⟨_, rfl⟩
end Gk
namespace Gk
open PySem PySem.Spec PyProof.Rows L2 DL
theorem all_mk {l : PySem.W.OpenLaw} {w : World} {K : PySem.W.Frag} {h : Heap} {mg : Str → Option Value} {fa : Addr} (X : K.In h) (G : h.Ns mainGlobals mg) (hfa : mg "law" = some (.ref fa))
    {od0 an0 : Option Addr} {sl0 : Array (Option Value)} {oc0 kV0 dc0 pm0 ct0 : Value} {f0 : Addr}
    {cd0 : Value}
    {od1 an1 : Option Addr} {sl1 : Array (Option Value)} {oc1 kV1 dc1 pm1 ct1 : Value} {f1 : Addr}
    {cd1 : Value}
    {od2 an2 : Option Addr} {sl2 : Array (Option Value)} {oc2 kV2 dc2 pm2 ct2 : Value} {f2 : Addr}
    {cd2 : Value}
    {od3 an3 : Option Addr} {sl3 : Array (Option Value)} {oc3 kV3 dc3 pm3 ct3 : Value} {f3 : Addr}
    {cd3 : Value}
    {od4 an4 : Option Addr} {sl4 : Array (Option Value)} {oc4 kV4 dc4 pm4 ct4 : Value} {f4 : Addr}
    {cd4 : Value}
    {od5 an5 : Option Addr} {sl5 : Array (Option Value)} {oc5 kV5 dc5 pm5 ct5 : Value} {f5 : Addr}
    {cd5 : Value}
    {od6 an6 : Option Addr} {sl6 : Array (Option Value)} {oc6 kV6 dc6 pm6 ct6 : Value} {f6 : Addr}
    {cd6 : Value}
    {od7 an7 : Option Addr} {sl7 : Array (Option Value)} {oc7 kV7 dc7 pm7 ct7 : Value} {f7 : Addr}
    {cd7 : Value}
    {od8 an8 : Option Addr} {sl8 : Array (Option Value)} {oc8 kV8 dc8 pm8 ct8 : Value} {f8 : Addr}
    {cd8 : Value}
    {od9 an9 : Option Addr} {sl9 : Array (Option Value)} {oc9 kV9 dc9 pm9 ct9 : Value} {f9 : Addr}
    {cd9 : Value}
    {od10 an10 : Option Addr} {sl10 : Array (Option Value)} {oc10 kV10 dc10 pm10 ct10 : Value} {f10 : Addr}
    {cd10 : Value}
    {od11 an11 : Option Addr} {sl11 : Array (Option Value)} {oc11 kV11 dc11 pm11 ct11 : Value} {f11 : Addr}
    {cd11 : Value}
    {od12 an12 : Option Addr} {sl12 : Array (Option Value)} {oc12 kV12 dc12 pm12 ct12 : Value} {f12 : Addr}
    {cd12 : Value}
    {od13 an13 : Option Addr} {sl13 : Array (Option Value)} {oc13 kV13 dc13 pm13 ct13 : Value} {f13 : Addr}
    {cd13 : Value}
    {od14 an14 : Option Addr} {sl14 : Array (Option Value)} {oc14 kV14 dc14 pm14 ct14 : Value} {f14 : Addr}
    {cd14 : Value}
    {od15 an15 : Option Addr} {sl15 : Array (Option Value)} {oc15 kV15 dc15 pm15 ct15 : Value} {f15 : Addr}
    {cd15 : Value}
    {od16 an16 : Option Addr} {sl16 : Array (Option Value)} {oc16 kV16 dc16 pm16 ct16 : Value} {f16 : Addr}
    {cd16 : Value}
    {od17 an17 : Option Addr} {sl17 : Array (Option Value)} {oc17 kV17 dc17 pm17 ct17 : Value} {f17 : Addr}
    {cd17 : Value}
    {od18 an18 : Option Addr} {sl18 : Array (Option Value)} {oc18 kV18 dc18 pm18 ct18 : Value} {f18 : Addr}
    {cd18 : Value}
    {od19 an19 : Option Addr} {sl19 : Array (Option Value)} {oc19  dc19 pm19 ct19 : Value} {f19 : Addr}
    {Dk19 : Addr}
    {cd19 : Value}
    {od20 an20 : Option Addr} {sl20 : Array (Option Value)} {oc20 kV20 dc20 pm20 ct20 : Value} {f20 : Addr}
    {cd20 : Value}
    {od21 an21 : Option Addr} {sl21 : Array (Option Value)} {oc21 kV21 dc21 pm21 ct21 : Value} {f21 : Addr}
    {cd21 : Value}
    {od22 an22 : Option Addr} {sl22 : Array (Option Value)} {oc22 kV22 dc22 pm22 ct22 : Value} {f22 : Addr}
    {cd22 : Value}
    {od23 an23 : Option Addr} {sl23 : Array (Option Value)} {oc23 kV23 dc23 pm23 ct23 : Value} {f23 : Addr}
    {cd23 : Value}
    {od24 an24 : Option Addr} {sl24 : Array (Option Value)} {oc24 kV24 dc24 pm24 ct24 : Value} {f24 : Addr}
    {cd24 : Value}
    {od25 an25 : Option Addr} {sl25 : Array (Option Value)} {oc25 kV25 dc25 pm25 ct25 : Value} {f25 : Addr}
    {cd25 : Value}
    {od26 an26 : Option Addr} {sl26 : Array (Option Value)} {oc26 kV26 dc26 pm26 ct26 : Value} {f26 : Addr}
    {cd26 : Value}
    {od27 an27 : Option Addr} {sl27 : Array (Option Value)} {oc27 kV27 dc27 pm27 ct27 : Value} {f27 : Addr}
    {cd27 : Value}
    {od28 an28 : Option Addr} {sl28 : Array (Option Value)} {oc28 kV28 dc28 pm28 ct28 : Value} {f28 : Addr}
    {cd28 : Value}
    {od29 an29 : Option Addr} {sl29 : Array (Option Value)} {oc29 kV29 dc29 pm29 ct29 : Value} {f29 : Addr}
    {cd29 : Value}
    {od30 an30 : Option Addr} {sl30 : Array (Option Value)} {oc30 kV30 dc30 pm30 ct30 : Value} {f30 : Addr}
    {cd30 : Value}
    {od31 an31 : Option Addr} {sl31 : Array (Option Value)} {oc31 kV31 dc31 pm31 ct31 : Value} {f31 : Addr}
    {cd31 : Value}
    {od32 an32 : Option Addr} {sl32 : Array (Option Value)} {oc32 kV32 dc32 pm32 ct32 : Value} {f32 : Addr}
    {cd32 : Value}
    {od33 an33 : Option Addr} {sl33 : Array (Option Value)} {oc33 kV33 dc33 pm33 ct33 : Value} {f33 : Addr}
    {cd33 : Value}
    {od34 an34 : Option Addr} {sl34 : Array (Option Value)} {oc34 kV34 dc34 pm34 ct34 : Value} {f34 : Addr}
    {cd34 : Value}
    {t_MOST_BEATS : Tok}
    {t_MOST_CUPS : Tok}
    (a0 : PySem.W.nsIn K mainGlobals "_law_mixed" = some (some (.ref f0)))
    (l0 : K.lookup f0 = some ⟨oc0, od0, .func (PySem.W.fnOf "_law_mixed" "_law_mixed" (defArgs s__law_mixed) (defBody s__law_mixed) (defScope s__law_mixed) .none kV0 dc0 pm0 an0 cd0 ct0), sl0⟩) (c0 : PySem.W.codeIn K cd0 "_law_mixed" = true) (k0 : PySem.W.keepIn K (.ref f0) = true)
    (a1 : PySem.W.nsIn K mainGlobals "_law_take" = some (some (.ref f1)))
    (l1 : K.lookup f1 = some ⟨oc1, od1, .func (PySem.W.fnOf "_law_take" "_law_take" (defArgs s__law_take) (defBody s__law_take) (defScope s__law_take) .none kV1 dc1 pm1 an1 cd1 ct1), sl1⟩) (c1 : PySem.W.codeIn K cd1 "_law_take" = true) (k1 : PySem.W.keepIn K (.ref f1) = true)
    (a2 : PySem.W.nsIn K mainGlobals "_law_house" = some (some (.ref f2)))
    (l2 : K.lookup f2 = some ⟨oc2, od2, .func (PySem.W.fnOf "_law_house" "_law_house" (defArgs s__law_house) (defBody s__law_house) (defScope s__law_house) .none kV2 dc2 pm2 an2 cd2 ct2), sl2⟩) (c2 : PySem.W.codeIn K cd2 "_law_house" = true) (k2 : PySem.W.keepIn K (.ref f2) = true)
    (a3 : PySem.W.nsIn K mainGlobals "is_whole" = some (some (.ref f3)))
    (l3 : K.lookup f3 = some ⟨oc3, od3, .func (PySem.W.fnOf "is_whole" "is_whole" (defArgs s_is_whole) (defBody s_is_whole) (defScope s_is_whole) .none kV3 dc3 pm3 an3 cd3 ct3), sl3⟩) (c3 : PySem.W.codeIn K cd3 "is_whole" = true) (k3 : PySem.W.keepIn K (.ref f3) = true)
    (a4 : PySem.W.nsIn K mainGlobals "is_count" = some (some (.ref f4)))
    (l4 : K.lookup f4 = some ⟨oc4, od4, .func (PySem.W.fnOf "is_count" "is_count" (defArgs s_is_count) (defBody s_is_count) (defScope s_is_count) .none kV4 dc4 pm4 an4 cd4 ct4), sl4⟩) (c4 : PySem.W.codeIn K cd4 "is_count" = true) (k4 : PySem.W.keepIn K (.ref f4) = true)
    (a5 : PySem.W.nsIn K mainGlobals "are_counts" = some (some (.ref f5)))
    (l5 : K.lookup f5 = some ⟨oc5, od5, .func (PySem.W.fnOf "are_counts" "are_counts" (defArgs s_are_counts) (defBody s_are_counts) (defScope s_are_counts) .none kV5 dc5 pm5 an5 cd5 ct5), sl5⟩) (c5 : PySem.W.codeIn K cd5 "are_counts" = true) (k5 : PySem.W.keepIn K (.ref f5) = true)
    (a6 : PySem.W.nsIn K mainGlobals "falling" = some (some (.ref f6)))
    (l6 : K.lookup f6 = some ⟨oc6, od6, .func (PySem.W.fnOf "falling" "falling" (defArgs s_falling) (defBody s_falling) (defScope s_falling) .none kV6 dc6 pm6 an6 cd6 ct6), sl6⟩) (c6 : PySem.W.codeIn K cd6 "falling" = true) (k6 : PySem.W.keepIn K (.ref f6) = true)
    (a7 : PySem.W.nsIn K mainGlobals "is_nowhere_less" = some (some (.ref f7)))
    (l7 : K.lookup f7 = some ⟨oc7, od7, .func (PySem.W.fnOf "is_nowhere_less" "is_nowhere_less" (defArgs s_is_nowhere_less) (defBody s_is_nowhere_less) (defScope s_is_nowhere_less) .none kV7 dc7 pm7 an7 cd7 ct7), sl7⟩) (c7 : PySem.W.codeIn K cd7 "is_nowhere_less" = true) (k7 : PySem.W.keepIn K (.ref f7) = true)
    (a8 : PySem.W.nsIn K mainGlobals "is_step" = some (some (.ref f8)))
    (l8 : K.lookup f8 = some ⟨oc8, od8, .func (PySem.W.fnOf "is_step" "is_step" (defArgs s_is_step) (defBody s_is_step) (defScope s_is_step) .none kV8 dc8 pm8 an8 cd8 ct8), sl8⟩) (c8 : PySem.W.codeIn K cd8 "is_step" = true) (k8 : PySem.W.keepIn K (.ref f8) = true)
    (a9 : PySem.W.nsIn K mainGlobals "start_of" = some (some (.ref f9)))
    (l9 : K.lookup f9 = some ⟨oc9, od9, .func (PySem.W.fnOf "start_of" "start_of" (defArgs s_start_of) (defBody s_start_of) (defScope s_start_of) .none kV9 dc9 pm9 an9 cd9 ct9), sl9⟩) (c9 : PySem.W.codeIn K cd9 "start_of" = true) (k9 : PySem.W.keepIn K (.ref f9) = true)
    (a10 : PySem.W.nsIn K mainGlobals "want_count" = some (some (.ref f10)))
    (l10 : K.lookup f10 = some ⟨oc10, od10, .func (PySem.W.fnOf "want_count" "want_count" (defArgs s_want_count) (defBody s_want_count) (defScope s_want_count) .none kV10 dc10 pm10 an10 cd10 ct10), sl10⟩) (c10 : PySem.W.codeIn K cd10 "want_count" = true) (k10 : PySem.W.keepIn K (.ref f10) = true)
    (a11 : PySem.W.nsIn K mainGlobals "is_from" = some (some (.ref f11)))
    (l11 : K.lookup f11 = some ⟨oc11, od11, .func (PySem.W.fnOf "is_from" "is_from" (defArgs s_is_from) (defBody s_is_from) (defScope s_is_from) .none kV11 dc11 pm11 an11 cd11 ct11), sl11⟩) (c11 : PySem.W.codeIn K cd11 "is_from" = true) (k11 : PySem.W.keepIn K (.ref f11) = true)
    (a12 : PySem.W.nsIn K mainGlobals "want_fullest" = some (some (.ref f12)))
    (l12 : K.lookup f12 = some ⟨oc12, od12, .func (PySem.W.fnOf "want_fullest" "want_fullest" (defArgs s_want_fullest) (defBody s_want_fullest) (defScope s_want_fullest) .none kV12 dc12 pm12 an12 cd12 ct12), sl12⟩) (c12 : PySem.W.codeIn K cd12 "want_fullest" = true) (k12 : PySem.W.keepIn K (.ref f12) = true)
    (a13 : PySem.W.nsIn K mainGlobals "want_cups" = some (some (.ref f13)))
    (l13 : K.lookup f13 = some ⟨oc13, od13, .func (PySem.W.fnOf "want_cups" "want_cups" (defArgs s_want_cups) (defBody s_want_cups) (defScope s_want_cups) .none kV13 dc13 pm13 an13 cd13 ct13), sl13⟩) (c13 : PySem.W.codeIn K cd13 "want_cups" = true) (k13 : PySem.W.keepIn K (.ref f13) = true)
    (a14 : PySem.W.nsIn K mainGlobals "want_sizes" = some (some (.ref f14)))
    (l14 : K.lookup f14 = some ⟨oc14, od14, .func (PySem.W.fnOf "want_sizes" "want_sizes" (defArgs s_want_sizes) (defBody s_want_sizes) (defScope s_want_sizes) .none kV14 dc14 pm14 an14 cd14 ct14), sl14⟩) (c14 : PySem.W.codeIn K cd14 "want_sizes" = true) (k14 : PySem.W.keepIn K (.ref f14) = true)
    (a15 : PySem.W.nsIn K mainGlobals "want_pour" = some (some (.ref f15)))
    (l15 : K.lookup f15 = some ⟨oc15, od15, .func (PySem.W.fnOf "want_pour" "want_pour" (defArgs s_want_pour) (defBody s_want_pour) (defScope s_want_pour) .none kV15 dc15 pm15 an15 cd15 ct15), sl15⟩) (c15 : PySem.W.codeIn K cd15 "want_pour" = true) (k15 : PySem.W.keepIn K (.ref f15) = true)
    (a16 : PySem.W.nsIn K mainGlobals "want_standing" = some (some (.ref f16)))
    (l16 : K.lookup f16 = some ⟨oc16, od16, .func (PySem.W.fnOf "want_standing" "want_standing" (defArgs s_want_standing) (defBody s_want_standing) (defScope s_want_standing) .none kV16 dc16 pm16 an16 cd16 ct16), sl16⟩) (c16 : PySem.W.codeIn K cd16 "want_standing" = true) (k16 : PySem.W.keepIn K (.ref f16) = true)
    (a17 : PySem.W.nsIn K mainGlobals "poured" = some (some (.ref f17)))
    (l17 : K.lookup f17 = some ⟨oc17, od17, .func (PySem.W.fnOf "poured" "poured" (defArgs s_poured) (defBody s_poured) (defScope s_poured) .none kV17 dc17 pm17 an17 cd17 ct17), sl17⟩) (c17 : PySem.W.codeIn K cd17 "poured" = true) (k17 : PySem.W.keepIn K (.ref f17) = true)
    (a18 : PySem.W.nsIn K mainGlobals "what_stays" = some (some (.ref f18)))
    (l18 : K.lookup f18 = some ⟨oc18, od18, .func (PySem.W.fnOf "what_stays" "what_stays" (defArgs s_what_stays) (defBody s_what_stays) (defScope s_what_stays) .none kV18 dc18 pm18 an18 cd18 ct18), sl18⟩) (c18 : PySem.W.codeIn K cd18 "what_stays" = true) (k18 : PySem.W.keepIn K (.ref f18) = true)
    (a19 : PySem.W.nsIn K mainGlobals "check_ladder" = some (some (.ref f19)))
    (l19 : K.lookup f19 = some ⟨oc19, od19, .func (PySem.W.fnOf "check_ladder" "check_ladder" (defArgs s_check_ladder) (defBody s_check_ladder) (defScope s_check_ladder) .none (.ref Dk19) dc19 pm19 an19 cd19 ct19), sl19⟩) (c19 : PySem.W.codeIn K cd19 "check_ladder" = true) (k19 : PySem.W.keepIn K (.ref f19) = true)
    (kd19 : PySem.W.nsIn K Dk19 "start" = some (some .none))
    (a20 : PySem.W.nsIn K mainGlobals "_law_is_let" = some (some (.ref f20)))
    (l20 : K.lookup f20 = some ⟨oc20, od20, .func (PySem.W.fnOf "_law_is_let" "_law_is_let" (defArgs s__law_is_let) (defBody s__law_is_let) (defScope s__law_is_let) .none kV20 dc20 pm20 an20 cd20 ct20), sl20⟩) (c20 : PySem.W.codeIn K cd20 "_law_is_let" = true) (k20 : PySem.W.keepIn K (.ref f20) = true)
    (a21 : PySem.W.nsIn K mainGlobals "_law_times" = some (some (.ref f21)))
    (l21 : K.lookup f21 = some ⟨oc21, od21, .func (PySem.W.fnOf "_law_times" "_law_times" (defArgs s__law_times) (defBody s__law_times) (defScope s__law_times) .none kV21 dc21 pm21 an21 cd21 ct21), sl21⟩) (c21 : PySem.W.codeIn K cd21 "_law_times" = true) (k21 : PySem.W.keepIn K (.ref f21) = true)
    (a22 : PySem.W.nsIn K mainGlobals "_law_wider" = some (some (.ref f22)))
    (l22 : K.lookup f22 = some ⟨oc22, od22, .func (PySem.W.fnOf "_law_wider" "_law_wider" (defArgs s__law_wider) (defBody s__law_wider) (defScope s__law_wider) .none kV22 dc22 pm22 an22 cd22 ct22), sl22⟩) (c22 : PySem.W.codeIn K cd22 "_law_wider" = true) (k22 : PySem.W.keepIn K (.ref f22) = true)
    (a23 : PySem.W.nsIn K mainGlobals "want_shares" = some (some (.ref f23)))
    (l23 : K.lookup f23 = some ⟨oc23, od23, .func (PySem.W.fnOf "want_shares" "want_shares" (defArgs s_want_shares) (defBody s_want_shares) (defScope s_want_shares) .none kV23 dc23 pm23 an23 cd23 ct23), sl23⟩) (c23 : PySem.W.codeIn K cd23 "want_shares" = true) (k23 : PySem.W.keepIn K (.ref f23) = true)
    (a24 : PySem.W.nsIn K mainGlobals "even" = some (some (.ref f24)))
    (l24 : K.lookup f24 = some ⟨oc24, od24, .func (PySem.W.fnOf "even" "even" (defArgs s_even) (defBody s_even) (defScope s_even) .none kV24 dc24 pm24 an24 cd24 ct24), sl24⟩) (c24 : PySem.W.codeIn K cd24 "even" = true) (k24 : PySem.W.keepIn K (.ref f24) = true)
    (a25 : PySem.W.nsIn K mainGlobals "evening_out" = some (some (.ref f25)))
    (l25 : K.lookup f25 = some ⟨oc25, od25, .func (PySem.W.fnOf "evening_out" "evening_out" (defArgs s_evening_out) (defBody s_evening_out) (defScope s_evening_out) .none kV25 dc25 pm25 an25 cd25 ct25), sl25⟩) (c25 : PySem.W.codeIn K cd25 "evening_out" = true) (k25 : PySem.W.keepIn K (.ref f25) = true)
    (a26 : PySem.W.nsIn K mainGlobals "ladder" = some (some (.ref f26)))
    (l26 : K.lookup f26 = some ⟨oc26, od26, .func (PySem.W.fnOf "ladder" "ladder" (defArgs s_ladder) (defBody s_ladder) (defScope s_ladder) .none kV26 dc26 pm26 an26 cd26 ct26), sl26⟩) (c26 : PySem.W.codeIn K cd26 "ladder" = true) (k26 : PySem.W.keepIn K (.ref f26) = true)
    (a27 : PySem.W.nsIn K mainGlobals "top" = some (some (.ref f27)))
    (l27 : K.lookup f27 = some ⟨oc27, od27, .func (PySem.W.fnOf "top" "top" (defArgs s_top) (defBody s_top) (defScope s_top) .none kV27 dc27 pm27 an27 cd27 ct27), sl27⟩) (c27 : PySem.W.codeIn K cd27 "top" = true) (k27 : PySem.W.keepIn K (.ref f27) = true)
    (a28 : PySem.W.nsIn K mainGlobals "least_of" = some (some (.ref f28)))
    (l28 : K.lookup f28 = some ⟨oc28, od28, .func (PySem.W.fnOf "least_of" "least_of" (defArgs s_least_of) (defBody s_least_of) (defScope s_least_of) .none kV28 dc28 pm28 an28 cd28 ct28), sl28⟩) (c28 : PySem.W.codeIn K cd28 "least_of" = true) (k28 : PySem.W.keepIn K (.ref f28) = true)
    (a29 : PySem.W.nsIn K mainGlobals "next_row" = some (some (.ref f29)))
    (l29 : K.lookup f29 = some ⟨oc29, od29, .func (PySem.W.fnOf "next_row" "next_row" (defArgs s_next_row) (defBody s_next_row) (defScope s_next_row) .none kV29 dc29 pm29 an29 cd29 ct29), sl29⟩) (c29 : PySem.W.codeIn K cd29 "next_row" = true) (k29 : PySem.W.keepIn K (.ref f29) = true)
    (a30 : PySem.W.nsIn K mainGlobals "row_at" = some (some (.ref f30)))
    (l30 : K.lookup f30 = some ⟨oc30, od30, .func (PySem.W.fnOf "row_at" "row_at" (defArgs s_row_at) (defBody s_row_at) (defScope s_row_at) .none kV30 dc30 pm30 an30 cd30 ct30), sl30⟩) (c30 : PySem.W.codeIn K cd30 "row_at" = true) (k30 : PySem.W.keepIn K (.ref f30) = true)
    (a31 : PySem.W.nsIn K mainGlobals "most" = some (some (.ref f31)))
    (l31 : K.lookup f31 = some ⟨oc31, od31, .func (PySem.W.fnOf "most" "most" (defArgs s_most) (defBody s_most) (defScope s_most) .none kV31 dc31 pm31 an31 cd31 ct31), sl31⟩) (c31 : PySem.W.codeIn K cd31 "most" = true) (k31 : PySem.W.keepIn K (.ref f31) = true)
    (a32 : PySem.W.nsIn K mainGlobals "_law_right" = some (some (.ref f32)))
    (l32 : K.lookup f32 = some ⟨oc32, od32, .func (PySem.W.fnOf "_law_right" "_law_right" (defArgs s__law_right) (defBody s__law_right) (defScope s__law_right) .none kV32 dc32 pm32 an32 cd32 ct32), sl32⟩) (c32 : PySem.W.codeIn K cd32 "_law_right" = true) (k32 : PySem.W.keepIn K (.ref f32) = true)
    (a33 : PySem.W.nsIn K mainGlobals "_law_source" = some (some (.ref f33)))
    (l33 : K.lookup f33 = some ⟨oc33, od33, .func (PySem.W.fnOf "_law_source" "_law_source" (defArgs s__law_source) (defBody s__law_source) (defScope s__law_source) .none kV33 dc33 pm33 an33 cd33 ct33), sl33⟩) (c33 : PySem.W.codeIn K cd33 "_law_source" = true) (k33 : PySem.W.keepIn K (.ref f33) = true)
    (a34 : PySem.W.nsIn K mainGlobals "law" = some (some (.ref f34)))
    (l34 : K.lookup f34 = some ⟨oc34, od34, .func (PySem.W.fnOf "law" "law" (defArgs s_law) (defBody s_law) (defScope s_law) .none kV34 dc34 pm34 an34 cd34 ct34), sl34⟩) (c34 : PySem.W.codeIn K cd34 "law" = true) (k34 : PySem.W.keepIn K (.ref f34) = true)
    (z_all : PySem.W.nsIn K mainGlobals "all" = some none)
    (z_bool : PySem.W.nsIn K mainGlobals "bool" = some none)
    (z_divmod : PySem.W.nsIn K mainGlobals "divmod" = some none)
    (z_enumerate : PySem.W.nsIn K mainGlobals "enumerate" = some none)
    (z_int : PySem.W.nsIn K mainGlobals "int" = some none)
    (z_isinstance : PySem.W.nsIn K mainGlobals "isinstance" = some none)
    (z_len : PySem.W.nsIn K mainGlobals "len" = some none)
    (z_list : PySem.W.nsIn K mainGlobals "list" = some none)
    (z_max : PySem.W.nsIn K mainGlobals "max" = some none)
    (z_min : PySem.W.nsIn K mainGlobals "min" = some none)
    (z_range : PySem.W.nsIn K mainGlobals "range" = some none)
    (z_sorted : PySem.W.nsIn K mainGlobals "sorted" = some none)
    (z_sum : PySem.W.nsIn K mainGlobals "sum" = some none)
    (z_tuple : PySem.W.nsIn K mainGlobals "tuple" = some none)
    (z_zip : PySem.W.nsIn K mainGlobals "zip" = some none)
    (y_MOST_BEATS : PySem.W.nsIn K mainGlobals "MOST_BEATS" = some (some (.int 1000 t_MOST_BEATS)))
    (y_MOST_CUPS : PySem.W.nsIn K mainGlobals "MOST_CUPS" = some (some (.int 40 t_MOST_CUPS))) :
    ∃ (fd : FuncData) (cs : List (Addr × Addr × Str)), (∀ p ∈ cs, h.get? p.2.1 = some { cls := .none, data := .fields #[] }) ∧ (∀ p ∈ cs, K.lookup p.2.1 = none) ∧ (∀ p ∈ cs, PySem.W.CodeHd h p.1 p.2.1) ∧ (∀ (s : Shared) (v : Value), BindsTo s fd ⟨[v], []⟩ [("_law_script", v)]) ∧ ∀ base : Heap, K.In base → base.Ns mainGlobals mg → (∀ p ∈ cs, LamX.TabB base mg p.1 p.2.1) → FnG l.prog w K mg base 10 fa fd ["_law_script"] (@spM K (tabL K cs) 1 d_law) := by
  have e := hfa.symm.trans (PySem.W.mg_of X G a34)
  cases e
  have m_all := PySem.W.mg_none_of X G z_all
  have m_bool := PySem.W.mg_none_of X G z_bool
  have m_divmod := PySem.W.mg_none_of X G z_divmod
  have m_enumerate := PySem.W.mg_none_of X G z_enumerate
  have m_int := PySem.W.mg_none_of X G z_int
  have m_isinstance := PySem.W.mg_none_of X G z_isinstance
  have m_len := PySem.W.mg_none_of X G z_len
  have m_list := PySem.W.mg_none_of X G z_list
  have m_max := PySem.W.mg_none_of X G z_max
  have m_min := PySem.W.mg_none_of X G z_min
  have m_range := PySem.W.mg_none_of X G z_range
  have m_sorted := PySem.W.mg_none_of X G z_sorted
  have m_sum := PySem.W.mg_none_of X G z_sum
  have m_tuple := PySem.W.mg_none_of X G z_tuple
  have m_zip := PySem.W.mg_none_of X G z_zip
  have g_MOST_BEATS := PySem.W.mg_of X G y_MOST_BEATS
  have g_MOST_CUPS := PySem.W.mg_of X G y_MOST_CUPS
  have g__law_mixed := PySem.W.mg_of X G a0
  have F__law_mixed := fun_mk (st := s__law_mixed) l0 c0 k0
  have b__law_mixed := F__law_mixed.binds (ps := ["_law_cell", "_law_k"]) fun _ _ _ _ _ _ us hl => match us, hl with | [_, _], _ => rfl
  have g__law_take := PySem.W.mg_of X G a1
  have F__law_take := fun_mk (st := s__law_take) l1 c1 k1
  have b__law_take := F__law_take.binds (ps := ["_law_source_here", "_law_many"]) fun _ _ _ _ _ _ us hl => match us, hl with | [_, _], _ => rfl
  have g__law_house := PySem.W.mg_of X G a2
  have F__law_house := fun_mk (st := s__law_house) l2 c2 k2
  have b__law_house := F__law_house.binds (ps := ["_law_source_here", "_law_far"]) fun _ _ _ _ _ _ us hl => match us, hl with | [_, _], _ => rfl
  have g_is_whole := PySem.W.mg_of X G a3
  have F_is_whole := fun_mk (st := s_is_whole) l3 c3 k3
  have b_is_whole := F_is_whole.binds (ps := ["thing"]) fun _ _ _ _ _ _ us hl => match us, hl with | [_], _ => rfl
  have g_is_count := PySem.W.mg_of X G a4
  have F_is_count := fun_mk (st := s_is_count) l4 c4 k4
  have b_is_count := F_is_count.binds (ps := ["thing"]) fun _ _ _ _ _ _ us hl => match us, hl with | [_], _ => rfl
  have g_are_counts := PySem.W.mg_of X G a5
  have F_are_counts := fun_mk (st := s_are_counts) l5 c5 k5
  have b_are_counts := F_are_counts.binds (ps := ["thing", "many"]) fun _ _ _ _ _ _ us hl => match us, hl with | [_, _], _ => rfl
  have g_falling := PySem.W.mg_of X G a6
  have F_falling := fun_mk (st := s_falling) l6 c6 k6
  have b_falling := F_falling.binds (ps := ["standing"]) fun _ _ _ _ _ _ us hl => match us, hl with | [_], _ => rfl
  have g_is_nowhere_less := PySem.W.mg_of X G a7
  have F_is_nowhere_less := fun_mk (st := s_is_nowhere_less) l7 c7 k7
  have b_is_nowhere_less := F_is_nowhere_less.binds (ps := ["one", "other"]) fun _ _ _ _ _ _ us hl => match us, hl with | [_, _], _ => rfl
  have g_is_step := PySem.W.mg_of X G a8
  have F_is_step := fun_mk (st := s_is_step) l8 c8 k8
  have b_is_step := F_is_step.binds (ps := ["cups", "grains", "came", "step"]) fun _ _ _ _ _ _ us hl => match us, hl with | [_, _, _, _], _ => rfl
  have g_start_of := PySem.W.mg_of X G a9
  have F_start_of := fun_mk (st := s_start_of) l9 c9 k9
  have b_start_of := F_start_of.binds (ps := ["cups", "start"]) fun _ _ _ _ _ _ us hl => match us, hl with | [_, _], _ => rfl
  have g_want_count := PySem.W.mg_of X G a10
  have F_want_count := fun_mk (st := s_want_count) l10 c10 k10
  have b_want_count := F_want_count.binds (ps := ["thing", "word"]) fun _ _ _ _ _ _ us hl => match us, hl with | [_, _], _ => rfl
  have g_is_from := PySem.W.mg_of X G a11
  have F_is_from := fun_mk (st := s_is_from) l11 c11 k11
  have b_is_from := F_is_from.binds (ps := ["thing", "least", "most"]) fun _ _ _ _ _ _ us hl => match us, hl with | [_, _, _], _ => rfl
  have g_want_fullest := PySem.W.mg_of X G a12
  have F_want_fullest := fun_mk (st := s_want_fullest) l12 c12 k12
  have b_want_fullest := F_want_fullest.binds (ps := ["cups", "fullest"]) fun _ _ _ _ _ _ us hl => match us, hl with | [_, _], _ => rfl
  have g_want_cups := PySem.W.mg_of X G a13
  have F_want_cups := fun_mk (st := s_want_cups) l13 c13 k13
  have b_want_cups := F_want_cups.binds (ps := ["cups"]) fun _ _ _ _ _ _ us hl => match us, hl with | [_], _ => rfl
  have g_want_sizes := PySem.W.mg_of X G a14
  have F_want_sizes := fun_mk (st := s_want_sizes) l14 c14 k14
  have b_want_sizes := F_want_sizes.binds (ps := ["cups", "grains", "scoops"]) fun _ _ _ _ _ _ us hl => match us, hl with | [_, _, _], _ => rfl
  have g_want_pour := PySem.W.mg_of X G a15
  have F_want_pour := fun_mk (st := s_want_pour) l15 c15 k15
  have b_want_pour := F_want_pour.binds (ps := ["pour", "cups"]) fun _ _ _ _ _ _ us hl => match us, hl with | [_, _], _ => rfl
  have g_want_standing := PySem.W.mg_of X G a16
  have F_want_standing := fun_mk (st := s_want_standing) l16 c16 k16
  have b_want_standing := F_want_standing.binds (ps := ["standing"]) fun _ _ _ _ _ _ us hl => match us, hl with | [_], _ => rfl
  have g_poured := PySem.W.mg_of X G a17
  have F_poured := fun_mk (st := s_poured) l17 c17 k17
  have b_poured := F_poured.binds (ps := ["standing", "pour"]) fun _ _ _ _ _ _ us hl => match us, hl with | [_, _], _ => rfl
  have g_what_stays := PySem.W.mg_of X G a18
  have F_what_stays := fun_mk (st := s_what_stays) l18 c18 k18
  have b_what_stays := F_what_stays.binds (ps := ["standing", "pour", "scoops"]) fun _ _ _ _ _ _ us hl => match us, hl with | [_, _, _], _ => rfl
  have g_check_ladder := PySem.W.mg_of X G a19
  have F_check_ladder := fun_mk (st := s_check_ladder) l19 c19 k19
  have g__law_is_let := PySem.W.mg_of X G a20
  have F__law_is_let := fun_mk (st := s__law_is_let) l20 c20 k20
  have b__law_is_let := F__law_is_let.binds (ps := ["_law_house_here", "_law_wide", "_law_aim", "_law_steps_here"]) fun _ _ _ _ _ _ us hl => match us, hl with | [_, _, _, _], _ => rfl
  have g__law_times := PySem.W.mg_of X G a21
  have F__law_times := fun_mk (st := s__law_times) l21 c21 k21
  have b__law_times := F__law_times.binds (ps := ["_law_steps_here", "_law_times_here"]) fun _ _ _ _ _ _ us hl => match us, hl with | [_, _], _ => rfl
  have g__law_wider := PySem.W.mg_of X G a22
  have F__law_wider := fun_mk (st := s__law_wider) l22 c22 k22
  have b__law_wider := F__law_wider.binds (ps := ["_law_steps_here"]) fun _ _ _ _ _ _ us hl => match us, hl with | [_], _ => rfl
  have g_want_shares := PySem.W.mg_of X G a23
  have F_want_shares := fun_mk (st := s_want_shares) l23 c23 k23
  have b_want_shares := F_want_shares.binds (ps := ["total", "cups"]) fun _ _ _ _ _ _ us hl => match us, hl with | [_, _], _ => rfl
  have g_even := PySem.W.mg_of X G a24
  have F_even := fun_mk (st := s_even) l24 c24 k24
  have b_even := F_even.binds (ps := ["total", "cups"]) fun _ _ _ _ _ _ us hl => match us, hl with | [_, _], _ => rfl
  have g_evening_out := PySem.W.mg_of X G a25
  have F_evening_out := fun_mk (st := s_evening_out) l25 c25 k25
  have b_evening_out := F_evening_out.binds (ps := ["standing", "grains", "live"]) fun _ _ _ _ _ _ us hl => match us, hl with | [_, _, _], _ => rfl
  have g_ladder := PySem.W.mg_of X G a26
  have F_ladder := fun_mk (st := s_ladder) l26 c26 k26
  have b_ladder := F_ladder.binds (ps := ["cups", "grains", "scoops", "fullest", "beats"]) fun _ _ _ _ _ _ us hl => match us, hl with | [_, _, _, _, _], _ => rfl
  have g_top := PySem.W.mg_of X G a27
  have F_top := fun_mk (st := s_top) l27 c27 k27
  have b_top := F_top.binds (ps := ["total", "cups", "many"]) fun _ _ _ _ _ _ us hl => match us, hl with | [_, _, _], _ => rfl
  have g_least_of := PySem.W.mg_of X G a28
  have F_least_of := fun_mk (st := s_least_of) l28 c28 k28
  have b_least_of := F_least_of.binds (ps := ["cups", "grains", "scoops", "row", "many"]) fun _ _ _ _ _ _ us hl => match us, hl with | [_, _, _, _, _], _ => rfl
  have g_next_row := PySem.W.mg_of X G a29
  have F_next_row := fun_mk (st := s_next_row) l29 c29 k29
  have b_next_row := F_next_row.binds (ps := ["cups", "grains", "scoops", "row"]) fun _ _ _ _ _ _ us hl => match us, hl with | [_, _, _, _], _ => rfl
  have g_row_at := PySem.W.mg_of X G a30
  have F_row_at := fun_mk (st := s_row_at) l30 c30 k30
  have b_row_at := F_row_at.binds (ps := ["cups", "grains", "scoops", "beats"]) fun _ _ _ _ _ _ us hl => match us, hl with | [_, _, _, _], _ => rfl
  have g_most := PySem.W.mg_of X G a31
  have F_most := fun_mk (st := s_most) l31 c31 k31
  have b_most := F_most.binds (ps := ["cups", "grains", "scoops", "fullest", "beats"]) fun _ _ _ _ _ _ us hl => match us, hl with | [_, _, _, _, _], _ => rfl
  have g__law_right := PySem.W.mg_of X G a32
  have F__law_right := fun_mk (st := s__law_right) l32 c32 k32
  have b__law_right := F__law_right.binds (ps := ["_law_source_here", "_law_house_here", "_law_wide", "_law_last", "_law_later"]) fun _ _ _ _ _ _ us hl => match us, hl with | [_, _, _, _, _], _ => rfl
  have g__law_source := PySem.W.mg_of X G a33
  have F__law_source := fun_mk (st := s__law_source) l33 c33 k33
  have b__law_source := F__law_source.binds (ps := ["_law_cell"]) fun _ _ _ _ _ _ us hl => match us, hl with | [_], _ => rfl
  have g_law := PySem.W.mg_of X G a34
  have F_law := fun_mk (st := s_law) l34 c34 k34
  have b_law := F_law.binds (ps := ["_law_script"]) fun _ _ _ _ _ _ us hl => match us, hl with | [_], _ => rfl
  have kb_check_ladder_6 := kbn_dflt (fd := PySem.W.fnOf "check_ladder" "check_ladder" (defArgs s_check_ladder) (defBody s_check_ladder) (defScope s_check_ladder) .none (.ref Dk19) dc19 pm19 an19 cd19 ct19) (ps := ["cups", "grains", "scoops", "fullest", "held", "steps", "start"]) (n := 6) (ks := []) (ix := [0, 1, 2, 3, 4, 5, 6]) kd19 fun us ws h1 h2 => match us, ws, h1, h2 with | [_, _, _, _, _, _], [], _, _ => ⟨_, _, _, _, _, _, rfl, rfl, rfl⟩
  have kb_check_ladder_6_start := fun_kbn (ps := ["cups", "grains", "scoops", "fullest", "held", "steps", "start"]) (n := 6) (ks := ["start"]) (ix := [0, 1, 2, 3, 4, 5, 6]) F_check_ladder fun _ _ _ _ _ _ us ws h1 h2 => match us, ws, h1, h2 with | [_, _, _, _, _, _], [_], _, _ => rfl
  refine ⟨PySem.W.fnOf "law" "law" (defArgs s_law) (defBody s_law) (defScope s_law) .none kV34 dc34 pm34 an34 cd34 ct34, [], (fun _ z => nomatch z), (fun _ z => nomatch z), (fun _ z => nomatch z), fun s v => .of_eq rfl, fun base _ _ TB => ?_⟩
  have G__law_mixed := ok__law_mixed (P := l.prog) (w := w) (tcK := (tabL K [])) (mg := mg) (base := base) F__law_mixed 
  have G__law_take := ok__law_take (P := l.prog) (w := w) (tcK := (tabL K [])) (mg := mg) (base := base) F__law_take F__law_mixed b__law_mixed G__law_mixed g__law_mixed
  have G__law_house := ok__law_house (P := l.prog) (w := w) (tcK := (tabL K [])) (mg := mg) (base := base) F__law_house F__law_take b__law_take G__law_take g__law_take
  have G_is_whole := ok_is_whole (P := l.prog) (w := w) (tcK := (tabL K [])) (mg := mg) (base := base) F_is_whole m_bool m_int m_isinstance
  have G_is_count := ok_is_count (P := l.prog) (w := w) (tcK := (tabL K [])) (mg := mg) (base := base) F_is_count F_is_whole b_is_whole G_is_whole g_is_whole
  have G_are_counts := ok_are_counts (P := l.prog) (w := w) (tcK := (tabL K [])) (mg := mg) (base := base) F_are_counts m_all m_isinstance m_len m_tuple F_is_count b_is_count G_is_count g_is_count
  have G_falling := ok_falling (P := l.prog) (w := w) (tcK := (tabL K [])) (mg := mg) (base := base) F_falling m_sorted m_tuple
  have G_is_nowhere_less := ok_is_nowhere_less (P := l.prog) (w := w) (tcK := (tabL K [])) (mg := mg) (base := base) F_is_nowhere_less m_all m_zip
  have G_is_step := ok_is_step (P := l.prog) (w := w) (tcK := (tabL K [])) (mg := mg) (base := base) F_is_step m_isinstance m_len m_sum m_tuple F_are_counts b_are_counts G_are_counts g_are_counts F_falling b_falling G_falling g_falling F_is_nowhere_less b_is_nowhere_less G_is_nowhere_less g_is_nowhere_less
  have G_start_of := ok_start_of (P := l.prog) (w := w) (tcK := (tabL K [])) (mg := mg) (base := base) F_start_of F_are_counts b_are_counts G_are_counts g_are_counts F_falling b_falling G_falling g_falling
  have G_want_count := ok_want_count (P := l.prog) (w := w) (tcK := (tabL K [])) (mg := mg) (base := base) F_want_count F_is_count b_is_count G_is_count g_is_count
  have G_is_from := ok_is_from (P := l.prog) (w := w) (tcK := (tabL K [])) (mg := mg) (base := base) F_is_from F_is_whole b_is_whole G_is_whole g_is_whole
  have G_want_fullest := ok_want_fullest (P := l.prog) (w := w) (tcK := (tabL K [])) (mg := mg) (base := base) F_want_fullest F_is_from b_is_from G_is_from g_is_from
  have G_want_cups := ok_want_cups (P := l.prog) (w := w) (tcK := (tabL K [])) (mg := mg) (base := base) F_want_cups g_MOST_CUPS F_is_from b_is_from G_is_from g_is_from
  have G_want_sizes := ok_want_sizes (P := l.prog) (w := w) (tcK := (tabL K [])) (mg := mg) (base := base) F_want_sizes F_is_count b_is_count G_is_count g_is_count F_is_from b_is_from G_is_from g_is_from F_want_cups b_want_cups G_want_cups g_want_cups
  have G_want_pour := ok_want_pour (P := l.prog) (w := w) (tcK := (tabL K [])) (mg := mg) (base := base) F_want_pour F_are_counts b_are_counts G_are_counts g_are_counts
  have G_want_standing := ok_want_standing (P := l.prog) (w := w) (tcK := (tabL K [])) (mg := mg) (base := base) F_want_standing m_isinstance m_len m_tuple g_MOST_CUPS F_are_counts b_are_counts G_are_counts g_are_counts
  have G_poured := ok_poured (P := l.prog) (w := w) (tcK := (tabL K [])) (mg := mg) (base := base) F_poured m_len m_tuple m_zip F_want_pour b_want_pour G_want_pour g_want_pour F_want_standing b_want_standing G_want_standing g_want_standing
  have G_what_stays := ok_what_stays (P := l.prog) (w := w) (tcK := (tabL K [])) (mg := mg) (base := base) F_what_stays F_falling b_falling G_falling g_falling F_poured b_poured G_poured g_poured
  have G_check_ladder := ok_check_ladder (P := l.prog) (w := w) (tcK := (tabL K [])) (mg := mg) (base := base) F_check_ladder m_enumerate m_isinstance m_list m_sum F_is_step b_is_step G_is_step g_is_step F_start_of b_start_of G_start_of g_start_of F_want_count b_want_count G_want_count g_want_count F_want_fullest b_want_fullest G_want_fullest g_want_fullest F_want_sizes b_want_sizes G_want_sizes g_want_sizes F_what_stays b_what_stays G_what_stays g_what_stays
  have G__law_is_let := ok__law_is_let (P := l.prog) (w := w) (tcK := (tabL K [])) (mg := mg) (base := base) F__law_is_let F_check_ladder G_check_ladder g_check_ladder kb_check_ladder_6
  have G__law_times := ok__law_times (P := l.prog) (w := w) (tcK := (tabL K [])) (mg := mg) (base := base) F__law_times m_tuple
  have G__law_wider := ok__law_wider (P := l.prog) (w := w) (tcK := (tabL K [])) (mg := mg) (base := base) F__law_wider 
  have G_want_shares := ok_want_shares (P := l.prog) (w := w) (tcK := (tabL K [])) (mg := mg) (base := base) F_want_shares g_MOST_CUPS F_is_count b_is_count G_is_count g_is_count F_is_from b_is_from G_is_from g_is_from
  have G_even := ok_even (P := l.prog) (w := w) (tcK := (tabL K [])) (mg := mg) (base := base) F_even m_divmod F_want_shares b_want_shares G_want_shares g_want_shares
  have G_evening_out := ok_evening_out (P := l.prog) (w := w) (tcK := (tabL K [])) (mg := mg) (base := base) F_evening_out m_len m_sum m_tuple m_zip F_even b_even G_even g_even
  have G_ladder := ok_ladder (P := l.prog) (w := w) (tcK := (tabL K [])) (mg := mg) (base := base) F_ladder m_min m_range g_MOST_BEATS F_evening_out b_evening_out G_evening_out g_evening_out F_want_count b_want_count G_want_count g_want_count F_want_fullest b_want_fullest G_want_fullest g_want_fullest F_want_sizes b_want_sizes G_want_sizes g_want_sizes F_what_stays b_what_stays G_what_stays g_what_stays
  have G_top := ok_top (P := l.prog) (w := w) (tcK := (tabL K [])) (mg := mg) (base := base) F_top m_divmod m_min F_is_from b_is_from G_is_from g_is_from F_want_shares b_want_shares G_want_shares g_want_shares
  have G_least_of := ok_least_of (P := l.prog) (w := w) (tcK := (tabL K [])) (mg := mg) (base := base) F_least_of m_min F_top b_top G_top g_top
  have G_next_row := ok_next_row (P := l.prog) (w := w) (tcK := (tabL K [])) (mg := mg) (base := base) F_next_row m_range F_least_of b_least_of G_least_of g_least_of
  have G_row_at := ok_row_at (P := l.prog) (w := w) (tcK := (tabL K [])) (mg := mg) (base := base) F_row_at F_next_row b_next_row G_next_row g_next_row
  have G_most := ok_most (P := l.prog) (w := w) (tcK := (tabL K [])) (mg := mg) (base := base) F_most F_row_at b_row_at G_row_at g_row_at F_want_count b_want_count G_want_count g_want_count F_want_fullest b_want_fullest G_want_fullest g_want_fullest F_want_sizes b_want_sizes G_want_sizes g_want_sizes
  have G__law_right := ok__law_right (P := l.prog) (w := w) (tcK := (tabL K [])) (mg := mg) (base := base) F__law_right m_max m_range m_tuple F__law_is_let b__law_is_let G__law_is_let g__law_is_let F__law_take b__law_take G__law_take g__law_take F__law_times b__law_times G__law_times g__law_times F__law_wider b__law_wider G__law_wider g__law_wider F_check_ladder G_check_ladder g_check_ladder F_ladder b_ladder G_ladder g_ladder F_most b_most G_most g_most kb_check_ladder_6_start
  have G__law_source := ok__law_source (P := l.prog) (w := w) (tcK := (tabL K [])) (mg := mg) (base := base) F__law_source 
  have G_law := ok_law (P := l.prog) (w := w) (tcK := (tabL K [])) (mg := mg) (base := base) F_law F__law_house b__law_house G__law_house g__law_house F__law_right b__law_right G__law_right g__law_right F__law_source b__law_source G__law_source g__law_source F__law_take b__law_take G__law_take g__law_take
  exact G_law
end Gk
open PySem PySem.W PyProof.Rows
set_option maxRecDepth 100000 in
set_option maxHeartbeats 0 in
theorem PySem.Challenge.cw_cupkeep_k57_whole_ladders_made_of_ladder_holds : PySem.Challenge.rw_cupkeep_k57_whole_ladders_made_of_ladder.Holds := by
  w_on; o_law; k_head; (case hw => w_witness2)
  k_fill
  refine DL.law_walkG (f := Gk.d_law) (k := 10) (x := "_law_script") (l := PySem.Challenge.rw_cupkeep_k57_whole_ladders_made_of_ladder) Gk.law_true rfl rfl ⟨⟨rfl, by decide, by decide⟩, rfl⟩ (fun w h Y => PySem.W.kIn_of Y) ?F
  case F =>
    intro w mg fa h Y KX G hmg
    refine' Gk.all_mk KX G hmg ?a0 ?l0 ?c0 ?k0 ?a1 ?l1 ?c1 ?k1 ?a2 ?l2 ?c2 ?k2 ?a3 ?l3 ?c3 ?k3 ?a4 ?l4 ?c4 ?k4 ?a5 ?l5 ?c5 ?k5 ?a6 ?l6 ?c6 ?k6 ?a7 ?l7 ?c7 ?k7 ?a8 ?l8 ?c8 ?k8 ?a9 ?l9 ?c9 ?k9 ?a10 ?l10 ?c10 ?k10 ?a11 ?l11 ?c11 ?k11 ?a12 ?l12 ?c12 ?k12 ?a13 ?l13 ?c13 ?k13 ?a14 ?l14 ?c14 ?k14 ?a15 ?l15 ?c15 ?k15 ?a16 ?l16 ?c16 ?k16 ?a17 ?l17 ?c17 ?k17 ?a18 ?l18 ?c18 ?k18 ?a19 ?l19 ?c19 ?k19 ?kd19 ?a20 ?l20 ?c20 ?k20 ?a21 ?l21 ?c21 ?k21 ?a22 ?l22 ?c22 ?k22 ?a23 ?l23 ?c23 ?k23 ?a24 ?l24 ?c24 ?k24 ?a25 ?l25 ?c25 ?k25 ?a26 ?l26 ?c26 ?k26 ?a27 ?l27 ?c27 ?k27 ?a28 ?l28 ?c28 ?k28 ?a29 ?l29 ?c29 ?k29 ?a30 ?l30 ?c30 ?k30 ?a31 ?l31 ?c31 ?k31 ?a32 ?l32 ?c32 ?k32 ?a33 ?l33 ?c33 ?k33 ?a34 ?l34 ?c34 ?k34 ?z_all ?z_bool ?z_divmod ?z_enumerate ?z_int ?z_isinstance ?z_len ?z_list ?z_max ?z_min ?z_range ?z_sorted ?z_sum ?z_tuple ?z_zip ?y_MOST_BEATS ?y_MOST_CUPS
    (case a0 => k_is)
    (case l0 => k_is)
    (case c0 => k_is)
    (case k0 => k_is)
    (case a1 => k_is)
    (case l1 => k_is)
    (case c1 => k_is)
    (case k1 => k_is)
    (case a2 => k_is)
    (case l2 => k_is)
    (case c2 => k_is)
    (case k2 => k_is)
    (case a3 => k_is)
    (case l3 => k_is)
    (case c3 => k_is)
    (case k3 => k_is)
    (case a4 => k_is)
    (case l4 => k_is)
    (case c4 => k_is)
    (case k4 => k_is)
    (case a5 => k_is)
    (case l5 => k_is)
    (case c5 => k_is)
    (case k5 => k_is)
    (case a6 => k_is)
    (case l6 => k_is)
    (case c6 => k_is)
    (case k6 => k_is)
    (case a7 => k_is)
    (case l7 => k_is)
    (case c7 => k_is)
    (case k7 => k_is)
    (case a8 => k_is)
    (case l8 => k_is)
    (case c8 => k_is)
    (case k8 => k_is)
    (case a9 => k_is)
    (case l9 => k_is)
    (case c9 => k_is)
    (case k9 => k_is)
    (case a10 => k_is)
    (case l10 => k_is)
    (case c10 => k_is)
    (case k10 => k_is)
    (case a11 => k_is)
    (case l11 => k_is)
    (case c11 => k_is)
    (case k11 => k_is)
    (case a12 => k_is)
    (case l12 => k_is)
    (case c12 => k_is)
    (case k12 => k_is)
    (case a13 => k_is)
    (case l13 => k_is)
    (case c13 => k_is)
    (case k13 => k_is)
    (case a14 => k_is)
    (case l14 => k_is)
    (case c14 => k_is)
    (case k14 => k_is)
    (case a15 => k_is)
    (case l15 => k_is)
    (case c15 => k_is)
    (case k15 => k_is)
    (case a16 => k_is)
    (case l16 => k_is)
    (case c16 => k_is)
    (case k16 => k_is)
    (case a17 => k_is)
    (case l17 => k_is)
    (case c17 => k_is)
    (case k17 => k_is)
    (case a18 => k_is)
    (case l18 => k_is)
    (case c18 => k_is)
    (case k18 => k_is)
    (case a19 => k_is)
    (case l19 => k_is)
    (case c19 => k_is)
    (case k19 => k_is)
    (case kd19 => k_is)
    (case a20 => k_is)
    (case l20 => k_is)
    (case c20 => k_is)
    (case k20 => k_is)
    (case a21 => k_is)
    (case l21 => k_is)
    (case c21 => k_is)
    (case k21 => k_is)
    (case a22 => k_is)
    (case l22 => k_is)
    (case c22 => k_is)
    (case k22 => k_is)
    (case a23 => k_is)
    (case l23 => k_is)
    (case c23 => k_is)
    (case k23 => k_is)
    (case a24 => k_is)
    (case l24 => k_is)
    (case c24 => k_is)
    (case k24 => k_is)
    (case a25 => k_is)
    (case l25 => k_is)
    (case c25 => k_is)
    (case k25 => k_is)
    (case a26 => k_is)
    (case l26 => k_is)
    (case c26 => k_is)
    (case k26 => k_is)
    (case a27 => k_is)
    (case l27 => k_is)
    (case c27 => k_is)
    (case k27 => k_is)
    (case a28 => k_is)
    (case l28 => k_is)
    (case c28 => k_is)
    (case k28 => k_is)
    (case a29 => k_is)
    (case l29 => k_is)
    (case c29 => k_is)
    (case k29 => k_is)
    (case a30 => k_is)
    (case l30 => k_is)
    (case c30 => k_is)
    (case k30 => k_is)
    (case a31 => k_is)
    (case l31 => k_is)
    (case c31 => k_is)
    (case k31 => k_is)
    (case a32 => k_is)
    (case l32 => k_is)
    (case c32 => k_is)
    (case k32 => k_is)
    (case a33 => k_is)
    (case l33 => k_is)
    (case c33 => k_is)
    (case k33 => k_is)
    (case a34 => k_is)
    (case l34 => k_is)
    (case c34 => k_is)
    (case k34 => k_is)
    (case z_all => k_is)
    (case z_bool => k_is)
    (case z_divmod => k_is)
    (case z_enumerate => k_is)
    (case z_int => k_is)
    (case z_isinstance => k_is)
    (case z_len => k_is)
    (case z_list => k_is)
    (case z_max => k_is)
    (case z_min => k_is)
    (case z_range => k_is)
    (case z_sorted => k_is)
    (case z_sum => k_is)
    (case z_tuple => k_is)
    (case z_zip => k_is)
    (case y_MOST_BEATS => k_is)
    (case y_MOST_CUPS => k_is)

