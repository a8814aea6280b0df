import PyProof.Rows.All
import Wide.All
import OpenK.AllK
import Wide.FinOn
import HandS.ForMost
import HandS.EndTab
import HandS.HeadHook4
import HandS.HeadWalk
import HandS.Codes
import HandS.ExcField
import HandS.ClsMeth
import KE.KExcInit
import HandS.Defaults
import HandS.Head0
import HandS.Head1
import HandS.Head2
import HandS.HeadEnd
import HandS.HeadHook1
import HandS.HeadHook2
import HandS.Lambda
import HandS.Zip
import HandS.Star
import HandS.Walk
import HandS.Wide
import HandS.IsInst
import HandS.TupAny
import HandS.TupMul
import HandS.Style
import KE.DataAny
import KE.KUnpackStar
import HandS.SortKw
import HandS.MakeKwOnly
import HandS.Strs
import HandS.SetFor
import KE.DataMinMax
import HandS.Nested
import HandS.ExcOwn
import HandS.Iter
import HandS.Conv
import HandS.TryOnly
import HandS.RaiseMore
import HandS.TryMany
import PyProof.CallFns
import PyProof.NeKinds
import HandS.ExcInit
import PyProof.ExcBaseAll.LookupError
import PyProof.ReprRoads
import HandS.CallLocal
import PySem.Challenge.RW_countwide_k81_refusals_of_bounds
set_option Elab.async false
set_option linter.all false
set_option maxRecDepth 100000
set_option maxHeartbeats 2000000
/-! RFg: what is told of classes over LookupError; a law's end where no repr is under way at its call. -/
namespace RF
open PySem PySem.Spec PyProof.Rows L2
def lkB : List Value := [.type "LookupError", .type "Exception", .type "BaseException", .type "object"]
/-- what the written part says of such a class -/
structure LkC (K : PySem.W.Frag) (C : Addr) : Prop where
  ini : PySem.W.excInitIn K C lkB "LookupError.__new__" = true
  ovr : PySem.W.excOver K C lkB = true
  hdC : PySem.W.hasDictIn K C = true
  sa : PySem.W.findIn K (.ref C) "__setattr__" = some (some (.builtin "object.__setattr__"))
  exC : PySem.W.subIn K (.ref C) (.type "BaseException") = some true
  tyC : PySem.W.typeIn K (.ref C) = some (.type "type")
  kC : PySem.W.keepIn K (.ref C) = true
def lkCB (K : PySem.W.Frag) (C : Addr) : Bool := (PySem.W.excInitIn K C lkB "LookupError.__new__" && PySem.W.excOver K C lkB) && ((PySem.W.hasDictIn K C && decide (PySem.W.findIn K (.ref C) "__setattr__" = some (some (.builtin "object.__setattr__")))) &&
  ((decide (PySem.W.subIn K (.ref C) (.type "BaseException") = some true) && decide (PySem.W.typeIn K (.ref C) = some (.type "type"))) && PySem.W.keepIn K (.ref C)))
theorem lkCB_ok {K : PySem.W.Frag} {C : Addr} (h : lkCB K C = true) : LkC K C := by
  simp only [lkCB, Bool.and_eq_true, decide_eq_true_eq] at h
  exact ⟨h.1.1, h.1.2, h.2.1.1, h.2.1.2, h.2.2.1.1, h.2.2.1.2, h.2.2.2⟩
/-- B.__init__(self, ..), B an own class over LookupError -/
structure LkB (K : PySem.W.Frag) (B : Addr) : Prop where
  rd : PySem.W.readsIn K B (.type "type") = true
  ga : PySem.W.specialIn K (.ref B) "__getattribute__" = some (some (.builtin "type.__getattribute__"))
  at_ : PySem.W.findCls K (.ref B) (.type "type") "__init__" = some (.val (.builtin "LookupError.__init__"))
def lkBB (K : PySem.W.Frag) (B : Addr) : Bool := PySem.W.readsIn K B (.type "type") && (decide (PySem.W.specialIn K (.ref B) "__getattribute__" = some (some (.builtin "type.__getattribute__"))) && (match PySem.W.findCls K (.ref B) (.type "type") "__init__" with
  | some (.val (.builtin z)) => decide (z = "LookupError.__init__")
  | _ => false))
theorem lkBB_ok {K : PySem.W.Frag} {B : Addr} (h : lkBB K B = true) : LkB K B := by
  simp only [lkBB, Bool.and_eq_true, decide_eq_true_eq] at h
  refine ⟨h.1, h.2.1, ?_⟩
  have h3 := h.2.2
  split at h3
  · rename_i z q
    rw [of_decide_eq_true h3] at q
    exact q
  · cases h3
/-- a class that keeps a thing: its name, the field, its base -/
structure KpF (K : PySem.W.Frag) (c f b : Str) : Prop where
  ck : LkC K (He.ga K c)
  tk : PySem.W.takerIn K (He.ga K c) f = some none
  xf : XfC K (He.ga K c)
  no : PySem.W.findIn K (.ref (He.ga K c)) f = some none
  lb : LkB K (He.ga K b)
  ini : PySem.W.findIn K (.ref (He.ga K c)) "__init__" = some (some (.ref (He.ma K (He.ga K c) "__init__")))
  ti : PySem.W.typeIn K (.ref (He.ma K (He.ga K c) "__init__")) = some (.type "function")
def kpB (K : PySem.W.Frag) (c f b : Str) : Bool := (lkCB K (He.ga K c) && decide (PySem.W.takerIn K (He.ga K c) f = some none)) && ((xfB K (He.ga K c) && decide (PySem.W.findIn K (.ref (He.ga K c)) f = some none)) && (lkBB K (He.ga K b) &&
  (decide (PySem.W.findIn K (.ref (He.ga K c)) "__init__" = some (some (.ref (He.ma K (He.ga K c) "__init__")))) && decide (PySem.W.typeIn K (.ref (He.ma K (He.ga K c) "__init__")) = some (.type "function")))))
theorem kpB_ok {K : PySem.W.Frag} {c f b : Str} (h : kpB K c f b = true) : KpF K c f b := by
  simp only [kpB, Bool.and_eq_true, decide_eq_true_eq] at h
  exact ⟨lkCB_ok h.1.1, h.1.2, xfB_ok h.2.1.1, h.2.1.2, lkBB_ok h.2.2.1, h.2.2.2.1, h.2.2.2.2⟩
/-- a statement of a class's body -/
def clsS : Stmt → Nat → Stmt
  | .ClassDef _ _ _ body _ _ _ _ _ _ _, j => body.getD j (.Pass ⟨0, 0, 0, 0⟩)
  | s, _ => s
/-- at the law's call: the script alone (where the text does not hold it) and the tables are tracked -/
def hp0 (K : PySem.W.Frag) (vs : List Value) (ns : List Int) (a : Addr) (ts : List Addr) : Hp := fun b =>
  if b = a ∧ K.lookup a = none then some (.frz { cls := .type "list", data := .seq vs.toArray } (.lst (ns.map V.int))) else if b ∈ ts then some (.tbl #[]) else none
def scrO (vs : List Value) : Obj := { cls := .type "list", data := .seq vs.toArray }
def tabO (more : Array Value) : Obj := { cls := .none, data := .fields more }
section
variable {P : Program} {w : World} {K : PySem.W.Frag} {mg mb : Str → Option Value} {fa a : Addr} {cs : List (Addr × Addr)} {s1 : Shared} {vs : List Value} {ns : List Int}
theorem hp0_cases {ts : List Addr} {b : Addr} : (hp0 K vs ns a ts b = some (.frz (scrO vs) (.lst (ns.map V.int))) ∧ b = a ∧ K.lookup a = none) ∨ (hp0 K vs ns a ts b = some (.tbl #[]) ∧ b ∈ ts) ∨ (hp0 K vs ns a ts b = none ∧ b ∉ ts ∧ ¬ (b = a ∧ K.lookup a = none)) := by
  by_cases h : b = a ∧ K.lookup a = none
  · exact .inl ⟨if_pos h, h⟩
  · by_cases h2 : b ∈ ts
    · exact .inr (.inl ⟨(if_neg h).trans (if_pos h2), h2⟩)
    · exact .inr (.inr ⟨(if_neg h).trans (if_neg h2), h2, h⟩)
theorem law_endG (KX : K.In s1.heap) (G : s1.heap.Ns mainGlobals mg) (B : s1.heap.Ns builtinsNs mb) (bb : ∀ x : Str, x ≠ "__name__" → mb x = bootBuiltins x) (nl : s1.heap.NoLimit) (gn : s1.gens = #[])
    (hT : ∀ p ∈ cs, s1.heap.get? p.2 = some (tabO #[])) (nT : ∀ p ∈ cs, K.lookup p.2 = none) (C : ∀ p ∈ cs, PySem.W.CodeHd s1.heap p.1 p.2)
    (bm : ∃ (m : Addr) (om : Obj), mg "__builtins__" = some (.ref m) ∧ m ≠ builtinsNs ∧ s1.heap.get? m = some om ∧ om.cls = .type "module" ∧ om.dict = some builtinsNs ∧ om.data = .plain)
    (ha : s1.heap.get? a = some (scrO vs)) (hi : IntsAre vs ns) (hl : ns.length ≤ sizeLine)
    (run : ∀ (base : Heap) (H : Hp), K.In base → base.Ns mainGlobals mg → (∀ p ∈ cs, LamX.TabB base mg p.1 p.2) → (∀ p ∈ cs, H p.2 = some (.tbl #[])) → SqL K H a (ns.map V.int) → Env0 P w K mg base callerA [] s1 H →
      codeAny (model P w) callerA (.call (.ref fa) ⟨[.ref a], []⟩) (CR C8.CX0 [] P w H s1 (fun v _ => v = .bl true) fun _ _ _ => False) s1) :
    codeAny (model P w) callerA (.call (.ref fa) ⟨[.ref a], []⟩) (fun r s2 => r = .ok (.ret (.bool true)) ∧ OldK s1.heap s2.heap ∧ s2.os = s1.os ∧ AllBare s2.gens) s1 := by
  have rv := vals_ints hi
  have lv := hi.length
  generalize ets : cs.map (·.2) = ts
  have inT : ∀ p ∈ cs, p.2 ∈ ts := fun p hp => by rw [← ets]; exact List.mem_map.mpr ⟨p, hp, rfl⟩
  have atT : ∀ b ∈ ts, s1.heap.get? b = some (tabO #[]) ∧ K.lookup b = none := fun b hb => by
    rw [← ets] at hb
    obtain ⟨p, hp, e⟩ := List.mem_map.mp hb
    rw [← e]
    exact ⟨hT p hp, nT p hp⟩
  have naT : a ∉ ts := fun z => by
    have q := ((atT a z).1.symm.trans ha)
    have q2 : Data.fields #[] = Data.seq vs.toArray _ := congrArg Obj.data (Option.some.inj q)
    cases q2
  -- what stands where something is tracked
  have trk : ∀ b, hp0 K vs ns a ts b ≠ none → ∃ o, s1.heap.get? b = some o ∧ K.lookup b = none ∧ ((∃ its n, o.data = .seq its n) ∨ o.data = .fields #[]) := fun b hb => by
    rcases hp0_cases (K := K) (vs := vs) (ns := ns) (a := a) (ts := ts) (b := b) with ⟨_, rfl, h⟩ | ⟨_, h⟩ | ⟨h, _⟩
    · exact ⟨_, ha, h, .inl ⟨_, _, rfl⟩⟩
    · exact ⟨_, (atT b h).1, (atT b h).2, .inr rfl⟩
    · exact absurd h hb
  have fr : ∀ {b : Addr} {o : Obj}, s1.heap.get? b = some o → (∀ its n, o.data ≠ .seq its n) → o.data ≠ .fields #[] → (hidT s1.heap (hp0 K vs ns a ts)).get? b = some o := fun {b o} e n1 n2 => by
    refine hidT_get e ?_
    cases q : hp0 K vs ns a ts b with
    | none => rfl
    | some u =>
      obtain ⟨o2, e2, _, h⟩ := trk b (by rw [q]; simp)
      rw [e] at e2
      cases e2
      rcases h with ⟨its, n, h⟩ | h
      · exact (n1 its n h).elim
      · exact (n2 h).elim
  have nsB : ∀ {b : Addr} {m : Str → Option Value}, s1.heap.Ns b m → (hidT s1.heap (hp0 K vs ns a ts)).Ns b m := fun {b m} ⟨o, es, ep, e, d, r⟩ =>
    ⟨o, es, ep, fr e (fun its n z => by rw [d] at z; cases z) (fun z => by rw [d] at z; cases z), d, r⟩
  have KB : K.In (hidT s1.heap (hp0 K vs ns a ts)) := fun b o e => hidT_get (KX b o e) (by
    cases q : hp0 K vs ns a ts b with
    | none => rfl
    | some u =>
      obtain ⟨_, _, h, _⟩ := trk b (by rw [q]; simp)
      rw [h] at e
      cases e)
  have md : L2.Mod K mg (hidT s1.heap (hp0 K vs ns a ts)) := ⟨KB, nsB G, ⟨mb, nsB B, bb⟩, by obtain ⟨mc, l1, l2⟩ := nl; exact ⟨mc, nsB l1, l2⟩⟩
  have notG : ∀ {b : Addr} {o : Obj}, s1.heap.get? b = some o → (∀ es n, o.data ≠ .dict es n) → b ≠ mainGlobals := fun {b o} e n z => by
    obtain ⟨og, es, ep, eg, dg, _⟩ := G
    rw [z, eg] at e
    cases e
    exact n es ep dg
  have TB : ∀ p ∈ cs, LamX.TabB (hidT s1.heap (hp0 K vs ns a ts)) mg p.1 p.2 := fun p hp => by
    have tp := hT p hp
    refine ⟨?_, ?_, fun z => notG tp (fun es n q => by cases q) z.symm⟩
    · obtain ⟨o, us, file, tf, flags, tg, inF, text, tt, c1, c2, c3, c4, rest⟩ := C p hp
      refine ⟨o, us, file, tf, flags, tg, inF, text, tt, fr c1 (fun its n z => by rw [c3] at z; cases z) (fun z => ?_), c2, c3, c4, rest⟩
      rw [c3] at z
      cases z
      simp at c4
    · obtain ⟨m, om, b1, b2, b3, b4, b5, b6⟩ := bm
      refine ⟨m, om, b1, b2, notG b3 (fun es n z => by rw [b6] at z; cases z), fun z => ?_, fr b3 (fun its n z => by rw [b6] at z; cases z) (fun z => by rw [b6] at z; cases z), b4, b5, b6⟩
      rw [z, tp] at b3
      cases b3
      cases b6
  have ok : HOk P w (hp0 K vs ns a ts) s1.heap := fun b u z => by
    rcases hp0_cases (K := K) (vs := vs) (ns := ns) (a := a) (ts := ts) (b := b) with ⟨h, rfl, _⟩ | ⟨h, hb⟩ | ⟨h, _⟩
    · rw [h] at z
      cases z
      exact ⟨ha, by rw [List.length_map]; exact hl, vs, _, rv, ha⟩
    · rw [h] at z
      cases z
      exact (atT b hb).1
    · rw [h] at z
      cases z
  have sq : SqL K (hp0 K vs ns a ts) a (ns.map V.int) := by
    cases hk : K.lookup a with
    | none => exact .inl (.inr ⟨scrO vs, if_pos ⟨rfl, hk⟩⟩)
    | some o =>
      have e := KX a o hk
      rw [ha] at e
      cases e
      exact .inr ⟨_, vs.toArray, _, hk, rfl, rfl, rfl, by rw [List.size_toArray, lv]; exact hl, by simpa using rv⟩
  have tH : ∀ b ∈ ts, hp0 K vs ns a ts b = some (.tbl #[]) := fun b hb => (if_neg fun (z : b = a ∧ K.lookup a = none) => naT (by rw [← z.1]; exact hb)).trans (if_pos hb)
  have e0 : Env0 P w K mg (hidT s1.heap (hp0 K vs ns a ts)) callerA [] s1 (hp0 K vs ns a ts) := ⟨rfl, md, fun b o e => of_hidT e, Nat.le_of_eq (hidT_size _ _), trivial, fun b hb => (List.not_mem_nil (show b ∈ ([] : List Addr) from hb)).elim, ok, .of_eq gn⟩
  refine codeAny_mono (run _ _ KB (nsB G) TB (fun p hp => tH _ (inT p hp)) sq e0) fun r s2 h => ?_
  cases r with
  | error e => exact False.elim h
  | ok fl => cases fl with
  | ret u =>
    obtain ⟨v, H2, os, bare, un, ok2, ru, q⟩ := h
    cases (show v = V.bl true from q)
    obtain rfl : u = Value.bool true := ru
    have keep : ∀ b o, b ∉ ts → s1.heap.get? b = some o → s2.heap.get? b = some o := fun b o nb e => by
      rcases hp0_cases (K := K) (vs := vs) (ns := ns) (a := a) (ts := ts) (b := b) with ⟨h, rfl, _⟩ | ⟨_, hb⟩ | ⟨h, _⟩
      · obtain ⟨e1, _⟩ := ok2 b _ (un.frzs b _ _ h)
        rw [ha] at e
        cases e
        exact e1
      · exact absurd hb nb
      · exact un.keep b o e h (List.not_mem_nil (a := b)) (by simp)
    have grow : ∀ b ∈ ts, ∃ more : Array Value, s2.heap.get? b = some (tabO more) := fun b hb => by
      obtain ⟨more, z⟩ := un.tbls b #[] (tH b hb)
      exact ⟨_, ok2 b _ z⟩
    refine ⟨rfl, ⟨fun b o e => ?_, fun b o e => ?_⟩, os, bare⟩
    · by_cases hb : b ∈ ts
      · obtain ⟨more, hm⟩ := grow b hb
        have e1 := (atT b hb).1
        rw [← ets] at hb
        obtain ⟨p, hp, ep⟩ := List.mem_map.mp hb
        subst ep
        rw [e1] at e
        cases e
        exact .inr (.inl ⟨((C p hp).tab (hT p hp)).isCodeTable, rfl, #[], more, rfl, by rw [Array.empty_append]; exact hm⟩)
      · exact .inl (keep b o hb e)
    · by_cases hb : b ∈ ts
      · obtain ⟨more, hm⟩ := grow b hb
        exact ⟨_, hm⟩
      · exact ⟨o, keep b o hb e⟩
  | _ => exact False.elim h
end
/-- the walk's end -/
theorem walk_endG {l : PySem.W.OpenLaw} {n : Nat} {q : Program} {loose : List Str} {XP : (Str → Option Value) → Heap → Prop} {YP : World → Heap → Prop} {d : DefRec}
    (hn : l.most = some n) (hn2 : n ≤ sizeLine) (hdf : d.params.defaults = [])
    (F : ∀ (w : World) (mg : Str → Option Value) (fa : Addr) (h : Heap), YP w h → h.Ns mainGlobals mg → mg d.name = some (.ref fa) → ∃ (K : PySem.W.Frag) (cs : List (Addr × Addr)), K.In h ∧ (∀ p ∈ cs, h.get? p.2 = some (tabO #[])) ∧ (∀ p ∈ cs, K.lookup p.2 = none) ∧ (∀ p ∈ cs, PySem.W.CodeHd h p.1 p.2) ∧
      ∀ (base : Heap) (H : Hp) (s1 : Shared) (a : Addr) (ns : List Int), ns.length ≤ n → K.In base → base.Ns mainGlobals mg → (∀ p ∈ cs, LamX.TabB base mg p.1 p.2) → (∀ p ∈ cs, H p.2 = some (.tbl #[])) → SqL K H a (ns.map V.int) → Env0 l.prog w K mg base callerA [] s1 H →
        codeAny (model l.prog w) callerA (.call (.ref fa) ⟨[.ref a], []⟩) (CR C8.CX0 [] l.prog w H s1 (fun v _ => v = .bl true) fun _ _ _ => False) s1) :
    PySem.W.WalkO q loose XP YP l.row.toRowW d [] (fun f vs => PySem.call f vs) := by
  refine Att.attach_callB hn hdf fun w s0 s1 mg mb fa o pm cd doc a vs ns G Y ho hd hcd hmg hobj hints hlen hbits hg => ?_
  obtain ⟨K, cs, KX, hT, nT, C, run⟩ := F w mg fa _ Y G.T.g hmg
  exact law_endG KX G.T.g G.T.b G.T.builtins G.T.nolimit hg hT nT C G.T.bmain hobj hints (Nat.le_trans hlen hn2) fun base H k1 k2 k3 k4 k5 k6 => run base H s1 a ns hlen k1 k2 k3 k4 k5 k6
/-! ### a hook that reads the statics too -/
def asC (g : Addr → Option Obj) (n : Nat) : List Addr := He.asD g n ++ [cStatics]
def frC (g : Addr → Option Obj) (n : Nat) : PySem.W.Frag := He.frT g (asC g n)
def obsC (n : Nat) (fa : List He.Fa) (fn : List He.DefD) (tf : List He.Defn) (ex : PySem.W.Frag → Bool) (g : Addr → Option Obj) : He.AlX := (He.obsT fa fn [] (frC g n), ex (frC g n) && He.tabsB g tf (frC g n))
theorem saysC_of {n : Nat} {fa : List He.Fa} {fn : List He.DefD} {tf : List He.Defn} {ex : PySem.W.Frag → Bool} {w : World} {h : Heap} (e : obsC n fa fn tf ex h.get? = He.valX fn [] w) : He.SaysX fa fn [] tf ex w h (frC h.get? n) := by
  have h1 := congrArg Prod.fst e
  have h2 : (ex (frC h.get? n) && He.tabsB h.get? tf (frC h.get? n)) = true := congrArg Prod.snd e
  rw [Bool.and_eq_true] at h2
  have one : ∀ p ∈ tf, PySem.W.codeHdIn (frC h.get? n) (He.cT (frC h.get? n) p).1 (He.cT (frC h.get? n) p).2 = true ∧ ∃ o, h.get? (He.cT (frC h.get? n) p).2 = some o ∧ He.emptyTab o = true := fun p hp => by
    have z := List.all_eq_true.mp h2.2 p hp
    rw [Bool.and_eq_true] at z
    refine ⟨z.1, ?_⟩
    have z2 := z.2
    split at z2
    · rename_i o q; exact ⟨o, q, z2⟩
    · cases z2
  refine ⟨h1, h2.1, fun p hp => (one p hp).1, fun p hp => ?_, fun p hp => ?_⟩
  · obtain ⟨o, q, z⟩ := (one p hp).2
    exact He.frT_none q z
  · obtain ⟨o, q, z⟩ := (one p hp).2
    rw [q, He.emptyTab_eq z]
def hookC (n : Nat) (fa : List He.Fa) (fn : List He.DefD) (tf : List He.Defn) (ex : PySem.W.Frag → Bool) : PySem.W.Hook where
  α := He.AlX
  obs := fun s => obsC n fa fn tf ex s.heap.get?
  val := fun w => He.valX fn [] w
  says := fun w h => ∃ K : PySem.W.Frag, K.In h ∧ He.SaysX fa fn [] tf ex w h K
  of := fun _ _ e => ⟨_, He.frT_in, saysC_of e⟩
  keeps := fun _ _ _ ⟨K, hK, c⟩ k => ⟨K, hK.keeps k, ⟨c.t, c.more, c.hd, c.out, fun p hp => k _ _ (c.empty p hp)⟩⟩
theorem obsC_eq {n : Nat} {fa : List He.Fa} {fn : List He.DefD} {tf : List He.Defn} {ex : PySem.W.Frag → Bool} {g : Addr → Option Obj} {s : Shared} (h : ∀ a, g a = s.heap.get? a) : obsC n fa fn tf ex g = (hookC n fa fn tf ex).obs s := by
  rw [show g = s.heap.get? from funext h] <;> rfl
end RF
set_option maxHeartbeats 4000000
namespace G
open PySem PySem.Spec PyProof.Rows L2
def top (i : Nat) : Stmt := PySem.Challenge.pw_countwide_k81_refusals_of_bounds.main.body.getD i (.Pass ⟨0, 0, 0, 0⟩)
abbrev dPl (x : Str) (st : Stmt) : He.DefD := ⟨(x, none), x, x, C8.fnArgs st, C8.fnBody st, C8.fnScope st, [], []⟩
abbrev s__law_crock : Stmt := top 61
def d__law_crock : He.DefD := dPl "_law_crock" s__law_crock
abbrev s_is_whole : Stmt := top 7
def d_is_whole : He.DefD := ⟨("is_whole", none), "is_whole", "is_whole", C8.fnArgs s_is_whole, C8.fnBody s_is_whole, C8.fnScope s_is_whole, [], [("least", .non), ("most", .non)]⟩
abbrev s_need_things : Stmt := top 41
def d_need_things : He.DefD := dPl "need_things" s_need_things
abbrev s_are_sets : Stmt := top 33
def d_are_sets : He.DefD := dPl "are_sets" s_are_sets
abbrev s_need_sets : Stmt := top 42
def d_need_sets : He.DefD := dPl "need_sets" s_need_sets
abbrev s_out_of : Stmt := top 26
def d_out_of : He.DefD := dPl "out_of" s_out_of
abbrev s_sums_in : Stmt := top 29
def d_sums_in : He.DefD := dPl "sums_in" s_sums_in
abbrev s_counts_by : Stmt := top 30
def d_counts_by : He.DefD := dPl "counts_by" s_counts_by
abbrev s_meet_sums : Stmt := top 46
def d_meet_sums : He.DefD := dPl "meet_sums" s_meet_sums
abbrev s__law_ladle : Stmt := top 62
def d__law_ladle : He.DefD := dPl "_law_ladle" s__law_ladle
abbrev s__law_pick_of : Stmt := top 63
def d__law_pick_of : He.DefD := dPl "_law_pick_of" s__law_pick_of
abbrev s_just_counts : Stmt := top 47
def d_just_counts : He.DefD := dPl "just_counts" s_just_counts
abbrev s_need_sums : Stmt := top 43
def d_need_sums : He.DefD := dPl "need_sums" s_need_sums
abbrev s_counts_in : Stmt := top 28
def d_counts_in : He.DefD := dPl "counts_in" s_counts_in
abbrev s_counts_of : Stmt := top 48
def d_counts_of : He.DefD := dPl "counts_of" s_counts_of
abbrev s_sums_of : Stmt := top 49
def d_sums_of : He.DefD := dPl "sums_of" s_sums_of
abbrev s_sums_told : Stmt := top 32
def d_sums_told : He.DefD := dPl "sums_told" s_sums_told
abbrev s_sums_paper : Stmt := top 50
def d_sums_paper : He.DefD := dPl "sums_paper" s_sums_paper
abbrev s_sign_of : Stmt := top 27
def d_sign_of : He.DefD := dPl "sign_of" s_sign_of
abbrev s_ended : Stmt := top 52
def d_ended : He.DefD := dPl "ended" s_ended
abbrev s_at_least : Stmt := top 53
def d_at_least : He.DefD := dPl "at_least" s_at_least
abbrev s_need_numbers : Stmt := top 44
def d_need_numbers : He.DefD := dPl "need_numbers" s_need_numbers
abbrev s_need_weights : Stmt := top 45
def d_need_weights : He.DefD := dPl "need_weights" s_need_weights
abbrev s_together : Stmt := top 15
def d_together : He.DefD := dPl "together" s_together
abbrev s_least_in : Stmt := top 36
def d_least_in : He.DefD := dPl "least_in" s_least_in
abbrev s_least_total : Stmt := top 54
def d_least_total : He.DefD := dPl "least_total" s_least_total
abbrev s_greatest_in : Stmt := top 37
def d_greatest_in : He.DefD := dPl "greatest_in" s_greatest_in
abbrev s_greatest_total : Stmt := top 55
def d_greatest_total : He.DefD := dPl "greatest_total" s_greatest_total
abbrev s_least_paper : Stmt := top 56
def d_least_paper : He.DefD := dPl "least_paper" s_least_paper
abbrev s_greatest_paper : Stmt := top 57
def d_greatest_paper : He.DefD := dPl "greatest_paper" s_greatest_paper
abbrev s_plus : Stmt := top 11
def d_plus : He.DefD := dPl "plus" s_plus
abbrev s_times : Stmt := top 13
def d_times : He.DefD := dPl "times" s_times
abbrev s_lowest : Stmt := top 9
def d_lowest : He.DefD := dPl "lowest" s_lowest
abbrev s_is_fraction : Stmt := top 10
def d_is_fraction : He.DefD := dPl "is_fraction" s_is_fraction
abbrev s_pairs_of : Stmt := top 38
def d_pairs_of : He.DefD := dPl "pairs_of" s_pairs_of
abbrev s_are_weights : Stmt := top 39
def d_are_weights : He.DefD := dPl "are_weights" s_are_weights
abbrev s_is_under : Stmt := top 14
def d_is_under : He.DefD := dPl "is_under" s_is_under
abbrev s_shows_total : Stmt := top 40
def d_shows_total : He.DefD := dPl "shows_total" s_shows_total
abbrev s_is_least_paper : Stmt := top 58
def d_is_least_paper : He.DefD := dPl "is_least_paper" s_is_least_paper
abbrev s_is_greatest_paper : Stmt := top 59
def d_is_greatest_paper : He.DefD := dPl "is_greatest_paper" s_is_greatest_paper
abbrev s__law_met : Stmt := top 64
def d__law_met : He.DefD := dPl "_law_met" s__law_met
abbrev s_shows_sums : Stmt := top 34
def d_shows_sums : He.DefD := dPl "shows_sums" s_shows_sums
abbrev s_is_sums_paper : Stmt := top 51
def d_is_sums_paper : He.DefD := dPl "is_sums_paper" s_is_sums_paper
abbrev s__law_right : Stmt := top 65
def d__law_right : He.DefD := dPl "_law_right" s__law_right
abbrev s_law : Stmt := top 66
def d_law : He.DefD := dPl "law" s_law
abbrev s_NoNumber_init : Stmt := RF.clsS (top 5) 0
def d_NoNumber_init : He.DefD := ⟨("NoNumber", some "__init__"), "__init__", "NoNumber.__init__", C8.fnArgs s_NoNumber_init, C8.fnBody s_NoNumber_init, C8.fnScope s_NoNumber_init, [], []⟩
def fnL_0 : List He.DefD := [d__law_crock, d_is_whole, d_need_things, d_are_sets, d_need_sets, d_out_of, d_sums_in, d_counts_by, d_meet_sums, d__law_ladle, d__law_pick_of, d_just_counts, d_need_sums, d_counts_in, d_counts_of, d_sums_of, d_sums_told, d_sums_paper, d_sign_of, d_ended, d_at_least, d_need_numbers, d_need_weights, d_together, d_least_in, d_least_total, d_greatest_in, d_greatest_total, d_least_paper, d_greatest_paper, d_plus, d_times, d_lowest, d_is_fraction, d_pairs_of, d_are_weights]
def fnL_1 : List He.DefD := [d_is_under, d_shows_total, d_is_least_paper, d_is_greatest_paper, d__law_met, d_shows_sums, d_is_sums_paper, d__law_right, d_law, d_NoNumber_init]
def fnL : List He.DefD := fnL_0 ++ fnL_1
def faL_0 : List He.Fa := [.glo "_law_crock", .glo "is_whole", .glo "need_things", .glo "are_sets", .glo "need_sets", .glo "out_of", .glo "sums_in", .glo "counts_by", .glo "meet_sums", .glo "_law_ladle", .glo "_law_pick_of", .glo "just_counts", .glo "need_sums", .glo "counts_in", .glo "counts_of", .glo "sums_of", .glo "sums_told", .glo "sums_paper", .glo "sign_of", .glo "ended", .glo "at_least", .glo "need_numbers", .glo "need_weights", .glo "together", .glo "least_in", .glo "least_total", .glo "greatest_in", .glo "greatest_total", .glo "least_paper", .glo "greatest_paper", .glo "plus", .glo "times", .glo "lowest", .glo "is_fraction", .glo "pairs_of", .glo "are_weights"]
def faL_1 : List He.Fa := [.glo "is_under", .glo "shows_total", .glo "is_least_paper", .glo "is_greatest_paper", .glo "_law_met", .glo "shows_sums", .glo "is_sums_paper", .glo "_law_right", .glo "law", .free "abs", .free "all", .free "bool", .free "enumerate", .free "int", .free "isinstance", .free "len", .free "list", .free "max", .free "min", .free "range", .free "repr", .free "str", .free "sum", .free "tuple", .free "zip", .str "GREATEST" "greatest", .str "LACK" "lack", .str "LEAST" "least", .int "LONGEST" 1000000000000000000000000000000, .int "MOST_MANY" 12, .int "MOST_SETS" 6, .int "MOST_THINGS" 30, .int "PAPER_SIZE" 3, .str "SETS" "sets", .glo "NoTable", .glo "NoNumber"]
def faL_2 : List He.Fa := [.glo "TooMany", .exc "NoTable", .exm "NoTable" "NoTable" true, .glo "LackError", .exm "NoNumber" "NoNumber" true, .exm "NoNumber" "NoTable" false]
def faL : List He.Fa := faL_0 ++ faL_1 ++ faL_2
def looseL_0 : List Str := [("FoldError" : Str), ("NoTable" : Str), ("TooMany" : Str), ("LackError" : Str), ("NoNumber" : Str), ("is_whole" : Str), ("lowest" : Str), ("is_fraction" : Str), ("plus" : Str), ("less" : Str), ("times" : Str), ("is_under" : Str), ("together" : Str), ("MOST_THINGS" : Str), ("MOST_SETS" : Str), ("MOST_MANY" : Str), ("LONGEST" : Str), ("SETS" : Str), ("LACK" : Str), ("LEAST" : Str), ("GREATEST" : Str), ("PAPER_SIZE" : Str), ("out_of" : Str), ("sign_of" : Str), ("counts_in" : Str), ("sums_in" : Str), ("counts_by" : Str), ("sets_by" : Str), ("sums_told" : Str), ("are_sets" : Str), ("shows_sums" : Str), ("turn_of" : Str), ("least_in" : Str), ("greatest_in" : Str), ("pairs_of" : Str), ("are_weights" : Str)]
def looseL_1 : List Str := [("shows_total" : Str), ("need_things" : Str), ("need_sets" : Str), ("need_sums" : Str), ("need_numbers" : Str), ("need_weights" : Str), ("meet_sums" : Str), ("just_counts" : Str), ("counts_of" : Str), ("sums_of" : Str), ("sums_paper" : Str), ("is_sums_paper" : Str), ("ended" : Str), ("at_least" : Str), ("least_total" : Str), ("greatest_total" : Str), ("least_paper" : Str), ("greatest_paper" : Str), ("is_least_paper" : Str), ("is_greatest_paper" : Str), ("_law_crock" : Str), ("_law_ladle" : Str), ("_law_pick_of" : Str), ("_law_met" : Str), ("_law_right" : Str)]
def looseL : List Str := looseL_0 ++ looseL_1
def tfL : List He.Defn := [("_law_right", none)]
def exL (K : PySem.W.Frag) : Bool := RF.kpB K "NoNumber" "number" "LackError"
abbrev RR : PySem.W.OpenRow := PySem.W.OpenLaw.row PySem.Challenge.rw_countwide_k81_refusals_of_bounds
abbrev hkL : PySem.W.Hook := RF.hookC 4 faL fnL tfL exL
def obL (s : PySem.W.SharedT) : He.AlX := RF.obsC 4 faL fnL tfL exL (HandSHeadRun.getT s)
theorem obL_eq (s : PySem.W.SharedT) : obL s = hkL.obs s.abs := RF.obsC_eq (HandSHeadRun.getT_eq s)
theorem runL (w : World) : HandSHeadRun.RunEq RR (PySem.W.view RR.prog [66]) hkL obL 9000 looseL w := by
  intro os
  kernel_rfl
def LawF : Prop := ∀ (w : World) (mg : Str → Option Value) (fa : Addr) (h : Heap) (K : PySem.W.Frag), K.In h → h.Ns mainGlobals mg → mg ("law" : Str) = some (.ref fa) → He.SaysD faL fnL K → exL K = true →
    ∀ (base : Heap) (H : Hp) (s1 : Shared) (a : Addr) (ns : List Int), ns.length ≤ 63 → K.In base → base.Ns mainGlobals mg → (∀ p ∈ tfL.map (He.cT K), LamX.TabB base mg p.1 p.2) → (∀ p ∈ tfL.map (He.cT K), H p.2 = some (.tbl #[])) → SqL K H a (ns.map V.int) → Env0 (PySem.Challenge.rw_countwide_k81_refusals_of_bounds).prog w K mg base callerA [] s1 H →
      codeAny (model (PySem.Challenge.rw_countwide_k81_refusals_of_bounds).prog w) callerA (.call (.ref fa) ⟨[.ref a], []⟩) (CR C8.CX0 [] (PySem.Challenge.rw_countwide_k81_refusals_of_bounds).prog w H s1 (fun v _ => v = .bl true) fun _ _ _ => False) s1
end G
section
open PySem PySem.W PySem.Calls PyProof.Rows
theorem G.heldL (hF : G.LawF) : PySem.Challenge.rw_countwide_k81_refusals_of_bounds.Holds := by
  w_on; o_law
  refine HandSHeadRun.head_any (r := OpenLaw.row PySem.Challenge.rw_countwide_k81_refusals_of_bounds) (q := view (OpenLaw.row PySem.Challenge.rw_countwide_k81_refusals_of_bounds).prog [66]) (H := G.hkL) (ob := G.obL) (M := 9000) (loose := G.looseL) (d := HandSHeadRun.topDef (OpenLaw.row PySem.Challenge.rw_countwide_k81_refusals_of_bounds).prog 66) (kwd := []) G.obL_eq
    (by kernel_rfl) (fun s => by kernel_rfl) G.runL (by kernel_rfl) (by kernel_rfl) (by kernel_rfl) (by rfl) (by first | assumption | decide +kernel) (by decide +kernel) ⟨rfl, rfl, rfl, rfl, rfl, by decide +kernel⟩ ?hw ?hc
  case hw => w_witness2
  case hc =>
    refine RF.walk_endG (l := PySem.Challenge.rw_countwide_k81_refusals_of_bounds) (n := 63) rfl (by decide) (by kernel_rfl) ?F
    intro w mg fa h Y G0 hmg0
    obtain ⟨K, KX, c⟩ := Y
    have hmg : mg ("law" : PySem.Str) = some (.ref fa) := by
      have e : (HandSHeadRun.topDef (OpenLaw.row PySem.Challenge.rw_countwide_k81_refusals_of_bounds).prog 66).name = ("law" : PySem.Str) := by kernel_rfl
      rw [← e]
      exact hmg0
    have at_ : ∀ p ∈ G.tfL.map (He.cT K), ∃ q ∈ G.tfL, He.cT K q = p := fun p hp => List.mem_map.mp hp
    refine ⟨K, G.tfL.map (He.cT K), KX, fun p hp => ?_, fun p hp => ?_, fun p hp => ?_, hF w mg fa h K KX G0 hmg c.t.d c.more⟩
    · obtain ⟨q, hq, e⟩ := at_ p hp
      rw [← e]; exact c.empty q hq
    · obtain ⟨q, hq, e⟩ := at_ p hp
      rw [← e]; exact c.out q hq
    · obtain ⟨q, hq, e⟩ := at_ p hp
      rw [← e]; exact PySem.W.codeHd_of_K KX (c.hd q hq)
end
/-! RF0: the tables of code objects that this law's defs write. -/
namespace RF
open PySem L2
def TbK (K : PySem.W.Frag) : List (Addr × Str) := [(He.tabOf K (He.codeOf K ("_law_right", none)), ("_law_right.<locals>.<lambda>" : Str))]
end RF
/-! RF1: plain data D, how the abstract heap bears it, the state of a def's slots. -/
namespace RF
open PySem L2
/-- a function made by a lambda: its words, the cells that it captured, its code object -/
structure LF where
  qual : Str
  params : Arguments
  body : Expr
  scope : Scope
  cl : List (Str × Addr)
  c : Addr
  /-- what the captured cells held when it was made -/
  ws : List V
  deriving Inhabited
/-- no table -/
def Nt (o : HO) : Prop := ∀ ps, o ≠ .tbl ps
theorem nt_lst {xs : List V} : Nt (.lst xs) := fun _ z => by cases z
theorem nt_dt {xs : List (List Key × V)} : Nt (.dT xs) := fun _ z => by cases z
/-- a thing of one's own that may be written -/
def Mb (H : Hp) (a : Addr) : Prop := (∃ xs, H a = some (.lst xs)) ∨ ∃ kvs, H a = some (.dT kvs)
theorem Mb.mk {H H' : Hp} {a : Addr} (h : Mb H a) (k : ∀ o, H a = some o → Nt o → H' a = some o) : Mb H' a := h.imp (fun ⟨x, e⟩ => ⟨x, k _ e nt_lst⟩) fun ⟨x, e⟩ => ⟨x, k _ e nt_dt⟩
theorem Mb.none {H : Hp} {a : Addr} (h : Mb H a) : H a ≠ none := fun n => by rcases h with ⟨x, e⟩ | ⟨x, e⟩ <;> (rw [n] at e; cases e)
theorem Mb.ext {H : Hp} {a : Addr} {φ : Heap → Prop} (h : Mb H a) : H a ≠ some (.ext φ) := fun n => by rcases h with ⟨x, e⟩ | ⟨x, e⟩ <;> (rw [n] at e; cases e)
theorem nt_tup {xs : List V} : Nt (.tup xs) := fun _ z => by cases z
theorem nt_dk {xs : List (Key × V)} : Nt (.dK xs) := fun _ z => by cases z
theorem nt_frz {o : Obj} {u : HO} : Nt (.frz o u) := fun _ z => by cases z
theorem nt_ext {φ : Heap → Prop} : Nt (.ext φ) := fun _ z => by cases z
inductive D where
  | non | bl (b : Bool) | int (i : Int) | str (x : Str)
  | tup (xs : List D) | lst (xs : List D) | dct (ks : List Key) (xs : List D) | scr (ns : List Int) | ty (n : String) | fn (f : Addr) (F : LF) (caps : List D) | gl (x : Str)
  deriving Inhabited
/-- the script: locked, an object of the module, a list that nobody writes -/
def ScrAt (K : PySem.W.Frag) (M : Addr → Prop) (H : Hp) (a : Addr) (ns : List Int) : Prop :=
  (H a = some (.lst (ns.map V.int)) ∧ ¬ M a) ∨   (∃ o, H a = some (.frz o (.lst (ns.map V.int)))) ∨
    ∃ (o : Obj) (its : Array Value) (n : Nat), K.lookup a = some o ∧ o.cls = .type "list" ∧ o.dict = none ∧ o.data = .seq its n ∧ its.size ≤ sizeLine ∧ Vals (ns.map V.int) its.toList
theorem ScrAt.seq {K : PySem.W.Frag} {M : Addr → Prop} {H : Hp} {a : Addr} {ns : List Int} (h : ScrAt K M H a ns) : SqL K H a (ns.map V.int) := by
  rcases h with ⟨h, _⟩ | ⟨o, h⟩ | h
  · exact SqL.of h
  · exact .inl (.inr ⟨o, h⟩)
  · exact .inr h
mutual
def Rep (K : PySem.W.Frag) (M : Addr → Prop) (H : Hp) : D → V → Prop
  | .non, v => v = .non
  | .bl b, v => v = .bl b
  | .int i, v => v = .int i
  | .str x, v => v = .str x
  | .tup ds, v => ∃ a vs, v = .ref a ∧ SqT K H a vs ∧ Reps K M H ds vs
  | .lst ds, v => ∃ a vs, v = .ref a ∧ H a = some (.lst vs) ∧ ¬ M a ∧ Reps K M H ds vs
  | .dct ks ds, v => ∃ a kvs, v = .ref a ∧ H a = some (.dK kvs) ∧ ¬ M a ∧ kvs.map (·.1) = ks ∧ Reps K M H ds (kvs.map (·.2))
  | .scr ns, v => ∃ a, v = .ref a ∧ ScrAt K M H a ns
  | .ty n, v => v = .ty n
  | .fn f F ds, v => v = .ref f ∧ H F.c = some (LamX.CodeO F.c F.qual) ∧ ¬ M F.c ∧ Reps K M H ds F.ws
  | .gl x, v => v = .ref (He.ga K x)
def Reps (K : PySem.W.Frag) (M : Addr → Prop) (H : Hp) : List D → List V → Prop
  | [], vs => vs = []
  | d :: ds, vs => ∃ v r, vs = v :: r ∧ Rep K M H d v ∧ Reps K M H ds r
end
/-- from M1, H to M2, H' -/
structure Kp (M1 M2 : Addr → Prop) (H H' : Hp) : Prop where
  obj : ∀ a o, H a = some o → ¬ M1 a → Nt o → H' a = some o ∧ ¬ M2 a
  tup : ∀ a xs, H a = some (.tup xs) → H' a = some (.tup xs)
  frz : ∀ a o u, H a = some (.frz o u) → H' a = some (.frz o u)
section
variable {K : PySem.W.Frag} {M M1 M2 : Addr → Prop} {H H' : Hp}
theorem Kp.sqT (k : Kp M1 M2 H H') {a : Addr} {vs : List V} (h : SqT K H a vs) : SqT K H' a vs := by
  rcases h with (h | ⟨o, h⟩) | h
  · exact .inl (.inl (k.tup _ _ h))
  · exact .inl (.inr ⟨o, k.frz _ _ _ h⟩)
  · exact .inr h
theorem Kp.scr (k : Kp M1 M2 H H') {a : Addr} {ns : List Int} (h : ScrAt K M1 H a ns) : ScrAt K M2 H' a ns := by
  rcases h with ⟨h, n⟩ | ⟨o, h⟩ | h
  · exact .inl (k.obj _ _ h n nt_lst)
  · exact .inr (.inl ⟨o, k.frz _ _ _ h⟩)
  · exact .inr (.inr h)
mutual
theorem Rep.kp (k : Kp M1 M2 H H') : ∀ (d : D) (v : V), Rep K M1 H d v → Rep K M2 H' d v
  | .non, _, h => by simpa only [Rep] using h
  | .bl _, _, h => by simpa only [Rep] using h
  | .int _, _, h => by simpa only [Rep] using h
  | .str _, _, h => by simpa only [Rep] using h
  | .tup ds, v, h => by
    simp only [Rep] at h ⊢
    obtain ⟨a, vs, e, h1, h2⟩ := h
    exact ⟨a, vs, e, k.sqT h1, Reps.kp k ds vs h2⟩
  | .lst ds, v, h => by
    simp only [Rep] at h ⊢
    obtain ⟨a, vs, e, h1, h3, h2⟩ := h
    exact ⟨a, vs, e, (k.obj _ _ h1 h3 nt_lst).1, (k.obj _ _ h1 h3 nt_lst).2, Reps.kp k ds vs h2⟩
  | .dct ks ds, v, h => by
    simp only [Rep] at h ⊢
    obtain ⟨a, kvs, e, h1, h3, h4, h2⟩ := h
    exact ⟨a, kvs, e, (k.obj _ _ h1 h3 nt_dk).1, (k.obj _ _ h1 h3 nt_dk).2, h4, Reps.kp k ds _ h2⟩
  | .scr ns, v, h => by
    simp only [Rep] at h ⊢
    obtain ⟨a, e, h1⟩ := h
    exact ⟨a, e, k.scr h1⟩
  | .ty _, _, h => by simpa only [Rep] using h
  | .gl _, _, h => by simpa only [Rep] using h
  | .fn f F ds, _, h => by
    simp only [Rep] at h ⊢
    obtain ⟨e, h2, n2, h3⟩ := h
    exact ⟨e, (k.obj _ _ h2 n2 nt_ext).1, (k.obj _ _ h2 n2 nt_ext).2, Reps.kp k ds _ h3⟩
theorem Reps.kp (k : Kp M1 M2 H H') : ∀ (ds : List D) (vs : List V), Reps K M1 H ds vs → Reps K M2 H' ds vs
  | [], vs, h => by simpa only [Reps] using h
  | d :: ds, vs, h => by
    simp only [Reps] at h ⊢
    obtain ⟨v, r, e, h1, h2⟩ := h
    exact ⟨v, r, e, Rep.kp k d v h1, Reps.kp k ds r h2⟩
end
theorem Kp.of_same (s : Same H H') : Kp M M H H' := ⟨fun a o h n _ => ⟨s a o h, n⟩, fun a xs h => s a _ h, fun a o u h => s a _ h⟩
/-- fewer, or new ones -/
theorem Kp.mm (h : ∀ a, M2 a → M1 a ∨ H a = none) : Kp M1 M2 H H :=
  ⟨fun a o e n _ => ⟨e, fun m => by rcases h a m with q | q; exact n q; rw [q] at e; cases e⟩, fun _ _ h => h, fun _ _ _ h => h⟩
theorem Rep.same {d : D} {v : V} (s : Same H H') (h : Rep K M H d v) : Rep K M H' d v := Rep.kp (Kp.of_same s) d v h
theorem Reps.same {d : List D} {v : List V} (s : Same H H') (h : Reps K M H d v) : Reps K M H' d v := Reps.kp (Kp.of_same s) d v h
theorem Rep.mm {d : D} {v : V} (s : ∀ a, M2 a → M1 a ∨ H a = none) (h : Rep K M1 H d v) : Rep K M2 H d v := Rep.kp (Kp.mm s) d v h
theorem Reps.mm {d : List D} {v : List V} (s : ∀ a, M2 a → M1 a ∨ H a = none) (h : Reps K M1 H d v) : Reps K M2 H d v := Reps.kp (Kp.mm s) d v h
theorem Rep.mono {d : D} {v : V} (s : ∀ a, M2 a → M1 a) (h : Rep K M1 H d v) : Rep K M2 H d v := h.mm fun a m => .inl (s a m)
theorem Reps.mono {d : List D} {v : List V} (s : ∀ a, M2 a → M1 a) (h : Reps K M1 H d v) : Reps K M2 H d v := h.mm fun a m => .inl (s a m)
theorem Reps.length : ∀ {ds : List D} {vs : List V}, Reps K M H ds vs → vs.length = ds.length
  | [], vs, h => by simp only [Reps] at h; subst h; rfl
  | d :: ds, vs, h => by
    simp only [Reps] at h
    obtain ⟨v, r, e, h1, h2⟩ := h
    subst e
    simp [Reps.length h2]
theorem Reps.nil : Reps K M H [] [] := by simp only [Reps]
theorem Reps.cons {d : D} {ds : List D} {v : V} {vs : List V} (h : Rep K M H d v) (h2 : Reps K M H ds vs) : Reps K M H (d :: ds) (v :: vs) := by
  simp only [Reps]
  exact ⟨v, vs, rfl, h, h2⟩
theorem Reps.get : ∀ {ds : List D} {vs : List V} {i : Nat} {v : V}, Reps K M H ds vs → vs[i]? = some v → ∃ d, ds[i]? = some d ∧ Rep K M H d v
  | [], vs, i, v, h, e => by simp only [Reps] at h; subst h; simp at e
  | d :: ds, vs, i, v, h, e => by
    simp only [Reps] at h
    obtain ⟨w, r, e', h1, h2⟩ := h
    subst e'
    cases i with
    | zero => simp at e; subst e; exact ⟨d, rfl, h1⟩
    | succ i => simp at e; obtain ⟨d', q1, q2⟩ := Reps.get h2 e; exact ⟨d', by simpa using q1, q2⟩
theorem Reps.get' : ∀ {ds : List D} {vs : List V} {i : Nat} {d : D}, Reps K M H ds vs → ds[i]? = some d → ∃ v, vs[i]? = some v ∧ Rep K M H d v
  | [], vs, i, v, h, e => by simp at e
  | d :: ds, vs, i, v, h, e => by
    simp only [Reps] at h
    obtain ⟨w, r, e', h1, h2⟩ := h
    subst e'
    cases i with
    | zero => simp at e; subst e; exact ⟨w, rfl, h1⟩
    | succ i => simp at e; obtain ⟨d', q1, q2⟩ := Reps.get' h2 e; exact ⟨d', by simpa using q1, q2⟩
theorem Reps.append : ∀ {ds es : List D} {vs us : List V}, Reps K M H ds vs → Reps K M H es us → Reps K M H (ds ++ es) (vs ++ us)
  | [], es, vs, us, h, h2 => by simp only [Reps] at h; subst h; simpa using h2
  | d :: ds, es, vs, us, h, h2 => by
    simp only [Reps] at h
    obtain ⟨v, r, e, h1, h3⟩ := h
    subst e
    exact Reps.cons h1 (Reps.append h3 h2)
theorem Reps.take : ∀ {ds : List D} {vs : List V} (n : Nat), Reps K M H ds vs → Reps K M H (ds.take n) (vs.take n)
  | [], vs, n, h => by simp only [Reps] at h; subst h; simpa using Reps.nil
  | d :: ds, vs, 0, h => by simpa using Reps.nil
  | d :: ds, vs, n + 1, h => by
    simp only [Reps] at h
    obtain ⟨v, r, e, h1, h3⟩ := h
    subst e
    exact Reps.cons h1 (Reps.take n h3)
theorem Reps.drop : ∀ {ds : List D} {vs : List V} (n : Nat), Reps K M H ds vs → Reps K M H (ds.drop n) (vs.drop n)
  | [], vs, n, h => by simp only [Reps] at h; subst h; simpa using Reps.nil
  | d :: ds, vs, 0, h => by simpa using h
  | d :: ds, vs, n + 1, h => by
    simp only [Reps] at h
    obtain ⟨v, r, e, h1, h3⟩ := h
    subst e
    simpa using Reps.drop n h3
theorem Reps.set : ∀ {ds : List D} {vs : List V} (n : Nat) {d : D} {v : V}, Reps K M H ds vs → Rep K M H d v → Reps K M H (ds.set n d) (vs.set n v)
  | [], vs, n, _, _, h, _ => by simp only [Reps] at h; subst h; simpa using Reps.nil
  | d :: ds, vs, 0, _, _, h, h2 => by
    simp only [Reps] at h
    obtain ⟨v, r, e, h1, h3⟩ := h
    subst e
    exact Reps.cons h2 h3
  | d :: ds, vs, n + 1, _, _, h, h2 => by
    simp only [Reps] at h
    obtain ⟨v, r, e, h1, h3⟩ := h
    subst e
    exact Reps.cons h1 (Reps.set n h3 h2)
theorem Reps.one {d : D} {v : V} (h : Rep K M H d v) : Reps K M H [d] [v] := Reps.cons h Reps.nil
theorem Reps.snoc {ds : List D} {vs : List V} {d : D} {v : V} (h : Reps K M H ds vs) (h2 : Rep K M H d v) : Reps K M H (ds ++ [d]) (vs ++ [v]) := h.append (Reps.one h2)
theorem Reps.dropLast {ds : List D} {vs : List V} (h : Reps K M H ds vs) : Reps K M H ds.dropLast vs.dropLast := by
  rw [List.dropLast_eq_take, List.dropLast_eq_take, h.length]
  exact h.take _
theorem Reps.rep {ds : List D} {vs : List V} (h : Reps K M H ds vs) : ∀ n, Reps K M H (List.replicate n ds).flatten (List.replicate n vs).flatten
  | 0 => by simpa using Reps.nil
  | n + 1 => by
    rw [List.replicate_succ, List.replicate_succ, List.flatten_cons, List.flatten_cons]
    exact h.append (Reps.rep h n)
end
/-! ### slots -/
theorem tabs_upd {T : List (Addr × Str)} {H : Hp} {a : Addr} {xs : List V} {o : HO} (t : LamX.Tabs T H) (h : H a = some (.lst xs)) : LamX.Tabs T (upd H a o) := fun p hp => by
  obtain ⟨ps, h1, h2, h3⟩ := t p hp
  refine ⟨ps, by rw [upd_ne fun z => by rw [z, h] at h1; cases h1]; exact h1, h2, fun pos cv hc => ?_⟩
  obtain ⟨c, e1, e2⟩ := h3 pos cv hc
  exact ⟨c, e1, by rw [upd_ne fun z => by rw [z, h] at e2; cases e2]; exact e2⟩
inductive Sl where
  | emp | val (d : D) | own (b : Bool) (ds : List D) | dit (ks : List (List Int))
  deriving Inhabited
abbrev Lo := List Sl
abbrev As := List (Option Addr)
def MA (M : Addr → Prop) (A : As) : Addr → Prop := fun a => M a ∨ some a ∈ A
def M1 (M : Addr → Prop) (p : Addr) : Addr → Prop := fun a => M a ∨ a = p
def SlOk (K : PySem.W.Frag) (M : Addr → Prop) (H : Hp) : Sl → Option V → Option Addr → Prop
  | .emp, _, oa => oa = none
  | .val d, ov, oa => oa = none ∧ ∃ v, ov = some v ∧ Rep K M H d v
  | .own _ ds, ov, oa => ∃ a vs, oa = some a ∧ ov = some (.ref a) ∧ H a = some (.lst vs) ∧ Reps K M H ds vs
  | .dit ks, ov, oa => ∃ a kvs, oa = some a ∧ ov = some (.ref a) ∧ H a = some (.dT kvs) ∧ kvs.map (·.1) = ks.map fun k => k.map (Sum.inl : Int → Key)
structure RSt (K : PySem.W.Frag) (M : Addr → Prop) (B : Nat → Option Addr) (ρ : Lo) (A : As) (σ : L2.St) (H : Hp) : Prop where
  l1 : A.length = ρ.length
  l2 : σ.length = ρ.length
  sl : ∀ (i : Nat) s ov oa, ρ[i]? = some s → σ[i]? = some ov → A[i]? = some oa → SlOk K (MA M A) H s ov oa
  inj : ∀ (i j : Nat) (a : Addr), A[i]? = some (some a) → A[j]? = some (some a) → i = j
  mt : ∀ a, M a → some a ∉ A
  mtr : ∀ a, M a → Mb H a
  bb : ∀ (j : Nat) (a : Addr), B j = some a → A[j]? = some (some a) ∧ ∃ ds, ρ[j]? = some (.own true ds)
  tb : LamX.Tabs (TbK K) H
structure Step (A : As) (H H' : Hp) (A' : As) : Prop where
  keep : ∀ a o, H a = some o → some a ∉ A → Nt o → H' a = some o
  new : ∀ a, some a ∈ A' → some a ∈ A ∨ H a = none
  trk : ∀ a o, H a = some o → ∃ o', H' a = some o'
theorem Step.refl {A : As} {H : Hp} : Step A H H A := ⟨fun _ _ h _ _ => h, fun _ h => .inl h, fun _ o h => ⟨o, h⟩⟩
theorem Step.trans {A A1 A2 : As} {H H1 H2 : Hp} (s : Step A H H1 A1) (t : Step A1 H1 H2 A2) : Step A H H2 A2 := by
  refine ⟨fun a o h n nt => t.keep a o (s.keep a o h n nt) (fun m => ?_) nt, fun a m => ?_, fun a o h => ?_⟩
  · rcases s.new a m with q | q
    · exact n q
    · rw [q] at h; cases h
  · rcases t.new a m with q | q
    · exact s.new a q
    · cases e : H a with
      | none => exact .inr rfl
      | some o => obtain ⟨o', h'⟩ := s.trk a o e; rw [q] at h'; cases h'
  · obtain ⟨o', h'⟩ := s.trk a o h
    exact t.trk a o' h'
theorem Step.same {A : As} {H H' : Hp} (s : Same H H') : Step A H H' A := ⟨fun a o h _ _ => s a o h, fun _ h => .inl h, fun a o h => ⟨o, s a o h⟩⟩
theorem Step.upd {A : As} {H : Hp} {a : Addr} {o : HO} (m : some a ∈ A) : Step A H (upd H a o) A := by
  refine ⟨fun b u h n _ => ?_, fun _ h => .inl h, fun b u h => ?_⟩
  · rw [upd_ne (fun (e : b = a) => n (by rw [e]; exact m))]; exact h
  · by_cases e : b = a
    · subst e; exact ⟨o, upd_same⟩
    · exact ⟨u, by rw [upd_ne e]; exact h⟩
theorem mem_set_none {A : As} {i : Nat} {a : Addr} (h : some a ∈ A.set i none) : some a ∈ A := by
  rcases List.mem_or_eq_of_mem_set h with h | h
  · exact h
  · cases h
theorem mem_set_some {A : As} {i : Nat} {a b : Addr} (h : some a ∈ A.set i (some b)) : some a ∈ A ∨ a = b := by
  rcases List.mem_or_eq_of_mem_set h with h | h
  · exact .inl h
  · cases h; exact .inr rfl
theorem Step.setNone {A : As} {H : Hp} {i : Nat} : Step A H H (A.set i none) := ⟨fun _ _ h _ _ => h, fun _ h => .inl (mem_set_none h), fun _ o h => ⟨o, h⟩⟩
section
variable {K : PySem.W.Frag} {M : Addr → Prop} {B : Nat → Option Addr} {ρ : Lo} {A A' : As} {σ : L2.St} {H H' : Hp}
theorem RSt.lst (S : RSt K M B ρ A σ H) {a : Addr} (h : some a ∈ A) : (∃ vs, H a = some (.lst vs)) ∨ ∃ kvs, H a = some (.dT kvs) := by
  obtain ⟨i, hi, e⟩ := List.getElem_of_mem h
  have hA : A[i]? = some (some a) := by rw [List.getElem?_eq_getElem hi, e]
  have h1 : i < ρ.length := S.l1 ▸ hi
  have h2 : i < σ.length := S.l2 ▸ h1
  have q := S.sl i _ _ _ (List.getElem?_eq_getElem h1) (List.getElem?_eq_getElem h2) hA
  cases e1 : ρ[i] with
  | emp => rw [e1] at q; cases q
  | val d => rw [e1] at q; cases q.1
  | own b ds =>
    rw [e1] at q
    obtain ⟨a', vs, q1, _, q2, _⟩ := q
    cases q1
    exact .inl ⟨vs, q2⟩
  | dit ks =>
    rw [e1] at q
    obtain ⟨a', vs, q1, _, q2, _⟩ := q
    cases q1
    exact .inr ⟨vs, q2⟩
/-- a step keeps what is represented -/
theorem RSt.kp (S : RSt K M B ρ A σ H) (s : Step A H H' A') : Kp (MA M A) (MA M A') H H' := by
  refine ⟨fun a o h n nt => ⟨s.keep a o h (fun m => n (.inr m)) nt, fun m => ?_⟩, fun a xs h => ?_, fun a o u h => ?_⟩
  · rcases m with m | m
    · exact n (.inl m)
    · rcases s.new a m with q | q
      · exact n (.inr q)
      · rw [q] at h; cases h
  · refine s.keep a _ h (fun m => ?_) nt_tup
    rcases S.lst m with ⟨vs, q⟩ | ⟨vs, q⟩ <;> (rw [q] at h; cases h)
  · refine s.keep a _ h (fun m => ?_) nt_frz
    rcases S.lst m with ⟨vs, q⟩ | ⟨vs, q⟩ <;> (rw [q] at h; cases h)
theorem RSt.rep (S : RSt K M B ρ A σ H) (s : Step A H H' A') {d : D} {v : V} (h : Rep K (MA M A) H d v) : Rep K (MA M A') H' d v := Rep.kp (S.kp s) d v h
theorem RSt.reps (S : RSt K M B ρ A σ H) (s : Step A H H' A') {d : List D} {v : List V} (h : Reps K (MA M A) H d v) : Reps K (MA M A') H' d v := Reps.kp (S.kp s) d v h
theorem RSt.same (S : RSt K M B ρ A σ H) (s : Same H H') : RSt K M B ρ A σ H' := by
  refine ⟨S.l1, S.l2, fun i sl ov oa h1 h2 h3 => ?_, S.inj, S.mt, fun a m => ?_, S.bb, S.tb.ext s⟩
  · have q := S.sl i sl ov oa h1 h2 h3
    cases sl with
    | emp => exact q
    | val d => exact ⟨q.1, q.2.choose, q.2.choose_spec.1, q.2.choose_spec.2.same s⟩
    | own b ds =>
      obtain ⟨a, vs, e1, e2, e3, e4⟩ := q
      exact ⟨a, vs, e1, e2, s _ _ e3, e4.same s⟩
    | dit ks =>
      obtain ⟨a, vs, e1, e2, e3, e4⟩ := q
      exact ⟨a, vs, e1, e2, s _ _ e3, e4⟩
  · exact (S.mtr a m).mk fun o h _ => s _ _ h
/-- weaker protection -/
theorem RSt.weak {M' : Addr → Prop} (S : RSt K M B ρ A σ H) (h : ∀ a, M' a → M a) : RSt K M' B ρ A σ H := by
  have hm : ∀ a, MA M' A a → MA M A a := fun a m => m.elim (fun m => .inl (h a m)) .inr
  refine ⟨S.l1, S.l2, fun i sl ov oa h1 h2 h3 => ?_, S.inj, fun a m => S.mt a (h a m), fun a m => S.mtr a (h a m), S.bb, S.tb⟩
  have q := S.sl i sl ov oa h1 h2 h3
  cases sl with
  | emp => exact q
  | val d => exact ⟨q.1, q.2.choose, q.2.choose_spec.1, q.2.choose_spec.2.mono hm⟩
  | own b ds =>
    obtain ⟨a, vs, e1, e2, e3, e4⟩ := q
    exact ⟨a, vs, e1, e2, e3, e4.mono hm⟩
  | dit ks => exact q
/-- a new object is protected from now on -/
theorem RSt.grow {p : Addr} {xs : List V} (S : RSt K M B ρ A σ H) (s : Same H H') (n : H p = none) (e : H' p = some (.lst xs)) : RSt K (M1 M p) B ρ A σ H' := by
  have hm : ∀ a, MA (M1 M p) A a → MA M A a ∨ H a = none := fun a m => by
    rcases m with (m | m) | m
    · exact .inl (.inl m)
    · subst m; exact .inr n
    · exact .inl (.inr m)
  refine ⟨S.l1, S.l2, fun i sl ov oa h1 h2 h3 => ?_, S.inj, fun a m q => ?_, fun a m => ?_, S.bb, S.tb.ext s⟩
  · have q := S.sl i sl ov oa h1 h2 h3
    cases sl with
    | emp => exact q
    | val d => exact ⟨q.1, q.2.choose, q.2.choose_spec.1, (q.2.choose_spec.2.mm hm).same s⟩
    | own b ds =>
      obtain ⟨a, vs, e1, e2, e3, e4⟩ := q
      exact ⟨a, vs, e1, e2, s _ _ e3, (e4.mm hm).same s⟩
    | dit ks =>
      obtain ⟨a, vs, e1, e2, e3, e4⟩ := q
      exact ⟨a, vs, e1, e2, s _ _ e3, e4⟩
  · rcases m with m | m
    · exact S.mt a m q
    · subst m
      rcases S.lst q with ⟨vs, q⟩ | ⟨vs, q⟩ <;> (rw [n] at q; cases q)
  · rcases m with m | m
    · exact (S.mtr a m).mk fun o h _ => s _ _ h
    · subst m; exact .inl ⟨xs, e⟩
theorem get_set_cases {α : Type} {l : List α} {i j : Nat} {x y : α} (h : (l.set i x)[j]? = some y) : (j = i ∧ y = x ∧ i < l.length) ∨ (j ≠ i ∧ l[j]? = some y) := by
  by_cases e : j = i
  · subst e
    left
    rw [List.getElem?_set_self'] at h
    cases e2 : l[j]? with
    | none => rw [e2] at h; cases h
    | some z => rw [e2] at h; cases h; exact ⟨rfl, rfl, (List.getElem?_eq_some_iff.mp e2).1⟩
  · right
    rw [List.getElem?_set_ne (Ne.symm e)] at h
    exact ⟨e, h⟩
theorem inj_set_none {A : As} {k : Nat} (h : ∀ (i j : Nat) (a : Addr), A[i]? = some (some a) → A[j]? = some (some a) → i = j) : ∀ (i j : Nat) (a : Addr), (A.set k none)[i]? = some (some a) → (A.set k none)[j]? = some (some a) → i = j := by
  intro i j a h1 h2
  rcases get_set_cases h1 with ⟨_, e, _⟩ | ⟨_, q1⟩
  · cases e
  rcases get_set_cases h2 with ⟨_, e, _⟩ | ⟨_, q2⟩
  · cases e
  exact h i j a q1 q2
theorem SlOk.mono {M M' : Addr → Prop} {s : Sl} {ov : Option V} {oa : Option Addr} (h : SlOk K M H s ov oa) (m : ∀ a, M' a → M a) : SlOk K M' H s ov oa := by
  cases s with
  | emp => exact h
  | val d => exact ⟨h.1, h.2.choose, h.2.choose_spec.1, h.2.choose_spec.2.mono m⟩
  | own b ds => obtain ⟨a, vs, e1, e2, e3, e4⟩ := h; exact ⟨a, vs, e1, e2, e3, e4.mono m⟩
  | dit ks => exact h
theorem ma_none {A : As} {k : Nat} : ∀ a, MA M (A.set k none) a → MA M A a := fun a m => m.elim .inl fun m => .inr (mem_set_none m)
theorem bb_set {A : As} {ρ : Lo} {k : Nat} {x : Option Addr} {s : Sl} (h : ∀ (j : Nat) (a : Addr), B j = some a → A[j]? = some (some a) ∧ ∃ ds, ρ[j]? = some (.own true ds)) (hB : B k = none) :
    ∀ (j : Nat) (a : Addr), B j = some a → (A.set k x)[j]? = some (some a) ∧ ∃ ds, (ρ.set k s)[j]? = some (.own true ds) := fun j a e => by
  have ne : k ≠ j := fun z => by rw [z] at hB; rw [hB] at e; cases e
  rw [List.getElem?_set_ne ne, List.getElem?_set_ne ne]
  exact h j a e
theorem RSt.nb (S : RSt K M B ρ A σ H) {k : Nat} (h : ∀ ds, ρ[k]? ≠ some (.own true ds)) : B k = none := by
  cases e : B k with
  | none => rfl
  | some a => obtain ⟨ds, q⟩ := (S.bb k a e).2; exact absurd q (h ds)
/-- a slot that holds a value or nothing -/
theorem RSt.put {k : Nat} {s : Sl} {ov : Option V} (S : RSt K M B ρ A σ H) (hB : B k = none) (h : SlOk K (MA M (A.set k none)) H s ov none) : RSt K M B (ρ.set k s) (A.set k none) (σ.set k ov) H := by
  refine ⟨by simp [S.l1], by simp [S.l2], fun i sl ov' oa h1 h2 h3 => ?_, inj_set_none S.inj, fun a m q => S.mt a m (mem_set_none q), S.mtr, bb_set S.bb hB, S.tb⟩
  rcases get_set_cases h1 with ⟨e, e1, _⟩ | ⟨e, q1⟩
  · subst e; subst e1
    rcases get_set_cases h2 with ⟨_, e2, _⟩ | ⟨e, _⟩
    · subst e2
      rcases get_set_cases h3 with ⟨_, e3, _⟩ | ⟨e, _⟩
      · subst e3; exact h
      · exact absurd rfl e
    · exact absurd rfl e
  · rcases get_set_cases h2 with ⟨e2, _⟩ | ⟨_, q2⟩
    · exact absurd e2 e
    rcases get_set_cases h3 with ⟨e3, _⟩ | ⟨_, q3⟩
    · exact absurd e3 e
    exact (S.sl i sl ov' oa q1 q2 q3).mono ma_none
theorem RSt.setVal {k : Nat} {d : D} {v : V} (S : RSt K M B ρ A σ H) (hB : B k = none) (h : Rep K (MA M A) H d v) : RSt K M B (ρ.set k (.val d)) (A.set k none) (σ.set k (some v)) H :=
  S.put hB ⟨rfl, v, rfl, h.mono ma_none⟩
theorem RSt.setEmp {k : Nat} {ov : Option V} (S : RSt K M B ρ A σ H) (hB : B k = none) : RSt K M B (ρ.set k .emp) (A.set k none) (σ.set k ov) H := S.put hB rfl
theorem set_self {α : Type} {l : List α} {k : Nat} {x : α} (h : l[k]? = some x) : l.set k x = l := by
  apply List.ext_getElem?
  intro i
  by_cases e : k = i
  · subst e; rw [List.getElem?_set_self', h]; rfl
  · rw [List.getElem?_set_ne e]
theorem RSt.setOwn {k : Nat} {b : Bool} {a : Addr} {vs : List V} {ds : List D} (S : RSt K (M1 M a) B ρ A σ H) (hB : B k = none) (nM : ¬ M a) (h : H a = some (.lst vs)) (r : Reps K (MA (M1 M a) A) H ds vs) :
    RSt K M B (ρ.set k (.own b ds)) (A.set k (some a)) (σ.set k (some (.ref a))) H := by
  have nA : some a ∉ A := S.mt a (.inr rfl)
  have hm : ∀ c, MA M (A.set k (some a)) c → MA (M1 M a) A c := fun c m => by
    rcases m with m | m
    · exact .inl (.inl m)
    · rcases mem_set_some m with m | m
      · exact .inr m
      · exact .inl (.inr m)
  refine ⟨by simp [S.l1], by simp [S.l2], fun i sl ov' oa h1 h2 h3 => ?_, fun i j c h1 h2 => ?_, fun c m q => ?_, fun c m => S.mtr c (.inl m), bb_set S.bb hB, S.tb⟩
  · rcases get_set_cases h1 with ⟨e, e1, _⟩ | ⟨e, q1⟩
    · subst e; subst e1
      rcases get_set_cases h2 with ⟨_, e2, _⟩ | ⟨e, _⟩
      · subst e2
        rcases get_set_cases h3 with ⟨_, e3, _⟩ | ⟨e, _⟩
        · subst e3; exact ⟨a, vs, rfl, rfl, h, r.mono hm⟩
        · exact absurd rfl e
      · exact absurd rfl e
    · rcases get_set_cases h2 with ⟨e2, _⟩ | ⟨_, q2⟩
      · exact absurd e2 e
      rcases get_set_cases h3 with ⟨e3, _⟩ | ⟨_, q3⟩
      · exact absurd e3 e
      exact (S.sl i sl ov' oa q1 q2 q3).mono hm
  · rcases get_set_cases h1 with ⟨e1, f1, _⟩ | ⟨e1, q1⟩
    · rcases get_set_cases h2 with ⟨e2, f2, _⟩ | ⟨e2, q2⟩
      · rw [e1, e2]
      · cases f1; exact absurd (List.mem_of_getElem? q2) nA
    · rcases get_set_cases h2 with ⟨e2, f2, _⟩ | ⟨e2, q2⟩
      · cases f2; exact absurd (List.mem_of_getElem? q1) nA
      · exact S.inj i j c q1 q2
  · rcases mem_set_some q with q | q
    · exact S.mt c (.inl m) q
    · subst q; exact nM m
/-- what slot i owns -/
theorem RSt.owned {i : Nat} {b : Bool} {ds : List D} (S : RSt K M B ρ A σ H) (h : ρ[i]? = some (.own b ds)) : ∃ a vs, A[i]? = some (some a) ∧ σ[i]? = some (some (.ref a)) ∧ H a = some (.lst vs) ∧ Reps K (MA M A) H ds vs ∧ some a ∈ A := by
  have h1 : i < ρ.length := (List.getElem?_eq_some_iff.mp h).1
  have h2 : i < σ.length := S.l2 ▸ h1
  have h3 : i < A.length := S.l1 ▸ h1
  obtain ⟨a, vs, e1, e2, e3, e4⟩ := S.sl i _ _ _ h (List.getElem?_eq_getElem h2) (List.getElem?_eq_getElem h3)
  have q : A[i]? = some (some a) := by rw [List.getElem?_eq_getElem h3, e1]
  exact ⟨a, vs, q, by rw [List.getElem?_eq_getElem h2, e2], e3, e4, List.mem_of_getElem? q⟩
theorem RSt.valued {i : Nat} {d : D} (S : RSt K M B ρ A σ H) (h : ρ[i]? = some (.val d)) : ∃ v, A[i]? = some none ∧ σ[i]? = some (some v) ∧ Rep K (MA M A) H d v := by
  have h1 : i < ρ.length := (List.getElem?_eq_some_iff.mp h).1
  have h2 : i < σ.length := S.l2 ▸ h1
  have h3 : i < A.length := S.l1 ▸ h1
  obtain ⟨e1, v, e2, e3⟩ := S.sl i _ _ _ h (List.getElem?_eq_getElem h2) (List.getElem?_eq_getElem h3)
  exact ⟨v, by rw [List.getElem?_eq_getElem h3, e1], by rw [List.getElem?_eq_getElem h2, e2], e3⟩
/-- an owned list is an ordinary one from now on -/
theorem RSt.freeze {k : Nat} {ds : List D} (S : RSt K M B ρ A σ H) (h : ρ[k]? = some (.own false ds)) :
    ∃ v, σ[k]? = some (some v) ∧ RSt K M B (ρ.set k (.val (.lst ds))) (A.set k none) σ H ∧ Rep K (MA M (A.set k none)) H (.lst ds) v := by
  obtain ⟨a, vs, e1, e2, e3, e4, e5⟩ := S.owned h
  have r : Rep K (MA M (A.set k none)) H (.lst ds) (.ref a) := by
    simp only [Rep]
    refine ⟨a, vs, rfl, e3, fun m => ?_, e4.mono ma_none⟩
    rcases m with m | m
    · exact S.mt a m e5
    · obtain ⟨j, hj, e⟩ := List.getElem_of_mem m
      have q : (A.set k none)[j]? = some (some a) := by rw [List.getElem?_eq_getElem hj, e]
      rcases get_set_cases q with ⟨_, e, _⟩ | ⟨ne, q⟩
      · cases e
      · exact ne (S.inj j k a q e1)
  refine ⟨_, e2, ?_, r⟩
  have q := S.put (k := k) (s := .val (.lst ds)) (ov := some (.ref a)) (S.nb fun ds' z => by rw [h] at z; cases z) ⟨rfl, _, rfl, r⟩
  rwa [set_self e2] at q
/-- an owned list is written -/
theorem RSt.write {k : Nat} {b : Bool} {ds es : List D} {a : Addr} {us : List V} (S : RSt K M B ρ A σ H) (h : ρ[k]? = some (.own b ds)) (ha : A[k]? = some (some a)) (r : Reps K (MA M A) H es us) :
    RSt K M B (ρ.set k (.own b es)) A σ (upd H a (.lst us)) := by
  have hA : some a ∈ A := List.mem_of_getElem? ha
  have kp : Kp (MA M A) (MA M A) H (upd H a (.lst us)) := S.kp (Step.upd hA)
  obtain ⟨a', vs, e1, e2, e3, e4, e5⟩ := S.owned h
  rw [ha] at e1; cases e1
  refine ⟨by simp [S.l1], by simp [S.l2], fun i sl ov oa h1 h2 h3 => ?_, S.inj, S.mt, fun c m => ?_, fun j c e => ?_, tabs_upd S.tb e3⟩
  · rcases get_set_cases h1 with ⟨e, e1, _⟩ | ⟨e, q1⟩
    · subst e; subst e1
      rw [e2] at h2; cases h2
      rw [ha] at h3; cases h3
      exact ⟨a, us, rfl, rfl, upd_same, Reps.kp kp _ _ r⟩
    · have q := S.sl i sl ov oa q1 h2 h3
      cases sl with
      | emp => exact q
      | val d => exact ⟨q.1, q.2.choose, q.2.choose_spec.1, Rep.kp kp _ _ q.2.choose_spec.2⟩
      | own b' ds' =>
        obtain ⟨c, ws, f1, f2, f3, f4⟩ := q
        subst f1
        have ne : c ≠ a := fun z => e (S.inj i k a (z ▸ h3) ha)
        exact ⟨c, ws, rfl, f2, by rw [upd_ne ne]; exact f3, Reps.kp kp _ _ f4⟩
      | dit ks =>
        obtain ⟨c, ws, f1, f2, f3, f4⟩ := q
        subst f1
        have ne : c ≠ a := fun z => e (S.inj i k a (z ▸ h3) ha)
        exact ⟨c, ws, rfl, f2, by rw [upd_ne ne]; exact f3, f4⟩
  · by_cases e : c = a
    · subst e; exact .inl ⟨_, upd_same⟩
    · exact (S.mtr c m).mk fun o h _ => by rw [upd_ne e]; exact h
  · obtain ⟨q1, ds', q2⟩ := S.bb j c e
    refine ⟨q1, ?_⟩
    by_cases z : k = j
    · subst z
      rw [h] at q2; cases q2
      have hk : k < ρ.length := (List.getElem?_eq_some_iff.mp h).1
      exact ⟨es, by rw [List.getElem?_set_self hk]⟩
    · exact ⟨ds', by rw [List.getElem?_set_ne z]; exact q2⟩
theorem RSt.dict {i : Nat} {ks : List (List Int)} (S : RSt K M B ρ A σ H) (h : ρ[i]? = some (.dit ks)) : ∃ a kvs, A[i]? = some (some a) ∧ σ[i]? = some (some (.ref a)) ∧ H a = some (.dT kvs) ∧ kvs.map (·.1) = (ks.map fun k => k.map (Sum.inl : Int → Key)) ∧ some a ∈ A := by
  have h1 : i < ρ.length := (List.getElem?_eq_some_iff.mp h).1
  have h2 : i < σ.length := S.l2 ▸ h1
  have h3 : i < A.length := S.l1 ▸ h1
  obtain ⟨a, kvs, e1, e2, e3, e4⟩ := S.sl i _ _ _ h (List.getElem?_eq_getElem h2) (List.getElem?_eq_getElem h3)
  have e5 : A[i]? = some (some a) := by rw [List.getElem?_eq_getElem h3, e1]
  exact ⟨a, kvs, e5, by rw [List.getElem?_eq_getElem h2, e2], e3, e4, List.mem_of_getElem? e5⟩
end
end RF
set_option maxHeartbeats 1000000
/-! RF2: results of expressions, operations on plain data and their rules. -/
namespace RF
open PySem PySem.Spec PyProof.Rows L2
inductive R where
  | val (d : D) | fresh (ds : List D) | ali (i : Nat)
  deriving Inhabited
def deref (ρ : Lo) : R → Option D
  | .val d => some d
  | .fresh ds => some (.lst ds)
  | .ali i => match ρ[i]? with
    | some (.own _ ds) => some (.lst ds)
    | some (.val d) => some d
    | _ => none
/-- represented, the outermost list perhaps owned -/
def RepP (K : PySem.W.Frag) (M : Addr → Prop) (H : Hp) (d : D) (v : V) : Prop :=
  match d with
  | .lst ds => ∃ a vs, v = .ref a ∧ H a = some (.lst vs) ∧ Reps K M H ds vs
  | d => Rep K M H d v
section
variable {K : PySem.W.Frag} {M : Addr → Prop} {B : Nat → Option Addr} {ρ ρ' : Lo} {A A' : As} {σ : L2.St} {H H' H1 : Hp} {r : R} {v : V} {d : D}
theorem Rep.p (h : Rep K M H d v) : RepP K M H d v := by
  cases d with
  | lst ds =>
    simp only [Rep] at h
    obtain ⟨a, vs, e, h1, _, h2⟩ := h
    exact ⟨a, vs, e, h1, h2⟩
  | _ => exact h
def Arg (K : PySem.W.Frag) (M : Addr → Prop) (A : As) (σ : L2.St) (H : Hp) : R → V → Prop
  | .val d, v => Rep K (MA M A) H d v
  | .fresh ds, v => Rep K (MA M A) H (.lst ds) v
  | .ali i, v => σ[i]? = some (some v)
def Out (K : PySem.W.Frag) (M : Addr → Prop) (B : Nat → Option Addr) (ρ' : Lo) (A' : As) (σ : L2.St) (H H' : Hp) : R → V → Prop
  | .val d, v => RSt K M B ρ' A' σ H' ∧ Rep K (MA M A') H' d v
  | .fresh ds, v => ∃ a vs, v = .ref a ∧ H a = none ∧ ¬ M a ∧ H' a = some (.lst vs) ∧ RSt K (M1 M a) B ρ' A' σ H' ∧ Reps K (MA (M1 M a) A') H' ds vs
  | .ali i, v => RSt K M B ρ' A' σ H' ∧ σ[i]? = some (some v)
theorem Out.st (h : Out K M B ρ' A' σ H H' r v) : RSt K M B ρ' A' σ H' := by
  cases r with
  | val d => exact h.1
  | ali i => exact h.1
  | fresh ds => obtain ⟨a, vs, _, _, _, _, S, _⟩ := h; exact S.weak fun _ m => .inl m
theorem Out.arg (h : Out K M B ρ' A' σ H H' r v) : Arg K M A' σ H' r v := by
  cases r with
  | val d => exact h.2
  | ali i => exact h.2
  | fresh ds =>
    obtain ⟨a, vs, e, _, nm, q, S, rs⟩ := h
    show Rep K (MA M A') H' (.lst ds) v
    simp only [Rep]
    refine ⟨a, vs, e, q, fun m => ?_, rs.mono fun c m => m.elim (fun m => .inl (.inl m)) .inr⟩
    rcases m with m | m
    · exact nm m
    · exact S.mt a (.inr rfl) m
theorem Out.back (s : Step A H H1 A') (h : Out K M B ρ' A' σ H1 H' r v) : Out K M B ρ' A' σ H H' r v := by
  cases r with
  | val d => exact h
  | ali i => exact h
  | fresh ds =>
    obtain ⟨a, vs, e, n, nm, q, S, rs⟩ := h
    refine ⟨a, vs, e, ?_, nm, q, S, rs⟩
    cases e2 : H a with
    | none => rfl
    | some o => obtain ⟨o', h'⟩ := s.trk a o e2; rw [n] at h'; cases h'
theorem Out.back' {A1 A2 : As} (s : Step A1 H H1 A2) (h : Out K M B ρ' A' σ H1 H' r v) : Out K M B ρ' A' σ H H' r v := by
  cases r with
  | val d => exact h
  | ali i => exact h
  | fresh ds =>
    obtain ⟨a, vs, e, n, nm, q, S, rs⟩ := h
    refine ⟨a, vs, e, ?_, nm, q, S, rs⟩
    cases e2 : H a with
    | none => rfl
    | some o => obtain ⟨o', h'⟩ := s.trk a o e2; rw [n] at h'; cases h'
theorem Arg.step (S : RSt K M B ρ A σ H) (s : Step A H H' A') (h : Arg K M A σ H r v) : Arg K M A' σ H' r v := by
  cases r with
  | val d => exact S.rep s h
  | fresh ds => exact S.rep s h
  | ali i => exact h
theorem Arg.peek (S : RSt K M B ρ A σ H) (h : Arg K M A σ H r v) (e : deref ρ r = some d) : RepP K (MA M A) H d v := by
  cases r with
  | val d' => simp only [deref] at e; cases e; exact Rep.p h
  | fresh ds => simp only [deref] at e; cases e; exact Rep.p h
  | ali i =>
    simp only [deref] at e
    cases e1 : ρ[i]? with
    | none => rw [e1] at e; cases e
    | some s =>
      rw [e1] at e
      cases s with
      | emp => cases e
      | val d' =>
        cases e
        obtain ⟨v', _, q, rp⟩ := S.valued e1
        have h' : σ[i]? = some (some v) := h
        rw [q] at h'; cases h'
        exact rp.p
      | own b ds =>
        cases e
        obtain ⟨a, vs, _, q, hl, rp, _⟩ := S.owned e1
        have h' : σ[i]? = some (some v) := h
        rw [q] at h'; cases h'
        exact ⟨a, vs, rfl, hl, rp⟩
      | dit ks => cases e
/-- what a pure operation gives, from the heap H to H' -/
def ResP (K : PySem.W.Frag) (M : Addr → Prop) (H H' : Hp) : R → V → Prop
  | .val d, z => Rep K M H' d z
  | .fresh ds, z => ∃ a vs, z = .ref a ∧ H a = none ∧ H' a = some (.lst vs) ∧ Reps K M H ds vs
  | .ali _, _ => False
theorem Out.of_res (S : RSt K M B ρ A σ H) (s : Same H H') (h : ResP K (MA M A) H H' r v) : Out K M B ρ A σ H H' r v := by
  cases r with
  | val d => exact ⟨S.same s, h⟩
  | ali i => exact h.elim
  | fresh ds =>
    obtain ⟨a, vs, e, n, q, rs⟩ := h
    refine ⟨a, vs, e, n, fun m => ?_, q, S.grow s n q, ?_⟩
    · exact (S.mtr a m).none n
    · refine Reps.same s (rs.mm fun c m => ?_)
      rcases m with (m | m) | m
      · exact .inl (.inl m)
      · subst m; exact .inr n
      · exact .inl (.inr m)
end
/-! ### readings -/
abbrev EvF := Lo → Option (R × Lo)
abbrev TvF := Lo → Option (Bool × Lo)
abbrev AvF := Lo → Option (List R × Lo)
def tEv (K : PySem.W.Frag) (f : EvF) : TE := fun σ H Q => ∃ M B ρ A r ρ', f ρ = some (r, ρ') ∧ RSt K M B ρ A σ H ∧ ∀ v H' A', Step A H H' A' → Out K M B ρ' A' σ H H' r v → Q v H'
def tTv (K : PySem.W.Frag) (f : TvF) : TT := fun σ H Q => ∃ M B ρ A b ρ', f ρ = some (b, ρ') ∧ RSt K M B ρ A σ H ∧ ∀ H' A', Step A H H' A' → RSt K M B ρ' A' σ H' → Q b H'
inductive Args (K : PySem.W.Frag) (M : Addr → Prop) (A : As) (σ : L2.St) (H : Hp) : List R → List V → Prop
  | nil : Args K M A σ H [] []
  | cons {r rs v vs} (h : Arg K M A σ H r v) (t : Args K M A σ H rs vs) : Args K M A σ H (r :: rs) (v :: vs)
def tAv (K : PySem.W.Frag) (f : AvF) : TA := fun σ H Q => ∃ M B ρ A rs ρ', f ρ = some (rs, ρ') ∧ RSt K M B ρ A σ H ∧ ∀ vs H' A', Step A H H' A' → RSt K M B ρ' A' σ H' → Args K M A' σ H' rs vs → Q vs H'
theorem PE.mono {X : Cx} {e : Expr} {t t' : TE} (h : PE X e t) (m : ∀ σ H Q, t' σ H Q → t σ H Q) : PE X e t' := ⟨fun pins s σ H Q I q => h.run pins s σ H Q I (m σ H Q q)⟩
theorem PT.mono {X : Cx} {e : Expr} {t t' : TT} (h : PT X e t) (m : ∀ σ H Q, t' σ H Q → t σ H Q) : PT X e t' := ⟨fun pins s σ H Q I q => h.run pins s σ H Q I (m σ H Q q)⟩
theorem PW.mono {X : Cx} {e : Expr} {t t' : TT} (h : PW X e t) (m : ∀ σ H Q, t' σ H Q → t σ H Q) : PW X e t' := ⟨fun wh pins s σ H Q I q => h.run wh pins s σ H Q I (m σ H Q q)⟩
theorem PA.mono {X : Cx} {e : List Expr} {t t' : TA} (h : PA X e t) (m : ∀ σ H Q, t' σ H Q → t σ H Q) : PA X e t' := ⟨fun pos pins s σ H Q I q => h.run pos pins s σ H Q I (m σ H Q q)⟩
theorem PS.mono {X : Cx} {e : Stmt} {t t' : TS} (h : PS X e t) (m : ∀ D σ H, t' D σ H → t D σ H) : PS X e t' := ⟨fun pins s σ H D I q => h.run pins s σ H D I (m D σ H q)⟩
theorem PSs.mono {X : Cx} {e : List Stmt} {t t' : TS} (h : PSs X e t) (m : ∀ D σ H, t' D σ H → t D σ H) : PSs X e t' := ⟨fun pins s σ H D I q => h.run pins s σ H D I (m D σ H q)⟩
/-! ### operations on data -/
def lim : Nat := 1000000
theorem lim_le {n : Nat} (h : n ≤ lim) : n ≤ sizeLine := Nat.le_trans h (by decide)
theorem lim_lt {n : Nat} (h : n < lim) : n < sizeLine := Nat.lt_of_lt_of_le h (by decide)
mutual
def toPy : D → PyData
  | .non => .none | .bl b => .bool b | .int i => .int i | .str x => .str x
  | .tup ds => .tuple (toPys ds) | .lst ds => .list (toPys ds) | .dct _ _ => .dict [] | .scr _ => .dict [] | .ty _ => .dict [] | .fn _ _ _ => .dict [] | .gl _ => .dict []
def toPys : List D → List PyData
  | [] => []
  | d :: ds => toPy d :: toPys ds
end
section
variable {K : PySem.W.Frag} {M : Addr → Prop} {H : Hp}
mutual
theorem dp_of : ∀ (d : D) (v : V), (toPy d).canLay0 = true → Rep K M H d v → Dp K H v (toPy d)
  | .non, v, _, h => by simp only [Rep] at h; subst h; exact .non
  | .bl b, v, _, h => by simp only [Rep] at h; subst h; exact .bl b
  | .int b, v, _, h => by simp only [Rep] at h; subst h; exact .int b
  | .str b, v, _, h => by simp only [Rep] at h; subst h; exact .str b
  | .tup ds, v, c, h => by
    simp only [Rep] at h
    obtain ⟨a, vs, e, h1, h2⟩ := h
    subst e
    simp only [toPy] at c ⊢
    exact .tup h1 (dps_of ds vs (by simpa only [PyData.canLay0] using c) h2)
  | .lst ds, v, c, h => by
    simp only [Rep] at h
    obtain ⟨a, vs, e, h1, _, h2⟩ := h
    subst e
    simp only [toPy] at c ⊢
    exact .lst (SqL.of h1) (dps_of ds vs (by simpa only [PyData.canLay0] using c) h2)
  | .dct _ _, v, c, h => by simp [toPy, PyData.canLay0] at c
  | .scr _, v, c, h => by simp [toPy, PyData.canLay0] at c
  | .ty _, v, c, h => by simp [toPy, PyData.canLay0] at c
  | .fn _ _ _, v, c, h => by simp [toPy, PyData.canLay0] at c
  | .gl _, v, c, h => by simp [toPy, PyData.canLay0] at c
theorem dps_of : ∀ (ds : List D) (vs : List V), PyData.canLayAll0 (toPys ds) = true → Reps K M H ds vs → DpAll K H vs (toPys ds)
  | [], vs, _, h => by simp only [Reps] at h; subst h; exact .nil
  | d :: ds, vs, c, h => by
    simp only [Reps] at h
    obtain ⟨v, r, e, h1, h2⟩ := h
    subst e
    simp only [toPys, PyData.canLayAll0, Bool.and_eq_true] at c ⊢
    exact .cons (dp_of d v c.1 h1) (dps_of ds r c.2 h2)
end
theorem dpP_of {d : D} {v : V} (c : (toPy d).canLay0 = true) (h : RepP K M H d v) : Dp K H v (toPy d) := by
  cases d with
  | lst ds =>
    obtain ⟨a, vs, e, h1, h2⟩ := h
    subst e
    simp only [toPy] at c ⊢
    exact .lst (SqL.of h1) (dps_of ds vs (by simpa only [PyData.canLay0] using c) h2)
  | _ => exact dp_of (K := K) (M := M) _ _ c (show Rep K M H _ v from h)
end
def eqGen (d e : D) : Option Bool := if SeqAt.shaped (toPy d) && SeqAt.shaped (toPy e) then some (PyData.eqv (toPy d) (toPy e)) else none
def eqD : D → D → Option Bool
  | .int i, .int j => some (i == j)
  | .str x, .str y => some (x == y)
  | .bl x, .bl y => some (x == y)
  | .lst xs, .lst ys => if xs.length ≠ ys.length then some false else if xs.isEmpty then some true else eqGen (.lst xs) (.lst ys)
  | d, e => eqGen d e
def rLenNe (K : PySem.W.Frag) (b : Bool) : R2 := fun x y H Q => ∃ p q xs ys, x = .ref p ∧ y = .ref q ∧ SqL K H p xs ∧ SqL K H q ys ∧ xs.length ≠ ys.length ∧ Q (.bl b) H
section
variable {X : Cx}
theorem op_eqLen (hu : X.A.units + 64 < cLine) : OpR X (compareOp .Eq) (rLenNe X.K false) := by
  intro pins s σ H x y v u Q I rx ry h
  obtain ⟨p, q, xs, ys, rfl, rfl, h1, h2, hn, k⟩ := h
  cases (show v = Value.ref p from rx)
  cases (show u = Value.ref q from ry)
  obtain ⟨i1, r1, l1, _⟩ := I.list h1
  obtain ⟨i2, r2, l2, _⟩ := I.list h2
  refine SeqAt.eq_list_lengthsAt l1.isList l2.isList ?_ (by omega) ⟨.bl _, H, I, rfl, k⟩
  have e1 := r1.length
  have e2 := r2.length
  simp only [List.size_toArray, bne_iff_ne, ne_eq]
  omega
theorem op_neLen (hu : X.A.units + 64 < cLine) : OpR X (compareOp .NotEq) (rLenNe X.K true) := by
  intro pins s σ H x y v u Q I rx ry h
  obtain ⟨p, q, xs, ys, rfl, rfl, h1, h2, hn, k⟩ := h
  cases (show v = Value.ref p from rx)
  cases (show u = Value.ref q from ry)
  obtain ⟨i1, r1, l1, _⟩ := I.list h1
  obtain ⟨i2, r2, l2, _⟩ := I.list h2
  refine SeqAt.RcNeAt.lists_lengths l1.isList l2.isList ?_ (by omega) X.prog X.w _ _ ⟨.bl _, H, I, rfl, k⟩
  have e1 := r1.length
  have e2 := r2.length
  simp only [List.size_toArray, bne_iff_ne, ne_eq]
  omega
end
def rEqA (K : PySem.W.Frag) : R2 := fun x y H Q => rEqD K x y H Q ∨ rLenNe K false x y H Q ∨ rEq x y H Q
def rNeA (K : PySem.W.Frag) : R2 := fun x y H Q => rNeD K x y H Q ∨ rLenNe K true x y H Q ∨ rNe x y H Q
section
variable {X : Cx} {K : PySem.W.Frag} {M : Addr → Prop} {H : Hp} {d e : D} {x y : V} {b : Bool} {Q : VK}
theorem op_eqA (hu : X.A.units + 64 < cLine) : OpR X (compareOp .Eq) (rEqA X.K) := OpR.or (op_eqD hu) (OpR.or (op_eqLen hu) op_eq)
theorem op_neA (hu : X.A.units + 64 < cLine) : OpR X (compareOp .NotEq) (rNeA X.K) := OpR.or (op_neD hu) (OpR.or (op_neLen hu) op_ne)
theorem eqGen_ok (h : eqGen d e = some b) (h1 : RepP K M H d x) (h2 : RepP K M H e y) : Dp K H x (toPy d) ∧ Dp K H y (toPy e) ∧ SeqAt.shaped (toPy d) = true ∧ SeqAt.shaped (toPy e) = true ∧ PyData.eqv (toPy d) (toPy e) = b := by
  unfold eqGen at h
  split at h
  · rename_i c
    rw [Bool.and_eq_true] at c
    cases h
    exact ⟨dpP_of (SeqAt.canLay_of_shaped c.1) h1, dpP_of (SeqAt.canLay_of_shaped c.2) h2, c.1, c.2, rfl⟩
  · cases h
theorem eqD_ok (h : eqD d e = some b) (h1 : RepP K M H d x) (h2 : RepP K M H e y) :
    (∀ Q : VK, Q (.bl b) H → rEqA K x y H Q) ∧ (∀ Q : VK, Q (.bl (!b)) H → rNeA K x y H Q) := by
  have gen : eqGen d e = some b → (∀ Q : VK, Q (.bl b) H → rEqA K x y H Q) ∧ (∀ Q : VK, Q (.bl (!b)) H → rNeA K x y H Q) := fun g => by
    obtain ⟨q1, q2, q3, q4, q5⟩ := eqGen_ok g h1 h2
    exact ⟨fun Q k => .inl ⟨_, _, q1, q2, q3, q4, by rw [q5]; exact k⟩, fun Q k => .inl ⟨_, _, q1, q2, q3, q4, by rw [q5]; exact k⟩⟩
  unfold eqD at h
  split at h
  · rename_i i j
    cases h
    have e1 : x = .int i := by simpa only [RepP, Rep] using h1
    have e2 : y = .int j := by simpa only [RepP, Rep] using h2
    subst e1 e2
    have e3 : decide (V.int i = V.int j) = (i == j) := dec_int
    exact ⟨fun Q k => .inr (.inr ⟨rfl, by rw [e3]; exact k⟩), fun Q k => .inr (.inr ⟨rfl, by rw [e3]; exact k⟩)⟩
  · rename_i i j
    cases h
    have e1 : x = .str i := by simpa only [RepP, Rep] using h1
    have e2 : y = .str j := by simpa only [RepP, Rep] using h2
    subst e1 e2
    have e3 : decide (V.str i = V.str j) = (i == j) := dec_str
    exact ⟨fun Q k => .inr (.inr ⟨rfl, by rw [e3]; exact k⟩), fun Q k => .inr (.inr ⟨rfl, by rw [e3]; exact k⟩)⟩
  · rename_i i j
    cases h
    have e1 : x = .bl i := by simpa only [RepP, Rep] using h1
    have e2 : y = .bl j := by simpa only [RepP, Rep] using h2
    subst e1 e2
    have e3 : decide (V.bl i = V.bl j) = (i == j) := dec_bl
    exact ⟨fun Q k => .inr (.inr ⟨rfl, by rw [e3]; exact k⟩), fun Q k => .inr (.inr ⟨rfl, by rw [e3]; exact k⟩)⟩
  · rename_i xs ys
    split at h
    · rename_i hn
      cases h
      obtain ⟨a, vs, e1, g1, r1⟩ := h1
      obtain ⟨a2, vs2, e2, g2, r2⟩ := h2
      have n : vs.length ≠ vs2.length := by rw [r1.length, r2.length]; exact hn
      exact ⟨fun Q k => .inr (.inl ⟨a, a2, vs, vs2, e1, e2, SqL.of g1, SqL.of g2, n, k⟩), fun Q k => .inr (.inl ⟨a, a2, vs, vs2, e1, e2, SqL.of g1, SqL.of g2, n, k⟩)⟩
    · rename_i hn
      split at h
      · rename_i he
        cases h
        have hl : xs.length = ys.length := by simpa using hn
        have e1 : xs = [] := by simpa using he
        subst e1
        have e2 : ys = [] := by cases ys with | nil => rfl | cons _ _ => simp at hl
        subst e2
        exact gen rfl
      · exact gen h
  · exact gen h
end
def flatD : D → Bool
  | .non | .bl _ | .int _ | .str _ => true
  | _ => false
def vOf : D → V
  | .non => .non | .bl b => .bl b | .int i => .int i | .str x => .str x | _ => .non
theorem flat_v {K : PySem.W.Frag} {M : Addr → Prop} {H : Hp} {d : D} {v : V} (f : flatD d = true) (h : RepP K M H d v) : v = vOf d ∧ flatV v = true := by
  cases d <;> first | (simp [flatD] at f; done) | (simp only [RepP, Rep] at h; subst h; exact ⟨rfl, rfl⟩)
theorem flat_vs {K : PySem.W.Frag} {M : Addr → Prop} {H : Hp} : ∀ {ds : List D} {vs : List V}, ds.all flatD = true → Reps K M H ds vs → vs = ds.map vOf ∧ vs.all flatV = true
  | [], vs, _, h => by simp only [Reps] at h; subst h; exact ⟨rfl, rfl⟩
  | d :: ds, vs, f, h => by
    simp only [Reps] at h
    obtain ⟨v, r, e, h1, h2⟩ := h
    subst e
    simp only [List.all_cons, Bool.and_eq_true] at f ⊢
    obtain ⟨e1, f1⟩ := flat_v f.1 h1.p
    obtain ⟨e2, f2⟩ := flat_vs f.2 h2
    exact ⟨by rw [e1, e2]; rfl, f1, f2⟩
def keyD : D → Option Key
  | .int i => some (.inl i)
  | .str x => some (.inr x)
  | _ => none
/-- x in y -/
def inD (d e : D) : Option Bool :=
  match e with
  | .tup xs => if flatD d && xs.all flatD then some (inV (vOf d) (xs.map vOf)) else none
  | .lst xs => if flatD d && xs.all flatD then some (inV (vOf d) (xs.map vOf)) else none
  | .dct ks _ => match keyD d with
    | some k => some (ks.any fun j => decide (j = k))
    | none => none
  | _ => none
def rInA (K : PySem.W.Frag) (neg : Bool) : R2 := fun x y H Q => rIn K neg x y H Q ∨ ∃ a o, y = .ref a ∧ DGet H a x o ∧ Q (.bl (if neg then !o.isSome else o.isSome)) H
section
variable {X : Cx} {K : PySem.W.Frag} {M : Addr → Prop} {H : Hp} {d e : D} {x y : V} {b : Bool}
theorem op_inA (hu : X.A.units + 64 < cLine) : OpR X (compareOp .In) (rInA X.K false) := by
  refine OpR.or op_in_seq ?_
  intro pins s σ H x y v u Q I rx ry h
  obtain ⟨a, o, rfl, g, k⟩ := h
  cases (show u = Value.ref a from ry)
  exact d_in (by omega) I g rx fun s' I' => ⟨.bl _, H, I', rfl, k⟩
theorem op_notInA (hu : X.A.units + 64 < cLine) : OpR X (compareOp .NotIn) (rInA X.K true) := by
  refine OpR.or op_notIn_seq ?_
  intro pins s σ H x y v u Q I rx ry h
  obtain ⟨a, o, rfl, g, k⟩ := h
  cases (show u = Value.ref a from ry)
  exact d_notIn (by omega) I g rx fun s' I' => ⟨.bl _, H, I', rfl, k⟩
theorem valV_mem {k : Key} {kvs : List (Key × V)} : (valV kvs k).isSome = (kvs.map (·.1)).any fun j => decide (j = k) := by
  rw [← valV_any, List.any_map]
  rfl
theorem inD_ok {neg : Bool} (h : inD d e = some b) (h1 : RepP K M H d x) (h2 : RepP K M H e y) (Q : VK) (k : Q (.bl (if neg then !b else b)) H) : rInA K neg x y H Q := by
  unfold inD at h
  split at h
  · split at h
    · rename_i c
      cases h
      rw [Bool.and_eq_true] at c
      obtain ⟨e1, f1⟩ := flat_v c.1 h1
      simp only [RepP, Rep] at h2
      obtain ⟨a, vs, e2, g, rs⟩ := h2
      obtain ⟨e3, f3⟩ := flat_vs c.2 rs
      refine .inl ⟨a, vs, e2, .inr g, f1, f3, ?_⟩
      rw [e1, e3]; exact k
    · cases h
  · split at h
    · rename_i c
      cases h
      rw [Bool.and_eq_true] at c
      obtain ⟨e1, f1⟩ := flat_v c.1 h1
      obtain ⟨a, vs, e2, g, rs⟩ := h2
      obtain ⟨e3, f3⟩ := flat_vs c.2 rs
      refine .inl ⟨a, vs, e2, .inl (SqL.of g), f1, f3, ?_⟩
      rw [e1, e3]; exact k
    · cases h
  · rename_i ks ds
    simp only [RepP, Rep] at h2
    obtain ⟨a, kvs, e2, g, _, ek, rs⟩ := h2
    cases ek2 : keyD d with
    | none => rw [ek2] at h; cases h
    | some key =>
      rw [ek2] at h
      cases h
      have ex : x = kV key := by
        cases d <;> simp only [keyD] at ek2 <;> cases ek2 <;> (simp only [RepP, Rep] at h1; subst h1; rfl)
      subst ex
      refine .inr ⟨a, _, e2, DGet.k g, ?_⟩
      rw [valV_mem, ek]; exact k
  · cases h
end
end RF
set_option maxHeartbeats 1000000
/-! RF3: operators, subscripts, built-ins on plain data. -/
namespace RF
open PySem PySem.Spec PyProof.Rows L2
/-- a power of any size -/
def CPowB (i j : Int) : Prop := 0 ≤ j ∧ (Builtin.Int.intBits i : Int) * j ≤ 2 ^ 27
def rRep1 (K : PySem.W.Frag) : R2 := fun x y H Q => ∃ l xs, x = .ref l ∧ y = .int 1 ∧ SqT K H l xs ∧ Q (.ref l) H
section
theorem tuple_mul1 (l : Addr) (items : Array Value) (n : Nat) (dd : Option Addr) (sl : Array (Option Value)) (u : Tok) :
    Meets (Builtin.«tuple.__mul__» ⟨[.ref l, .int 1 u], []⟩) (fun _ R s => s.heap.get? l = some { cls := .type "tuple", dict := dd, data := .seq items n, slots := sl } ∧
      R (.ok (.ret (Value.ref l))) s) :=
  .of_wp fun prog w A R s h => by
    obtain ⟨hp, g, d, tk, os⟩ := s
    obtain ⟨hl, h⟩ := h
    have f1 := AutoSeq1.idx_int
    have c0 : (decide ((1 : Int) < -(2 ^ 63)) || decide ((1 : Int) ≥ 2 ^ 63)) = false := by decide
    have c1 : (items.isEmpty || (1 : Int) == 1) = true := by simp
    wp_walk using wpAny_loadPart' hl
    repeat (first
      | (refine wpAny_ite_false (decide_eq_false (by rw [c0]; exact Bool.false_ne_true)) ?_; wp_walk using wpAny_loadPart' hl)
      | (refine wpAny_ite_true (decide_eq_true (by rw [c1])) ?_; wp_walk using wpAny_loadPart' hl))
    exact ⟨_, rfl, h⟩
variable {X : Cx}
theorem op_rep1 : OpR X (binaryOp .Mult) (rRep1 X.K) := by
  intro pins s σ H x y v u Q I rx ry h
  obtain ⟨l, xs, rfl, rfl, hT, q⟩ := h
  cases rx
  obtain ⟨t, rfl⟩ := ry
  obtain ⟨its, r, ⟨⟨cls, dd, data, sl⟩, ho, hc, n, hd⟩, hs⟩ := I.tuple hT
  simp only at hc hd
  subst hc hd
  refine wpAny_binaryOp_repeat_ref (T := "tuple") (U := "int") (by decide) ⟨_, ho, rfl⟩ (fun s' => typeIs_int s' 1 t) noFill_tuple_mul F.fills_int_mul F.slot_int_rmul repeat_tuple F.slot_int_index.lookup
    (call_meets F.slot_int_rmul (typeIs_int s 1 t) F.entry_int_rmul (F.args_int_rmul_2 _ _) (int_rmul_tuple 1 t l its.toArray n dd sl)
      ⟨ho, rfl, ⟨_, ho, rfl⟩, call_meets F.slot_tuple_mul ⟨_, ho, rfl⟩ F.entry_tuple_mul (F.args_tuple_mul_2 _ _) (tuple_mul1 l its.toArray n dd sl t) ⟨ho, ?_⟩⟩)
  exact ⟨.ref l, H, I, rfl, q⟩
theorem op_powB : OpR X (binaryOp .Pow) (rI CPowB fun i j => .int (i ^ j.toNat)) := opI fun _ _ _ _ _ _ _ hc q => pow_int hc.1 hc.2 q
end
theorem same_new {H : Hp} {p : Addr} {o : HO} (n : H p = none) : Same H (upd H p o) := fun b u h => by
  rw [upd_ne (ne_of_none h n)]; exact h
/-! ### two-place operators -/
def binD (o : Operator) (d e : D) : Option R :=
  match o, d, e with
  | .Add, .int i, .int j => some (.val (.int (i + j)))
  | .Add, .str x, .str y => if x.length + y.length ≤ lim then some (.val (.str (x ++ y))) else none
  | .Add, .tup xs, .tup ys => if xs.length + ys.length ≤ lim then some (.val (.tup (xs ++ ys))) else none
  | .Add, .lst xs, .lst ys => if xs.length + ys.length ≤ lim then some (.fresh (xs ++ ys)) else none
  | .Sub, .int i, .int j => some (.val (.int (i - j)))
  | .Mult, .int i, .int j => if i.natAbs.log2 + j.natAbs.log2 < 1000000 then some (.val (.int (i * j))) else none
  | .Mult, .lst xs, .int k => if -(2 ^ 63) ≤ k ∧ k < 2 ^ 63 ∧ xs.length * k.toNat ≤ lim then some (.fresh (List.replicate k.toNat xs).flatten) else none
  | .Mult, .tup xs, .int k => if k = 1 then some (.val (.tup xs)) else
      if xs ≠ [] ∧ 2 ≤ k ∧ k ≤ 1000 ∧ xs.length ≤ 1000 then some (.val (.tup (List.replicate k.toNat xs).flatten)) else none
  | .FloorDiv, .int i, .int j => if 0 < j ∧ j.natAbs.log2 < 9000 then some (.val (.int (i / j))) else none
  | .Mod, .int i, .int j => if 0 < j then some (.val (.int (i % j))) else none
  | .Pow, .int i, .int j => if 0 ≤ j ∧ (Builtin.Int.intBits i : Int) * j ≤ 2 ^ 27 then some (.val (.int (i ^ j.toNat))) else none
  | _, _, _ => none
def rAddAll (K : PySem.W.Frag) : R2 := fun x y H Q => rI0 (fun i j => .int (i + j)) x y H Q ∨ (∃ i j, x = .str i ∧ y = .str j ∧ i.length + j.length ≤ sizeLine ∧ Q (.str (i ++ j)) H) ∨ rCatA K x y H Q ∨ rCat x y H Q
def rMulAll (K : PySem.W.Frag) : R2 := fun x y H Q => rI CMulW (fun i j => .int (i * j)) x y H Q ∨ rRep x y H Q ∨ rRepT K x y H Q ∨ rRep1 K x y H Q
def rBin (K : PySem.W.Frag) : Operator → R2
  | .Add => rAddAll K
  | .Sub => rI0 fun i j => .int (i - j)
  | .Mult => rMulAll K
  | .FloorDiv => rI CDivW fun i j => .int (i / j)
  | .Mod => rI (fun _ j => 0 < j) fun i j => .int (i % j)
  | .Pow => rI CPowB fun i j => .int (i ^ j.toNat)
  | _ => fun _ _ _ _ => False
theorem op_none {X : Cx} {f : Value → Value → Sem Value} : OpR X f (fun _ _ _ _ => False) := fun _ _ _ _ _ _ _ _ _ _ _ _ h => h.elim
theorem op_bin {X : Cx} (o : Operator) : OpR X (binaryOp o) (rBin X.K o) := by
  cases o
  case Add => exact OpR.or op_add (OpR.or op_add_str (OpR.or op_catA op_cat))
  case Sub => exact op_sub
  case Mult => exact OpR.or op_mulW (OpR.or op_rep (OpR.or op_repT op_rep1))
  case FloorDiv => exact op_fdivW
  case Mod => exact op_mod
  case Pow => exact op_powB
  all_goals exact op_none
section
variable {K : PySem.W.Frag} {M : Addr → Prop} {H H' : Hp} {d e : D} {x y : V} {r : R} {Q : VK}
theorem RepP.int {i : Int} (h : RepP K M H (.int i) x) : x = .int i := by simpa only [RepP, Rep] using h
theorem RepP.str {i : Str} (h : RepP K M H (.str i) x) : x = .str i := by simpa only [RepP, Rep] using h
theorem RepP.bl {i : Bool} (h : RepP K M H (.bl i) x) : x = .bl i := by simpa only [RepP, Rep] using h
theorem RepP.non (h : RepP K M H .non x) : x = .non := by simpa only [RepP, Rep] using h
theorem RepP.tup {ds : List D} (h : RepP K M H (.tup ds) x) : ∃ a vs, x = .ref a ∧ SqT K H a vs ∧ Reps K M H ds vs := by simpa only [RepP, Rep] using h
theorem RepP.lst {ds : List D} (h : RepP K M H (.lst ds) x) : ∃ a vs, x = .ref a ∧ H a = some (.lst vs) ∧ Reps K M H ds vs := h
theorem RepP.scr {ns : List Int} (h : RepP K M H (.scr ns) x) : ∃ a, x = .ref a ∧ ScrAt K M H a ns := by simpa only [RepP, Rep] using h
theorem Rep.int {i : Int} : Rep K M H (.int i) (.int i) := by simp only [Rep]
theorem Rep.str {i : Str} : Rep K M H (.str i) (.str i) := by simp only [Rep]
theorem Rep.bl {i : Bool} : Rep K M H (.bl i) (.bl i) := by simp only [Rep]
theorem Rep.non : Rep K M H .non .non := by simp only [Rep]
theorem Rep.tup {a : Addr} {vs : List V} {ds : List D} (h : SqT K H a vs) (h2 : Reps K M H ds vs) : Rep K M H (.tup ds) (.ref a) := by simp only [Rep]; exact ⟨a, vs, rfl, h, h2⟩
theorem Rep.newTup {p : Addr} {vs : List V} {ds : List D} (n : H p = none) (h2 : Reps K M H ds vs) : Rep K M (upd H p (.tup vs)) (.tup ds) (.ref p) := Rep.tup (SqT.of upd_same) (h2.same (same_new n))
theorem ResP.int {i : Int} : ResP K M H H' (.val (.int i)) (.int i) := Rep.int (K := K) (M := M) (H := H')
theorem ResP.str {i : Str} : ResP K M H H' (.val (.str i)) (.str i) := Rep.str (K := K) (M := M) (H := H')
theorem ResP.bl {i : Bool} : ResP K M H H' (.val (.bl i)) (.bl i) := Rep.bl (K := K) (M := M) (H := H')
theorem ResP.newLst {p : Addr} {vs : List V} {ds : List D} (n : H p = none) (h2 : Reps K M H ds vs) : ResP K M H (upd H p (.lst vs)) (.fresh ds) (.ref p) := ⟨p, vs, rfl, n, upd_same, h2⟩
theorem binD_ok {o : Operator} (h : binD o d e = some r) (h1 : RepP K M H d x) (h2 : RepP K M H e y) (k : ∀ z H', Same H H' → ResP K M H H' r z → Q z H') : rBin K o x y H Q := by
  unfold binD at h
  split at h
  · cases h
    cases h1.int; cases h2.int
    exact .inl ⟨_, _, rfl, rfl, k _ H (Same.refl H) ResP.int⟩
  · split at h
    · rename_i c
      cases h
      cases h1.str; cases h2.str
      exact .inr (.inl ⟨_, _, rfl, rfl, lim_le c, k _ H (Same.refl H) ResP.str⟩)
    · cases h
  · split at h
    · rename_i c
      cases h
      obtain ⟨a, vs, rfl, g1, r1⟩ := h1.tup
      obtain ⟨b, us, rfl, g2, r2⟩ := h2.tup
      refine .inr (.inr (.inl ⟨a, b, vs, us, rfl, rfl, g1, g2, by rw [r1.length, r2.length]; exact lim_le c, fun z => ?_, fun z z' => ?_, fun _ _ p n => ?_⟩))
      · subst z
        have q := r1.length
        rename_i X1 Y1
        have : X1 = [] := List.eq_nil_of_length_eq_zero q.symm
        subst this
        exact k _ H (Same.refl H) (Rep.tup g2 (by simpa using r2))
      · subst z'
        have q := r2.length
        rename_i X1 Y1
        have : Y1 = [] := List.eq_nil_of_length_eq_zero q.symm
        subst this
        exact k _ H (Same.refl H) (Rep.tup g1 (by simpa using r1))
      · exact k _ _ (same_new n) (Rep.newTup n (r1.append r2))
    · cases h
  · split at h
    · rename_i c
      cases h
      obtain ⟨a, vs, rfl, g1, r1⟩ := h1.lst
      obtain ⟨b, us, rfl, g2, r2⟩ := h2.lst
      exact .inr (.inr (.inr ⟨a, b, vs, us, rfl, rfl, g1, g2, by rw [r1.length, r2.length]; exact lim_le c, fun p n => k _ _ (same_new n) (ResP.newLst n (r1.append r2))⟩))
    · cases h
  · cases h
    cases h1.int; cases h2.int
    exact ⟨_, _, rfl, rfl, k _ H (Same.refl H) ResP.int⟩
  · split at h
    · rename_i c
      cases h
      cases h1.int; cases h2.int
      exact .inl ⟨_, _, rfl, rfl, c, k _ H (Same.refl H) ResP.int⟩
    · cases h
  · split at h
    · rename_i c
      cases h
      obtain ⟨a, vs, rfl, g1, r1⟩ := h1.lst
      cases h2.int
      exact .inr (.inl ⟨a, _, vs, rfl, rfl, g1, c.1, c.2.1, by rw [r1.length]; exact lim_le c.2.2, fun p n => k _ _ (same_new n) (ResP.newLst n (r1.rep _))⟩)
    · cases h
  · split at h
    · rename_i c
      cases h
      obtain ⟨a, vs, rfl, g1, r1⟩ := h1.tup
      cases h2.int
      subst c
      exact .inr (.inr (.inr ⟨a, vs, rfl, rfl, g1, k _ H (Same.refl H) (Rep.tup g1 r1)⟩))
    · split at h
      · rename_i c
        cases h
        obtain ⟨a, vs, rfl, g1, r1⟩ := h1.tup
        cases h2.int
        refine .inr (.inr (.inl ⟨a, _, vs, rfl, rfl, g1, fun z => ?_, c.2.1, c.2.2.1, by rw [r1.length]; exact c.2.2.2, fun p n => k _ _ (same_new n) (Rep.newTup n (r1.rep _))⟩))
        subst z
        exact c.1 (List.eq_nil_of_length_eq_zero r1.length.symm)
      · cases h
  · split at h
    · rename_i c
      cases h
      cases h1.int; cases h2.int
      exact ⟨_, _, rfl, rfl, c, k _ H (Same.refl H) ResP.int⟩
    · cases h
  · split at h
    · rename_i c
      cases h
      cases h1.int; cases h2.int
      exact ⟨_, _, rfl, rfl, c, k _ H (Same.refl H) ResP.int⟩
    · cases h
  · split at h
    · rename_i c
      cases h
      cases h1.int; cases h2.int
      exact ⟨_, _, rfl, rfl, c, k _ H (Same.refl H) ResP.int⟩
    · cases h
  · cases h
end
/-! ### comparisons -/
def isNonD : D → Bool | .non => true | _ => false
def cmpD (o : CmpOp) (d e : D) : Option Bool :=
  match o with
  | .Eq => eqD d e
  | .NotEq => (eqD d e).map (!·)
  | .Lt => match d, e with | .int i, .int j => some (decide (i < j)) | .str x, .str y => some (decide (x.cps.toList < y.cps.toList)) | _, _ => none
  | .LtE => match d, e with | .int i, .int j => some (decide (i ≤ j)) | _, _ => none
  | .Gt => match d, e with | .int i, .int j => some (decide (j < i)) | _, _ => none
  | .GtE => match d, e with | .int i, .int j => some (decide (j ≤ i)) | _, _ => none
  | .In => inD d e
  | .NotIn => (inD d e).map (!·)
  | .Is => match e with
    | .non => some (isNonD d)
    | .bl b => match d with | .bl a => some (decide (a = b)) | .non => some false | _ => none
    | _ => none
  | .IsNot => match e with
    | .non => some (!isNonD d)
    | .bl b => match d with | .bl a => some (!decide (a = b)) | .non => some true | _ => none
    | _ => none
/-- None is no truth value -/
def rNonB (b : Bool) : R2 := fun x y H Q => x = .non ∧ (∃ c, y = .bl c) ∧ Q (.bl b) H
theorem op_isNonB {X : Cx} : OpR X (compareOp .Is) (rNonB false) := by
  intro pins s σ H x y v u Q I rx ry h
  obtain ⟨rfl, ⟨c, rfl⟩, q⟩ := h
  cases (show v = Value.none from rx)
  cases (show u = Value.bool c from ry)
  exact wpAny_is_other rfl (fun z => nomatch z) ⟨.bl false, H, I, rfl, q⟩
theorem op_notNonB {X : Cx} : OpR X (compareOp .IsNot) (rNonB true) := by
  intro pins s σ H x y v u Q I rx ry h
  obtain ⟨rfl, ⟨c, rfl⟩, q⟩ := h
  cases (show v = Value.none from rx)
  cases (show u = Value.bool c from ry)
  exact wpAny_isNot_other rfl (fun z => nomatch z) ⟨.bl true, H, I, rfl, q⟩
def rCmp (K : PySem.W.Frag) : CmpOp → R2
  | .Eq => rEqA K
  | .NotEq => rNeA K
  | .Lt => fun x y H Q => rI0 (fun i j => .bl (decide (i < j))) x y H Q ∨ (∃ i j, x = .str i ∧ y = .str j ∧ Q (.bl (decide (i.cps.toList < j.cps.toList))) H)
  | .LtE => rI0 fun i j => .bl (decide (i ≤ j))
  | .Gt => rI0 fun i j => .bl (decide (j < i))
  | .GtE => rI0 fun i j => .bl (decide (j ≤ i))
  | .In => rInA K false
  | .NotIn => rInA K true
  | .Is => fun x y H Q => (y = .non ∧ Q (.bl (decide (x = .non))) H) ∨ rIsB x y H Q ∨ rNonB false x y H Q
  | .IsNot => fun x y H Q => (y = .non ∧ Q (.bl (!decide (x = .non))) H) ∨ rNotB x y H Q ∨ rNonB true x y H Q
theorem op_cmp {X : Cx} (hu : X.A.units + 64 < cLine) (o : CmpOp) : OpR X (compareOp o) (rCmp X.K o) := by
  cases o
  case Eq => exact op_eqA hu
  case NotEq => exact op_neA hu
  case Lt => exact OpR.or op_lt op_lt_str
  case LtE => exact op_le
  case Gt => exact op_gt
  case GtE => exact op_ge
  case In => exact op_inA hu
  case NotIn => exact op_notInA hu
  case Is => exact OpR.or op_isN (OpR.or op_isBl op_isNonB)
  case IsNot => exact OpR.or op_notN (OpR.or op_notBl op_notNonB)
section
variable {K : PySem.W.Frag} {M : Addr → Prop} {H H' : Hp} {d e : D} {x y : V} {b : Bool} {Q : VK}
theorem RepP.isNon (h : RepP K M H d x) : decide (x = .non) = isNonD d := by
  cases d with
  | non => cases h.non; rfl
  | bl _ => cases h.bl; rfl
  | int _ => cases h.int; rfl
  | str _ => cases h.str; rfl
  | tup _ => obtain ⟨a, vs, e, _⟩ := h.tup; subst e; rfl
  | lst _ => obtain ⟨a, vs, e, _⟩ := h.lst; subst e; rfl
  | dct _ _ => simp only [RepP, Rep] at h; obtain ⟨a, vs, e, _⟩ := h; subst e; rfl
  | scr _ => obtain ⟨a, e, _⟩ := h.scr; subst e; rfl
  | ty _ => simp only [RepP, Rep] at h; subst h; rfl
  | fn _ _ _ => simp only [RepP, Rep] at h; obtain ⟨e, _⟩ := h; subst e; rfl
  | gl _ => simp only [RepP, Rep] at h; subst h; rfl
theorem cmpD_ok {o : CmpOp} (h : cmpD o d e = some b) (h1 : RepP K M H d x) (h2 : RepP K M H e y) (k : Q (.bl b) H) : rCmp K o x y H Q := by
  cases o with
  | Eq => exact (eqD_ok h h1 h2).1 Q k
  | NotEq =>
    simp only [cmpD, Option.map_eq_some_iff] at h
    obtain ⟨c, e1, rfl⟩ := h
    exact (eqD_ok e1 h1 h2).2 Q k
  | Lt =>
    simp only [cmpD] at h
    split at h
    · cases h; cases h1.int; cases h2.int; exact .inl ⟨_, _, rfl, rfl, k⟩
    · cases h; cases h1.str; cases h2.str; exact .inr ⟨_, _, rfl, rfl, k⟩
    · cases h
  | LtE =>
    simp only [cmpD] at h
    split at h
    · cases h; cases h1.int; cases h2.int; exact ⟨_, _, rfl, rfl, k⟩
    · cases h
  | Gt =>
    simp only [cmpD] at h
    split at h
    · cases h; cases h1.int; cases h2.int; exact ⟨_, _, rfl, rfl, k⟩
    · cases h
  | GtE =>
    simp only [cmpD] at h
    split at h
    · cases h; cases h1.int; cases h2.int; exact ⟨_, _, rfl, rfl, k⟩
    · cases h
  | In => exact inD_ok (neg := false) h h1 h2 Q k
  | NotIn =>
    simp only [cmpD, Option.map_eq_some_iff] at h
    obtain ⟨c, e1, rfl⟩ := h
    exact inD_ok (neg := true) e1 h1 h2 Q k
  | Is =>
    simp only [cmpD] at h
    split at h
    · cases h
      cases h2.non
      exact .inl ⟨rfl, by rw [h1.isNon]; exact k⟩
    · split at h
      · cases h; cases h1.bl; cases h2.bl; exact .inr (.inl ⟨_, _, rfl, rfl, k⟩)
      · cases h; cases h1.non; cases h2.bl; exact .inr (.inr ⟨rfl, ⟨_, rfl⟩, k⟩)
      · cases h
    · cases h
  | IsNot =>
    simp only [cmpD] at h
    split at h
    · cases h
      cases h2.non
      refine .inl ⟨rfl, ?_⟩
      rw [h1.isNon]
      exact k
    · split at h
      · cases h; cases h1.bl; cases h2.bl; exact .inr (.inl ⟨_, _, rfl, rfl, k⟩)
      · cases h; cases h1.non; cases h2.bl; exact .inr (.inr ⟨rfl, ⟨_, rfl⟩, k⟩)
      · cases h
    · cases h
end
/-! ### truth, subscripts, slices -/
def truD : D → Option Bool
  | .non => some false
  | .bl b => some b
  | .int i => some (i != 0)
  | .str x => if x.length ≤ lim then some ((x.length : Int) != 0) else none
  | .tup xs => some (!xs.isEmpty)
  | .lst xs => some (!xs.isEmpty)
  | .dct ks _ => some (!ks.isEmpty)
  | .scr _ => none
  | .ty _ => none
  | .fn _ _ _ => none
  | .gl _ => none
def ixD : D → D → Option D
  | .lst xs, .int i => atI xs i
  | .tup xs, .int i => atI xs i
  | .str z, .int i => if z.length ≤ lim then (atI z.cps.toList i).map fun c => .str ⟨#[c]⟩ else none
  | .scr ns, .int i => (atI ns i).map .int
  | _, _ => none
def cutD (xs : List D) (lo hi : Option Int) : List D := (xs.drop (HT.sIx xs.length 0 lo)).take (HT.sIx xs.length xs.length hi - HT.sIx xs.length 0 lo)
def slD : D → Option Int → Option Int → Option R
  | .tup xs, lo, hi => some (.val (.tup (cutD xs lo hi)))
  | .lst xs, lo, hi => some (.fresh (cutD xs lo hi))
  | _, _, _ => none
def rSlAll (K : PySem.W.Frag) : V → Option Int → Option Int → Hp → VK → Prop := fun x lo hi H Q => rSlA K x lo hi H Q ∨ rSlL K x lo hi H Q
section
variable {K : PySem.W.Frag} {M : Addr → Prop} {H H' : Hp} {d e : D} {x y : V} {b : Bool} {Q : VK} {r : R} {ds : List D} {vs : List V}
theorem isEmpty_reps (h : Reps K M H ds vs) : vs.isEmpty = ds.isEmpty := by
  have q := h.length
  cases vs <;> cases ds <;> simp at q ⊢
theorem truD_ok (h : truD d = some b) (h1 : RepP K M H d x) : TruV K x H b := by
  cases d with
  | non => cases h1.non; cases h; rfl
  | bl _ => cases h1.bl; cases h; rfl
  | int _ => cases h1.int; cases h; rfl
  | str z =>
    cases h1.str
    simp only [truD] at h
    split at h
    · rename_i c; cases h; exact ⟨lim_le c, rfl⟩
    · cases h
  | tup _ => obtain ⟨a, vs, e, g, rs⟩ := h1.tup; subst e; cases h; exact .inr (.inl ⟨vs, g, by rw [isEmpty_reps rs]⟩)
  | lst _ => obtain ⟨a, vs, e, g, rs⟩ := h1.lst; subst e; cases h; exact .inl ⟨vs, SqL.of g, by rw [isEmpty_reps rs]⟩
  | dct ks _ =>
    simp only [RepP, Rep] at h1; obtain ⟨a, kvs, e, g, _, ek, _⟩ := h1; subst e; cases h
    refine .inr (.inr ⟨kvs, g, ?_⟩)
    rw [← ek]
    cases kvs <;> rfl
  | scr _ => cases h
  | ty _ => cases h
  | fn _ _ _ => cases h
  | gl _ => cases h
theorem atI_rep {i : Int} (h : Reps K M H ds vs) (e : atI ds i = some d) : ∃ v, atI vs i = some v ∧ Rep K M H d v := by
  unfold atI at e ⊢
  rw [h.length]
  cases q : ixN ds.length i with
  | none => rw [q] at e; cases e
  | some j =>
    rw [q] at e
    exact h.get' e
theorem ixD_ok (h : ixD d e = some d') (h1 : RepP K M H d x) (h2 : RepP K M H e y) (k : ∀ z, Rep K M H d' z → Q z H) : rIx K x y H Q := by
  unfold ixD at h
  split at h
  · obtain ⟨a, vs, e1, g, rs⟩ := h1.lst
    cases h2.int
    obtain ⟨v, q1, q2⟩ := atI_rep rs h
    exact .inl ⟨a, vs, _, v, e1, rfl, SqL.of g, q1, k v q2⟩
  · obtain ⟨a, vs, e1, g, rs⟩ := h1.tup
    cases h2.int
    obtain ⟨v, q1, q2⟩ := atI_rep rs h
    exact .inr (.inl ⟨a, vs, _, v, e1, rfl, g, q1, k v q2⟩)
  · cases h1.str
    cases h2.int
    split at h
    · rename_i c
      rw [Option.map_eq_some_iff] at h
      obtain ⟨cc, q1, q2⟩ := h
      subst q2
      exact .inr (.inr ⟨_, _, cc, rfl, rfl, lim_le c, q1, k _ Rep.str⟩)
    · cases h
  · obtain ⟨a, e1, g⟩ := h1.scr
    cases h2.int
    rw [Option.map_eq_some_iff] at h
    obtain ⟨n, q1, q2⟩ := h
    subst q2
    refine .inl ⟨a, _, _, .int n, e1, rfl, g.seq, ?_, k _ Rep.int⟩
    unfold atI at q1 ⊢
    rw [List.length_map]
    rename_i ns i
    cases q : ixN ns.length i with
    | none => rw [q] at q1; cases q1
    | some j =>
      rw [q] at q1
      have q1' : ns[j]? = some n := q1
      show (ns.map V.int)[j]? = some (V.int n)
      rw [List.getElem?_map, q1']; rfl
  · cases h
theorem cut_reps {lo hi : Option Int} (h : Reps K M H ds vs) : Reps K M H (cutD ds lo hi) (cutV vs lo hi) := by
  unfold cutD cutV
  rw [h.length]
  exact (h.drop _).take _
theorem sl_all {X : Cx} : SlR X (rSlAll X.K) := SlR.or sl_tupA sl_list
theorem slD_ok {lo hi : Option Int} (h : slD d lo hi = some r) (h1 : RepP K M H d x) (k : ∀ z H', Same H H' → ResP K M H H' r z → Q z H') : rSlAll K x lo hi H Q := by
  unfold slD at h
  split at h
  · cases h
    obtain ⟨a, vs, e1, g, rs⟩ := h1.tup
    refine .inl ⟨a, vs, e1, g, fun w => ?_, fun w p n => k _ _ (same_new n) (Rep.newTup n (cut_reps rs))⟩
    have e : cutV vs lo hi = vs := by
      unfold cutV
      rw [w.1, w.2, List.drop_zero, Nat.sub_zero, List.take_length]
    refine k _ H (Same.refl H) (Rep.tup g ?_)
    have q := cut_reps (lo := lo) (hi := hi) rs
    rwa [e] at q
  · cases h
    obtain ⟨a, vs, e1, g, rs⟩ := h1.lst
    exact .inr ⟨a, vs, e1, SqL.of g, fun p n => k _ _ (same_new n) (ResP.newLst n (cut_reps rs))⟩
  · cases h
end
end RF
set_option maxHeartbeats 1000000
/-! RF4: expressions: what the evaluator gives is what the layer's rules ask. -/
namespace RF
open PySem PySem.Spec PyProof.Rows L2
def evCst (d : D) : EvF := fun ρ => some (.val d, ρ)
def evVar (i : Nat) : EvF := fun ρ => match ρ[i]? with
  | some (.val d) => some (.val d, ρ)
  | some (.own _ _) => some (.ali i, ρ)
  | _ => none
def evBin (o : Operator) (f g : EvF) : EvF := fun ρ => (f ρ).bind fun p => (g p.2).bind fun q => (deref q.2 p.1).bind fun d => (deref q.2 q.1).bind fun e => (binD o d e).map fun r => (r, q.2)
def evCmp (o : CmpOp) (f g : EvF) : EvF := fun ρ => (f ρ).bind fun p => (g p.2).bind fun q => (deref q.2 p.1).bind fun d => (deref q.2 q.1).bind fun e => (cmpD o d e).map fun b => (.val (.bl b), q.2)
/-- a o b o' c -/
def evChn (o o' : CmpOp) (f g h : EvF) : EvF := fun ρ => (f ρ).bind fun p => (g p.2).bind fun q => (deref q.2 p.1).bind fun d => (deref q.2 q.1).bind fun e => (cmpD o d e).bind fun b =>
  if b then (h q.2).bind fun s => (deref s.2 q.1).bind fun e' => (deref s.2 s.1).bind fun c => (cmpD o' e' c).map fun b' => (.val (.bl b'), s.2) else some (.val (.bl false), q.2)
def evNeg (f : EvF) : EvF := fun ρ => (f ρ).bind fun p => match deref p.2 p.1 with | some (.int i) => some (.val (.int (-i)), p.2) | _ => none
def evNot (f : EvF) : EvF := fun ρ => (f ρ).bind fun p => match deref p.2 p.1 with | some (.bl b) => some (.val (.bl (!b)), p.2) | _ => none
def evAnd (f g : EvF) : EvF := fun ρ => (f ρ).bind fun p => match deref p.2 p.1 with | some (.bl b) => if b then g p.2 else some (.val (.bl false), p.2) | _ => none
def evOr (f g : EvF) : EvF := fun ρ => (f ρ).bind fun p => match deref p.2 p.1 with | some (.bl b) => if b then some (.val (.bl true), p.2) else g p.2 | _ => none
def evIte (t : TvF) (f g : EvF) : EvF := fun ρ => (t ρ).bind fun p => if p.1 then f p.2 else g p.2
def evIx (f g : EvF) : EvF := fun ρ => (f ρ).bind fun p => (g p.2).bind fun q => (deref q.2 p.1).bind fun d => (deref q.2 q.1).bind fun e => (ixD d e).map fun r => (.val r, q.2)
/-- a slice's part -/
abbrev OvF := Lo → Option (Option Int × Lo)
def ovNone : OvF := fun ρ => some (none, ρ)
def ovSome (f : EvF) : OvF := fun ρ => (f ρ).bind fun p => match deref p.2 p.1 with | some (.int i) => some (some i, p.2) | _ => none
def evSl (f : EvF) (g h : OvF) : EvF := fun ρ => (f ρ).bind fun p => (g p.2).bind fun q => (h q.2).bind fun s => (deref s.2 p.1).bind fun d => (slD d q.1 s.1).map fun r => (r, s.2)
def tvOf (f : EvF) : TvF := fun ρ => (f ρ).bind fun p => (deref p.2 p.1).bind fun d => (truD d).map fun b => (b, p.2)
def tvNot (t : TvF) : TvF := fun ρ => (t ρ).map fun p => (!p.1, p.2)
def tvAnd (t u : TvF) : TvF := fun ρ => (t ρ).bind fun p => if p.1 then u p.2 else some (false, p.2)
def tvOr (t u : TvF) : TvF := fun ρ => (t ρ).bind fun p => if p.1 then some (true, p.2) else u p.2
def avNil : AvF := fun ρ => some ([], ρ)
def avCons (f : EvF) (g : AvF) : AvF := fun ρ => (f ρ).bind fun p => (g p.2).map fun q => (p.1 :: q.1, q.2)
def seqD : D → Option (List D)
  | .tup ds => some ds
  | .lst ds => some ds
  | _ => none
def avStar (f : EvF) (g : AvF) : AvF := fun ρ => (f ρ).bind fun p => ((deref p.2 p.1).bind seqD).bind fun ds => (g p.2).map fun q => (ds.map R.val ++ q.1, q.2)
/-- a value is kept: an owned list is an ordinary one from now on -/
def retain1 (ρ : Lo) : R → Option (D × Lo)
  | .val d => some (d, ρ)
  | .fresh ds => some (.lst ds, ρ)
  | .ali i => match ρ[i]? with
    | some (.own false ds) => some (.lst ds, ρ.set i (.val (.lst ds)))
    | some (.val d) => some (d, ρ)
    | _ => none
def retain : Lo → List R → Option (List D × Lo)
  | ρ, [] => some ([], ρ)
  | ρ, r :: rs => (retain1 ρ r).bind fun p => (retain p.2 rs).map fun q => (p.1 :: q.1, q.2)
def evTup (g : AvF) : EvF := fun ρ => (g ρ).bind fun p => (retain p.2 p.1).bind fun q => if q.1.length ≤ lim then some (.val (.tup q.1), q.2) else none
def evLst (g : AvF) : EvF := fun ρ => (g ρ).bind fun p => (retain p.2 p.1).bind fun q => if q.1.length ≤ lim then some (.fresh q.1, q.2) else none
section
variable {X : Cx} {a b c : Expr} {pos : Pos} {f g h : EvF} {t u : TvF} {av bv : AvF}
theorem bind_some {α β : Type} {o : Option α} {k : α → Option β} {y : β} (h : o.bind k = some y) : ∃ x, o = some x ∧ k x = some y := Option.bind_eq_some_iff.mp h
theorem map_some {α β : Type} {o : Option α} {k : α → β} {y : β} (h : o.map k = some y) : ∃ x, o = some x ∧ k x = y := Option.map_eq_some_iff.mp h
theorem ev_cst {e : Expr} {d : D} {v : V} (hp : PE X e (tC v)) (hr : ∀ (M : Addr → Prop) (H : Hp), Rep X.K M H d v) : PE X e (tEv X.K (evCst d)) :=
  PE.mono hp fun σ H Q ⟨M, B, ρ, A, r, ρ', e, S, k⟩ => by
    cases e
    exact k v H A Step.refl ⟨S, hr _ _⟩
theorem ev_var {i : Nat} {e : Expr} (hp : PE X e (tVar i)) : PE X e (tEv X.K (evVar i)) :=
  PE.mono hp fun σ H Q ⟨M, B, ρ, A, r, ρ', e, S, k⟩ => by
    unfold evVar at e
    split at e
    · rename_i d q
      cases e
      obtain ⟨v, _, h1, h2⟩ := S.valued q
      exact ⟨v, h1, k v H A Step.refl ⟨S, h2⟩⟩
    · rename_i b ds q
      cases e
      obtain ⟨a, vs, _, h1, _⟩ := S.owned q
      exact ⟨_, h1, k _ H A Step.refl ⟨S, h1⟩⟩
    · cases e
theorem ev_bin {o : Operator} (ha : PE X a (tEv X.K f)) (hb : PE X b (tEv X.K g)) : PE X (.BinOp a o b pos) (tEv X.K (evBin o f g)) :=
  PE.mono (pe_op (op_bin o) ha hb) fun σ H Q ⟨M, B, ρ, A, r, ρ', e, S, k⟩ => by
    obtain ⟨⟨r1, ρ1⟩, h1, e⟩ := bind_some e
    obtain ⟨⟨r2, ρ2⟩, h2, e⟩ := bind_some e
    obtain ⟨d, h3, e⟩ := bind_some e
    obtain ⟨d2, h4, e⟩ := bind_some e
    obtain ⟨r3, h5, e⟩ := map_some e
    cases e
    refine ⟨M, B, ρ, A, r1, ρ1, h1, S, fun x H1 A1 s1 o1 => ⟨M, B, ρ1, A1, r2, ρ2, h2, o1.st, fun y H2 A2 s2 o2 => ?_⟩⟩
    have a1 := (o1.arg.step o1.st s2).peek o2.st h3
    have a2 := o2.arg.peek o2.st h4
    refine binD_ok h5 a1 a2 fun z H3 sm rs => ?_
    exact k z H3 A2 ((s1.trans s2).trans (Step.same sm)) ((Out.of_res o2.st sm rs).back' (s1.trans s2))
theorem ev_cmp {o : CmpOp} (hu : X.A.units + 64 < cLine) (ha : PE X a (tEv X.K f)) (hb : PE X b (tEv X.K g)) (hm : behindInMarks o b = false) : PE X (.Compare a [o] [b] pos) (tEv X.K (evCmp o f g)) :=
  PE.mono (pe_cmpR (op_cmp hu o) ha hb hm) fun σ H Q ⟨M, B, ρ, A, r, ρ', e, S, k⟩ => by
    obtain ⟨⟨r1, ρ1⟩, h1, e⟩ := bind_some e
    obtain ⟨⟨r2, ρ2⟩, h2, e⟩ := bind_some e
    obtain ⟨d, h3, e⟩ := bind_some e
    obtain ⟨d2, h4, e⟩ := bind_some e
    obtain ⟨r3, h5, e⟩ := map_some e
    cases e
    refine ⟨M, B, ρ, A, r1, ρ1, h1, S, fun x H1 A1 s1 o1 => ⟨M, B, ρ1, A1, r2, ρ2, h2, o1.st, fun y H2 A2 s2 o2 => ?_⟩⟩
    have a1 := (o1.arg.step o1.st s2).peek o2.st h3
    have a2 := o2.arg.peek o2.st h4
    exact cmpD_ok h5 a1 a2 (k _ H2 A2 (s1.trans s2) ⟨o2.st, Rep.bl⟩)
theorem ev_neg (ha : PE X a (tEv X.K f)) : PE X (.UnaryOp .USub a pos) (tEv X.K (evNeg f)) :=
  PE.mono (pe_un un_neg ha) fun σ H Q ⟨M, B, ρ, A, r, ρ', e, S, k⟩ => by
    obtain ⟨⟨r1, ρ1⟩, h1, e⟩ := bind_some e
    refine ⟨M, B, ρ, A, r1, ρ1, h1, S, fun x H1 A1 s1 o1 => ?_⟩
    dsimp only at e
    split at e
    · rename_i i q
      cases e
      cases (o1.arg.peek o1.st q).int
      exact ⟨i, rfl, k _ H1 A1 s1 ⟨o1.st, Rep.int⟩⟩
    · cases e
theorem ev_and {rest : List Expr} (ha : PE X a (tEv X.K f)) (hb : PE X (.BoolOp .And (b :: rest) pos) (tEv X.K g)) : PE X (.BoolOp .And (a :: b :: rest) pos) (tEv X.K (evAnd f g)) :=
  PE.mono (pe_and ha hb) fun σ H Q ⟨M, B, ρ, A, r, ρ', e, S, k⟩ => by
    obtain ⟨⟨r1, ρ1⟩, h1, e⟩ := bind_some e
    refine ⟨M, B, ρ, A, r1, ρ1, h1, S, fun x H1 A1 s1 o1 => ?_⟩
    dsimp only at e
    split at e
    · rename_i i q
      cases (o1.arg.peek o1.st q).bl
      refine ⟨i, rfl, ?_⟩
      cases i with
      | false => cases e; exact iteF (k _ H1 A1 s1 ⟨o1.st, Rep.bl⟩)
      | true =>
        rw [if_pos rfl] at e
        exact iteT ⟨M, B, ρ1, A1, r, ρ', e, o1.st, fun v H2 A2 s2 o2 => k v H2 A2 (s1.trans s2) (o2.back' s1)⟩
    · cases e
theorem ev_or {rest : List Expr} (ha : PE X a (tEv X.K f)) (hb : PE X (.BoolOp .Or (b :: rest) pos) (tEv X.K g)) : PE X (.BoolOp .Or (a :: b :: rest) pos) (tEv X.K (evOr f g)) :=
  PE.mono (pe_or ha hb) fun σ H Q ⟨M, B, ρ, A, r, ρ', e, S, k⟩ => by
    obtain ⟨⟨r1, ρ1⟩, h1, e⟩ := bind_some e
    refine ⟨M, B, ρ, A, r1, ρ1, h1, S, fun x H1 A1 s1 o1 => ?_⟩
    dsimp only at e
    split at e
    · rename_i i q
      cases (o1.arg.peek o1.st q).bl
      refine ⟨i, rfl, ?_⟩
      cases i with
      | true => cases e; exact iteT (k _ H1 A1 s1 ⟨o1.st, Rep.bl⟩)
      | false =>
        rw [if_neg Bool.false_ne_true] at e
        exact iteF ⟨M, B, ρ1, A1, r, ρ', e, o1.st, fun v H2 A2 s2 o2 => k v H2 A2 (s1.trans s2) (o2.back' s1)⟩
    · cases e
theorem ev_one {op : BoolOp} (ha : PE X a (tEv X.K f)) : PE X (.BoolOp op [a] pos) (tEv X.K f) := pe_one ha
theorem ev_ite (hc : PT X c (tTv X.K t)) (ha : PE X a (tEv X.K f)) (hb : PE X b (tEv X.K g)) : PE X (.IfExp c a b pos) (tEv X.K (evIte t f g)) :=
  PE.mono (pe_ifExp hc ha hb) fun σ H Q ⟨M, B, ρ, A, r, ρ', e, S, k⟩ => by
    obtain ⟨⟨b1, ρ1⟩, h1, e⟩ := bind_some e
    refine ⟨M, B, ρ, A, b1, ρ1, h1, S, fun H1 A1 s1 S1 => ?_⟩
    cases b1 with
    | true => exact iteT ⟨M, B, ρ1, A1, r, ρ', e, S1, fun v H2 A2 s2 o2 => k v H2 A2 (s1.trans s2) (o2.back' s1)⟩
    | false => exact iteF ⟨M, B, ρ1, A1, r, ρ', e, S1, fun v H2 A2 s2 o2 => k v H2 A2 (s1.trans s2) (o2.back' s1)⟩
theorem ev_ix (ha : PE X a (tEv X.K f)) (hb : PE X b (tEv X.K g)) (hs : PlainIx b) : PE X (.Subscript a b pos) (tEv X.K (evIx f g)) :=
  PE.mono (pe_ix ix_seq ha hb hs) fun σ H Q ⟨M, B, ρ, A, r, ρ', e, S, k⟩ => by
    obtain ⟨⟨r1, ρ1⟩, h1, e⟩ := bind_some e
    obtain ⟨⟨r2, ρ2⟩, h2, e⟩ := bind_some e
    obtain ⟨d, h3, e⟩ := bind_some e
    obtain ⟨d2, h4, e⟩ := bind_some e
    obtain ⟨r3, h5, e⟩ := map_some e
    cases e
    refine ⟨M, B, ρ, A, r1, ρ1, h1, S, fun x H1 A1 s1 o1 => ⟨M, B, ρ1, A1, r2, ρ2, h2, o1.st, fun y H2 A2 s2 o2 => ?_⟩⟩
    have a1 := (o1.arg.step o1.st s2).peek o2.st h3
    have a2 := o2.arg.peek o2.st h4
    exact ixD_ok h5 a1 a2 fun z rz => k z H2 A2 (s1.trans s2) ⟨o2.st, rz⟩
def tOv (K : PySem.W.Frag) (f : OvF) : TO := fun σ H Q => ∃ M B ρ A o ρ', f ρ = some (o, ρ') ∧ RSt K M B ρ A σ H ∧ ∀ H' A', Step A H H' A' → RSt K M B ρ' A' σ H' → Q o H'
theorem PO.mono {e : Option Expr} {t t' : TO} (h : PO X e t) (m : ∀ σ H Q, t' σ H Q → t σ H Q) : PO X e t' := ⟨fun pins s σ H Q I q => h.run pins s σ H Q I (m σ H Q q)⟩
theorem ov_none : PO X none (tOv X.K ovNone) := PO.mono po_none fun σ H Q ⟨M, B, ρ, A, r, ρ', e, S, k⟩ => by cases e; exact k H A Step.refl S
theorem ov_some (ha : PE X a (tEv X.K f)) : PO X (some a) (tOv X.K (ovSome f)) := PO.mono (po_some ha) fun σ H Q ⟨M, B, ρ, A, r, ρ', e, S, k⟩ => by
    obtain ⟨⟨r1, ρ1⟩, h1, e⟩ := bind_some e
    refine ⟨M, B, ρ, A, r1, ρ1, h1, S, fun x H1 A1 s1 o1 => ?_⟩
    dsimp only at e
    split at e
    · rename_i i q
      cases e
      cases (o1.arg.peek o1.st q).int
      exact ⟨i, rfl, k H1 A1 s1 o1.st⟩
    · cases e
theorem ev_sl {lo hi : Option Expr} {p2 : Pos} {gl gh : OvF} (ha : PE X a (tEv X.K f)) (hl : PO X lo (tOv X.K gl)) (hh : PO X hi (tOv X.K gh)) : PE X (.Subscript a (.Slice lo hi none p2) pos) (tEv X.K (evSl f gl gh)) :=
  PE.mono (pe_slice sl_all ha hl hh) fun σ H Q ⟨M, B, ρ, A, r, ρ', e, S, k⟩ => by
    obtain ⟨⟨r1, ρ1⟩, h1, e⟩ := bind_some e
    obtain ⟨⟨o2, ρ2⟩, h2, e⟩ := bind_some e
    obtain ⟨⟨o3, ρ3⟩, h3, e⟩ := bind_some e
    obtain ⟨d, h4, e⟩ := bind_some e
    obtain ⟨r4, h5, e⟩ := map_some e
    cases e
    refine ⟨M, B, ρ, A, r1, ρ1, h1, S, fun x H1 A1 s1 o1 => ⟨M, B, ρ1, A1, o2, ρ2, h2, o1.st, fun H2 A2 s2 S2 => ⟨M, B, ρ2, A2, o3, ρ3, h3, S2, fun H3 A3 s3 S3 => ?_⟩⟩⟩
    have a1 := (o1.arg.step o1.st (s2.trans s3)).peek S3 h4
    refine slD_ok h5 a1 fun z H4 sm rs => ?_
    exact k z H4 A3 (((s1.trans s2).trans s3).trans (Step.same sm)) ((Out.of_res S3 sm rs).back' ((s1.trans s2).trans s3))
/-! ### tests -/
theorem tv_val (ha : PE X a (tEv X.K f)) (he : ∀ whole, isTrue a X.env whole = (do let v ← whole; standAt a.pos; holding [v] (truthy v))) : PT X a (tTv X.K (tvOf f)) :=
  PT.mono (pt_truth ha he) fun σ H Q ⟨M, B, ρ, A, b, ρ', e, S, k⟩ => by
    obtain ⟨⟨r1, ρ1⟩, h1, e⟩ := bind_some e
    obtain ⟨d, h2, e⟩ := bind_some e
    obtain ⟨b1, h3, e⟩ := map_some e
    cases e
    exact ⟨M, B, ρ, A, r1, ρ1, h1, S, fun x H1 A1 s1 o1 => ⟨b, truD_ok h3 (o1.arg.peek o1.st h2), k H1 A1 s1 o1.st⟩⟩
theorem tv_cmp {o : CmpOp} (hu : X.A.units + 64 < cLine) (ha : PE X a (tEv X.K f)) (hb : PE X b (tEv X.K g)) (hm : behindInMarks o b = false) : PT X (.Compare a [o] [b] pos) (tTv X.K (tvOf (evCmp o f g))) :=
  PT.mono (pt_cmpR (op_cmp hu o) ha hb hm) fun σ H Q ⟨M, B, ρ, A, r, ρ', e, S, k⟩ => by
    obtain ⟨⟨r0, ρ0⟩, e, e'⟩ := bind_some e
    obtain ⟨⟨r1, ρ1⟩, h1, e⟩ := bind_some e
    obtain ⟨⟨r2, ρ2⟩, h2, e⟩ := bind_some e
    obtain ⟨d, h3, e⟩ := bind_some e
    obtain ⟨d2, h4, e⟩ := bind_some e
    obtain ⟨r3, h5, e⟩ := map_some e
    cases e
    cases e'
    refine ⟨M, B, ρ, A, r1, ρ1, h1, S, fun x H1 A1 s1 o1 => ⟨M, B, ρ1, A1, r2, ρ2, h2, o1.st, fun y H2 A2 s2 o2 => ?_⟩⟩
    have a1 := (o1.arg.step o1.st s2).peek o2.st h3
    have a2 := o2.arg.peek o2.st h4
    exact cmpD_ok h5 a1 a2 ⟨_, rfl, k H2 A2 (s1.trans s2) o2.st⟩
theorem tv_chn {o o' : CmpOp} (hu : X.A.units + 64 < cLine) (ha : PE X a (tEv X.K f)) (hb : PE X b (tEv X.K g)) (hc : PE X c (tEv X.K h)) (hm : lastMarks [o, o'] [b, c] = false) : PT X (.Compare a [o, o'] [b, c] pos) (tTv X.K (tvOf (evChn o o' f g h))) :=
  PT.mono (pt_chain (op_cmp hu o) (op_cmp hu o') ha hb hc hm) fun σ H Q ⟨M, B, ρ, A, r, ρ', e, S, k⟩ => by
    obtain ⟨⟨r0, ρ0⟩, e, e'⟩ := bind_some e
    obtain ⟨⟨r1, ρ1⟩, h1, e⟩ := bind_some e
    obtain ⟨⟨r2, ρ2⟩, h2, e⟩ := bind_some e
    obtain ⟨d, h3, e⟩ := bind_some e
    obtain ⟨d2, h4, e⟩ := bind_some e
    obtain ⟨k1, h5, e⟩ := bind_some e
    refine ⟨M, B, ρ, A, r1, ρ1, h1, S, fun x H1 A1 s1 o1 => ⟨M, B, ρ1, A1, r2, ρ2, h2, o1.st, fun y H2 A2 s2 o2 => ?_⟩⟩
    have a1 := (o1.arg.step o1.st s2).peek o2.st h3
    have a2 := o2.arg.peek o2.st h4
    refine cmpD_ok h5 a1 a2 ⟨k1, rfl, ?_⟩
    cases k1 with
    | false =>
      cases e
      cases e'
      exact iteF ⟨false, rfl, k H2 A2 (s1.trans s2) o2.st⟩
    | true =>
      rw [if_pos rfl] at e
      obtain ⟨⟨r3, ρ3⟩, h6, e⟩ := bind_some e
      obtain ⟨d3, h7, e⟩ := bind_some e
      obtain ⟨d4, h8, e⟩ := bind_some e
      obtain ⟨k2, h9, e⟩ := map_some e
      cases e
      cases e'
      refine iteT ⟨M, B, ρ2, A2, r3, ρ3, h6, o2.st, fun z H3 A3 s3 o3 => ?_⟩
      have b1 := (o2.arg.step o2.st s3).peek o3.st h7
      have b2 := o3.arg.peek o3.st h8
      exact cmpD_ok h9 b1 b2 ⟨_, rfl, k H3 A3 ((s1.trans s2).trans s3) o3.st⟩
theorem tv_not (ha : PT X a (tTv X.K t)) : PT X (.UnaryOp .Not a pos) (tTv X.K (tvNot t)) :=
  PT.mono (pt_not ha) fun σ H Q ⟨M, B, ρ, A, b, ρ', e, S, k⟩ => by
    obtain ⟨⟨b1, ρ1⟩, h1, e⟩ := map_some e
    cases e
    exact ⟨M, B, ρ, A, b1, ρ1, h1, S, fun H1 A1 s1 S1 => k H1 A1 s1 S1⟩
theorem tv_and1 (ha : PT X a (tTv X.K t)) : PW X (.BoolOp .And [a] pos) (tTv X.K t) := pw_and1 ha
theorem tv_or1 (ha : PT X a (tTv X.K t)) : PW X (.BoolOp .Or [a] pos) (tTv X.K t) := pw_or1 ha
theorem tv_and {rest : List Expr} (ha : PT X a (tTv X.K t)) (hb : PW X (.BoolOp .And (b :: rest) pos) (tTv X.K u)) : PW X (.BoolOp .And (a :: b :: rest) pos) (tTv X.K (tvAnd t u)) :=
  PW.mono (pw_and ha hb) fun σ H Q ⟨M, B, ρ, A, b, ρ', e, S, k⟩ => by
    obtain ⟨⟨b1, ρ1⟩, h1, e⟩ := bind_some e
    refine ⟨M, B, ρ, A, b1, ρ1, h1, S, fun H1 A1 s1 S1 => ?_⟩
    cases b1 with
    | true => exact iteT ⟨M, B, ρ1, A1, b, ρ', e, S1, fun H2 A2 s2 S2 => k H2 A2 (s1.trans s2) S2⟩
    | false => cases e; exact iteF (k H1 A1 s1 S1)
theorem tv_or {rest : List Expr} (ha : PT X a (tTv X.K t)) (hb : PW X (.BoolOp .Or (b :: rest) pos) (tTv X.K u)) : PW X (.BoolOp .Or (a :: b :: rest) pos) (tTv X.K (tvOr t u)) :=
  PW.mono (pw_or ha hb) fun σ H Q ⟨M, B, ρ, A, b, ρ', e, S, k⟩ => by
    obtain ⟨⟨b1, ρ1⟩, h1, e⟩ := bind_some e
    refine ⟨M, B, ρ, A, b1, ρ1, h1, S, fun H1 A1 s1 S1 => ?_⟩
    cases b1 with
    | true => cases e; exact iteT (k H1 A1 s1 S1)
    | false => exact iteF ⟨M, B, ρ1, A1, b, ρ', e, S1, fun H2 A2 s2 S2 => k H2 A2 (s1.trans s2) S2⟩
/-! ### argument lists -/
variable {K : PySem.W.Frag} {M : Addr → Prop} {B : Nat → Option Addr} {ρ ρ' : Lo} {A A' : As} {σ : L2.St} {H H' : Hp}
theorem Args.step (S : RSt K M B ρ A σ H) (s : Step A H H' A') : ∀ {rs : List R} {vs : List V}, Args K M A σ H rs vs → Args K M A' σ H' rs vs
  | _, _, .nil => .nil
  | _, _, .cons h t => .cons (h.step S s) (Args.step S s t)
theorem Args.app : ∀ {rs qs : List R} {vs us : List V}, Args K M A σ H rs vs → Args K M A σ H qs us → Args K M A σ H (rs ++ qs) (vs ++ us)
  | _, _, _, _, .nil, h => h
  | _, _, _, _, .cons h t, h2 => .cons h (Args.app t h2)
theorem Args.of_reps : ∀ {ds : List D} {vs : List V}, Reps K (MA M A) H ds vs → Args K M A σ H (ds.map R.val) vs
  | [], vs, h => by simp only [Reps] at h; subst h; exact .nil
  | d :: ds, vs, h => by
    simp only [Reps] at h
    obtain ⟨v, r, e, h1, h2⟩ := h
    subst e
    exact .cons h1 (Args.of_reps h2)
theorem av_nil : PA X [] (tAv X.K avNil) := PA.mono pa_nil fun σ H Q ⟨M, B, ρ, A, rs, ρ', e, S, k⟩ => by cases e; exact k [] H A Step.refl S .nil
theorem av_cons {es : List Expr} (ha : PE X a (tEv X.K f)) (hb : PA X es (tAv X.K av)) (hs : starEach (a :: es) X.env = (false, eval a X.env) :: starEach es X.env) : PA X (a :: es) (tAv X.K (avCons f av)) :=
  PA.mono (pa_cons ha hb hs) fun σ H Q ⟨M, B, ρ, A, rs, ρ', e, S, k⟩ => by
    obtain ⟨⟨r1, ρ1⟩, h1, e⟩ := bind_some e
    obtain ⟨⟨r2, ρ2⟩, h2, e⟩ := map_some e
    cases e
    exact ⟨M, B, ρ, A, r1, ρ1, h1, S, fun x H1 A1 s1 o1 => ⟨M, B, ρ1, A1, r2, ρ2, h2, o1.st, fun vs H2 A2 s2 S2 a2 => k _ H2 A2 (s1.trans s2) S2 (.cons (o1.arg.step o1.st s2) a2)⟩⟩
theorem seqD_ok {d : D} {ds : List D} {v : V} (h : seqD d = some ds) (r : RepP K M H d v) : ∃ p vs, v = .ref p ∧ (SqT K H p vs ∨ SqL K H p vs) ∧ Reps K M H ds vs := by
  cases d <;> simp only [seqD] at h <;> cases h
  · obtain ⟨a, vs, e, g, rs⟩ := r.tup; exact ⟨a, vs, e, .inl g, rs⟩
  · obtain ⟨a, vs, e, g, rs⟩ := r.lst; exact ⟨a, vs, e, .inr (SqL.of g), rs⟩
theorem av_star {es : List Expr} {p : Pos} (ha : PE X a (tEv X.K f)) (hb : PA X es (tAv X.K av)) : PA X (.Starred a p :: es) (tAv X.K (avStar f av)) :=
  PA.mono (StX.pa_star ha hb) fun σ H Q ⟨M, B, ρ, A, rs, ρ', e, S, k⟩ => by
    obtain ⟨⟨r1, ρ1⟩, h1, e⟩ := bind_some e
    obtain ⟨ds, h3, e⟩ := bind_some e
    obtain ⟨d, h3, h4⟩ := bind_some h3
    obtain ⟨⟨r2, ρ2⟩, h2, e⟩ := map_some e
    cases e
    refine ⟨M, B, ρ, A, r1, ρ1, h1, S, fun x H1 A1 s1 o1 => ?_⟩
    obtain ⟨q, vs, ev, g, rp⟩ := seqD_ok h4 (o1.arg.peek o1.st h3)
    refine ⟨q, vs, ev, g, ⟨M, B, ρ1, A1, r2, ρ2, h2, o1.st, fun us H2 A2 s2 S2 a2 => k _ H2 A2 (s1.trans s2) S2 (Args.app (Args.of_reps (o1.st.reps s2 rp)) a2)⟩⟩
theorem retain1_ok {r : R} {v : V} {d : D} (S : RSt K M B ρ A σ H) (a : Arg K M A σ H r v) (h : retain1 ρ r = some (d, ρ')) : ∃ A', Step A H H A' ∧ RSt K M B ρ' A' σ H ∧ Rep K (MA M A') H d v := by
  cases r with
  | val d' => cases h; exact ⟨A, Step.refl, S, a⟩
  | fresh ds => cases h; exact ⟨A, Step.refl, S, a⟩
  | ali i =>
    have a' : σ[i]? = some (some v) := a
    simp only [retain1] at h
    split at h
    · rename_i ds q
      cases h
      obtain ⟨v', e1, S', r'⟩ := S.freeze q
      rw [a'] at e1; cases e1
      exact ⟨_, Step.setNone, S', r'⟩
    · rename_i d' q
      cases h
      obtain ⟨v', _, e1, r'⟩ := S.valued q
      rw [a'] at e1; cases e1
      exact ⟨A, Step.refl, S, r'⟩
    · cases h
theorem retain_ok : ∀ {rs : List R} {vs : List V} {ds : List D} {ρ ρ' : Lo} {A : As}, RSt K M B ρ A σ H → Args K M A σ H rs vs → retain ρ rs = some (ds, ρ') → ∃ A', Step A H H A' ∧ RSt K M B ρ' A' σ H ∧ Reps K (MA M A') H ds vs
  | _, _, _, _, _, A, S, .nil, h => by cases h; exact ⟨A, Step.refl, S, Reps.nil⟩
  | _, _, _, _, _, A, S, .cons a t, h => by
    obtain ⟨⟨d, ρ1⟩, h1, h⟩ := bind_some h
    obtain ⟨⟨ds, ρ2⟩, h2, h⟩ := map_some h
    cases h
    obtain ⟨A1, s1, S1, r1⟩ := retain1_ok S a h1
    obtain ⟨A2, s2, S2, r2⟩ := retain_ok S1 (Args.step S s1 t) h2
    exact ⟨A2, s1.trans s2, S2, Reps.cons (S1.rep s2 r1) r2⟩
theorem ev_tup {es : List Expr} {x1 : Nat} (ha : PA X es (tAv X.K av)) : PE X (.Tuple es x1 pos) (tEv X.K (evTup av)) :=
  PE.mono (pe_tup ha) fun σ H Q ⟨M, B, ρ, A, r, ρ', e, S, k⟩ => by
    obtain ⟨⟨rs, ρ1⟩, h1, e⟩ := bind_some e
    obtain ⟨⟨ds, ρ2⟩, h2, e⟩ := bind_some e
    dsimp only at e
    split at e
    · rename_i hl
      cases e
      refine ⟨M, B, ρ, A, rs, ρ1, h1, S, fun vs H1 A1 s1 S1 a1 => ?_⟩
      obtain ⟨A2, s2, S2, r2⟩ := retain_ok S1 a1 h2
      refine ⟨by rw [r2.length]; exact lim_le hl, fun p n => ?_⟩
      exact k _ _ A2 ((s1.trans s2).trans (Step.same (same_new n))) ⟨S2.same (same_new n), Rep.newTup n r2⟩
    · cases e
theorem ev_lst {es : List Expr} (ha : PA X es (tAv X.K av)) : PE X (.List es pos) (tEv X.K (evLst av)) :=
  PE.mono (pe_lst ha) fun σ H Q ⟨M, B, ρ, A, r, ρ', e, S, k⟩ => by
    obtain ⟨⟨rs, ρ1⟩, h1, e⟩ := bind_some e
    obtain ⟨⟨ds, ρ2⟩, h2, e⟩ := bind_some e
    dsimp only at e
    split at e
    · rename_i hl
      cases e
      refine ⟨M, B, ρ, A, rs, ρ1, h1, S, fun vs H1 A1 s1 S1 a1 => ?_⟩
      obtain ⟨A2, s2, S2, r2⟩ := retain_ok S1 a1 h2
      refine ⟨by rw [r2.length]; exact lim_le hl, fun p n => ?_⟩
      exact k _ _ A2 ((s1.trans s2).trans (Step.same (same_new n))) ((Out.of_res S2 (same_new n) (ResP.newLst n r2)).back' (s1.trans s2))
    · cases e
end
end RF
set_option maxHeartbeats 1000000
/-! RF5: built-ins, methods of owned lists, what is walked. -/
namespace RF
open PySem PySem.Spec PyProof.Rows L2
/-! ### no star in an argument list -/
def notStar : Expr → Bool
  | .Starred _ _ => false
  | _ => true
theorem star_cons {e : Expr} {es : List Expr} {env : Env} (h : notStar e = true) : starEach (e :: es) env = (false, eval e env) :: starEach es env := by
  cases e <;> first | rfl | (simp [notStar] at h)
theorem star_any {env : Env} {pos : Pos} : ∀ {es : List Expr}, es.all notStar = true → (backTo pos (starEach es env)).any (·.1) = false
  | [], _ => rfl
  | e :: es, h => by
    rw [List.all_cons, Bool.and_eq_true] at h
    rw [star_cons h.1]
    have ih := star_any (env := env) (pos := pos) h.2
    simp only [backTo, List.map_cons, List.any_cons, Bool.false_or] at ih ⊢
    exact ih
/-! ### built-ins -/
inductive Bi where
  | len | abs | int | max2 | min2 | sum | all | any | tuple | list | isinst
  deriving DecidableEq
def getInt : D → Option Int
  | .int i => some i
  | _ => none
def getBl : D → Option Bool
  | .bl i => some i
  | _ => none
def tyName : D → String
  | .non => "NoneType" | .bl _ => "bool" | .int _ => "int" | .str _ => "str" | .tup _ => "tuple" | .lst _ => "list" | .dct _ _ => "dict" | .scr _ => "list" | .ty _ => "type" | .fn _ _ _ => "type" | .gl _ => "type"
def okTy : List String := ["int", "bool", "str", "tuple", "list", "dict"]
def biD : Bi → List D → Option R
  | .len, [.lst xs] => some (.val (.int xs.length))
  | .len, [.tup xs] => some (.val (.int xs.length))
  | .len, [.scr xs] => some (.val (.int xs.length))
  | .len, [.str z] => if z.length ≤ lim then some (.val (.int z.length)) else none
  | .abs, [.int i] => some (.val (.int (if i < 0 then -i else i)))
  | .int, [.int i] => some (.val (.int i))
  | .int, [.bl b] => some (.val (.int (if b then 1 else 0)))
  | .max2, [.int i, .int j] => some (.val (.int (if j > i then j else i)))
  | .min2, [.int i, .int j] => some (.val (.int (if j < i then j else i)))
  | .sum, [.lst xs] => (xs.mapM getInt).map fun ns => .val (.int ns.sum)
  | .all, [.lst xs] => (xs.mapM getBl).map fun ns => .val (.bl (ns.all id))
  | .any, [.lst xs] => (xs.mapM getBl).map fun ns => .val (.bl (ns.any id))
  | .any, [.tup xs] => (xs.mapM getInt).map fun ns => .val (.bl (ns.any fun n => n != 0))
  | .tuple, [.lst xs] => some (.val (.tup xs))
  | .tuple, [.tup xs] => some (.val (.tup xs))
  | .list, [.lst xs] => some (.fresh xs)
  | .list, [.tup xs] => some (.fresh xs)
  | .isinst, [d, .ty n] => if okTy.contains n && tyName d != "type" then some (.val (.bl (tyName d == n || (tyName d == "bool" && n == "int")))) else none
  | _, _ => none
def biVal : Bi → Value
  | .len => .builtin "len" | .abs => .builtin "abs" | .int => .type "int" | .max2 => .builtin "max" | .min2 => .builtin "min" | .sum => .builtin "sum" | .all => .builtin "all" | .any => .builtin "any"
  | .tuple => .type "tuple" | .list => .type "list" | .isinst => .builtin "isinstance"
/-- any(t), t a tuple of ints -/
def rAnyT (K : PySem.W.Frag) : List V → Hp → VK → Prop := fun vs H Q => ∃ (a : Addr) (ns : List Int), vs = [V.ref a] ∧ SqT K H a (ns.map V.int) ∧ Q (.bl (ns.any fun n => n != 0)) H
theorem reads_intsE {h : Heap} : ∀ {ns : List Int} {us : List Value}, Vals (ns.map V.int) us → ∃ as, PySem.ReadsAll h us (ns.map PyData.int) as
  | [], _, r => by cases r; exact ⟨_, .nil⟩
  | n :: ns, _, r => by
    cases r with
    | cons a t =>
      obtain ⟨tk, rfl⟩ := a
      obtain ⟨as, q⟩ := reads_intsE t
      exact ⟨_, .cons (.int n tk) q⟩
theorem plain_intsE : ∀ {ns : List Int}, PyData.plainAll (ns.map PyData.int) = true
  | [] => rfl
  | n :: ns => by rw [List.map_cons, PyData.plainAll, plain_intsE]; rfl
theorem cr_anyT {X : Cx} (hc : X.calm = true) : CallR X (.builtin "any") (rAnyT X.K) := by
  intro pins s σ H vs us Q I r h
  obtain ⟨a, ns, rfl, hs, q⟩ := h
  obtain ⟨its, rv, ht, _⟩ := I.tuple hs
  rw [Vals.ref1 r]
  obtain ⟨as, ra⟩ := reads_intsE (h := s.heap) rv
  refine PySem.W.any_tuple_data (I.ok.hd hc) ht ra plain_intsE (fun x m => ?_) fun h' tk hk => ?_
  · obtain ⟨n, _, rfl⟩ := List.mem_map.mp m
    trivial
  · refine ⟨.bl _, H, I.kept hk, ?_, q⟩
    show Value.bool _ = Value.bool _
    rw [List.any_map]; rfl
def rBi (K : PySem.W.Frag) : Bi → List V → Hp → VK → Prop
  | .len => fun xs H Q => ∃ x n, xs = [x] ∧ LenV K x H n ∧ Q (.int n) H
  | .abs => fun xs H Q => ∃ i, xs = [.int i] ∧ Q (.int (if i < 0 then -i else i)) H
  | .int => fun xs H Q => (∃ i, xs = [.int i] ∧ Q (.int i) H) ∨ ∃ k, xs = [.bl k] ∧ Q (.int (if k then 1 else 0)) H
  | .max2 => fun xs H Q => ∃ i j, xs = [.int i, .int j] ∧ Q (.int (if j > i then j else i)) H
  | .min2 => fun xs H Q => ∃ i j, xs = [.int i, .int j] ∧ Q (.int (if j < i then j else i)) H
  | .sum => rSum K
  | .all => rAll K
  | .any => fun xs H Q => rAny K xs H Q ∨ rAnyT K xs H Q
  | .tuple => fun xs H Q => ∃ p ys, xs = [.ref p] ∧ ((SqL K H p ys ∧ ∀ l, H l = none → Q (.ref l) (upd H l (.tup ys))) ∨ (SqT K H p ys ∧ Q (.ref p) H))
  | .list => fun xs H Q => ∃ p ys, xs = [.ref p] ∧ (SqL K H p ys ∨ SqT K H p ys) ∧ ∀ l, H l = none → Q (.ref l) (upd H l (.lst ys))
  | .isinst => rIsi K
theorem call_bi {X : Cx} (hc : X.calm = true) (b : Bi) : CallR X (biVal b) (rBi X.K b) := by
  cases b
  case len => exact call_len
  case abs => exact call_abs
  case int => exact call_int1
  case max2 => exact call_max2 hc
  case min2 => exact call_min2 hc
  case sum => exact cr_sum hc
  case all => exact cr_all hc
  case any => exact fun pins s σ H vs us Q I r h => h.elim (cr_any hc pins s σ H vs us Q I r) (cr_anyT hc pins s σ H vs us Q I r)
  case tuple => exact call_tuple_of
  case list => exact call_list_of
  case isinst => exact call_isi
section
variable {K : PySem.W.Frag} {M : Addr → Prop} {H H' : Hp} {d e : D} {x y : V} {r : R} {Q : VK} {ds : List D} {vs : List V}
theorem ints_of : ∀ {ds : List D} {vs : List V} {ns : List Int}, ds.mapM getInt = some ns → Reps K M H ds vs → vs = ns.map V.int
  | [], vs, ns, h, r => by
    simp only [Reps] at r; subst r
    simp at h; subst h; rfl
  | d :: ds, vs, ns, h, r => by
    simp only [Reps] at r
    obtain ⟨v, r, e, h1, h2⟩ := r
    subst e
    simp only [List.mapM_cons, Option.bind_eq_bind, Option.pure_def] at h
    obtain ⟨n, q1, h⟩ := Option.bind_eq_some_iff.mp h
    obtain ⟨m, q2, h⟩ := Option.bind_eq_some_iff.mp h
    cases h
    have ih := ints_of q2 h2
    subst ih
    cases d <;> simp only [getInt] at q1 <;> cases q1
    simp only [Rep] at h1; subst h1
    rfl
theorem bls_of : ∀ {ds : List D} {vs : List V} {ns : List Bool}, ds.mapM getBl = some ns → Reps K M H ds vs → vs = ns.map V.bl
  | [], vs, ns, h, r => by
    simp only [Reps] at r; subst r
    simp at h; subst h; rfl
  | d :: ds, vs, ns, h, r => by
    simp only [Reps] at r
    obtain ⟨v, r, e, h1, h2⟩ := r
    subst e
    simp only [List.mapM_cons, Option.bind_eq_bind, Option.pure_def] at h
    obtain ⟨n, q1, h⟩ := Option.bind_eq_some_iff.mp h
    obtain ⟨m, q2, h⟩ := Option.bind_eq_some_iff.mp h
    cases h
    have ih := bls_of q2 h2
    subst ih
    cases d <;> simp only [getBl] at q1 <;> cases q1
    simp only [Rep] at h1; subst h1
    rfl
/-- a list of arguments, peeked -/
inductive Pks (K : PySem.W.Frag) (M : Addr → Prop) (H : Hp) : List D → List V → Prop
  | nil : Pks K M H [] []
  | cons {d ds v vs} (h : RepP K M H d v) (t : Pks K M H ds vs) : Pks K M H (d :: ds) (v :: vs)
theorem Pks.one (h : Pks K M H [d] vs) : ∃ v, vs = [v] ∧ RepP K M H d v := by cases h with | cons h t => cases t; exact ⟨_, rfl, h⟩
theorem Pks.two (h : Pks K M H [d, e] vs) : ∃ v w, vs = [v, w] ∧ RepP K M H d v ∧ RepP K M H e w := by
  cases h with
  | cons h t => cases t with | cons h' t => cases t; exact ⟨_, _, rfl, h, h'⟩
theorem kit_all {a b : String} (ha : a ∈ ["NoneType", "bool", "int", "str", "tuple", "list", "dict"]) (hb : b ∈ okTy) : kitB a b = some (a == b || (a == "bool" && b == "int")) := by
  simp only [List.mem_cons, List.not_mem_nil, or_false, okTy] at ha hb
  rcases ha with rfl | rfl | rfl | rfl | rfl | rfl | rfl <;> rcases hb with rfl | rfl | rfl | rfl | rfl | rfl <;> decide +kernel
theorem tyX_of (h : RepP K M H d x) (n : tyName d ≠ "type") : TyX K H x (.type (tyName d)) ∧ tyName d ∈ ["NoneType", "bool", "int", "str", "tuple", "list", "dict"] := by
  cases d with
  | non => cases h.non; exact ⟨.base .non, by simp [tyName]⟩
  | bl b => cases h.bl; exact ⟨.base (.bl b), by simp [tyName]⟩
  | int b => cases h.int; exact ⟨.base (.int b), by simp [tyName]⟩
  | str b => cases h.str; exact ⟨.base (.str b), by simp [tyName]⟩
  | tup b =>
    obtain ⟨a, vs, e, g, _⟩ := h.tup
    subst e
    refine ⟨?_, by simp [tyName]⟩
    rcases g with (g | ⟨o, g⟩) | ⟨o, its, n, h1, h2, _⟩
    · exact .base (.tup g)
    · exact .fTuple g
    · exact .kTuple h1 h2
  | lst b => obtain ⟨a, vs, e, g, _⟩ := h.lst; subst e; exact ⟨.base (.lst g), by simp [tyName]⟩
  | dct ks b =>
    simp only [RepP, Rep] at h
    obtain ⟨a, kvs, e, g, _⟩ := h
    subst e
    exact ⟨.base (.dK g), by simp [tyName]⟩
  | scr b =>
    obtain ⟨a, e, g⟩ := h.scr
    subst e
    refine ⟨?_, by simp [tyName]⟩
    rcases g with ⟨g, _⟩ | ⟨o, g⟩ | ⟨o, its, n, h1, h2, _⟩
    · exact .base (.lst g)
    · exact .base (.frz g)
    · exact .kList h1 h2
  | ty b => exact absurd rfl n
  | fn _ _ _ => exact absurd rfl n
  | gl _ => exact absurd rfl n
theorem biD_ok {b : Bi} (h : biD b ds = some r) (h1 : Pks K M H ds vs) (k : ∀ z H', Same H H' → ResP K M H H' r z → Q z H') : rBi K b vs H Q := by
  unfold biD at h
  split at h
  · cases h
    obtain ⟨v, rfl, p⟩ := h1.one
    obtain ⟨a, us, rfl, g, rs⟩ := p.lst
    exact ⟨_, _, rfl, .inl ⟨us, SqL.of g, rfl⟩, k _ H (Same.refl H) (by rw [rs.length]; exact ResP.int)⟩
  · cases h
    obtain ⟨v, rfl, p⟩ := h1.one
    obtain ⟨a, us, rfl, g, rs⟩ := p.tup
    exact ⟨_, _, rfl, .inr ⟨us, g, rfl⟩, k _ H (Same.refl H) (by rw [rs.length]; exact ResP.int)⟩
  · cases h
    obtain ⟨v, rfl, p⟩ := h1.one
    obtain ⟨a, rfl, g⟩ := p.scr
    exact ⟨_, _, rfl, .inl ⟨_, g.seq, rfl⟩, k _ H (Same.refl H) (by rw [List.length_map]; exact ResP.int)⟩
  · split at h
    · rename_i c
      cases h
      obtain ⟨v, rfl, p⟩ := h1.one
      cases p.str
      exact ⟨_, _, rfl, ⟨lim_le c, rfl⟩, k _ H (Same.refl H) ResP.int⟩
    · cases h
  · cases h
    obtain ⟨v, rfl, p⟩ := h1.one
    cases p.int
    exact ⟨_, rfl, k _ H (Same.refl H) ResP.int⟩
  · cases h
    obtain ⟨v, rfl, p⟩ := h1.one
    cases p.int
    exact .inl ⟨_, rfl, k _ H (Same.refl H) ResP.int⟩
  · cases h
    obtain ⟨v, rfl, p⟩ := h1.one
    cases p.bl
    exact .inr ⟨_, rfl, k _ H (Same.refl H) ResP.int⟩
  · cases h
    obtain ⟨v, w, rfl, p, q⟩ := h1.two
    cases p.int; cases q.int
    exact ⟨_, _, rfl, k _ H (Same.refl H) ResP.int⟩
  · cases h
    obtain ⟨v, w, rfl, p, q⟩ := h1.two
    cases p.int; cases q.int
    exact ⟨_, _, rfl, k _ H (Same.refl H) ResP.int⟩
  · obtain ⟨ns, e1, e2⟩ := map_some h
    subst e2
    obtain ⟨v, rfl, p⟩ := h1.one
    obtain ⟨a, us, rfl, g, rs⟩ := p.lst
    rw [ints_of e1 rs] at g
    exact ⟨a, ns, rfl, SqL.of g, k _ H (Same.refl H) ResP.int⟩
  · obtain ⟨ns, e1, e2⟩ := map_some h
    subst e2
    obtain ⟨v, rfl, p⟩ := h1.one
    obtain ⟨a, us, rfl, g, rs⟩ := p.lst
    rw [bls_of e1 rs] at g
    exact ⟨a, ns, rfl, SqL.of g, k _ H (Same.refl H) ResP.bl⟩
  · obtain ⟨ns, e1, e2⟩ := map_some h
    subst e2
    obtain ⟨v, rfl, p⟩ := h1.one
    obtain ⟨a, us, rfl, g, rs⟩ := p.lst
    rw [bls_of e1 rs] at g
    exact .inl ⟨a, ns, rfl, SqL.of g, k _ H (Same.refl H) ResP.bl⟩
  · obtain ⟨ns, e1, e2⟩ := map_some h
    subst e2
    obtain ⟨v, rfl, p⟩ := h1.one
    obtain ⟨a, us, rfl, g, rs⟩ := p.tup
    rw [ints_of e1 rs] at g
    exact .inr ⟨a, ns, rfl, g, k _ H (Same.refl H) ResP.bl⟩
  · cases h
    obtain ⟨v, rfl, p⟩ := h1.one
    obtain ⟨a, us, rfl, g, rs⟩ := p.lst
    exact ⟨a, us, rfl, .inl ⟨SqL.of g, fun l n => k _ _ (same_new n) (Rep.newTup n rs)⟩⟩
  · cases h
    obtain ⟨v, rfl, p⟩ := h1.one
    obtain ⟨a, us, rfl, g, rs⟩ := p.tup
    exact ⟨a, us, rfl, .inr ⟨g, k _ H (Same.refl H) (Rep.tup g rs)⟩⟩
  · cases h
    obtain ⟨v, rfl, p⟩ := h1.one
    obtain ⟨a, us, rfl, g, rs⟩ := p.lst
    exact ⟨a, us, rfl, .inl (SqL.of g), fun l n => k _ _ (same_new n) (ResP.newLst n rs)⟩
  · cases h
    obtain ⟨v, rfl, p⟩ := h1.one
    obtain ⟨a, us, rfl, g, rs⟩ := p.tup
    exact ⟨a, us, rfl, .inr g, fun l n => k _ _ (same_new n) (ResP.newLst n rs)⟩
  · split at h
    · rename_i d n c
      rw [Bool.and_eq_true] at c
      cases h
      obtain ⟨v, w, rfl, p, q⟩ := h1.two
      have e : w = .ty n := by simpa only [RepP, Rep] using q
      subst e
      obtain ⟨t1, t2⟩ := tyX_of p (by simpa using c.2)
      have hb : n ∈ okTy := by simpa using c.1
      exact ⟨v, _, _, _, _, rfl, .ty n, t1, kit_ty (kit_all t2 hb), k _ H (Same.refl H) ResP.bl⟩
    · cases h
  · cases h
end
def derefs (ρ : Lo) : List R → Option (List D)
  | [] => some []
  | r :: rs => (deref ρ r).bind fun d => (derefs ρ rs).map fun ds => d :: ds
theorem derefs_ok {K : PySem.W.Frag} {M : Addr → Prop} {B : Nat → Option Addr} {ρ : Lo} {A : As} {σ : L2.St} {H : Hp} (S : RSt K M B ρ A σ H) : ∀ {rs : List R} {vs : List V} {ds : List D}, Args K M A σ H rs vs → derefs ρ rs = some ds → Pks K (MA M A) H ds vs
  | _, _, _, .nil, h => by cases h; exact .nil
  | _, _, _, .cons a t, h => by
    obtain ⟨d, h1, h⟩ := bind_some h
    obtain ⟨ds, h2, h⟩ := map_some h
    cases h
    exact .cons (a.peek S h1) (derefs_ok S t h2)
def evBi (b : Bi) (g : AvF) : EvF := fun ρ => (g ρ).bind fun p => (derefs p.2 p.1).bind fun ds => (biD b ds).map fun r => (r, p.2)
section
variable {X : Cx} {a b c e : Expr} {es : List Expr} {pos p : Pos} {f g h : EvF} {t u : TvF} {av bv : AvF} {x : Str}
theorem ev_bi_of {t : TA} {b : Bi} {ee : Expr} (hp : PE X ee (tCB (rBi X.K b) (tAv X.K av))) : PE X ee (tEv X.K (evBi b av)) :=
  PE.mono hp fun σ H Q ⟨M, B, ρ, A, r, ρ', e, S, k⟩ => by
    obtain ⟨⟨rs, ρ1⟩, h1, e⟩ := bind_some e
    obtain ⟨ds, h2, e⟩ := bind_some e
    obtain ⟨r1, h3, e⟩ := map_some e
    cases e
    refine ⟨M, B, ρ, A, rs, ρ1, h1, S, fun vs H1 A1 s1 S1 a1 => ?_⟩
    refine biD_ok h3 (derefs_ok S1 a1 h2) fun z H2 sm rz => ?_
    exact k z H2 A1 (s1.trans (Step.same sm)) ((Out.of_res S1 sm rz).back' s1)
theorem ev_bi (b : Bi) (hc : X.calm = true) (hg : Gl X x) (hm : X.mg x = none) (hv : bootBuiltins x = some (biVal b)) (ha : PA X (e :: es) (tAv X.K av)) (hn : x ≠ "__name__") (hdb : (x == ("__debug__" : Str)) = false) (hst : (e :: es).all notStar = true) :
    PE X (.Call (.Name x p) (e :: es) [] pos) (tEv X.K (evBi b av)) := by
  rw [List.all_cons, Bool.and_eq_true] at hst
  refine ev_bi_of (t := tAv X.K av) ?_
  have hr := call_bi hc b
  cases b
  case int => exact pe_callTy hr hg hm hv ha hn hdb (star_cons hst.1) (star_any hst.2)
  case tuple => exact pe_callTy hr hg hm hv ha hn hdb (star_cons hst.1) (star_any hst.2)
  case list => exact pe_callTy hr hg hm hv ha hn hdb (star_cons hst.1) (star_any hst.2)
  all_goals exact pe_callB hr hg hm hv ha hn hdb (star_cons hst.1) (star_any hst.2)
/-! ### methods of an owned list -/
def evPop (i : Nat) : EvF := fun ρ => match ρ[i]? with
  | some (.own b ds) => match ds[ds.length - 1]? with
    | some d => some (.val d, ρ.set i (.own b ds.dropLast))
    | none => none
  | _ => none
def evAppend (i : Nat) (g : AvF) : EvF := fun ρ => match ρ[i]? with
  | some (.own _ _) => (g ρ).bind fun p => (retain p.2 p.1).bind fun q => match q.1, q.2[i]? with
    | [d], some (.own b ds) => if ds.length < lim then some (.val .non, q.2.set i (.own b (ds ++ [d]))) else none
    | _, _ => none
  | _ => none
def evExtend (i : Nat) (g : AvF) : EvF := fun ρ => match ρ[i]? with
  | some (.own _ _) => (g ρ).bind fun p => (derefs p.2 p.1).bind fun q => match q, p.2[i]? with
    | [.lst es], some (.own b ds) => if ds.length + es.length ≤ lim then some (.val .non, p.2.set i (.own b (ds ++ es))) else none
    | _, _ => none
  | _ => none
theorem ev_append {i : Nat} {nm apos : Pos} (ho : PE X (.Name x nm) (tVar i)) (hline : (apos.endLine == pos.line) = true) (ha : PA X [a] (tAv X.K av)) (hst : notStar a = true) :
    PE X (.Call (.Attribute (.Name x nm) "append" apos) [a] [] pos) (tEv X.K (evAppend i av)) :=
  PE.mono (pe_bm PySem.F.plainAttrs_list PySem.F.slot_list_append PySem.F.type_list_append mt_append ho ha (by rfl) (by rw [star_cons hst]; rfl) hline (star_cons hst) (by rfl)) fun σ H Q ⟨M, B, ρ, A, r, ρ', e, S, k⟩ => by
    unfold evAppend at e
    split at e
    · rename_i b ds q
      obtain ⟨a0, vs, h1, h2, h3, h4, h5⟩ := S.owned q
      obtain ⟨⟨rs, ρ1⟩, g1, e⟩ := bind_some e
      obtain ⟨⟨es, ρ2⟩, g2, e⟩ := bind_some e
      refine ⟨_, h2, .inl ⟨rfl, _, SqL.of h3⟩, M, B, ρ, A, rs, ρ1, g1, S, fun us H1 A1 s1 S1 a1 => ?_⟩
      obtain ⟨A2, s2, S2, r2⟩ := retain_ok S1 a1 g2
      dsimp only at e
      split at e
      · rename_i d b' ds' q'
        split at e
        · rename_i hl
          cases e
          obtain ⟨v, rfl, rv⟩ : ∃ v, us = [v] ∧ Rep X.K (MA M A2) H1 d v := by
            simp only [Reps] at r2
            obtain ⟨v, r, e1, e2, e3⟩ := r2
            subst e1 e3
            exact ⟨v, rfl, e2⟩
          obtain ⟨a', ws, f1, f2, f3, f4, f5⟩ := S2.owned q'
          rw [h2] at f2; cases f2
          refine ⟨a0, ws, v, rfl, rfl, f3, by rw [f4.length]; exact lim_lt hl, ?_⟩
          exact k _ _ A2 ((s1.trans s2).trans (Step.upd f5)) ⟨S2.write q' f1 (f4.snoc rv), Rep.non⟩
        · cases e
      · cases e
    · cases e
end
end RF
set_option maxHeartbeats 1000000
/-! RF6: calls of the text's own defs. -/
namespace RF
open PySem PySem.Spec PyProof.Rows L2
/-- what a def does: the parameters' slots in, its answer and the lent lists behind -/
abbrev CF := List Sl → Option (R × List Sl)
inductive PArg where
  | d (x : D) | s (i : Nat)
def prep : Lo → List Bool → List R → Option (List PArg × Lo)
  | ρ, _, [] => some ([], ρ)
  | ρ, io, r :: rs => match io.headD false, r with
    | true, .ali i => (prep ρ io.tail rs).map fun q => (.s i :: q.1, q.2)
    | _, _ => (retain1 ρ r).bind fun p => (prep p.2 io.tail rs).map fun q => (.d p.1 :: q.1, q.2)
def pslots (ρ : Lo) : List PArg → Option (List Sl)
  | [] => some []
  | .d x :: ps => (pslots ρ ps).map fun ss => .val x :: ss
  | .s i :: ps => match ρ[i]? with
    | some (.own _ ds) => (pslots ρ ps).map fun ss => .own true ds :: ss
    | some (.val d) => (pslots ρ ps).map fun ss => .val d :: ss
    | _ => none
def lentOf (ρ : Lo) : List PArg → List Nat
  | [] => []
  | .d _ :: ps => lentOf ρ ps
  | .s i :: ps => match ρ[i]? with
    | some (.own _ _) => i :: lentOf ρ ps
    | _ => lentOf ρ ps
def putBack (ρ : Lo) : List PArg → List Sl → Lo
  | .s i :: ps, o :: os => match o, ρ[i]? with
    | .own _ es, some (.own b _) => (putBack ρ ps os).set i (.own b es)
    | _, _ => putBack ρ ps os
  | .d _ :: ps, _ :: os => putBack ρ ps os
  | _, _ => ρ
def evCallR (cf : CF) (io : List Bool) (p : List R × Lo) : Option (R × Lo) :=
  (prep p.2 io p.1).bind fun q => if (lentOf q.2 q.1).Nodup then (pslots q.2 q.1).bind fun ss => (cf ss).bind fun o => match o.1 with
    | .ali _ => none
    | r => if o.2.length = ss.length then some (r, putBack q.2 q.1 o.2) else none
  else none
/-- a def's promise -/
def spF (K : PySem.W.Frag) (n : Nat) (cf : CF) : Sp := fun vs H Q _ => vs.length = n ∧ ∃ M B ss A r outs, cf ss = some (r, outs) ∧ RSt K M B ss A (vs.map some) H ∧ (∀ (j : Nat) (a : Addr), A[j]? = some (some a) → B j = some a) ∧
  ∀ v H', Step A H H' A → Out K M B outs A (vs.map some) H H' r v → Q v H'
section
variable {K : PySem.W.Frag} {M : Addr → Prop} {B : Nat → Option Addr} {ρ ρ' : Lo} {A A' : As} {σ : L2.St} {H H' : Hp}
def PRel (K : PySem.W.Frag) (M : Addr → Prop) (A : As) (σ : L2.St) (H : Hp) : PArg → V → Prop
  | .d x, v => Rep K (MA M A) H x v
  | .s i, v => σ[i]? = some (some v)
inductive PRels (K : PySem.W.Frag) (M : Addr → Prop) (A : As) (σ : L2.St) (H : Hp) : List PArg → List V → Prop
  | nil : PRels K M A σ H [] []
  | cons {p ps v vs} (h : PRel K M A σ H p v) (t : PRels K M A σ H ps vs) : PRels K M A σ H (p :: ps) (v :: vs)
theorem prep_ok : ∀ {rs : List R} {vs : List V} {io : List Bool} {ps : List PArg} {ρ ρ' : Lo} {A : As}, RSt K M B ρ A σ H → Args K M A σ H rs vs → prep ρ io rs = some (ps, ρ') → ∃ A', Step A H H A' ∧ RSt K M B ρ' A' σ H ∧ PRels K M A' σ H ps vs
  | _, _, _, _, _, _, A, S, .nil, h => by cases h; exact ⟨A, Step.refl, S, .nil⟩
  | r :: rs, _, io, _, _, _, A, S, .cons a t, h => by
    simp only [prep] at h
    split at h
    · rename_i i _
      obtain ⟨⟨ps, ρ2⟩, h2, h⟩ := map_some h
      cases h
      obtain ⟨A2, s2, S2, r2⟩ := prep_ok S t h2
      exact ⟨A2, s2, S2, .cons a r2⟩
    · obtain ⟨⟨d, ρ1⟩, h1, h⟩ := bind_some h
      obtain ⟨⟨ps, ρ2⟩, h2, h⟩ := map_some h
      cases h
      obtain ⟨A1, s1, S1, r1⟩ := retain1_ok S a h1
      obtain ⟨A2, s2, S2, r2⟩ := prep_ok S1 (Args.step S s1 t) h2
      exact ⟨A2, s1.trans s2, S2, .cons (S1.rep s2 r1) r2⟩
/-- the addresses of the lent lists -/
def lentA (ρ : Lo) (A : As) : List PArg → As
  | [] => []
  | .d _ :: ps => none :: lentA ρ A ps
  | .s i :: ps => (match ρ[i]? with
    | some (.own _ _) => A[i]?.getD none
    | _ => none) :: lentA ρ A ps
theorem lentA_mem {a : Addr} : ∀ {ps : List PArg}, some a ∈ lentA ρ A ps → ∃ i, i ∈ lentOf ρ ps ∧ A[i]? = some (some a)
  | [], h => by cases h
  | .d _ :: ps, h => by
    simp only [lentA, lentOf] at h ⊢
    rcases List.mem_cons.mp h with h | h
    · cases h
    · exact lentA_mem h
  | .s i :: ps, h => by
    simp only [lentA, lentOf] at h ⊢
    rcases List.mem_cons.mp h with h | h
    · split at h
      · rename_i b ds q
        refine ⟨i, List.mem_cons_self, ?_⟩
        cases e : A[i]? with
        | none => rw [e] at h; cases h
        | some x => rw [e] at h; rw [show x = some a from h.symm]
      · cases h
    · obtain ⟨j, h1, h2⟩ := lentA_mem h
      refine ⟨j, ?_, h2⟩
      split
      · exact List.mem_cons_of_mem _ h1
      · exact h1
theorem lentA_sub {a : Addr} {ps : List PArg} (h : some a ∈ lentA ρ A ps) : some a ∈ A := by
  obtain ⟨i, _, h2⟩ := lentA_mem h
  exact List.mem_of_getElem? h2
/-- the callee's protection -/
def Mc (M : Addr → Prop) (A Ac : As) : Addr → Prop := fun a => MA M A a ∧ some a ∉ Ac
theorem mc_iff {Ac : As} (h : ∀ a, some a ∈ Ac → some a ∈ A) (a : Addr) : MA (Mc M A Ac) Ac a ↔ MA M A a := by
  constructor
  · rintro (m | m)
    · exact m.1
    · exact .inr (h a m)
  · intro m
    by_cases e : some a ∈ Ac
    · exact .inr e
    · exact .inl ⟨m, e⟩
theorem lentA_len : ∀ {ps : List PArg} {ss : List Sl}, pslots ρ ps = some ss → ss.length = ps.length ∧ (lentA ρ A ps).length = ps.length
  | [], ss, h => by cases h; exact ⟨rfl, rfl⟩
  | .d x :: ps, ss, h => by
    simp only [pslots] at h
    obtain ⟨ss', h1, h⟩ := map_some h
    cases h
    obtain ⟨q1, q2⟩ := lentA_len h1
    simp [lentA, q1, q2]
  | .s i :: ps, ss, h => by
    simp only [pslots] at h
    split at h
    · obtain ⟨ss', h1, h⟩ := map_some h
      cases h
      obtain ⟨q1, q2⟩ := lentA_len h1
      simp [lentA, q1, q2]
    · obtain ⟨ss', h1, h⟩ := map_some h
      cases h
      obtain ⟨q1, q2⟩ := lentA_len h1
      simp [lentA, q1, q2]
    · cases h
theorem PRels.length : ∀ {ps : List PArg} {vs : List V}, PRels K M A σ H ps vs → vs.length = ps.length
  | _, _, .nil => rfl
  | _, _, .cons _ t => by simp [PRels.length t]
/-- each parameter's slot -/
theorem pslot_at {M' : Addr → Prop} (S : RSt K M B ρ A σ H) (hM : ∀ a, M' a → MA M A a) : ∀ {ps : List PArg} {vs : List V} {ss : List Sl} {j : Nat} {s : Sl} {v : V} {oa : Option Addr}, PRels K M A σ H ps vs → pslots ρ ps = some ss → ss[j]? = some s → vs[j]? = some v → (lentA ρ A ps)[j]? = some oa →
    SlOk K M' H s (some v) oa ∧ ∀ b ds, s = .own b ds → b = true ∧ ∃ i a b', ps[j]? = some (.s i) ∧ i ∈ lentOf ρ ps ∧ ρ[i]? = some (.own b' ds) ∧ oa = some a ∧ A[i]? = some (some a) ∧ σ[i]? = some (some (.ref a)) ∧ v = .ref a
  | _, _, ss, j, s, v, oa, .nil, h, h1, h2, h3 => by cases h; simp at h1
  | .d x :: ps, _, ss, j, s, v, oa, .cons a t, h, h1, h2, h3 => by
    simp only [pslots] at h
    obtain ⟨ss', g1, h⟩ := map_some h
    cases h
    cases j with
    | zero =>
      simp [lentA] at h1 h2 h3
      subst h1 h2 h3
      exact ⟨⟨rfl, _, rfl, (show Rep K (MA M A) H x _ from a).mono hM⟩, fun b ds z => by cases z⟩
    | succ j =>
      simp [lentA] at h1 h2 h3
      obtain ⟨q1, q2⟩ := pslot_at S hM t g1 h1 h2 h3
      refine ⟨q1, fun b ds z => ?_⟩
      obtain ⟨e1, i, a', b', e2, e3, e4⟩ := q2 b ds z
      exact ⟨e1, i, a', b', by simpa using e2, by simpa [lentOf] using e3, e4⟩
  | .s i :: ps, v0 :: vs, ss, j, s, v, oa, .cons a t, h, h1, h2, h3 => by
    have a' : σ[i]? = some (some v0) := a
    simp only [pslots] at h
    split at h
    · rename_i b0 ds0 q
      obtain ⟨ss', g1, h⟩ := map_some h
      cases h
      obtain ⟨c, us, e1, e2, e3, e4, e5⟩ := S.owned q
      rw [a'] at e2; cases e2
      cases j with
      | zero =>
        simp [lentA, q, e1] at h1 h2 h3
        subst h1 h2 h3
        refine ⟨⟨c, us, rfl, rfl, e3, e4.mono hM⟩, fun b ds z => ?_⟩
        cases z
        exact ⟨rfl, i, c, b0, by simp, by simp [lentOf, q], q, rfl, e1, a', rfl⟩
      | succ j =>
        simp [lentA] at h1 h2 h3
        obtain ⟨q1, q2⟩ := pslot_at S hM t g1 h1 h2 h3
        refine ⟨q1, fun b ds z => ?_⟩
        obtain ⟨e1, i', a', b', e2, e3, e4⟩ := q2 b ds z
        exact ⟨e1, i', a', b', by simpa using e2, by simp [lentOf, q, e3], e4⟩
    · rename_i d0 q
      obtain ⟨ss', g1, h⟩ := map_some h
      cases h
      obtain ⟨w, e1, e2, e3⟩ := S.valued q
      rw [a'] at e2; cases e2
      cases j with
      | zero =>
        simp [lentA, q] at h1 h2 h3
        subst h1 h2 h3
        exact ⟨⟨rfl, _, rfl, e3.mono hM⟩, fun b ds z => by cases z⟩
      | succ j =>
        simp [lentA] at h1 h2 h3
        obtain ⟨q1, q2⟩ := pslot_at S hM t g1 h1 h2 h3
        refine ⟨q1, fun b ds z => ?_⟩
        obtain ⟨e1, i', a', b', e2, e3, e4⟩ := q2 b ds z
        exact ⟨e1, i', a', b', by simpa using e2, by simp [lentOf, q, e3], e4⟩
    · cases h
theorem lent_inj : ∀ {ps : List PArg} {j k : Nat} {i i' : Nat} {a : Addr}, (lentOf ρ ps).Nodup → (∀ (i j : Nat) (a : Addr), A[i]? = some (some a) → A[j]? = some (some a) → i = j) → (lentA ρ A ps)[j]? = some (some a) → (lentA ρ A ps)[k]? = some (some a) → j = k
  | [], j, k, _, _, a, _, _, h, _ => by simp [lentA] at h
  | .d _ :: ps, j, k, i, i', a, hn, hi, h1, h2 => by
    cases j with
    | zero => simp [lentA] at h1
    | succ j =>
      cases k with
      | zero => simp [lentA] at h2
      | succ k =>
        simp [lentA] at h1 h2
        rw [lent_inj (i := i) (i' := i') (by simpa [lentOf] using hn) hi h1 h2]
  | .s x :: ps, j, k, i, i', a, hn, hi, h1, h2 => by
    have hn' : (lentOf ρ ps).Nodup := by
      simp only [lentOf] at hn
      split at hn
      · exact (List.nodup_cons.mp hn).2
      · exact hn
    have head : ∀ (z : Nat), (lentA ρ A (.s x :: ps))[0]? = some (some a) → (lentA ρ A ps)[z]? = some (some a) → False := fun z g1 g2 => by
      simp only [lentA, List.getElem?_cons_zero, Option.some.injEq] at g1
      split at g1
      · rename_i b ds q
        simp only [lentOf, q] at hn
        obtain ⟨y, m1, m2⟩ := lentA_mem (List.mem_of_getElem? g2)
        have e : A[x]? = some (some a) := by
          cases e : A[x]? with
          | none => rw [e] at g1; cases g1
          | some w => rw [e] at g1; rw [show w = some a from g1]
        have := hi _ _ _ e m2
        subst this
        exact (List.nodup_cons.mp hn).1 m1
      · cases g1
    cases j with
    | zero =>
      cases k with
      | zero => rfl
      | succ k => simp only [lentA, List.getElem?_cons_succ] at h2; exact (head k h1 h2).elim
    | succ j =>
      cases k with
      | zero => simp only [lentA, List.getElem?_cons_succ] at h1; exact (head j h2 h1).elim
      | succ k =>
        simp only [lentA, List.getElem?_cons_succ] at h1 h2
        rw [lent_inj (i := i) (i' := i') hn' hi h1 h2]
theorem pslots_nd {ρ : Lo} : ∀ {ps : List PArg} {ss : List Sl}, pslots ρ ps = some ss → ∀ s ∈ ss, ∀ ks, s ≠ .dit ks
  | [], ss, h, s, m, ks => by cases h; cases m
  | .d x :: ps, ss, h, s, m, ks => by
    obtain ⟨ss', h1, h2⟩ := map_some h
    subst h2
    rcases List.mem_cons.mp m with m | m
    · subst m; exact fun z => by cases z
    · exact pslots_nd h1 s m ks
  | .s i :: ps, ss, h, s, m, ks => by
    simp only [pslots] at h
    split at h
    · obtain ⟨ss', h1, h2⟩ := map_some h
      subst h2
      rcases List.mem_cons.mp m with m | m
      · subst m; exact fun z => by cases z
      · exact pslots_nd h1 s m ks
    · obtain ⟨ss', h1, h2⟩ := map_some h
      subst h2
      rcases List.mem_cons.mp m with m | m
      · subst m; exact fun z => by cases z
      · exact pslots_nd h1 s m ks
    · cases h
/-- the callee's own state at its begin -/
theorem callee_state {ps : List PArg} {vs : List V} {ss : List Sl} (S : RSt K M B ρ A σ H) (r : PRels K M A σ H ps vs) (h : pslots ρ ps = some ss) (hn : (lentOf ρ ps).Nodup) :
    RSt K (Mc M A (lentA ρ A ps)) (fun j => ((lentA ρ A ps)[j]?).getD none) ss (lentA ρ A ps) (vs.map some) H ∧ ∀ (j : Nat) (a : Addr), (lentA ρ A ps)[j]? = some (some a) → ((lentA ρ A ps)[j]?).getD none = some a := by
  obtain ⟨q1, q2⟩ := lentA_len (A := A) h
  have hm : ∀ a, MA (Mc M A (lentA ρ A ps)) (lentA ρ A ps) a → MA M A a := fun a => (mc_iff (fun c => lentA_sub) a).mp
  have at_ : ∀ (j : Nat) s, ss[j]? = some s → ∃ v oa, vs[j]? = some v ∧ (lentA ρ A ps)[j]? = some oa := fun j s e => by
    have hj : j < ss.length := (List.getElem?_eq_some_iff.mp e).1
    have h1 : j < vs.length := by rw [r.length, ← q1]; exact hj
    have h2 : j < (lentA ρ A ps).length := by rw [q2, ← q1]; exact hj
    exact ⟨_, _, List.getElem?_eq_getElem h1, List.getElem?_eq_getElem h2⟩
  refine ⟨⟨by rw [q2, q1], by rw [List.length_map, r.length, q1], fun j s ov oa h1 h2 h3 => ?_, fun j k a h1 h2 => lent_inj (i := 0) (i' := 0) hn S.inj h1 h2, fun a m => m.2, fun a m => ?_, fun j a e => ?_, S.tb⟩, fun j a e => by rw [e]; rfl⟩
  · rw [List.getElem?_map, Option.map_eq_some_iff] at h2
    obtain ⟨v, e1, e2⟩ := h2
    subst e2
    exact (pslot_at S hm r h h1 e1 h3).1
  · rcases m.1 with m | m
    · exact S.mtr a m
    · exact S.lst m
  · have e' : (lentA ρ A ps)[j]? = some (some a) := by
      cases e2 : (lentA ρ A ps)[j]? with
      | none => rw [e2] at e; cases e
      | some x => rw [e2] at e; rw [show x = some a from e]
    refine ⟨e', ?_⟩
    have hj : j < ss.length := by rw [q1, ← q2]; exact (List.getElem?_eq_some_iff.mp e').1
    obtain ⟨v, oa, g1, g2⟩ := at_ j _ (List.getElem?_eq_getElem hj)
    rw [e'] at g2; cases g2
    obtain ⟨p1, p2⟩ := pslot_at S hm r h (List.getElem?_eq_getElem hj) g1 e'
    cases es : ss[j] with
    | emp => rw [es] at p1; cases p1
    | val d => rw [es] at p1; cases p1.1
    | own b ds =>
      obtain ⟨rfl, _⟩ := p2 b ds es
      exact ⟨ds, by rw [List.getElem?_eq_getElem hj, es]⟩
    | dit ks => exact absurd es (pslots_nd h _ (List.getElem_mem hj) ks)
theorem putBack_len : ∀ {ps : List PArg} {os : List Sl}, (putBack ρ ps os).length = ρ.length
  | [], os => by cases os <;> rfl
  | .d _ :: ps, [] => rfl
  | .s _ :: ps, [] => rfl
  | .d _ :: ps, o :: os => by simp only [putBack]; exact putBack_len
  | .s i :: ps, o :: os => by
    simp only [putBack]
    split
    · rw [List.length_set]; exact putBack_len
    · exact putBack_len
theorem putBack_out {i : Nat} : ∀ {ps : List PArg} {os : List Sl}, i ∉ lentOf ρ ps → (putBack ρ ps os)[i]? = ρ[i]?
  | [], os, _ => by cases os <;> rfl
  | .d _ :: ps, [], _ => rfl
  | .s _ :: ps, [], _ => rfl
  | .d _ :: ps, o :: os, h => by simp only [putBack]; exact putBack_out (by simpa [lentOf] using h)
  | .s x :: ps, o :: os, h => by
    simp only [putBack]
    split
    · rename_i b es b' ds q
      simp only [lentOf, q, List.mem_cons, not_or] at h
      rw [List.getElem?_set_ne (Ne.symm h.1)]
      exact putBack_out h.2
    · refine putBack_out ?_
      simp only [lentOf] at h
      split at h
      · exact fun m => h (List.mem_cons_of_mem _ m)
      · exact h
theorem putBack_in {i : Nat} : ∀ {ps : List PArg} {os : List Sl} {j : Nat} {b b' : Bool} {ds es : List D}, (lentOf ρ ps).Nodup → ps[j]? = some (.s i) → os[j]? = some (.own b' es) → ρ[i]? = some (.own b ds) → (putBack ρ ps os)[i]? = some (.own b es)
  | [], os, j, _, _, _, _, _, h, _, _ => by simp at h
  | p :: ps, [], j, _, _, _, _, _, _, h, _ => by simp at h
  | .d _ :: ps, o :: os, j, _, _, _, _, hn, h1, h2, h3 => by
    cases j with
    | zero => simp at h1
    | succ j => simp at h1 h2; simp only [putBack]; exact putBack_in (by simpa [lentOf] using hn) h1 h2 h3
  | .s x :: ps, o :: os, j, b, b', ds, es, hn, h1, h2, h3 => by
    have hx : i < ρ.length := (List.getElem?_eq_some_iff.mp h3).1
    cases j with
    | zero =>
      simp at h1 h2
      subst h1 h2
      simp only [putBack, h3]
      rw [List.getElem?_set_self (by rw [putBack_len]; exact hx)]
    | succ j =>
      simp at h1 h2
      have hn' : (lentOf ρ ps).Nodup := by
        simp only [lentOf] at hn
        split at hn
        · exact (List.nodup_cons.mp hn).2
        · exact hn
      have mem : i ∈ lentOf ρ ps := by
        clear hn hn' h2
        induction ps generalizing j with
        | nil => simp at h1
        | cons p ps ih =>
          cases j with
          | zero => simp at h1; subst h1; simp [lentOf, h3]
          | succ j =>
            simp at h1
            have := ih _ h1
            cases p with
            | d _ => simpa [lentOf] using this
            | s y => simp only [lentOf]; split; exact List.mem_cons_of_mem _ this; exact this
      simp only [putBack]
      split
      · rename_i c es' c' ds' q
        have ne : x ≠ i := fun z => by
          subst z
          simp only [lentOf, q] at hn
          exact (List.nodup_cons.mp hn).1 mem
        rw [List.getElem?_set_ne ne]
        exact putBack_in hn' h1 h2 h3
      · exact putBack_in hn' h1 h2 h3
theorem lent_own {i : Nat} : ∀ {ps : List PArg}, i ∈ lentOf ρ ps → ∃ (j : Nat) (b : Bool) (ds : List D), ps[j]? = some (.s i) ∧ ρ[i]? = some (.own b ds)
  | [], h => by cases h
  | .d _ :: ps, h => by
    obtain ⟨j, b, ds, e1, e2⟩ := lent_own (ps := ps) (by simpa [lentOf] using h)
    exact ⟨j + 1, b, ds, by simpa using e1, e2⟩
  | .s x :: ps, h => by
    simp only [lentOf] at h
    split at h
    · rename_i b ds q
      rcases List.mem_cons.mp h with h | h
      · subst h; exact ⟨0, b, ds, rfl, q⟩
      · obtain ⟨j, b, ds, e1, e2⟩ := lent_own h
        exact ⟨j + 1, b, ds, by simpa using e1, e2⟩
    · obtain ⟨j, b, ds, e1, e2⟩ := lent_own h
      exact ⟨j + 1, b, ds, by simpa using e1, e2⟩
/-- the caller's state behind the call -/
theorem caller_state {M' Mc' : Addr → Prop} {ps : List PArg} {vs : List V} {ss outs : List Sl} (S : RSt K M B ρ A σ H) (r : PRels K M A σ H ps vs) (h : pslots ρ ps = some ss) (hn : (lentOf ρ ps).Nodup) (hl : outs.length = ss.length)
    (st : Step (lentA ρ A ps) H H' (lentA ρ A ps)) (So : RSt K Mc' (fun j => ((lentA ρ A ps)[j]?).getD none) outs (lentA ρ A ps) (vs.map some) H')
    (h1 : ∀ c, M' c → M c ∨ H c = none) (h2 : ∀ c, M' c → Mb H' c) (h3 : ∀ c, MA M' A c → MA Mc' (lentA ρ A ps) c) : RSt K M' B (putBack ρ ps outs) A σ H' := by
  obtain ⟨q1, q2⟩ := lentA_len (A := A) h
  have kp : Kp (MA M A) (MA M' A) H H' := by
    refine ⟨fun a o e n nt => ⟨st.keep a o e (fun m => n (.inr (lentA_sub m))) nt, fun m => ?_⟩, fun a xs e => ?_, fun a o u e => ?_⟩
    · rcases m with m | m
      · rcases h1 a m with m | m
        · exact n (.inl m)
        · rw [e] at m; cases m
      · exact n (.inr m)
    · refine st.keep a _ e (fun m => ?_) nt_tup
      rcases S.lst (lentA_sub m) with ⟨vs, q⟩ | ⟨vs, q⟩ <;> (rw [q] at e; cases e)
    · refine st.keep a _ e (fun m => ?_) nt_frz
      rcases S.lst (lentA_sub m) with ⟨vs, q⟩ | ⟨vs, q⟩ <;> (rw [q] at e; cases e)
  have lent : ∀ i, i ∈ lentOf ρ ps → ∃ b a es us, (putBack ρ ps outs)[i]? = some (.own b es) ∧ A[i]? = some (some a) ∧ σ[i]? = some (some (.ref a)) ∧ H' a = some (.lst us) ∧ Reps K (MA M' A) H' es us ∧ ∃ ds, ρ[i]? = some (.own b ds) := fun i m => by
    obtain ⟨j, b, ds, e1, e2⟩ := lent_own m
    obtain ⟨a, us, f1, f2, f3, f4, f5⟩ := S.owned e2
    have hj : j < ps.length := (List.getElem?_eq_some_iff.mp e1).1
    have eA : (lentA ρ A ps)[j]? = some (some a) := by
      clear So kp st hl hn q1 q2 h h3
      have go : ∀ {ps : List PArg} {j : Nat}, ps[j]? = some (.s i) → (lentA ρ A ps)[j]? = some (some a) := by
        intro ps
        induction ps with
        | nil => intro j e; simp at e
        | cons p ps ih =>
          intro j e
          cases j with
          | zero => simp at e; subst e; simp [lentA, e2, f1]
          | succ j => simp at e; cases p <;> simpa [lentA] using ih e
      exact go e1
    obtain ⟨g1, es, g2⟩ := So.bb j a (by simp only [eA]; rfl)
    obtain ⟨a', ws, k1, k2, k3, k4, _⟩ := So.owned g2
    rw [eA] at k1; cases k1
    exact ⟨b, a, es, ws, putBack_in hn e1 g2 e2, f1, f2, k3, k4.mono h3, ds, e2⟩
  refine ⟨by rw [putBack_len]; exact S.l1, by rw [putBack_len]; exact S.l2, fun i s ov oa e1 e2 e3 => ?_, S.inj, fun c m => ?_, h2, fun j c e => ?_, So.tb⟩
  · by_cases m : i ∈ lentOf ρ ps
    · obtain ⟨b, a, es, us, g1, g2, g3, g4, g5, _⟩ := lent i m
      rw [g1] at e1; cases e1
      rw [g2] at e3; cases e3
      rw [g3] at e2; cases e2
      exact ⟨a, us, rfl, rfl, g4, g5⟩
    · rw [putBack_out m] at e1
      have q := S.sl i s ov oa e1 e2 e3
      cases s with
      | emp => exact q
      | val d => exact ⟨q.1, q.2.choose, q.2.choose_spec.1, Rep.kp kp _ _ q.2.choose_spec.2⟩
      | own b ds =>
        obtain ⟨a, us, f1, f2, f3, f4⟩ := q
        subst f1
        refine ⟨a, us, rfl, f2, st.keep a _ f3 (fun m' => ?_) nt_lst, Reps.kp kp _ _ f4⟩
        obtain ⟨i', g1, g2⟩ := lentA_mem m'
        exact m ((S.inj _ _ _ e3 g2) ▸ g1)
      | dit ks =>
        obtain ⟨a, us, f1, f2, f3, f4⟩ := q
        subst f1
        refine ⟨a, us, rfl, f2, st.keep a _ f3 (fun m' => ?_) nt_dt, f4⟩
        obtain ⟨i', g1, g2⟩ := lentA_mem m'
        exact m ((S.inj _ _ _ e3 g2) ▸ g1)
  · rcases h1 c m with q | q
    · exact S.mt c q
    · intro z
      rcases S.lst z with ⟨vs, w⟩ | ⟨vs, w⟩ <;> (rw [q] at w; cases w)
  · obtain ⟨g1, ds, g2⟩ := S.bb j c e
    refine ⟨g1, ?_⟩
    by_cases m : j ∈ lentOf ρ ps
    · obtain ⟨b, a, es, us, p1, _, _, _, _, ds', p2⟩ := lent j m
      rw [g2] at p2; cases p2
      exact ⟨es, p1⟩
    · exact ⟨ds, by rw [putBack_out m]; exact g2⟩
end
/-- a call by its promise -/
theorem call_ok {K : PySem.W.Frag} {M : Addr → Prop} {B : Nat → Option Addr} {ρ ρ' : Lo} {A : As} {σ : L2.St} {H : Hp} {cf : CF} {io : List Bool} {rs : List R} {vs : List V} {r : R} {n : Nat} {Q : VK} {E : XK} (hl : vs.length = n)
    (S : RSt K M B ρ A σ H) (a : Args K M A σ H rs vs) (h : evCallR cf io (rs, ρ) = some (r, ρ')) (k : ∀ v H' A', Step A H H' A' → Out K M B ρ' A' σ H H' r v → Q v H') : spF K n cf vs H Q E := by
  obtain ⟨⟨ps, ρ2⟩, h1, h⟩ := bind_some h
  dsimp only at h
  split at h
  · rename_i hn
    obtain ⟨ss, h2, h⟩ := bind_some h
    obtain ⟨⟨r1, outs⟩, h3, h⟩ := bind_some h
    obtain ⟨A2, s2, S2, r2⟩ := prep_ok S a h1
    obtain ⟨Sc, hb⟩ := callee_state S2 r2 h2 hn
    refine ⟨hl, _, _, ss, _, r1, outs, h3, Sc, hb, fun v H' st o => ?_⟩
    have hsub : ∀ c, some c ∈ lentA ρ2 A2 ps → some c ∈ A2 := fun c => lentA_sub
    have stp : Step A2 H H' A2 := ⟨fun c o' e n nt => st.keep c o' e (fun m => n (hsub c m)) nt, fun c m => .inl m, st.trk⟩
    dsimp only at h
    split at h
    · cases h
    · rename_i rr hr
      split at h
      · rename_i hlen
        cases h
        cases r with
        | ali i => exact absurd rfl (hr i)
        | val d =>
          have So := o.1
          refine k v H' A2 (s2.trans stp) ⟨caller_state S2 r2 h2 hn hlen st So (fun c m => .inl m) (fun c m => ?_) (fun c m => (mc_iff hsub c).mpr m), o.2.mono fun c m => (mc_iff hsub c).mpr m⟩
          exact (S2.mtr c m).mk fun o e nt => stp.keep c _ e (S2.mt c m) nt
        | fresh ds =>
          obtain ⟨p, us, e1, e2, e3, e4, So, e6⟩ := o
          have h3' : ∀ c, MA (M1 M p) A2 c → MA (M1 (Mc M A2 (lentA ρ2 A2 ps)) p) (lentA ρ2 A2 ps) c := fun c m => by
            rcases m with (m | m) | m
            · rcases (mc_iff hsub c).mpr (.inl m) with q | q
              · exact .inl (.inl q)
              · exact .inr q
            · exact .inl (.inr m)
            · rcases (mc_iff hsub c).mpr (.inr m) with q | q
              · exact .inl (.inl q)
              · exact .inr q
          refine k v H' A2 (s2.trans stp) ⟨p, us, e1, e2, fun m => ?_, e4, caller_state S2 r2 h2 hn hlen st So (fun c m => ?_) (fun c m => ?_) h3', e6.mono h3'⟩
          · exact (S2.mtr p m).none e2
          · rcases m with m | m
            · exact .inl m
            · subst m; exact .inr e2
          · rcases m with m | m
            · exact (S2.mtr c m).mk fun o e nt => stp.keep c _ e (S2.mt c m) nt
            · subst m; exact .inl ⟨_, e4⟩
      · cases h
  · cases h
theorem Args.length {K : PySem.W.Frag} {M : Addr → Prop} {A : As} {σ : L2.St} {H : Hp} : ∀ {rs : List R} {vs : List V}, Args K M A σ H rs vs → vs.length = rs.length
  | _, _, .nil => rfl
  | _, _, .cons _ t => by simp [Args.length t]
def evCallN (n : Nat) (cf : CF) (io : List Bool) (g : AvF) : EvF := fun ρ => (g ρ).bind fun p => if p.1.length = n then evCallR cf io p else none
theorem ev_call {X : Cx} {CX : CXT} {k : Nat} {f : Addr} {fd : FuncData} {ps : List Str} {cf : CF} {io : List Bool} {E : XK} {x : Str} {p pos : Pos} {e : Expr} {es : List Expr} {av : AvF}
    (F : FnOk X.prog X.w X.K X.mg X.base CX k f fd ps (spF X.K ps.length cf)) (hr : Room k X.A) (hg : Gl X x) (hm : X.mg x = some (.ref f)) (hk : PySem.W.keepIn X.K (.ref f) = true) (hb : L2.Binds X.K fd ps []) (hx : Passes CX X E)
    (ha : PA X (e :: es) (tAv X.K av)) (hdb : (x == ("__debug__" : Str)) = false) (hst : (e :: es).all notStar = true) : PE X (.Call (.Name x p) (e :: es) [] pos) (tEv X.K (evCallN ps.length cf io av)) := by
  rw [List.all_cons, Bool.and_eq_true] at hst
  refine PE.mono (pe_call (E := E) F hr hg hm hk hb .nil hx ha hdb (star_cons hst.1) (star_any hst.2)) fun σ H Q ⟨M, B, ρ, A, r, ρ', e, S, k⟩ => ?_
  obtain ⟨⟨rs, ρ1⟩, h1, e⟩ := bind_some e
  dsimp only at e
  split at e
  · rename_i hl
    refine ⟨M, B, ρ, A, rs, ρ1, h1, S, fun vs H1 A1 s1 S1 a1 => ?_⟩
    show spF X.K ps.length cf (vs ++ []) H1 Q E
    rw [List.append_nil]
    exact call_ok (by rw [a1.length]; exact hl) S1 a1 e fun v H2 A2 s2 o2 => k v H2 A2 (s1.trans s2) (o2.back' s1)
  · cases e
end RF
set_option maxHeartbeats 1000000
/-! RF7: what is walked, targets, comprehensions. -/
namespace RF
open PySem PySem.Spec PyProof.Rows L2
/-! ### sources -/
abbrev SvF := Lo → Option (List D × Lo)
structure Src (K : PySem.W.Frag) (M : Addr → Prop) (A0 : As) (H0 : Hp) (J : It) (items : List D) : Prop where
  go : ∀ A H, Step A0 H0 H A → ∀ i, i < items.length → J.go i H
  stop : ∀ A H, Step A0 H0 H A → J.stop items.length H
  yld : ∀ (M' : Addr → Prop) A H, (∀ a, M' a → M a ∨ H0 a = none) → Step A0 H0 H A → ∀ i x H', i < items.length → J.yld i H x H' → Same H H' ∧ ∃ d, items[i]? = some d ∧ Rep K (MA M' A) H' d x
def tSv (K : PySem.W.Frag) (f : SvF) : TI := fun σ H R => ∃ M B ρ A items ρ', f ρ = some (items, ρ') ∧ RSt K M B ρ A σ H ∧ ∀ J H' A', Step A H H' A' → RSt K M B ρ' A' σ H' → Src K M A' H' J items → R J H'
theorem PI.mono {X : Cx} {tg e : Expr} {t t' : TI} (h : PI X tg e t) (m : ∀ σ H R, t' σ H R → t σ H R) : PI X tg e t' := ⟨fun pins s σ H R I q => h.run pins s σ H R I (m σ H R q)⟩
theorem PI.or {X : Cx} {tg e : Expr} {t t' : TI} (h : PI X tg e t) (h' : PI X tg e t') : PI X tg e (fun σ H R => t σ H R ∨ t' σ H R) := ⟨fun pins s σ H R I q => q.elim (h.run pins s σ H R I) (h'.run pins s σ H R I)⟩
theorem RSt.kp' {K : PySem.W.Frag} {M M' : Addr → Prop} {B : Nat → Option Addr} {ρ : Lo} {A A' : As} {σ : L2.St} {H H' : Hp} (S : RSt K M B ρ A σ H) (s : Step A H H' A') (hm : ∀ a, M' a → M a ∨ H a = none) : Kp (MA M A) (MA M' A') H H' := by
  have k := S.kp s
  refine ⟨fun a o h n nt => ⟨(k.obj a o h n nt).1, fun m => ?_⟩, k.tup, k.frz⟩
  rcases m with m | m
  · rcases hm a m with q | q
    · exact n (.inl q)
    · rw [q] at h; cases h
  · exact (k.obj a o h n nt).2 (.inr m)
section
variable {K : PySem.W.Frag} {M : Addr → Prop} {B : Nat → Option Addr} {ρ : Lo} {A : As} {σ : L2.St} {H : Hp} {a b : Addr} {vs us : List V} {ds es : List D}
theorem src_list (S : RSt K M B ρ A σ H) (h : H a = some (.lst vs)) (n : ¬ MA M A a) (r : Reps K (MA M A) H ds vs) : Src K M A H (Itl K a) ds := by
  have at_ : ∀ A' H', Step A H H' A' → SqL K H' a vs := fun A' H' s => SqL.of ((S.kp s).obj a _ h n nt_lst).1
  refine ⟨fun A' H' s i hi => ?_, fun A' H' s => ⟨vs, at_ A' H' s, by rw [r.length]; exact Nat.le_refl _⟩, fun M' A' H' hm s i x H2 hi y => ?_⟩
  · have hi' : i < vs.length := by rw [r.length]; exact hi
    exact ⟨vs, vs[i], at_ A' H' s, List.getElem?_eq_getElem hi'⟩
  · obtain ⟨rfl, y⟩ := y
    obtain ⟨d, e1, e2⟩ := (Reps.kp (S.kp' s hm) _ _ r).get (y vs (at_ A' _ s))
    exact ⟨Same.refl _, d, e1, e2⟩
theorem src_tup (S : RSt K M B ρ A σ H) (h : SqT K H a vs) (r : Reps K (MA M A) H ds vs) : Src K M A H (Itt K a) ds := by
  have at_ : ∀ A' H', Step A H H' A' → SqT K H' a vs := fun A' H' s => (S.kp s).sqT h
  refine ⟨fun A' H' s i hi => ?_, fun A' H' s => ⟨vs, at_ A' H' s, by rw [r.length]; exact Nat.le_refl _⟩, fun M' A' H' hm s i x H2 hi y => ?_⟩
  · have hi' : i < vs.length := by rw [r.length]; exact hi
    exact ⟨vs, vs[i], at_ A' H' s, List.getElem?_eq_getElem hi'⟩
  · obtain ⟨rfl, y⟩ := y
    obtain ⟨d, e1, e2⟩ := (Reps.kp (S.kp' s hm) _ _ r).get (y vs (at_ A' _ s))
    exact ⟨Same.refl _, d, e1, e2⟩
def rngD (lo : Int) (n : Nat) : List D := (List.range n).map fun (i : Nat) => D.int (lo + (i : Int))
theorem src_rng {lo : Int} {n : Nat} : Src K M A H (Itr lo n) (rngD lo n) := by
  have hl : (rngD lo n).length = n := by simp [rngD]
  refine ⟨fun A' H' s i hi => by rw [hl] at hi; exact hi, fun A' H' s => by rw [hl]; exact Nat.le_refl _, fun M' A' H' hm s i x H2 hi y => ?_⟩
  rw [hl] at hi
  obtain ⟨rfl, rfl⟩ := y
  exact ⟨Same.refl _, .int (lo + (i : Nat)), by simp [rngD, hi], Rep.int⟩
def zipD (ds es : List D) : List D := List.zipWith (fun x y => D.tup [x, y]) ds es
theorem zip_get {i : Nat} {v u : V} (r : Reps K (MA M A) H ds vs) (q : Reps K (MA M A) H es us) (h1 : vs[i]? = some v) (h2 : us[i]? = some u) : ∃ x y, (zipD ds es)[i]? = some (.tup [x, y]) ∧ Rep K (MA M A) H x v ∧ Rep K (MA M A) H y u := by
  obtain ⟨x, e1, e2⟩ := r.get h1
  obtain ⟨y, e3, e4⟩ := q.get h2
  exact ⟨x, y, by simp [zipD, List.getElem?_zipWith, e1, e3], e2, e4⟩
theorem src_zipT (S : RSt K M B ρ A σ H) (h : SqT K H a vs) (h' : SqT K H b us) (r : Reps K (MA M A) H ds vs) (q : Reps K (MA M A) H es us) : Src K M A H (RZ.ItzT K a b) (zipD ds es) := by
  have at1 : ∀ A' H', Step A H H' A' → SqT K H' a vs := fun A' H' s => (S.kp s).sqT h
  have at2 : ∀ A' H', Step A H H' A' → SqT K H' b us := fun A' H' s => (S.kp s).sqT h'
  have hl : (zipD ds es).length = min vs.length us.length := by simp [zipD, r.length, q.length]
  refine ⟨fun A' H' s i hi => ?_, fun A' H' s => ⟨vs, us, at1 A' H' s, at2 A' H' s, by rw [hl]; omega⟩, fun M' A' H' hm s i x H2 hi y => ?_⟩
  · rw [hl] at hi
    have h1 : i < vs.length := by omega
    have h2 : i < us.length := by omega
    exact ⟨vs, us, vs[i], us[i], at1 A' H' s, at2 A' H' s, List.getElem?_eq_getElem h1, List.getElem?_eq_getElem h2⟩
  · obtain ⟨T, x1, y1, rfl, n, rfl, z1, z2⟩ := y
    obtain ⟨d, e, g1, g2, g3⟩ := zip_get (Reps.kp (S.kp' s hm) _ _ r) (Reps.kp (S.kp' s hm) _ _ q) (z1 vs (at1 A' _ s)) (z2 us (at2 A' _ s))
    exact ⟨same_new n, _, g1, Rep.newTup n (Reps.cons g2 (Reps.one g3))⟩
theorem src_zipL (S : RSt K M B ρ A σ H) (h : H a = some (.lst vs)) (h' : H b = some (.lst us)) (n : ¬ MA M A a) (n' : ¬ MA M A b) (r : Reps K (MA M A) H ds vs) (q : Reps K (MA M A) H es us) : Src K M A H (Itz K a b) (zipD ds es) := by
  have at1 : ∀ A' H', Step A H H' A' → SqL K H' a vs := fun A' H' s => SqL.of ((S.kp s).obj a _ h n nt_lst).1
  have at2 : ∀ A' H', Step A H H' A' → SqL K H' b us := fun A' H' s => SqL.of ((S.kp s).obj b _ h' n' nt_lst).1
  have hl : (zipD ds es).length = min vs.length us.length := by simp [zipD, r.length, q.length]
  refine ⟨fun A' H' s i hi => ?_, fun A' H' s => ⟨vs, us, at1 A' H' s, at2 A' H' s, by rw [hl]; omega⟩, fun M' A' H' hm s i x H2 hi y => ?_⟩
  · rw [hl] at hi
    have h1 : i < vs.length := by omega
    have h2 : i < us.length := by omega
    exact ⟨vs, us, vs[i], us[i], at1 A' H' s, at2 A' H' s, List.getElem?_eq_getElem h1, List.getElem?_eq_getElem h2⟩
  · obtain ⟨T, x1, y1, rfl, n, rfl, z1, z2⟩ := y
    obtain ⟨d, e, g1, g2, g3⟩ := zip_get (Reps.kp (S.kp' s hm) _ _ r) (Reps.kp (S.kp' s hm) _ _ q) (z1 vs (at1 A' _ s)) (z2 us (at2 A' _ s))
    exact ⟨same_new n, _, g1, Rep.newTup n (Reps.cons g2 (Reps.one g3))⟩
def enumD (n : Nat) : List D → List D
  | [] => []
  | d :: ds => .tup [.int (n : Int), d] :: enumD (n + 1) ds
theorem enumD_len : ∀ {n : Nat} {ds : List D}, (enumD n ds).length = ds.length
  | _, [] => rfl
  | n, d :: ds => by simp [enumD, enumD_len (n := n + 1) (ds := ds)]
theorem enumD_get : ∀ {n i : Nat} {ds : List D}, (enumD n ds)[i]? = (ds[i]?).map fun d => D.tup [.int ((n + i : Nat) : Int), d]
  | _, _, [] => by simp [enumD]
  | n, 0, d :: ds => by simp [enumD]
  | n, i + 1, d :: ds => by
    simp only [enumD, List.getElem?_cons_succ]
    rw [enumD_get, show n + 1 + i = n + (i + 1) by omega]
theorem src_enum (S : RSt K M B ρ A σ H) (h : H a = some (.lst vs)) (n : ¬ MA M A a) (r : Reps K (MA M A) H ds vs) : Src K M A H (Ite K a) (enumD 0 ds) := by
  have at_ : ∀ A' H', Step A H H' A' → SqL K H' a vs := fun A' H' s => SqL.of ((S.kp s).obj a _ h n nt_lst).1
  refine ⟨fun A' H' s i hi => ?_, fun A' H' s => ⟨vs, at_ A' H' s, by rw [enumD_len, r.length]; exact Nat.le_refl _⟩, fun M' A' H' hm s i x H2 hi y => ?_⟩
  · rw [enumD_len] at hi
    have hi' : i < vs.length := by rw [r.length]; exact hi
    exact ⟨vs, vs[i], at_ A' H' s, List.getElem?_eq_getElem hi'⟩
  · obtain ⟨T, x1, rfl, n, rfl, z1⟩ := y
    obtain ⟨d, e1, e2⟩ := (Reps.kp (S.kp' s hm) _ _ r).get (z1 vs (at_ A' _ s))
    exact ⟨same_new n, _, by rw [enumD_get, e1]; simp, Rep.newTup n (Reps.cons Rep.int (Reps.one e2))⟩
end
def svSeq (f : EvF) : SvF := fun ρ => (f ρ).bind fun p => (retain1 p.2 p.1).bind fun q => (seqD q.1).map fun ds => (ds, q.2)
def svRng1 (f : EvF) : SvF := fun ρ => (f ρ).bind fun p => match deref p.2 p.1 with
  | some (.int j) => if -(2 ^ 62) ≤ j ∧ j < 2 ^ 62 then some (rngD 0 j.toNat, p.2) else none
  | _ => none
def svRng2 (f g : EvF) : SvF := fun ρ => (f ρ).bind fun p => (g p.2).bind fun q => match deref q.2 p.1, deref q.2 q.1 with
  | some (.int i), some (.int j) => if -(2 ^ 62) ≤ i ∧ i < 2 ^ 62 ∧ -(2 ^ 62) ≤ j ∧ j < 2 ^ 62 then some (rngD i (j - i).toNat, q.2) else none
  | _, _ => none
def svZip (g : AvF) : SvF := fun ρ => (g ρ).bind fun p => (retain p.2 p.1).bind fun q => match q.1 with
  | [.tup ds, .tup es] => some (zipD ds es, q.2)
  | [.lst ds, .lst es] => some (zipD ds es, q.2)
  | _ => none
def svEnum (g : AvF) : SvF := fun ρ => (g ρ).bind fun p => (retain p.2 p.1).bind fun q => match q.1 with
  | [.lst ds] => some (enumD 0 ds, q.2)
  | _ => none
section
variable {X : Cx} {a b c e tg : Expr} {es : List Expr} {pos p : Pos} {f g h : EvF} {av bv : AvF}
theorem Rep.lst' {K : PySem.W.Frag} {M : Addr → Prop} {H : Hp} {ds : List D} {v : V} (h : Rep K M H (.lst ds) v) : ∃ a vs, v = .ref a ∧ H a = some (.lst vs) ∧ ¬ M a ∧ Reps K M H ds vs := by simpa only [Rep] using h
theorem sv_seq (ha : PE X a (tEv X.K f)) : PI X tg a (tSv X.K (svSeq f)) :=
  PI.mono (PI.or (pi_list ha) (pi_tup ha)) fun σ H R ⟨M, B, ρ, A, items, ρ', e, S, k⟩ => by
    obtain ⟨⟨r1, ρ1⟩, h1, e⟩ := bind_some e
    obtain ⟨⟨d, ρ2⟩, h2, e⟩ := bind_some e
    obtain ⟨ds, h3, e⟩ := map_some e
    cases e
    cases d <;> simp only [seqD] at h3 <;> cases h3
    · refine .inr ⟨M, B, ρ, A, r1, ρ1, h1, S, fun x H1 A1 s1 o1 => ?_⟩
      obtain ⟨A2, s2, S2, rp⟩ := retain1_ok o1.st o1.arg h2
      obtain ⟨q, vs, rfl, g, rs⟩ := rp.p.tup
      exact ⟨q, rfl, ⟨vs, g⟩, k _ H1 A2 (s1.trans s2) S2 (src_tup S2 g rs)⟩
    · refine .inl ⟨M, B, ρ, A, r1, ρ1, h1, S, fun x H1 A1 s1 o1 => ?_⟩
      obtain ⟨A2, s2, S2, rp⟩ := retain1_ok o1.st o1.arg h2
      obtain ⟨q, vs, rfl, g, n, rs⟩ := rp.lst'
      exact ⟨q, rfl, ⟨vs, SqL.of g⟩, k _ H1 A2 (s1.trans s2) S2 (src_list S2 g n rs)⟩
theorem sv_rng1 (hg : Gl X "range") (hm : X.mg "range" = none) (ha : PE X a (tEv X.K f)) (hst : notStar a = true) : PI X tg (.Call (.Name "range" p) [a] [] pos) (tSv X.K (svRng1 f)) :=
  PI.mono (pi_range1 hg hm (pa_cons ha pa_nil (star_cons hst)) (star_cons hst)) fun σ H R ⟨M, B, ρ, A, items, ρ', e, S, k⟩ => by
    obtain ⟨⟨r1, ρ1⟩, h1, e⟩ := bind_some e
    refine ⟨M, B, ρ, A, r1, ρ1, h1, S, fun x H1 A1 s1 o1 => ?_⟩
    dsimp only at e
    split at e
    · rename_i j q
      split at e
      · rename_i hb
        cases e
        cases (o1.arg.peek o1.st q).int
        exact ⟨j, rfl, hb.1, hb.2, k _ H1 A1 s1 o1.st src_rng⟩
      · cases e
    · cases e
theorem sv_rng2 (hg : Gl X "range") (hm : X.mg "range" = none) (ha : PE X a (tEv X.K f)) (hb : PE X b (tEv X.K g)) (hst : notStar a = true) (hst2 : notStar b = true) : PI X tg (.Call (.Name "range" p) [a, b] [] pos) (tSv X.K (svRng2 f g)) :=
  PI.mono (pi_range2 hg hm (pa_cons ha (pa_cons hb pa_nil (star_cons hst2)) (star_cons hst)) (by rw [star_cons hst, star_cons hst2]; rfl) (star_cons hst2)) fun σ H R ⟨M, B, ρ, A, items, ρ', e, S, k⟩ => by
    obtain ⟨⟨r1, ρ1⟩, h1, e⟩ := bind_some e
    obtain ⟨⟨r2, ρ2⟩, h2, e⟩ := bind_some e
    refine ⟨M, B, ρ, A, r1, ρ1, h1, S, fun x H1 A1 s1 o1 => ⟨M, B, ρ1, A1, r2, ρ2, h2, o1.st, fun y H2 A2 s2 o2 => ?_⟩⟩
    dsimp only at e
    split at e
    · rename_i i j q1 q2
      split at e
      · rename_i hb
        cases e
        cases ((o1.arg.step o1.st s2).peek o2.st q1).int
        cases (o2.arg.peek o2.st q2).int
        exact ⟨i, j, rfl, hb, k _ H2 A2 (s1.trans s2) o2.st src_rng⟩
      · cases e
    · cases e
theorem reps2 {K : PySem.W.Frag} {M : Addr → Prop} {H : Hp} {d e : D} {vs : List V} (h : Reps K M H [d, e] vs) : ∃ v u, vs = [v, u] ∧ Rep K M H d v ∧ Rep K M H e u := by
  simp only [Reps] at h
  obtain ⟨v, r, e1, h1, u, r', e2, h2, e3⟩ := h
  subst e1 e2 e3
  exact ⟨v, u, rfl, h1, h2⟩
theorem reps1 {K : PySem.W.Frag} {M : Addr → Prop} {H : Hp} {d : D} {vs : List V} (h : Reps K M H [d] vs) : ∃ v, vs = [v] ∧ Rep K M H d v := by
  simp only [Reps] at h
  obtain ⟨v, r, e1, h1, e3⟩ := h
  subst e1 e3
  exact ⟨v, rfl, h1⟩
theorem sv_zip {elts : List Expr} {kk : Nat} {tpos : Pos} (hg : Gl X "zip") (hm : X.mg "zip" = none) (ha : PA X [a, b] (tAv X.K av)) (hst : notStar a = true) (hst2 : notStar b = true) : PI X (.Tuple elts kk tpos) (.Call (.Name "zip" p) [a, b] [] pos) (tSv X.K (svZip av)) :=
  PI.mono (RZ.pi_zipA hg hm ha (star_cons hst) (by rw [star_cons hst2]; rfl)) fun σ H R ⟨M, B, ρ, A, items, ρ', e, S, k⟩ => by
    obtain ⟨⟨rs, ρ1⟩, h1, e⟩ := bind_some e
    obtain ⟨⟨ds, ρ2⟩, h2, e⟩ := bind_some e
    refine ⟨M, B, ρ, A, rs, ρ1, h1, S, fun vs H1 A1 s1 S1 a1 => ?_⟩
    obtain ⟨A2, s2, S2, rp⟩ := retain_ok S1 a1 h2
    dsimp only at e
    split at e
    · cases e
      obtain ⟨v, u, rfl, r1, r2⟩ := reps2 rp
      obtain ⟨q1, vs1, rfl, g1, rs1⟩ := r1.p.tup
      obtain ⟨q2, vs2, rfl, g2, rs2⟩ := r2.p.tup
      exact ⟨q1, q2, vs1, vs2, rfl, .inr ⟨g1, g2, k _ H1 A2 (s1.trans s2) S2 (src_zipT S2 g1 g2 rs1 rs2)⟩⟩
    · cases e
      obtain ⟨v, u, rfl, r1, r2⟩ := reps2 rp
      obtain ⟨q1, vs1, rfl, g1, n1, rs1⟩ := r1.lst'
      obtain ⟨q2, vs2, rfl, g2, n2, rs2⟩ := r2.lst'
      exact ⟨q1, q2, vs1, vs2, rfl, .inl ⟨SqL.of g1, SqL.of g2, k _ H1 A2 (s1.trans s2) S2 (src_zipL S2 g1 g2 n1 n2 rs1 rs2)⟩⟩
    · cases e
theorem sv_enum {elts : List Expr} {kk : Nat} {tpos : Pos} (hg : Gl X "enumerate") (hm : X.mg "enumerate" = none) (ha : PA X [a] (tAv X.K av)) (hst : notStar a = true) : PI X (.Tuple elts kk tpos) (.Call (.Name "enumerate" p) [a] [] pos) (tSv X.K (svEnum av)) :=
  PI.mono (pi_enum hg hm ha (star_cons hst)) fun σ H R ⟨M, B, ρ, A, items, ρ', e, S, k⟩ => by
    obtain ⟨⟨rs, ρ1⟩, h1, e⟩ := bind_some e
    obtain ⟨⟨ds, ρ2⟩, h2, e⟩ := bind_some e
    refine ⟨M, B, ρ, A, rs, ρ1, h1, S, fun vs H1 A1 s1 S1 a1 => ?_⟩
    obtain ⟨A2, s2, S2, rp⟩ := retain_ok S1 a1 h2
    dsimp only at e
    split at e
    · cases e
      obtain ⟨v, rfl, r1⟩ := reps1 rp
      obtain ⟨q1, vs1, rfl, g1, n1, rs1⟩ := r1.lst'
      exact ⟨q1, vs1, rfl, SqL.of g1, k _ H1 A2 (s1.trans s2) S2 (src_enum S2 g1 n1 rs1)⟩
    · cases e
end
/-! ### targets of loops -/
inductive Tg where
  | one (i : Nat) | many (is : List Nat)
def notLent : Option Sl → Bool
  | some (.own true _) => false
  | some _ => true
  | none => false
def setV (ρ : Lo) (i : Nat) (d : D) : Option Lo := if notLent ρ[i]? then some (ρ.set i (.val d)) else none
def setVs : Lo → List Nat → List D → Option Lo
  | ρ, [], [] => some ρ
  | ρ, i :: is, d :: ds => (setV ρ i d).bind fun ρ' => setVs ρ' is ds
  | _, _, _ => none
def tgSet : Tg → D → Lo → Option Lo
  | .one i, d, ρ => setV ρ i d
  | .many is, .tup ds, ρ => setVs ρ is ds
  | .many _, _, _ => none
def Tg.slots : Tg → List Nat
  | .one i => [i]
  | .many is => is
def gNames : List Nat → TGs
  | [] => gNil
  | i :: is => gCons (gName i) (gNames is)
def gTg (K : PySem.W.Frag) : Tg → TG
  | .one i => gName i
  | .many is => gTup K is.length (gNames is)
section
variable {K : PySem.W.Frag} {M : Addr → Prop} {B : Nat → Option Addr} {ρ ρ' : Lo} {A : As} {σ : L2.St} {H : Hp}
theorem RSt.nl (S : RSt K M B ρ A σ H) {i : Nat} (h : notLent ρ[i]? = true) : B i = none := S.nb fun ds e => by rw [e] at h; cases h
theorem setV_ok {i : Nat} {d : D} {v : V} (S : RSt K M B ρ A σ H) (h : setV ρ i d = some ρ') (r : Rep K (MA M A) H d v) : RSt K M B ρ' (A.set i none) (σ.set i (some v)) H := by
  unfold setV at h
  split at h
  · rename_i n
    cases h
    exact S.setVal (S.nl n) r
  · cases h
theorem setVs_ok : ∀ {is : List Nat} {ds : List D} {vs : List V} {ρ ρ' : Lo} {A : As} {σ : L2.St} {Q : L2.St → Hp → Prop}, RSt K M B ρ A σ H → setVs ρ is ds = some ρ' → Reps K (MA M A) H ds vs →
    (∀ σ' A', RSt K M B ρ' A' σ' H → Step A H H A' → (∀ w : List Nat, (∀ i ∈ is, i ∈ w) → wipe σ' w = wipe σ w) → Q σ' H) → vs.length = is.length ∧ gNames is vs σ H Q
  | [], [], vs, ρ, ρ', A, σ, Q, S, h, r, k => by
    simp only [Reps] at r; subst r
    cases h
    exact ⟨rfl, rfl, k σ A S Step.refl fun _ _ => rfl⟩
  | i :: is, d :: ds, vs, ρ, ρ', A, σ, Q, S, h, r, k => by
    simp only [Reps] at r
    obtain ⟨v, us, e, r1, r2⟩ := r
    subst e
    obtain ⟨ρ1, h1, h2⟩ := bind_some h
    have S1 := setV_ok S h1 r1
    have q := setVs_ok (Q := Q) S1 h2 (S.reps Step.setNone r2) fun σ' A' S' s w => k σ' A' S' (Step.setNone.trans s) fun ws hw => by
      rw [w ws fun j m => hw j (List.mem_cons_of_mem _ m)]
      have m := hw i List.mem_cons_self
      clear hw
      induction ws with
      | nil => cases m
      | cons z zs ih =>
        show (wipe (σ.set i (some v)) zs).set z none = (wipe σ zs).set z none
        by_cases hz : i ∈ zs
        · rw [ih hz]
        · have e : i = z := by
            rcases List.mem_cons.mp m with m | m
            · exact m
            · exact absurd m hz
          subst e
          have c : ∀ (w : List Nat), i ∉ w → wipe (σ.set i (some v)) w = (wipe σ w).set i (some v) := fun w => by
            induction w with
            | nil => intro _; rfl
            | cons y ys ih =>
              intro hy
              show (wipe (σ.set i (some v)) ys).set y none = ((wipe σ ys).set y none).set i (some v)
              rw [ih fun z => hy (List.mem_cons_of_mem _ z), List.set_comm _ _ (fun z => hy (by rw [z]; exact List.mem_cons_self))]
          rw [c zs hz, List.set_set]
    exact ⟨by simp [q.1], v, us, rfl, q.2⟩
  | [], d :: ds, vs, ρ, ρ', A, σ, Q, S, h, r, k => by cases h
  | i :: is, [], vs, ρ, ρ', A, σ, Q, S, h, r, k => by cases h
theorem tg_ok {tg : Tg} {d : D} {v : V} {Q : L2.St → Hp → Prop} (S : RSt K M B ρ A σ H) (h : tgSet tg d ρ = some ρ') (r : Rep K (MA M A) H d v)
    (k : ∀ σ' A', RSt K M B ρ' A' σ' H → Step A H H A' → (∀ w : List Nat, (∀ i ∈ tg.slots, i ∈ w) → wipe σ' w = wipe σ w) → Q σ' H) : gTg K tg v σ H Q := by
  cases tg with
  | one i =>
    have q := setVs_ok (is := [i]) (ds := [d]) (vs := [v]) (Q := Q) S (by show (setV ρ i d).bind _ = _; rw [show setV ρ i d = some ρ' from h]; rfl) (Reps.one r) k
    obtain ⟨_, v', us, e, q⟩ := q
    cases e
    exact q.2
  | many is =>
    cases d <;> simp only [tgSet] at h <;> try cases h
    rename_i ds
    obtain ⟨a, vs, e, g, rs⟩ := r.p.tup
    obtain ⟨q1, q2⟩ := setVs_ok (Q := Q) S h rs k
    exact ⟨a, vs, e, g, q1, q2⟩
end
/-! ### comprehensions -/
def wipeL (ρ : Lo) : List Nat → Lo
  | [] => ρ
  | v :: vs => (wipeL ρ vs).set v .emp
def wipeA (A : As) : List Nat → As
  | [] => A
  | v :: vs => (wipeA A vs).set v none
def restL (ρ0 ρ : Lo) : List Nat → Lo
  | [] => ρ
  | v :: vs => match ρ0[v]? with
    | some s => (restL ρ0 ρ vs).set v s
    | none => restL ρ0 ρ vs
def plainSl : Option Sl → Bool
  | some (.own _ _) => false
  | some (.dit _) => false
  | some _ => true
  | none => false
section
variable {K : PySem.W.Frag} {M M' : Addr → Prop} {B : Nat → Option Addr} {ρ ρ' ρ0 : Lo} {A A' A0 : As} {σ : L2.St} {H H' H0 : Hp}
theorem wipeA_len : ∀ {vs : List Nat}, (wipeA A vs).length = A.length
  | [] => rfl
  | v :: vs => by simp [wipeA, wipeA_len (vs := vs)]
theorem restL_len : ∀ {vs : List Nat}, (restL ρ0 ρ vs).length = ρ.length
  | [] => rfl
  | v :: vs => by simp only [restL]; split <;> simp [restL_len (vs := vs)]
theorem wipeA_sub {a : Addr} : ∀ {vs : List Nat}, some a ∈ wipeA A vs → some a ∈ A
  | [], h => h
  | v :: vs, h => wipeA_sub (mem_set_none h)
theorem Step.wipe {vs : List Nat} : Step A H H (wipeA A vs) := ⟨fun _ _ h _ _ => h, fun _ m => .inl (wipeA_sub m), fun _ o h => ⟨o, h⟩⟩
theorem RSt.wipe (S : RSt K M B ρ A σ H) : ∀ {vs : List Nat}, (∀ v ∈ vs, B v = none) → RSt K M B (wipeL ρ vs) (wipeA A vs) (L2.wipe σ vs) H
  | [], _ => S
  | v :: vs, h => (RSt.wipe S fun w m => h w (List.mem_cons_of_mem _ m)).setEmp (h v List.mem_cons_self)
theorem wipeA_in {i : Nat} : ∀ {vs : List Nat}, i ∈ vs → i < A.length → (wipeA A vs)[i]? = some none
  | v :: vs, h, hl => by
    simp only [wipeA]
    by_cases e : v = i
    · subst e; rw [List.getElem?_set_self (by rw [wipeA_len]; exact hl)]
    · rw [List.getElem?_set_ne e]
      exact wipeA_in ((List.mem_cons.mp h).resolve_left (Ne.symm e)) hl
theorem wipeA_out {i : Nat} : ∀ {vs : List Nat}, i ∉ vs → (wipeA A vs)[i]? = A[i]?
  | [], _ => rfl
  | v :: vs, h => by
    simp only [wipeA]
    rw [List.getElem?_set_ne fun e => h (by rw [e]; exact List.mem_cons_self)]
    exact wipeA_out fun m => h (List.mem_cons_of_mem _ m)
theorem restL_out {i : Nat} : ∀ {vs : List Nat}, i ∉ vs → (restL ρ0 ρ vs)[i]? = ρ[i]?
  | [], _ => rfl
  | v :: vs, h => by
    simp only [restL]
    have ih := restL_out (vs := vs) fun m => h (List.mem_cons_of_mem _ m)
    split
    · rw [List.getElem?_set_ne fun e => h (by rw [e]; exact List.mem_cons_self)]; exact ih
    · exact ih
theorem restL_in {i : Nat} {s : Sl} : ∀ {vs : List Nat}, i ∈ vs → ρ0[i]? = some s → i < ρ.length → (restL ρ0 ρ vs)[i]? = some s
  | v :: vs, h, e, hl => by
    simp only [restL]
    by_cases z : v = i
    · subst z
      rw [e]
      show ((restL ρ0 ρ vs).set v s)[v]? = some s
      rw [List.getElem?_set_self (by rw [restL_len]; exact hl)]
    · have ih := restL_in ((List.mem_cons.mp h).resolve_left (Ne.symm z)) e hl
      split
      · rw [List.getElem?_set_ne z]; exact ih
      · exact ih
/-- behind a block the def's own slots are as they were -/
theorem RSt.rest {vs : List Nat} (S0 : RSt K M B ρ0 A0 σ H0) (S : RSt K M' B ρ A (L2.wipe σ vs) H) (hp : ∀ v ∈ vs, plainSl ρ0[v]? = true) (kp : Kp (MA M A0) (MA M' (wipeA A vs)) H0 H) :
    RSt K M' B (restL ρ0 ρ vs) (wipeA A vs) σ H := by
  have hm : ∀ c, MA M' (wipeA A vs) c → MA M' A c := fun c m => m.elim .inl fun m => .inr (wipeA_sub m)
  have hl : ρ.length = σ.length := by rw [← S.l2, wipe_length]
  refine ⟨by rw [wipeA_len, restL_len]; exact S.l1, by rw [restL_len]; exact hl.symm, fun i s ov oa h1 h2 h3 => ?_, fun i j a h1 h2 => ?_, fun a m q => S.mt a m (wipeA_sub q), S.mtr, fun j a e => ?_, S.tb⟩
  · by_cases m : i ∈ vs
    · have q := hp i m
      cases e : ρ0[i]? with
      | none => rw [e] at q; cases q
      | some s0 =>
        rw [e] at q
        have hi : i < ρ.length := by rw [hl, S0.l2]; exact (List.getElem?_eq_some_iff.mp e).1
        rw [restL_in m e hi] at h1
        cases h1
        rw [wipeA_in m (by rw [S.l1]; exact hi)] at h3
        cases h3
        cases s with
        | emp => rfl
        | own b ds => cases q
        | dit ks => cases q
        | val d =>
          obtain ⟨v, _, e2, r⟩ := S0.valued e
          rw [e2] at h2; cases h2
          exact ⟨rfl, v, rfl, Rep.kp kp _ _ r⟩
    · rw [restL_out m] at h1
      rw [wipeA_out m] at h3
      rw [← wipe_out m] at h2
      exact (S.sl i s ov oa h1 h2 h3).mono hm
  · by_cases m : i ∈ vs
    · have hi : i < A.length := by rw [← wipeA_len (vs := vs)]; exact (List.getElem?_eq_some_iff.mp h1).1
      rw [wipeA_in m hi] at h1; cases h1
    · by_cases m' : j ∈ vs
      · have hj : j < A.length := by rw [← wipeA_len (vs := vs)]; exact (List.getElem?_eq_some_iff.mp h2).1
        rw [wipeA_in m' hj] at h2; cases h2
      · rw [wipeA_out m] at h1
        rw [wipeA_out m'] at h2
        exact S.inj i j a h1 h2
  · obtain ⟨q1, ds, q2⟩ := S.bb j a e
    have m : j ∉ vs := fun m => by
      have q := hp j m
      obtain ⟨_, ds0, q3⟩ := S0.bb j a e
      rw [q3] at q; cases q
    exact ⟨by rw [wipeA_out m]; exact q1, ds, by rw [restL_out m]; exact q2⟩
/-- a protected object is written -/
theorem RSt.updM {p : Addr} {ys : List V} (S : RSt K M B ρ A σ H) (m : M p) (hl : ∃ xs, H p = some (.lst xs)) : RSt K M B ρ A σ (upd H p (.lst ys)) := by
  have kp : Kp (MA M A) (MA M A) H (upd H p (.lst ys)) := by
    refine ⟨fun a u e n _ => ⟨by rw [upd_ne fun (z : a = p) => n (.inl (by rw [z]; exact m))]; exact e, n⟩, fun a xs e => ?_, fun a u w e => ?_⟩
    · rw [upd_ne fun z => by obtain ⟨xs, q⟩ := hl; rw [z, q] at e; cases e]; exact e
    · rw [upd_ne fun z => by obtain ⟨xs, q⟩ := hl; rw [z, q] at e; cases e]; exact e
  refine ⟨S.l1, S.l2, fun i s ov oa h1 h2 h3 => ?_, S.inj, S.mt, fun a q => ?_, S.bb, by obtain ⟨xs, q⟩ := hl; exact tabs_upd S.tb q⟩
  · have q := S.sl i s ov oa h1 h2 h3
    cases s with
    | emp => exact q
    | val d => exact ⟨q.1, q.2.choose, q.2.choose_spec.1, Rep.kp kp _ _ q.2.choose_spec.2⟩
    | own b ds =>
      obtain ⟨a, us, f1, f2, f3, f4⟩ := q
      subst f1
      have ne : a ≠ p := fun z => S.mt p m (by rw [← z]; exact List.mem_of_getElem? h3)
      exact ⟨a, us, rfl, f2, by rw [upd_ne ne]; exact f3, Reps.kp kp _ _ f4⟩
    | dit ks =>
      obtain ⟨a, us, f1, f2, f3, f4⟩ := q
      subst f1
      have ne : a ≠ p := fun z => S.mt p m (by rw [← z]; exact List.mem_of_getElem? h3)
      exact ⟨a, us, rfl, f2, by rw [upd_ne ne]; exact f3, f4⟩
  · by_cases z : a = p
    · subst z; exact .inl ⟨_, upd_same⟩
    · exact (S.mtr a q).mk fun u e _ => by rw [upd_ne z]; exact e
theorem reps_updM {p : Addr} {o : HO} {ds : List D} {vs : List V} (m : M p) (hl : ∃ xs, H p = some (.lst xs)) (r : Reps K (MA M A) H ds vs) : Reps K (MA M A) (upd H p o) ds vs := by
  refine Reps.kp ⟨fun a u e n _ => ⟨by rw [upd_ne fun (z : a = p) => n (.inl (by rw [z]; exact m))]; exact e, n⟩, fun a xs e => ?_, fun a u w e => ?_⟩ _ _ r
  · rw [upd_ne fun z => by obtain ⟨xs, q⟩ := hl; rw [z, q] at e; cases e]; exact e
  · rw [upd_ne fun z => by obtain ⟨xs, q⟩ := hl; rw [z, q] at e; cases e]; exact e
theorem wipe_in {σ : L2.St} {i : Nat} : ∀ {vs : List Nat}, i ∈ vs → i < σ.length → (L2.wipe σ vs)[i]? = some none
  | v :: vs, h, hl => by
    show ((L2.wipe σ vs).set v none)[i]? = some none
    by_cases e : v = i
    · subst e; rw [List.getElem?_set_self (by rw [wipe_length]; exact hl)]
    · rw [List.getElem?_set_ne e]
      exact wipe_in ((List.mem_cons.mp h).resolve_left (Ne.symm e)) hl
theorem wipe_wipe {σ : L2.St} {vs : List Nat} : L2.wipe (L2.wipe σ vs) vs = L2.wipe σ vs := by
  apply List.ext_getElem?
  intro i
  by_cases m : i ∈ vs
  · by_cases hl : i < σ.length
    · rw [wipe_in m (by rw [wipe_length]; exact hl), wipe_in m hl]
    · rw [List.getElem?_eq_none (by rw [wipe_length, wipe_length]; omega), List.getElem?_eq_none (by rw [wipe_length]; omega)]
  · rw [wipe_out m]
theorem step_updNew {D0 : Addr} {o u : HO} (s : Step A H H' A') (n : H D0 = none) (e : H' D0 = some o) : Step A H (upd H' D0 u) A' := by
  refine ⟨fun a w h m nt => ?_, s.new, fun a w h => ?_⟩
  · rw [upd_ne (ne_of_none h n)]; exact s.keep a w h m nt
  · obtain ⟨w', h'⟩ := s.trk a w h
    exact ⟨w', by rw [upd_ne (ne_of_none h n)]; exact h'⟩
def tvYes : TvF := fun ρ => some (true, ρ)
def lcLoop (tg : Tg) (tt : TvF) (f : EvF) (vs : List Nat) : List D → Lo → Option (List D × Lo)
  | [], ρ => some ([], ρ)
  | d :: ds, ρ => (tgSet tg d ρ).bind fun ρ1 => (tt ρ1).bind fun p => if p.1 then (f p.2).bind fun q => (retain1 q.2 q.1).bind fun x => (lcLoop tg tt f vs ds (wipeL x.2 vs)).map fun y => (x.1 :: y.1, y.2)
      else lcLoop tg tt f vs ds (wipeL p.2 vs)
def evLc (sv : SvF) (tg : Tg) (tt : TvF) (f : EvF) (vs : List Nat) : EvF := fun ρ => (sv ρ).bind fun p =>
  if (vs.all fun v => plainSl p.2[v]?) && (tg.slots.all fun i => vs.contains i) && decide (p.1.length < lim) then (lcLoop tg tt f vs p.1 (wipeL p.2 vs)).map fun q => (.fresh q.1, restL p.2 q.2 vs) else none
theorem PTs.mono {X : Cx} {ifs : List Expr} {t t' : TT} (h : PTs X ifs t) (m : ∀ σ H Q, t' σ H Q → t σ H Q) : PTs X ifs t' := ⟨fun pins s σ H Q I q => h.run pins s σ H Q I (m σ H Q q)⟩
theorem tvs_nil {X : Cx} : PTs X [] (tTv X.K tvYes) := PTs.mono pts_nil fun σ H Q ⟨M, B, ρ, A, b, ρ', e, S, k⟩ => by cases e; exact k H A Step.refl S
/-- the reading of a comprehension -/
theorem lc_reads {sv : SvF} {tg : Tg} {tt : TvF} {f : EvF} {vs : List Nat} {Q : VK} (h : tEv K (evLc sv tg tt f vs) σ H Q) : tLc (tSv K sv) (gTg K tg) (tTv K tt) (tEv K f) vs σ H Q := by
  obtain ⟨M, B, ρ, A, r, ρ', e, S, k⟩ := h
  obtain ⟨⟨items, ρ1⟩, h1, e⟩ := bind_some e
  dsimp only at e
  split at e
  · rename_i hc
    simp only [Bool.and_eq_true, decide_eq_true_eq, List.all_eq_true] at hc
    obtain ⟨⟨hp, hsl⟩, hlim⟩ := hc
    obtain ⟨⟨xs, ρe⟩, h2, e⟩ := map_some e
    cases e
    refine ⟨M, B, ρ, A, items, ρ1, h1, S, fun J H1 A1 s1 S1 src D nD => ?_⟩
    have hB : ∀ v ∈ vs, B v = none := fun v m => S1.nb fun ds q => by have := hp v m; rw [q] at this; cases this
    have hD : ∀ a, M1 M D a → M a ∨ H1 a = none := fun a m => m.elim .inl fun z => .inr (by rw [z]; exact nD)
    have nM : ¬ M D := fun m => (S1.mtr D m).none nD
    refine ⟨fun i m H => m = items.length - i ∧ i ≤ items.length ∧ ∃ ρi Ai acc dacc out, lcLoop tg tt f vs (items.drop i) ρi = some (out, ρe) ∧ dacc ++ out = xs ∧ RSt K (M1 M D) B ρi Ai (L2.wipe σ vs) H ∧ Step A1 H1 H Ai ∧
      H D = some (.lst acc) ∧ Reps K (MA (M1 M D) Ai) H dacc acc ∧ dacc.length ≤ i, ⟨items.length, by simp, Nat.zero_le _, wipeL ρ1 vs, wipeA A1 vs, [], [], xs, by simpa using h2, rfl, ?_, ?_, upd_same, Reps.nil, Nat.le_refl _⟩, ?_⟩
    · exact (S1.wipe hB).grow (same_new nD) nD upd_same
    · exact Step.wipe.trans (Step.same (same_new nD))
    · rintro i m H2 ⟨rfl, hi, ρi, Ai, acc, dacc, out, hl, hx, Si, st, hD2, rp, hle⟩
      by_cases hlt : i < items.length
      · right
        have hd : items.drop i = items[i] :: items.drop (i + 1) := List.drop_eq_getElem_cons hlt
        rw [hd] at hl
        simp only [lcLoop] at hl
        obtain ⟨ρ2, g1, hl⟩ := bind_some hl
        obtain ⟨⟨b, ρ3⟩, g2, hl⟩ := bind_some hl
        refine ⟨src.go Ai H2 st i hlt, fun H' => ∃ ρi Ai acc dacc out, lcLoop tg tt f vs (items.drop (i + 1)) ρi = some (out, ρe) ∧ dacc ++ out = xs ∧ RSt K (M1 M D) B ρi Ai (L2.wipe σ vs) H' ∧ Step A1 H1 H' Ai ∧
          H' D = some (.lst acc) ∧ Reps K (MA (M1 M D) Ai) H' dacc acc ∧ dacc.length ≤ i + 1, fun H' w => ⟨items.length - (i + 1), by omega, rfl, hlt, w⟩, fun x H3 y => ?_⟩
        obtain ⟨sm, d, e1, e2⟩ := src.yld (M1 M D) Ai H2 hD st i x H3 hlt y
        have e3 : items[i] = d := by rw [List.getElem?_eq_getElem hlt] at e1; exact Option.some.inj e1
        subst e3
        have S3 := Si.same sm
        have nDA : ∀ {ρ : Lo} {A : As} {σ : L2.St} {H : Hp}, RSt K (M1 M D) B ρ A σ H → some D ∉ A := fun S => S.mt D (.inr rfl)
        refine tg_ok S3 g1 e2 fun σ2 A3 S4 s4 hw => ?_
        have hw2 : L2.wipe σ2 vs = L2.wipe σ vs := by
          rw [hw vs fun j m => by have := hsl j m; simpa using this, wipe_wipe]
        refine ⟨hw2, M1 M D, B, ρ2, A3, b, ρ3, g2, S4, fun H4 A4 s5 S5 => ?_⟩
        cases b with
        | true =>
          rw [if_pos rfl] at hl ⊢
          obtain ⟨⟨r5, ρ5⟩, g3, hl⟩ := bind_some hl
          obtain ⟨⟨d6, ρ6⟩, g4, hl⟩ := bind_some hl
          obtain ⟨⟨out', ρe'⟩, g5, hl⟩ := map_some hl
          cases hl
          refine ⟨M1 M D, B, ρ3, A4, r5, ρ5, g3, S5, fun y H5 A5 s6 o6 => ?_⟩
          obtain ⟨A7, s7, S7, rd⟩ := retain1_ok o6.st o6.arg g4
          have hD5 : H5 D = some (.lst acc) := s6.keep D _ (s5.keep D _ (s4.keep D _ (sm D _ hD2) (nDA S3) nt_lst) (nDA S4) nt_lst) (nDA S5) nt_lst
          have all : Step Ai H2 H5 A7 := (((Step.same sm).trans s4).trans (s5.trans s6)).trans s7
          have rp5 : Reps K (MA (M1 M D) A7) H5 dacc acc := Si.reps all rp
          refine ⟨acc, hD5, by rw [rp.length]; exact lim_lt (by omega), wipeL ρ6 vs, wipeA A7 vs, acc ++ [y], dacc ++ [d6], out', g5, ?_, ?_, ?_, upd_same, ?_, by simp; omega⟩
          · rw [← hx]; simp
          · have q := (S7.updM (ys := acc ++ [y]) (.inr rfl) ⟨_, hD5⟩).wipe hB
            rwa [hw2] at q
          · exact (step_updNew (st.trans all) nD hD5).trans Step.wipe
          · refine (reps_updM (.inr rfl) ⟨_, hD5⟩ (rp5.snoc rd)).mono fun c m => m.elim .inl fun m => .inr (wipeA_sub m)
        | false =>
          rw [if_neg Bool.false_ne_true] at hl ⊢
          have all : Step Ai H2 H4 A4 := (Step.same sm).trans (s4.trans s5)
          have hD4 : H4 D = some (.lst acc) := s5.keep D _ (s4.keep D _ (sm D _ hD2) (nDA S3) nt_lst) (nDA S4) nt_lst
          refine ⟨wipeL ρ3 vs, wipeA A4 vs, acc, dacc, out, hl, hx, ?_, (st.trans all).trans Step.wipe, hD4, (Si.reps all rp).mono fun c m => m.elim .inl fun m => .inr (wipeA_sub m), by omega⟩
          have q := S5.wipe hB
          rwa [hw2] at q
      · left
        have e : i = items.length := by omega
        subst e
        rw [List.drop_length] at hl
        cases hl
        rw [List.append_nil] at hx
        subst hx
        refine ⟨src.stop Ai H2 st, k _ H2 (wipeA Ai vs) ((s1.trans st).trans Step.wipe) ⟨D, acc, rfl, ?_, nM, hD2, RSt.rest S1 Si hp (S1.kp' (st.trans Step.wipe) hD), rp.mono fun c m => m.elim .inl fun m => .inr (wipeA_sub m)⟩⟩
        cases q : H D with
        | none => rfl
        | some o => obtain ⟨o', q'⟩ := s1.trk D o q; rw [nD] at q'; cases q'
  · cases e
end
end RF
set_option maxHeartbeats 1000000
/-! RF8: statements. -/
namespace RF
open PySem PySem.Spec PyProof.Rows L2
inductive Fl where
  | nx | rt (r : R) | bk | ct
abbrev SF := Lo → Option (Fl × Lo)
def Done (K : PySem.W.Frag) (M : Addr → Prop) (B : Nat → Option Addr) (ρ' : Lo) (A' : As) (H : Hp) (D : Ends) (σ' : L2.St) (H' : Hp) : Fl → Prop
  | .nx => RSt K M B ρ' A' σ' H' → D.nx σ' H'
  | .bk => RSt K M B ρ' A' σ' H' → D.bk σ' H'
  | .ct => RSt K M B ρ' A' σ' H' → D.ct σ' H'
  | .rt r => ∀ v, Out K M B ρ' A' σ' H H' r v → D.rt v H'
def tSt (K : PySem.W.Frag) (f : SF) : TS := fun D σ H => ∃ M B ρ A o ρ', f ρ = some (o, ρ') ∧ RSt K M B ρ A σ H ∧ ∀ σ' H' A', Step A H H' A' → Done K M B ρ' A' H D σ' H' o
/-- from a later heap -/
theorem Done.back {K : PySem.W.Frag} {M : Addr → Prop} {B : Nat → Option Addr} {ρ' : Lo} {A A1 A' : As} {H H1 : Hp} {D : Ends} {σ' : L2.St} {H' : Hp} {o : Fl} (s : Step A H H1 A1) (h : Done K M B ρ' A' H D σ' H' o) : Done K M B ρ' A' H1 D σ' H' o := by
  cases o with
  | rt r => exact fun v q => h v (q.back' s)
  | _ => exact h
def sfNil : SF := fun ρ => some (.nx, ρ)
def sfSeq (f g : SF) : SF := fun ρ => (f ρ).bind fun p => match p.1 with
  | .nx => g p.2
  | o => some (o, p.2)
def sfIf (t : TvF) (f g : SF) : SF := fun ρ => (t ρ).bind fun p => if p.1 then f p.2 else g p.2
def sfRet (f : EvF) : SF := fun ρ => (f ρ).map fun p => (.rt p.1, p.2)
def sfDrop (f : EvF) : SF := fun ρ => (f ρ).map fun p => (.nx, p.2)
def asg1 (ρ : Lo) (i : Nat) : R → Option Lo
  | .fresh ds => if notLent ρ[i]? then some (ρ.set i (.own false ds)) else none
  | r => (retain1 ρ r).bind fun p => setV p.2 i p.1
def sfSet (i : Nat) (f : EvF) : SF := fun ρ => (f ρ).bind fun p => (asg1 p.2 i p.1).map fun ρ' => (.nx, ρ')
/-- a tuple of names -/
def sfTup (tg : Tg) (f : EvF) : SF := fun ρ => (f ρ).bind fun p => (retain1 p.2 p.1).bind fun q => (tgSet tg q.1 q.2).map fun ρ' => (.nx, ρ')
/-- a, b = e, e' -/
def asg2 (ρ : Lo) (i j : Nat) (r s : R) : Option Lo :=
  match r, s with
  | .fresh ds, .fresh es => if notLent ρ[i]? && notLent ρ[j]? then some ((ρ.set i (.own false ds)).set j (.own false es)) else none
  | .fresh ds, s => (retain1 ρ s).bind fun p => if notLent p.2[i]? && notLent p.2[j]? then some ((p.2.set i (.own false ds)).set j (.val p.1)) else none
  | r, .fresh es => (retain1 ρ r).bind fun p => if notLent p.2[i]? && notLent p.2[j]? then some ((p.2.set i (.val p.1)).set j (.own false es)) else none
  | r, s => (retain1 ρ r).bind fun p => (retain1 p.2 s).bind fun q => if notLent q.2[i]? && notLent q.2[j]? then some ((q.2.set i (.val p.1)).set j (.val q.1)) else none
def sfPar (i j : Nat) (f g : EvF) : SF := fun ρ => (f ρ).bind fun p => (g p.2).bind fun q => (asg2 q.2 i j p.1 q.1).map fun ρ' => (.nx, ρ')
def sfAug (i : Nat) (neg : Bool) (f : EvF) : SF := fun ρ => match ρ[i]? with
  | some (.val (.int x)) => (f ρ).bind fun p => match deref p.2 p.1 with
    | some (.int y) => (setV p.2 i (.int (if neg then x - y else x + y))).map fun ρ' => (.nx, ρ')
    | _ => none
  | _ => none
/-- name k's list: item -/
def sfItem (k : Nat) (fi fe : EvF) : SF := fun ρ => (fe ρ).bind fun p => match p.2[k]? with
  | some (.own _ _) => (fi p.2).bind fun q => match deref q.2 q.1 with
    | some (.int i) => (retain1 q.2 p.1).bind fun d => match d.2[k]? with
      | some (.own b ds) => match ixN ds.length i with
        | some j => some (.nx, d.2.set k (.own b (ds.set j d.1)))
        | none => none
      | _ => none
    | _ => none
  | _ => none
def forF (tg : Tg) (body : SF) : List D → SF
  | [] => fun ρ => some (.nx, ρ)
  | d :: ds => fun ρ => (tgSet tg d ρ).bind fun ρ1 => (body ρ1).bind fun q => match q.1 with
      | .nx => forF tg body ds q.2
      | .ct => forF tg body ds q.2
      | .bk => some (.nx, q.2)
      | .rt r => some (.rt r, q.2)
def sfFor (sv : SvF) (tg : Tg) (body : SF) : SF := fun ρ => (sv ρ).bind fun p => forF tg body p.1 p.2
section
variable {X : Cx} {a b c e tgt : Expr} {st : Stmt} {rest body : List Stmt} {pos p : Pos} {f g h : EvF} {t u : TvF} {sf sg : SF} {sv : SvF} {tg : Tg}
theorem st_nil : PSs X [] (tSt X.K sfNil) := PSs.mono pss_nil fun D σ H ⟨M, B, ρ, A, o, ρ', e, S, k⟩ => by
  cases e
  exact k σ H A Step.refl S
theorem st_cons (h1 : PS X st (tSt X.K sf)) (h2 : PSs X rest (tSt X.K sg)) : PSs X (st :: rest) (tSt X.K (sfSeq sf sg)) :=
  PSs.mono (pss_cons h1 h2) fun D σ H ⟨M, B, ρ, A, o, ρ', e, S, k⟩ => by
    obtain ⟨⟨o1, ρ1⟩, h1, e⟩ := bind_some e
    refine ⟨M, B, ρ, A, o1, ρ1, h1, S, fun σ1 H1 A1 s1 => ?_⟩
    cases o1 with
    | nx => exact fun S1 => ⟨M, B, ρ1, A1, o, ρ', e, S1, fun σ2 H2 A2 s2 => (k σ2 H2 A2 (s1.trans s2)).back s1⟩
    | bk => cases e; exact k σ1 H1 A1 s1
    | ct => cases e; exact k σ1 H1 A1 s1
    | rt r => cases e; exact k σ1 H1 A1 s1
theorem st_if (hc : PT X c (tTv X.K t)) (ha : PSs X body (tSt X.K sf)) (hb : PSs X rest (tSt X.K sg)) : PS X (.If c body rest pos) (tSt X.K (sfIf t sf sg)) :=
  PS.mono (ps_if hc ha hb) fun D σ H ⟨M, B, ρ, A, o, ρ', e, S, k⟩ => by
    obtain ⟨⟨b1, ρ1⟩, h1, e⟩ := bind_some e
    refine ⟨M, B, ρ, A, b1, ρ1, h1, S, fun H1 A1 s1 S1 => ?_⟩
    cases b1 with
    | true => exact iteT ⟨M, B, ρ1, A1, o, ρ', e, S1, fun σ2 H2 A2 s2 => (k σ2 H2 A2 (s1.trans s2)).back s1⟩
    | false => exact iteF ⟨M, B, ρ1, A1, o, ρ', e, S1, fun σ2 H2 A2 s2 => (k σ2 H2 A2 (s1.trans s2)).back s1⟩
theorem st_ret (ha : PE X a (tEv X.K f)) : PS X (.Return (some a) pos) (tSt X.K (sfRet f)) :=
  PS.mono (ps_ret ha) fun D σ H ⟨M, B, ρ, A, o, ρ', e, S, k⟩ => by
    obtain ⟨⟨r1, ρ1⟩, h1, e⟩ := map_some e
    cases e
    exact ⟨M, B, ρ, A, r1, ρ1, h1, S, fun v H1 A1 s1 o1 => k σ H1 A1 s1 v o1⟩
theorem st_drop (ha : PE X a (tEv X.K f)) (hs : swapsWith a none pos.line X.env = pure false) : PS X (.Expr a pos) (tSt X.K (sfDrop f)) :=
  PS.mono (ps_expr ha hs) fun D σ H ⟨M, B, ρ, A, o, ρ', e, S, k⟩ => by
    obtain ⟨⟨r1, ρ1⟩, h1, e⟩ := map_some e
    cases e
    exact ⟨M, B, ρ, A, r1, ρ1, h1, S, fun v H1 A1 s1 o1 => k σ H1 A1 s1 o1.st⟩
/-! ### stores -/
section
variable {K : PySem.W.Frag} {M : Addr → Prop} {B : Nat → Option Addr} {ρ ρ' : Lo} {A A' : As} {σ : L2.St} {H H' H0 : Hp} {v w : V} {r s : R}
theorem Step.own {i : Nat} {q : Addr} (s : Step A H H' A') (n : H q = none) : Step A H H' (A'.set i (some q)) := by
  refine ⟨s.keep, fun a m => ?_, s.trk⟩
  rcases mem_set_some m with m | m
  · exact s.new a m
  · subst m; exact .inr n
theorem asg1_ok {i : Nat} (s1 : Step A H H' A') (o : Out K M B ρ A' σ H H' r v) (h : asg1 ρ i r = some ρ') : ∃ A2, Step A H H' A2 ∧ RSt K M B ρ' A2 (σ.set i (some v)) H' := by
  have gen : (retain1 ρ r).bind (fun p => setV p.2 i p.1) = some ρ' → ∃ A2, Step A H H' A2 ∧ RSt K M B ρ' A2 (σ.set i (some v)) H' := fun h => by
    obtain ⟨⟨d, ρ1⟩, h1, h2⟩ := bind_some h
    obtain ⟨A2, s2, S2, rp⟩ := retain1_ok o.st o.arg h1
    exact ⟨_, (s1.trans s2).trans Step.setNone, setV_ok S2 h2 rp⟩
  cases r with
  | val d => exact gen h
  | ali j => exact gen h
  | fresh ds =>
    simp only [asg1] at h
    split at h
    · rename_i n
      cases h
      obtain ⟨a, vs, rfl, e2, nm, e3, S, rp⟩ := o
      exact ⟨_, s1.own e2, S.setOwn (S.nl n) nm e3 rp⟩
    · cases h
theorem st_set_reads {i : Nat} {te : TE} {D : Ends} (hte : ∀ σ H Q, tEv K f σ H Q → te σ H Q) (q : tSt K (sfSet i f) D σ H) : tAsg te (gName i) D σ H := by
  obtain ⟨M, B, ρ, A, o, ρ', e, S, k⟩ := q
  obtain ⟨⟨r1, ρ1⟩, h1, e⟩ := bind_some e
  obtain ⟨ρ2, h2, e⟩ := map_some e
  cases e
  refine hte _ _ _ ⟨M, B, ρ, A, r1, ρ1, h1, S, fun v H1 A1 s1 o1 => ?_⟩
  obtain ⟨A2, s2, S2⟩ := asg1_ok s1 o1 h2
  exact k _ H1 A2 s2 S2
theorem st_tup_reads {te : TE} {D : Ends} (hte : ∀ σ H Q, tEv K f σ H Q → te σ H Q) (q : tSt K (sfTup tg f) D σ H) : tAsg te (gTg K tg) D σ H := by
  obtain ⟨M, B, ρ, A, o, ρ', e, S, k⟩ := q
  obtain ⟨⟨r1, ρ1⟩, h1, e⟩ := bind_some e
  obtain ⟨⟨d, ρ2⟩, h2, e⟩ := bind_some e
  obtain ⟨ρ3, h3, e⟩ := map_some e
  cases e
  refine hte _ _ _ ⟨M, B, ρ, A, r1, ρ1, h1, S, fun v H1 A1 s1 o1 => ?_⟩
  obtain ⟨A2, s2, S2, rp⟩ := retain1_ok o1.st o1.arg h2
  exact tg_ok S2 h3 rp fun σ' A' S' s _ => k σ' H1 A' ((s1.trans s2).trans s) S'
end
theorem st_set {i : Nat} {x : Str} {pos' : Pos} (hN : X.N.Nodup) (hi : X.N[i]? = some x) (hx : Loc X.env.scope x) (ha : PE X a (tEv X.K f)) (hs : swapsWith a (some (.Name x pos')) pos.line X.env = pure false)
    (hw : swappedStores [.Name x pos'] a X.env = pure none) (hf : X.fn x = true ∨ X.env.scope.names.lookup x = some .local) : PS X (.Assign [.Name x pos'] a pos) (tSt X.K (sfSet i f)) :=
  PS.mono (ps_asg ha (pg_name hN hi hx hf) hs hw) fun D σ H q => st_set_reads (fun _ _ _ z => z) q
theorem st_tup {elts : List Expr} {kt : Nat} {pt : Pos} (hg : PG X (.Tuple elts kt pt) (gTg X.K tg)) (ha : PE X a (tEv X.K f)) (hs : swapsWithSole [.Tuple elts kt pt] a pos.line X.env = pure false) (hw : swappedStores [.Tuple elts kt pt] a X.env = pure none) : PS X (.Assign [.Tuple elts kt pt] a pos) (tSt X.K (sfTup tg f)) :=
  PS.mono (ps_asg ha hg hs hw) fun D σ H q => st_tup_reads (fun _ _ _ z => z) q
/-- the second one, the first one's new list protected -/
def O2 (K : PySem.W.Frag) (M : Addr → Prop) (B : Nat → Option Addr) (ρ2 : Lo) (A2 : As) (σ : L2.St) (H1 H2 : Hp) (v : V) (s : R) (w : V) : R → Prop
  | .fresh _ => ∀ a, v = .ref a → Out K (M1 M a) B ρ2 A2 σ H1 H2 s w
  | _ => Out K M B ρ2 A2 σ H1 H2 s w
theorem asg2_ok {K : PySem.W.Frag} {M : Addr → Prop} {B : Nat → Option Addr} {ρ1 ρ2 ρ' : Lo} {A A1 A2 : As} {σ : L2.St} {H H1 H2 : Hp} {v w : V} {r s : R} {i j : Nat} (hij : i ≠ j) (s1 : Step A H H1 A1) (o1 : Out K M B ρ1 A1 σ H H1 r v) {D : L2.St → Hp → Prop}
    (h : asg2 ρ2 i j r s = some ρ') (k : ∀ H' A', Step A H H' A' → RSt K M B ρ' A' ((σ.set i (some v)).set j (some w)) H' → D ((σ.set i (some v)).set j (some w)) H') (s2 : Step A1 H1 H2 A2)
    (o2 : O2 K M B ρ2 A2 σ H1 H2 v s w r) : D ((σ.set i (some v)).set j (some w)) H2 := by
  have s12 := s1.trans s2
  have back : ∀ {b : Addr}, H1 b = none → H b = none := fun {b} n => by
    cases q : H b with
    | none => rfl
    | some o => obtain ⟨o', q'⟩ := s1.trk b o q; rw [n] at q'; cases q'
  -- the first one kept as a value
  have plain : (∀ ds, r ≠ .fresh ds) → Out K M B ρ2 A2 σ H1 H2 s w → Arg K M A1 σ H1 r v → RSt K M B ρ1 A1 σ H1 → D ((σ.set i (some v)).set j (some w)) H2 := fun nf o2 a1 S1 => by
    have a1' := a1.step S1 s2
    have cs : (∀ es, s ≠ .fresh es) → ((retain1 ρ2 r).bind fun p => (retain1 p.2 s).bind fun q => if notLent q.2[i]? && notLent q.2[j]? then some ((q.2.set i (.val p.1)).set j (.val q.1)) else none) = some ρ' → D ((σ.set i (some v)).set j (some w)) H2 := fun ns h => by
      obtain ⟨⟨d, ρ3⟩, h1, h⟩ := bind_some h
      obtain ⟨⟨e, ρ4⟩, h2, h⟩ := bind_some h
      dsimp only at h
      split at h
      · rename_i n
        rw [Bool.and_eq_true] at n
        cases h
        obtain ⟨A3, s3, S3, rd⟩ := retain1_ok o2.st a1' h1
        obtain ⟨A4, s4, S4, re⟩ := retain1_ok S3 (o2.arg.step o2.st s3) h2
        have q1 := S4.setVal (k := i) (S4.nl n.1) (S3.rep s4 rd)
        have q2 := q1.setVal (k := j) (S4.nl n.2) (S4.rep Step.setNone re)
        exact k H2 _ ((((s12.trans s3).trans s4).trans Step.setNone).trans Step.setNone) q2
      · cases h
    cases s with
    | fresh es =>
      have h' : ((retain1 ρ2 r).bind fun p => if notLent p.2[i]? && notLent p.2[j]? then some ((p.2.set i (.val p.1)).set j (.own false es)) else none) = some ρ' := by
        cases r with
        | fresh ds => exact absurd rfl (nf ds)
        | val d => exact h
        | ali z => exact h
      obtain ⟨⟨d, ρ3⟩, h1, h'⟩ := bind_some h'
      dsimp only at h'
      split at h'
      · rename_i n
        rw [Bool.and_eq_true] at n
        cases h'
        obtain ⟨b, us, rfl, n2, nm, e3, S, rp⟩ := o2
        have a1w : Arg K (M1 M b) A2 σ H2 r v := by
          cases r with
          | fresh ds => exact absurd rfl (nf ds)
          | val d => exact Rep.kp (S1.kp' s2 fun a m => m.elim .inl fun z => .inr (by rw [z]; exact n2)) _ _ a1
          | ali z => exact a1
        obtain ⟨A3, s3, S3, rd⟩ := retain1_ok S a1w h1
        have q1 := S3.setVal (k := i) (S3.nl n.1) rd
        have q2 := q1.setOwn (k := j) (b := false) (S3.nl n.2) nm e3 (S3.reps Step.setNone (S.reps s3 rp))
        exact k H2 _ (((s12.trans s3).trans Step.setNone).own (back n2)) q2
      · cases h'
    | val e =>
      refine cs (fun es z => nomatch z) ?_
      cases r with
      | fresh ds => exact absurd rfl (nf ds)
      | val d => exact h
      | ali z => exact h
    | ali y =>
      refine cs (fun es z => nomatch z) ?_
      cases r with
      | fresh ds => exact absurd rfl (nf ds)
      | val d => exact h
      | ali z => exact h
  cases r with
  | val d => exact plain (fun ds z => nomatch z) o2 o1.arg o1.st
  | ali z => exact plain (fun ds z => nomatch z) o2 o1.arg o1.st
  | fresh ds =>
    obtain ⟨a, vs, rfl, n1, nm, e1, S1, rp⟩ := o1
    have o2' := o2 a rfl
    have e2 : H2 a = some (.lst vs) := s2.keep a _ e1 (S1.mt a (.inr rfl)) nt_lst
    have rp2 : Reps K (MA (M1 M a) A2) H2 ds vs := S1.reps s2 rp
    have sub : ∀ (A : As) (b c : Addr), MA (M1 M a) (A.set j (some b)) c → MA (M1 (M1 M a) b) A c := fun A b c m => by
      rcases m with m | m
      · exact .inl (.inl m)
      · rcases mem_set_some m with m | m
        · exact .inr m
        · exact .inl (.inr m)
    have fin : ∀ {s' : Sl} {A3 : As} {σ3 : L2.St} {ρ3 : Lo}, RSt K (M1 M a) B (ρ3.set j s') A3 (σ.set j (some w)) H2 → Step A H H2 A3 → Reps K (MA (M1 M a) A3) H2 ds vs → notLent ρ3[i]? = true → (ρ3.set i (.own false ds)).set j s' = ρ' → D ((σ.set i (some (.ref a))).set j (some w)) H2 := fun {s' A3 σ3 ρ3} S3 st r3 n er => by
      have hi : notLent (ρ3.set j s')[i]? = true := by rw [List.getElem?_set_ne (Ne.symm hij)]; exact n
      have q := S3.setOwn (k := i) (b := false) (S3.nl hi) nm e2 r3
      rw [List.set_comm _ _ (Ne.symm hij), er, List.set_comm _ _ (Ne.symm hij)] at q
      exact k H2 _ (st.own n1) q
    cases s with
    | fresh es =>
      simp only [asg2] at h
      split at h
      · rename_i n
        rw [Bool.and_eq_true] at n
        cases h
        obtain ⟨b, us, rfl, n2, nm2, e3, S2, rp3⟩ := o2'
        have q := S2.setOwn (k := j) (b := false) (S2.nl n.2) nm2 e3 rp3
        refine fin (σ3 := σ) q (s12.own (back n2)) ?_ n.1 rfl
        have g : Reps K (MA (M1 (M1 M a) b) A2) H2 ds vs := by
          have w1 : Reps K (MA (M1 M a) A1) H1 ds vs := rp
          exact Reps.kp (S1.kp' s2 fun c m => m.elim .inl fun z => .inr (by rw [z]; exact n2)) _ _ w1
        exact g.mono fun c m => sub A2 b c m
      · cases h
    | val e =>
      obtain ⟨⟨d, ρ3⟩, h1, h⟩ := bind_some (show ((retain1 ρ2 (.val e)).bind fun p => if notLent p.2[i]? && notLent p.2[j]? then some ((p.2.set i (.own false ds)).set j (.val p.1)) else none) = some ρ' from h)
      dsimp only at h
      split at h
      · rename_i n
        rw [Bool.and_eq_true] at n
        obtain ⟨A3, s3, S3, rd⟩ := retain1_ok o2'.st o2'.arg h1
        exact fin (σ3 := σ) (S3.setVal (k := j) (S3.nl n.2) rd) ((s12.trans s3).trans Step.setNone) (S3.reps Step.setNone (o2'.st.reps s3 rp2)) n.1 (Option.some.inj h)
      · cases h
    | ali y =>
      obtain ⟨⟨d, ρ3⟩, h1, h⟩ := bind_some (show ((retain1 ρ2 (.ali y)).bind fun p => if notLent p.2[i]? && notLent p.2[j]? then some ((p.2.set i (.own false ds)).set j (.val p.1)) else none) = some ρ' from h)
      dsimp only at h
      split at h
      · rename_i n
        rw [Bool.and_eq_true] at n
        obtain ⟨A3, s3, S3, rd⟩ := retain1_ok o2'.st o2'.arg h1
        exact fin (σ3 := σ) (S3.setVal (k := j) (S3.nl n.2) rd) ((s12.trans s3).trans Step.setNone) (S3.reps Step.setNone (o2'.st.reps s3 rp2)) n.1 (Option.some.inj h)
      · cases h
theorem st_par {i j : Nat} {x y : Str} {px py pt : Pos} {kt k2 : Nat} {pt2 : Pos} (hc : X.calm = true) (hN : X.N.Nodup) (hi : X.N[i]? = some x) (hj : X.N[j]? = some y) (hij : i ≠ j) (hx : X.env.scope.names.lookup x = some .local) (hy : X.env.scope.names.lookup y = some .local)
    (ha : PE X a (tEv X.K f)) (hb : PE X b (tEv X.K g)) (hst : notStar a = true) (hst2 : notStar b = true)
    (hw : swappedStores [.Tuple [.Name x px, .Name y py] kt pt] (.Tuple [a, b] k2 pt2) X.env = pure (some [x, y]))
    (hs : swapsWithSole [.Tuple [.Name x px, .Name y py] kt pt] (.Tuple [a, b] k2 pt2) pos.line X.env = pure false) :
    PS X (.Assign [.Tuple [.Name x px, .Name y py] kt pt] (.Tuple [a, b] k2 pt2) pos) (tSt X.K (sfPar i j f g)) :=
  PS.mono (ps_par hc hN hi hj hij hx hy (pa_cons ha (pa_cons hb pa_nil (star_cons hst2)) (star_cons hst)) hw hs) fun D σ H ⟨M, B, ρ, A, o, ρ', e, S, k⟩ => by
    obtain ⟨⟨r1, ρ1⟩, h1, e⟩ := bind_some e
    obtain ⟨⟨r2, ρ2⟩, h2, e⟩ := bind_some e
    obtain ⟨ρ3, h3, e⟩ := map_some e
    cases e
    refine ⟨M, B, ρ, A, r1, ρ1, h1, S, fun v H1 A1 s1 o1 => ?_⟩
    cases r1 with
    | val d => exact ⟨M, B, ρ1, A1, r2, ρ2, h2, o1.st, fun w H2 A2 s2 o2 => ⟨v, w, rfl, asg2_ok (w := w) hij s1 o1 h3 (fun H' A' st S' => k _ H' A' st S') s2 o2⟩⟩
    | ali z => exact ⟨M, B, ρ1, A1, r2, ρ2, h2, o1.st, fun w H2 A2 s2 o2 => ⟨v, w, rfl, asg2_ok (w := w) hij s1 o1 h3 (fun H' A' st S' => k _ H' A' st S') s2 o2⟩⟩
    | fresh ds =>
      have o1' := o1
      obtain ⟨a, vs, rfl, n1, nm, e1, S1, rp⟩ := o1'
      exact ⟨M1 M a, B, ρ1, A1, r2, ρ2, h2, S1, fun w H2 A2 s2 o2 => ⟨_, w, rfl, asg2_ok (w := w) hij s1 o1 h3 (fun H' A' st S' => k _ H' A' st S') s2 fun b eb => by cases eb; exact o2⟩⟩
def notSlice : Expr → Bool
  | .Slice _ _ _ _ => false
  | _ => true
def notSet : Expr → Bool
  | .Set _ _ _ => false
  | _ => true
theorem folded_of {e : Expr} {env : Env} (h : notSet e = true) : ∀ x, foldedSetIterable e env x = pure x := fun x => by
  cases e <;> first | rfl | (simp [notSet] at h)
theorem st_item {i : Nat} {x : Str} {nm pos' : Pos} (ho : PE X (.Name x nm) (tVar i)) (hi : PE X b (tEv X.K g)) (ha : PE X a (tEv X.K f)) (hsl : notSlice b = true) (hs : swapsWithSole [.Subscript (.Name x nm) b pos'] a pos.line X.env = pure false) (hw : swappedStores [.Subscript (.Name x nm) b pos'] a X.env = pure none) :
    PS X (.Assign [.Subscript (.Name x nm) b pos'] a pos) (tSt X.K (sfItem i g f)) :=
  PS.mono (ps_asg ha (pg_sub ho hi set_list (by intro v; cases b <;> first | rfl | (simp [notSlice] at hsl))) hs hw) fun D σ H ⟨M, B, ρ, A, o, ρ', e, S, k⟩ => by
    obtain ⟨⟨r1, ρ1⟩, h1, e⟩ := bind_some e
    dsimp only at e
    split at e
    · rename_i b0 ds0 q0
      obtain ⟨⟨r2, ρ2⟩, h2, e⟩ := bind_some e
      dsimp only at e
      split at e
      · rename_i ix q1
        obtain ⟨⟨d, ρ3⟩, h3, e⟩ := bind_some e
        dsimp only at e
        split at e
        · rename_i b1 ds1 q2
          split at e
          · rename_i j q3
            cases e
            refine ⟨M, B, ρ, A, r1, ρ1, h1, S, fun v H1 A1 s1 o1 => ?_⟩
            obtain ⟨p0, vs0, _, hσ, _⟩ := o1.st.owned q0
            refine ⟨_, hσ, M, B, ρ1, A1, r2, ρ2, h2, o1.st, fun w H2 A2 s2 o2 => ?_⟩
            cases (o2.arg.peek o2.st q1).int
            obtain ⟨A3, s3, S3, rd⟩ := retain1_ok o2.st (o1.arg.step o1.st s2) h3
            obtain ⟨p1, vs1, f1, f2, f3, f4, f5⟩ := S3.owned q2
            rw [hσ] at f2; cases f2
            refine ⟨_, vs1, ix, j, rfl, rfl, f3, by rw [f4.length]; exact q3, ?_⟩
            exact k σ _ A3 (((s1.trans s2).trans s3).trans (Step.upd f5)) (S3.write q2 f1 (f4.set j rd))
          · cases e
        · cases e
      · cases e
    · cases e
/-! ### loops -/
theorem st_for {iter : Expr} (hp : PassesOwn (model X.prog X.w) X.A X.env X.xe) (hc : X.calm = true) (hns : notSet iter = true) (hi : PI X tgt iter (tSv X.K sv)) (hg : PG X tgt (gTg X.K tg)) (hb : PSs X body (tSt X.K sf)) : PS X (.For tgt iter body [] pos) (tSt X.K (sfFor sv tg sf)) :=
  PS.mono (ps_for hp hc hi hg hb (folded_of hns)) fun D σ H ⟨M, B, ρ, A, o, ρ', e, S, k⟩ => by
    obtain ⟨⟨items, ρ1⟩, h1, e⟩ := bind_some e
    refine ⟨M, B, ρ, A, items, ρ1, h1, S, fun J H1 A1 s1 S1 src => ?_⟩
    refine ⟨fun i m σ2 H2 => m = items.length - i ∧ i ≤ items.length ∧ ∃ ρ2 A2, forF tg sf (items.drop i) ρ2 = some (o, ρ') ∧ RSt X.K M B ρ2 A2 σ2 H2 ∧ Step A1 H1 H2 A2, ⟨items.length, by simp, Nat.zero_le _, ρ1, A1, by simpa using e, S1, Step.refl⟩, ?_⟩
    rintro i m σ2 H2 ⟨rfl, hle, ρ2, A2, e2, S2, s2⟩
    by_cases hlt : i < items.length
    · right
      have hd : items.drop i = items[i] :: items.drop (i + 1) := List.drop_eq_getElem_cons hlt
      rw [hd] at e2
      obtain ⟨ρ3, g1, e2⟩ := bind_some e2
      obtain ⟨⟨o4, ρ4⟩, g2, e2⟩ := bind_some e2
      refine ⟨src.go A2 H2 s2 i hlt, fun σ' H' => ∃ ρ2 A2, forF tg sf (items.drop (i + 1)) ρ2 = some (o, ρ') ∧ RSt X.K M B ρ2 A2 σ' H' ∧ Step A1 H1 H' A2, fun σ' H' w => ⟨items.length - (i + 1), by omega, rfl, hlt, w⟩, fun x H3 y => ?_⟩
      obtain ⟨sm, d, e3, rd⟩ := src.yld M A2 H2 (fun a m => .inl m) s2 i x H3 hlt y
      have e4 : items[i] = d := by rw [List.getElem?_eq_getElem hlt] at e3; exact Option.some.inj e3
      subst e4
      refine tg_ok (S2.same sm) g1 rd fun σ3 A3 S3 s3 _ => ?_
      refine ⟨M, B, ρ3, A3, o4, ρ4, g2, S3, fun σ4 H4 A4 s4 => ?_⟩
      have st := ((s2.trans (Step.same sm)).trans s3).trans s4
      cases o4 with
      | nx => exact fun S4 => ⟨ρ4, A4, e2, S4, st⟩
      | ct => exact fun S4 => ⟨ρ4, A4, e2, S4, st⟩
      | bk => cases e2; exact fun S4 => k σ4 H4 A4 (s1.trans st) S4
      | rt r => cases e2; exact fun v q => k σ4 H4 A4 (s1.trans st) v (q.back' (s1.trans ((s2.trans (Step.same sm)).trans s3)))
    · left
      have e5 : i = items.length := by omega
      subst e5
      rw [List.drop_length] at e2
      cases e2
      exact ⟨src.stop A2 H2 s2, k σ2 H2 A2 (s1.trans s2) S2⟩
end
end RF
set_option maxHeartbeats 1000000
/-! RF9: a def by its body. -/
namespace RF
open PySem PySem.Spec PyProof.Rows L2
def mask1 : Sl → Sl → Sl
  | .own true _, .own true es => .own true es
  | _, _ => .emp
def maskL : List Sl → List Sl → List Sl
  | [], _ => []
  | s :: ss, [] => mask1 s .emp :: maskL ss []
  | s :: ss, r :: rs => mask1 s r :: maskL ss rs
theorem maskL_get : ∀ {ss rs : List Sl} {j : Nat}, (maskL ss rs)[j]? = (ss[j]?).map fun s => mask1 s ((rs[j]?).getD .emp)
  | [], _, _ => by simp [maskL]
  | s :: ss, [], 0 => by simp [maskL]
  | s :: ss, [], j + 1 => by simp [maskL, maskL_get (ss := ss) (rs := [])]
  | s :: ss, r :: rs, 0 => by simp [maskL]
  | s :: ss, r :: rs, j + 1 => by simp [maskL, maskL_get (ss := ss) (rs := rs)]
theorem maskL_length : ∀ {ss rs : List Sl}, (maskL ss rs).length = ss.length
  | [], _ => rfl
  | s :: ss, [] => by simp [maskL, maskL_length (ss := ss)]
  | s :: ss, r :: rs => by simp [maskL, maskL_length (ss := ss)]
def finR (ρ : Lo) : R → Option (R × Lo)
  | .val d => some (.val d, ρ)
  | .fresh ds => some (.fresh ds, ρ)
  | .ali i => match ρ[i]? with
    | some (.val d) => some (.val d, ρ)
    | some (.own false ds) => some (.fresh ds, ρ.set i .emp)
    | _ => none
/-- a def of n names, by its body -/
def cfOf (n : Nat) (sf : SF) : CF := fun ss => (sf (ss ++ List.replicate (n - ss.length) .emp)).bind fun p => match p.1 with
  | .nx => some (.val .non, maskL ss p.2)
  | .rt r => (finR p.2 r).map fun q => (q.1, maskL ss q.2)
  | _ => none
section
variable {K : PySem.W.Frag} {M M' : Addr → Prop} {B : Nat → Option Addr} {ρ ρ' ss : Lo} {A A' : As} {σ σ' : L2.St} {H H' : Hp}
theorem RSt.pad (S : RSt K M B ss A σ H) (n : Nat) : RSt K M B (ss ++ List.replicate n .emp) (A ++ List.replicate n none) (σ ++ List.replicate n none) H := by
  have memA : ∀ c, some c ∈ A ++ List.replicate n (none : Option Addr) → some c ∈ A := fun c m => by
    rcases List.mem_append.mp m with m | m
    · exact m
    · cases (List.mem_replicate.mp m).2
  have lt : ∀ (i : Nat) c, (A ++ List.replicate n (none : Option Addr))[i]? = some (some c) → A[i]? = some (some c) := fun i c e => by
    by_cases h : i < A.length
    · rwa [List.getElem?_append_left h] at e
    · rw [List.getElem?_append_right (by omega), List.getElem?_replicate] at e
      split at e <;> cases e
  refine ⟨by simp [S.l1], by simp [S.l2], fun i s ov oa h1 h2 h3 => ?_, fun i j a h1 h2 => S.inj i j a (lt _ _ h1) (lt _ _ h2), fun a m q => S.mt a m (memA a q), S.mtr, fun j a e => ?_, S.tb⟩
  · have hm : ∀ a, MA M (A ++ List.replicate n (none : Option Addr)) a → MA M A a := fun a m => m.elim .inl fun m => .inr (memA a m)
    by_cases h : i < ss.length
    · rw [List.getElem?_append_left h] at h1
      rw [List.getElem?_append_left (by rw [S.l2]; exact h)] at h2
      rw [List.getElem?_append_left (by rw [S.l1]; exact h)] at h3
      exact (S.sl i s ov oa h1 h2 h3).mono hm
    · rw [List.getElem?_append_right (by omega), List.getElem?_replicate] at h1
      split at h1
      · cases h1
        rw [List.getElem?_append_right (by rw [S.l1]; omega), List.getElem?_replicate] at h3
        split at h3
        · cases h3; rfl
        · cases h3
      · cases h1
  · obtain ⟨q1, ds, q2⟩ := S.bb j a e
    have hj : j < A.length := (List.getElem?_eq_some_iff.mp q1).1
    exact ⟨by rw [List.getElem?_append_left hj]; exact q1, ds, by rw [List.getElem?_append_left (by rw [← S.l1]; exact hj)]; exact q2⟩
theorem RSt.sub (S : RSt K M B ss A σ H) (S' : RSt K M' B ρ' A' σ' H') (hb : ∀ (j : Nat) (a : Addr), A[j]? = some (some a) → B j = some a) (i : Nat) (c : Addr) (h : A[i]? = some (some c)) : B i = some c ∧ A'[i]? = some (some c) :=
  ⟨hb i c h, (S'.bb i c (hb i c h)).1⟩
theorem RSt.subM (S : RSt K M B ss A σ H) (S' : RSt K M' B ρ' A' σ' H') (hb : ∀ (j : Nat) (a : Addr), A[j]? = some (some a) → B j = some a) (c : Addr) (h : some c ∈ A) : some c ∈ A' := by
  obtain ⟨i, hi, e⟩ := List.getElem_of_mem h
  exact List.mem_of_getElem? (S.sub S' hb i c (by rw [List.getElem?_eq_getElem hi, e])).2
theorem RSt.outs (S : RSt K M B ss A σ H) (S' : RSt K M' B ρ' A' σ' H') (hb : ∀ (j : Nat) (a : Addr), A[j]? = some (some a) → B j = some a) : RSt K M' B (maskL ss ρ') A σ H' := by
  have len : (maskL ss ρ').length = ss.length := maskL_length
  refine ⟨by rw [len]; exact S.l1, by rw [len]; exact S.l2, fun i s ov oa h1 h2 h3 => ?_, S.inj, fun a m q => S'.mt a m (S.subM S' hb a q), S'.mtr, fun j a e => ?_, S'.tb⟩
  · have hi : i < ss.length := by rw [← len]; exact (List.getElem?_eq_some_iff.mp h1).1
    rw [maskL_get, List.getElem?_eq_getElem hi] at h1
    have e1 := List.getElem?_eq_getElem hi
    simp only [Option.map_some, Option.some.injEq] at h1
    have q := S.sl i _ _ _ e1 h2 h3
    cases f1 : ss[i] with
    | emp => rw [f1] at h1 q; simp only [mask1] at h1; subst h1; exact q
    | val d => rw [f1] at h1 q; simp only [mask1] at h1; subst h1; exact q.1
    | own b ds =>
      rw [f1] at q e1
      obtain ⟨a, vs, g1, g2, _, _⟩ := q
      subst g1 g2
      obtain ⟨eB, eA⟩ := S.sub S' hb i a h3
      obtain ⟨_, ds', g3⟩ := S.bb i a eB
      rw [e1] at g3; cases g3
      obtain ⟨_, es, g4⟩ := S'.bb i a eB
      rw [f1, g4] at h1
      simp only [mask1, Option.getD_some] at h1
      subst h1
      obtain ⟨a', us, k1, k2, k3, k4, _⟩ := S'.owned g4
      rw [eA] at k1; cases k1
      exact ⟨a, us, rfl, rfl, k3, k4.mono fun c m => m.elim .inl fun m => .inr (S.subM S' hb c m)⟩
    | dit ks =>
      rw [f1] at q e1
      obtain ⟨a, vs, g1, g2, _, _⟩ := q
      subst g1 g2
      obtain ⟨eB, eA⟩ := S.sub S' hb i a h3
      obtain ⟨_, ds', g3⟩ := S.bb i a eB
      rw [e1] at g3; cases g3
  · obtain ⟨q1, ds, q2⟩ := S.bb j a e
    obtain ⟨_, es, q3⟩ := S'.bb j a e
    exact ⟨q1, es, by rw [maskL_get, q2, q3]; rfl⟩
/-- an own list given away -/
theorem RSt.release {i : Nat} {ds : List D} (S : RSt K M B ρ A σ H) (h : ρ[i]? = some (.own false ds)) : ∃ a vs, A[i]? = some (some a) ∧ σ[i]? = some (some (.ref a)) ∧ H a = some (.lst vs) ∧ ¬ M a ∧
    RSt K (M1 M a) B (ρ.set i .emp) (A.set i none) σ H ∧ Reps K (MA (M1 M a) (A.set i none)) H ds vs := by
  obtain ⟨a, vs, e1, e2, e3, e4, e5⟩ := S.owned h
  have nM : ¬ M a := fun m => S.mt a m e5
  have hm : ∀ c, MA (M1 M a) (A.set i none) c → MA M A c := fun c m => by
    rcases m with (m | m) | m
    · exact .inl m
    · subst m; exact .inr e5
    · exact .inr (mem_set_none m)
  have q := S.setEmp (k := i) (ov := some (.ref a)) (S.nb fun ds' z => by rw [h] at z; cases z)
  rw [set_self e2] at q
  refine ⟨a, vs, e1, e2, e3, nM, ⟨q.l1, q.l2, fun j s ov oa h1 h2 h3 => ?_, q.inj, fun c m z => ?_, fun c m => ?_, q.bb, q.tb⟩, e4.mono hm⟩
  · rcases get_set_cases h1 with ⟨e, f, _⟩ | ⟨e, f⟩
    · subst f; subst e
      rcases get_set_cases h3 with ⟨_, g, _⟩ | ⟨g, _⟩
      · exact g
      · exact absurd rfl g
    · rcases get_set_cases h3 with ⟨g, _⟩ | ⟨_, g⟩
      · exact absurd g e
      exact (S.sl j s ov oa f h2 g).mono hm
  · rcases m with m | m
    · exact S.mt c m (mem_set_none z)
    · subst m
      obtain ⟨j, hj, e⟩ := List.getElem_of_mem z
      have q : (A.set i none)[j]? = some (some c) := by rw [List.getElem?_eq_getElem hj, e]
      rcases get_set_cases q with ⟨_, e, _⟩ | ⟨ne, q⟩
      · cases e
      · exact ne (S.inj j i c q e1)
  · rcases m with m | m
    · exact S.mtr c m
    · subst m; exact .inl ⟨_, e3⟩
end
section
variable {P : Program} {w : World} {K : PySem.W.Frag} {mg : Str → Option Value} {base : Heap}
theorem fn_reads {N : List Str} {np : Nat} {sf : SF} {vs : List V} {H : Hp} {Q : VK} {E : XK} (h : spF K np (cfOf N.length sf) vs H Q E) : tSt K sf { nx := fun _ H' => Q .non H', rt := Q } (start N vs) H := by
  obtain ⟨hl, M, B, ss, A, r, outs, hc, S, hb, k⟩ := h
  obtain ⟨⟨o, ρ'⟩, h1, h2⟩ := bind_some hc
  have hsl : ss.length = np := by rw [← S.l2, List.length_map]; exact hl
  have eN : N.length - ss.length = N.length - vs.length := by rw [hsl, hl]
  rw [eN] at h1
  refine ⟨M, B, _, _, o, ρ', h1, S.pad _, fun σ' H' A' st => ?_⟩
  have memA : ∀ c, some c ∈ A ++ List.replicate (N.length - vs.length) (none : Option Addr) → some c ∈ A := fun c m => by
    rcases List.mem_append.mp m with m | m
    · exact m
    · cases (List.mem_replicate.mp m).2
  have stp : Step A H H' A := ⟨fun a o e n nt => st.keep a o e (fun m => n (memA a m)) nt, fun _ m => .inl m, st.trk⟩
  have sub : ∀ {M' : Addr → Prop}, RSt K M' B ρ' A' σ' H' → ∀ c, MA M' A c → MA M' A' c := fun S' c m => m.elim .inl fun m => .inr (S.subM S' hb c m)
  cases o with
  | bk => cases h2
  | ct => cases h2
  | nx =>
    intro S'
    cases h2
    exact k .non H' stp ⟨S.outs S' hb, Rep.non⟩
  | rt r0 =>
    intro v q
    obtain ⟨⟨r1, ρ1⟩, h3, h2⟩ := map_some h2
    cases h2
    cases r0 with
    | val d =>
      cases h3
      exact k v H' stp ⟨S.outs q.1 hb, q.2.mono (sub q.1)⟩
    | fresh ds =>
      cases h3
      obtain ⟨a, us, e1, e2, e3, e4, S', rp⟩ := q
      exact k v H' stp ⟨a, us, e1, e2, e3, e4, S.outs S' hb, rp.mono (sub S')⟩
    | ali i =>
      obtain ⟨S', hv⟩ := q
      simp only [finR] at h3
      split at h3
      · rename_i d e
        cases h3
        obtain ⟨v', _, e2, rp⟩ := S'.valued e
        rw [hv] at e2; cases e2
        exact k v H' stp ⟨S.outs S' hb, rp.mono (sub S')⟩
      · rename_i ds e
        cases h3
        obtain ⟨a, us, e1, e2, e3, nM, S2, rp⟩ := S'.release e
        rw [hv] at e2; cases e2
        refine k _ H' stp ⟨a, us, rfl, ?_, nM, e3, S.outs S2 hb, rp.mono fun c m => m.elim .inl fun m => .inr (S.subM S2 hb c m)⟩
        have mA : some a ∈ A' := List.mem_of_getElem? e1
        rcases st.new a mA with m | m
        · exfalso
          obtain ⟨j, hj, e⟩ := List.getElem_of_mem (memA a m)
          obtain ⟨f1, f2⟩ := S.sub S' hb j a (by rw [List.getElem?_eq_getElem hj, e])
          have := S'.inj _ _ _ e1 f2
          subst this
          obtain ⟨_, es, f3⟩ := S'.bb i a f1
          cases (show some (Sl.own false ds) = some (Sl.own true es) from (by assumption : ρ'[i]? = some (Sl.own false ds)).symm.trans f3)
        · exact m
      · cases h3
/-- a def by its body -/
theorem fn_rf {x qual : Str} {st : Stmt} {f : Addr} {fd : FuncData} {N ps : List Str} {k : Nat} (sf : SF) (F : C8.Fun K x qual st f fd) (S : FnScope N ps (C8.fnScope st))
    (hb : ∀ (cdv : Value) (A : Around) (outer : List Env) (s : Shared) (H : Hp) (E : XK), Room k (A.deeper (envOfC qual (C8.fnScope st) s.heap.objs.size f cdv)) → PSs (cxOf C8.CX0 P w K mg base N qual (C8.fnScope st) f cdv A outer s H E).nox (C8.fnBody st) (tSt K sf)) :
    FnOk P w K mg base C8.CX0 (k + 1) f fd ps (spF K ps.length (cfOf N.length sf)) :=
  C8.fn0 F S (fun vs H Q E h => h.1) fun cdv A outer s H vs Q E hr h => ⟨_, hb cdv A outer s H E hr, fn_reads h⟩
/-- a def that may be called by its name -/
structure Cl (P : Program) (w : World) (K : PySem.W.Frag) (mg : Str → Option Value) (base : Heap) (k : Nat) (x : Str) (n : Nat) (cf : CF) : Prop where
  ex : ∃ (f : Addr) (fd : FuncData) (ps : List Str), ps.length = n ∧ FnOk P w K mg base C8.CX0 k f fd ps (spF K n cf) ∧ mg x = some (.ref f) ∧ PySem.W.keepIn K (.ref f) = true ∧ L2.Binds K fd ps []
theorem cl_rf {x : Str} {st : Stmt} {f : Addr} {fd : FuncData} {N ps : List Str} {k n np : Nat} (sf : SF) (F : C8.Def K mg x st f fd) (b : L2.Binds K fd ps []) (S : FnScope N ps (C8.fnScope st)) (hn : N.length = n) (hp : ps.length = np)
    (hb : ∀ (cdv : Value) (A : Around) (outer : List Env) (s : Shared) (H : Hp) (E : XK), Room k (A.deeper (envOfC x (C8.fnScope st) s.heap.objs.size f cdv)) → PSs (cxOf C8.CX0 P w K mg base N x (C8.fnScope st) f cdv A outer s H E).nox (C8.fnBody st) (tSt K sf)) :
    Cl P w K mg base (k + 1) x np (cfOf n sf) := by
  subst hn hp
  exact ⟨f, fd, ps, rfl, fn_rf sf F.fn S hb, F.mgf, F.kp, b⟩
theorem FnOk.none {f : Addr} {fd : FuncData} {ps : List Str} {k : Nat} {n : Nat} (h : ps.length = n) : FnOk P w K mg base C8.CX0 k f fd ps (spF K n fun _ => none) :=
  ⟨fun vs H Q E q => by rw [h]; exact q.1, fun A outer s H args us vs Q E _ _ _ _ q => by obtain ⟨_, _, _, _, _, _, _, e, _⟩ := q; cases e⟩
theorem Cl.none {x : Str} {st : Stmt} {f : Addr} {fd : FuncData} {ps : List Str} {k np : Nat} (F : C8.Def K mg x st f fd) (b : L2.Binds K fd ps []) (hp : ps.length = np) : Cl P w K mg base k x np fun _ => none :=
  hp ▸ ⟨f, fd, ps, rfl, FnOk.none rfl, F.mgf, F.kp, b⟩
end
section
variable {X : Cx} {j k n : Nat} {cf : CF} {io : List Bool} {x : Str} {p pos : Pos} {e : Expr} {es : List Expr} {av : AvF}
theorem ev_cl (io : List Bool) (c : Cl X.prog X.w X.K X.mg X.base k x n cf) (hr : Room j X.A) (hk : k ≤ j) (hg : Gl X x) (ha : PA X (e :: es) (tAv X.K av)) (hdb : (x == ("__debug__" : Str)) = false := by decide) (hst : (e :: es).all notStar = true := by rfl) :
    PE X (.Call (.Name x p) (e :: es) [] pos) (tEv X.K (evCallN n cf io av)) := by
  obtain ⟨f, fd, ps, rfl, F, hm, kp, b⟩ := c.ex
  exact ev_call (E := C8.E0) F (hr.mono hk) hg hm kp b C8.pass0 ha hdb hst
end
end RF
set_option maxHeartbeats 1000000
/-! RF10: comprehensions as values and stored, a starred target. -/
namespace RF
open PySem PySem.Spec PyProof.Rows L2
section
variable {X : Cx} {elt tg iter : Expr} {ifs : List Expr} {scope : Scope} {own : List (Str × Nat)} {pos : Pos} {sv : SvF} {tt : TvF} {f : EvF} {g : Tg}
/-- [e for t in s if c] -/
theorem ev_lc (own : List (Str × Nat)) (hc : X.calm = true) (hN : X.N.Nodup) (hi : PI X tg iter (tSv X.K sv)) (ok : BlkOk X.N X.env.scope scope own)
    (hg : ∀ (s : Shared) (H : Hp) (C : Addr) (cl : List (Str × Addr)) (fp : List Addr), PG (X.blk s H scope (compEnvC scope cl C X.env) fp) tg (gTg X.K g)) (ht : ∀ (s : Shared) (H : Hp) (C : Addr) (cl : List (Str × Addr)) (fp : List Addr), PTs (X.blk s H scope (compEnvC scope cl C X.env) fp) ifs (tTv X.K tt))
    (he : ∀ (s : Shared) (H : Hp) (C : Addr) (cl : List (Str × Addr)) (fp : List Addr), PE (X.blk s H scope (compEnvC scope cl C X.env) fp) elt (tEv X.K f)) (hs : notSet iter = true) :
    PE X (.ListComp elt [⟨tg, iter, ifs, 0⟩] scope pos) (tEv X.K (evLc sv g tt f (own.map (·.2)))) :=
  PE.mono (pe_lc hc hN hi ok hg ht he (folded_of hs)) fun σ H Q h => lc_reads h
theorem tvs_one {X : Cx} {e : Expr} {t : TvF} (h : PT X e (tTv X.K t)) : PTs X [e] (tTv X.K t) := PTs.mono (pts_one h) fun σ H Q q => by
  first
    | exact q
    | skip
end
/-! ### a, *b = a tuple -/
end RF
set_option maxHeartbeats 1000000
/-! RF11: names within a block, small rules for the printed texts. -/
namespace RF
open PySem PySem.Spec PyProof.Rows L2
/-! ### names in a comprehension's block -/
theorem rl_gen {env : Env} : ∀ {names : List (Str × NameKind)} {x : Str} {k : NameKind}, names.lookup x = some k → (k == .free) = false →
    (names.map fun (n, k) => if (k == NameKind.free && env.scope.kind == .function && env.kindOf n == some .cell) then (n, NameKind.cell) else (n, k)).lookup x = some k
  | [], _, _, h, _ => by simp at h
  | (n, k0) :: r, x, k, h, hk => by
    have ih := @rl_gen env r x k
    show List.lookup x ((if (k0 == NameKind.free && env.scope.kind == .function && env.kindOf n == some .cell) = true then (n, NameKind.cell) else (n, k0)) :: _) = _
    cases hx : x == n with
    | true =>
      simp only [List.lookup_cons, hx] at h
      cases h
      rw [hk]
      simp [List.lookup_cons, hx]
    | false =>
      simp only [List.lookup_cons, hx] at h
      by_cases hc : (k0 == NameKind.free && env.scope.kind == .function && env.kindOf n == some .cell) = true
      · rw [if_pos hc]; simp only [List.lookup_cons, hx]; exact ih h hk
      · rw [if_neg hc]; simp only [List.lookup_cons, hx]; exact ih h hk
theorem rl_fre {env : Env} : ∀ {names : List (Str × NameKind)} {x : Str}, names.lookup x = some .free →
    (names.map fun (n, k) => if (k == NameKind.free && env.scope.kind == .function && env.kindOf n == some .cell) then (n, NameKind.cell) else (n, k)).lookup x = some .cell ∨ (names.map fun (n, k) => if (k == NameKind.free && env.scope.kind == .function && env.kindOf n == some .cell) then (n, NameKind.cell) else (n, k)).lookup x = some .free
  | [], _, h => by simp at h
  | (n, k0) :: r, x, h => by
    have ih := @rl_fre env r x
    show List.lookup x ((if (k0 == NameKind.free && env.scope.kind == .function && env.kindOf n == some .cell) = true then (n, NameKind.cell) else (n, k0)) :: _) = _ ∨ List.lookup x ((if (k0 == NameKind.free && env.scope.kind == .function && env.kindOf n == some .cell) = true then (n, NameKind.cell) else (n, k0)) :: _) = _
    cases hx : x == n with
    | true =>
      simp only [List.lookup_cons, hx] at h
      cases h
      by_cases hc : (NameKind.free == NameKind.free && env.scope.kind == .function && env.kindOf n == some .cell) = true
      · rw [if_pos hc]; simp [List.lookup_cons, hx]
      · rw [if_neg hc]; simp [List.lookup_cons, hx]
    | false =>
      simp only [List.lookup_cons, hx] at h
      by_cases hc : (k0 == NameKind.free && env.scope.kind == .function && env.kindOf n == some .cell) = true
      · rw [if_pos hc]; simp only [List.lookup_cons, hx]; exact ih h
      · rw [if_neg hc]; simp only [List.lookup_cons, hx]; exact ih h
section
variable {X : Cx} {s : Shared} {H : Hp} {scope : Scope} {C : Addr} {cl : List (Str × Addr)} {fp : List Addr} {x : Str}
abbrev Bk (X : Cx) (s : Shared) (H : Hp) (scope : Scope) (C : Addr) (cl : List (Str × Addr)) (fp : List Addr) : Cx := X.blk s H scope (compEnvC scope cl C X.env) fp
theorem bl_loc (h : scope.names.lookup x = some .local) : (Bk X s H scope C cl fp).env.scope.names.lookup x = some .local := rl_gen h rfl
theorem bl_vis (h : scope.names.lookup x = some .local) : Vis (Bk X s H scope C cl fp).env.scope x := .inl (bl_loc h)
theorem bl_cel (h : scope.names.lookup x = some .cell) : (Bk X s H scope C cl fp).env.scope.names.lookup x = some .cell := rl_gen h rfl
theorem bl_gl (h : scope.names.lookup x = some .globalImplicit) : Gl (Bk X s H scope C cl fp) x := rl_gen h rfl
theorem bl_free (h : scope.names.lookup x = some .free) : Vis (Bk X s H scope C cl fp).env.scope x := by
  rcases rl_fre (env := X.env) h with q | q
  · exact .inr (.inl q)
  · exact .inr (.inr q)
end
/-! ### constants -/
section
variable {X : Cx} {i : Int} {z : Str} {b : Bool} {k : Nat} {x : Str} {pos : Pos} {u : Value}
theorem ec_int : PE X (.Constant (.int i) k pos) (tEv X.K (evCst (.int i))) := ev_cst pe_int fun _ _ => Rep.int
theorem ec_str : PE X (.Constant (.str z) k pos) (tEv X.K (evCst (.str z))) := ev_cst pe_str fun _ _ => Rep.str
theorem ec_bl : PE X (.Constant (.bool b) k pos) (tEv X.K (evCst (.bl b))) := ev_cst pe_bl fun _ _ => Rep.bl
theorem ec_non : PE X (.Constant .none k pos) (tEv X.K (evCst .non)) := ev_cst pe_non fun _ _ => Rep.non
theorem ec_gint (hg : Gl X x) (hm : ∃ t, X.mg x = some (.int i t)) (hd : (x == ("__debug__" : Str)) = false) : PE X (.Name x pos) (tEv X.K (evCst (.int i))) := by
  obtain ⟨t, hm⟩ := hm
  exact ev_cst (pe_glob (v := .int i) hg hm ⟨_, rfl⟩ hd) fun _ _ => Rep.int
theorem ec_gstr (hg : Gl X x) (hm : ∃ t, X.mg x = some (.str z t)) (hd : (x == ("__debug__" : Str)) = false) : PE X (.Name x pos) (tEv X.K (evCst (.str z))) := by
  obtain ⟨t, hm⟩ := hm
  exact ev_cst (pe_glob (v := .str z) hg hm ⟨_, rfl⟩ hd) fun _ _ => Rep.str
theorem ec_ty {n : String} (hg : Gl X x) (hm : X.mg x = none) (hv : bootBuiltins x = some (.type n)) (hn : x ≠ "__name__") (hd : (x == ("__debug__" : Str)) = false) : PE X (.Name x pos) (tEv X.K (evCst (.ty n))) :=
  ev_cst (pe_bltn hg hm hv (v := .ty n) rfl hn hd) fun _ _ => by simp only [Rep]
theorem ev_nm {i : Nat} (hN : X.N[i]? = some x) (hv : Vis X.env.scope x) (hd : (x == ("__debug__" : Str)) = false) (hcd : (x == ("__classdict__" : Str)) = false) : PE X (.Name x pos) (tEv X.K (evVar i)) := ev_var (pe_var hN hv hd hcd)
end
end RF
set_option maxHeartbeats 1000000
/-! RF12: keyword calls, min and max with default, sorted(set(..)), dict(pairs). -/
namespace RF
open PySem PySem.Spec PyProof.Rows L2
/-! ### keywords -/
section
variable {X : Cx} {a b c e : Expr} {es : List Expr} {kws : List Keyword} {nm : Option Str} {kpos pos p : Pos} {f g h : EvF} {av kv : AvF} {x : Str}
theorem PK.mono {kws : List Keyword} {t t' : TA} (h : PK X kws t) (m : ∀ σ H Q, t' σ H Q → t σ H Q) : PK X kws t' := ⟨fun pos pins s σ H Q I q => h.run pos pins s σ H Q I (m σ H Q q)⟩
theorem ak_nil : PK X [] (tAv X.K avNil) := PK.mono pk_nil fun σ H Q ⟨M, B, ρ, A, rs, ρ', e, S, k⟩ => by cases e; exact k [] H A Step.refl S .nil
theorem ak_cons (ha : PE X a (tEv X.K f)) (hb : PK X kws (tAv X.K kv)) : PK X (⟨nm, a, kpos⟩ :: kws) (tAv X.K (avCons f kv)) :=
  PK.mono (pk_cons ha hb) fun σ H Q ⟨M, B, ρ, A, rs, ρ', e, S, k⟩ => by
    obtain ⟨⟨r1, ρ1⟩, h1, e⟩ := bind_some e
    obtain ⟨⟨r2, ρ2⟩, h2, e⟩ := map_some e
    cases e
    exact ⟨M, B, ρ, A, r1, ρ1, h1, S, fun x H1 A1 s1 o1 => ⟨M, B, ρ1, A1, r2, ρ2, h2, o1.st, fun vs H2 A2 s2 S2 a2 => k _ H2 A2 (s1.trans s2) S2 (.cons (o1.arg.step o1.st s2) a2)⟩⟩
end
/-- a def whose last parameters (here: keywords) may lack; what stands for them: flat values sd -/
structure Clk (P : Program) (w : World) (K : PySem.W.Frag) (mg : Str → Option Value) (base : Heap) (k : Nat) (x : Str) (n : Nat) (ks : List Str) (sd : List D) (np : Nat) (cf : CF) : Prop where
  flat : sd.all flatD = true
  ex : ∃ (f : Addr) (fd : FuncData) (ps : List Str) (g : List Value → List Value → List Value) (gV : List V → List V → List V), ps.length = np ∧ FnOk P w K mg base C8.CX0 k f fd ps (spF K np cf) ∧ mg x = some (.ref f) ∧ PySem.W.keepIn K (.ref f) = true ∧
    KBn K fd ps n ks g gV ∧ ∀ vs zs : List V, vs.length = n → zs.length = ks.length → gV vs zs = vs ++ (zs ++ sd.map vOf)
structure Cld (P : Program) (w : World) (K : PySem.W.Frag) (mg : Str → Option Value) (base : Heap) (k : Nat) (x : Str) (sd : List D) (np : Nat) (cf : CF) : Prop where
  flat : sd.all flatD = true
  ex : ∃ (f : Addr) (fd : FuncData) (ps : List Str) (ds : List Value), ps.length = np ∧ FnOk P w K mg base C8.CX0 k f fd ps (spF K np cf) ∧ mg x = some (.ref f) ∧ PySem.W.keepIn K (.ref f) = true ∧ L2.Binds K fd ps ds ∧ Vals (sd.map vOf) ds
theorem rep_flat {K : PySem.W.Frag} {M : Addr → Prop} {H : Hp} {d : D} (f : flatD d = true) : Rep K M H d (vOf d) := by
  cases d <;> first | (simp [flatD] at f; done) | (simp only [Rep, vOf])
theorem args_flat {K : PySem.W.Frag} {M : Addr → Prop} {A : As} {σ : L2.St} {H : Hp} : ∀ {sd : List D}, sd.all flatD = true → Args K M A σ H (sd.map R.val) (sd.map vOf)
  | [], _ => .nil
  | d :: ds, h => by
    rw [List.all_cons, Bool.and_eq_true] at h
    exact .cons (rep_flat h.1) (args_flat h.2)
def evCallK (n m np : Nat) (sd : List D) (cf : CF) (io : List Bool) (g k : AvF) : EvF := fun ρ => (g ρ).bind fun p => (k p.2).bind fun q => if p.1.length = n ∧ q.1.length = m ∧ (p.1 ++ (q.1 ++ sd.map R.val)).length = np then evCallR cf io (p.1 ++ (q.1 ++ sd.map R.val), q.2) else none
theorem ev_clk {X : Cx} {j k n np : Nat} {ks : List Str} {sd : List D} {cf : CF} {x : Str} {p pos : Pos} {e : Expr} {es : List Expr} {kws : List Keyword} {av kv : AvF} (io : List Bool)
    (c : Clk X.prog X.w X.K X.mg X.base k x n ks sd np cf) (hr : Room j X.A) (hk : k ≤ j) (hg : Gl X x) (ha : PA X (e :: es) (tAv X.K av)) (hkw : PK X kws (tAv X.K kv))
    (hall : (backToKw pos (keywordEach kws X.env)).all (·.1.isSome) = true) (hks : (backToKw pos (keywordEach kws X.env)).filterMap (·.1) = ks)
    (hdb : (x == ("__debug__" : Str)) = false) (hst : notStar e = true)
    (hpl : ((backTo pos (starEach (e :: es) X.env)).any (·.1) || (backToKw pos (keywordEach kws X.env)).any (·.1.isNone)) = false) :
    PE X (.Call (.Name x p) (e :: es) kws pos) (tEv X.K (evCallK n ks.length np sd cf io av kv)) := by
  obtain ⟨f, fd, ps, g, gV, rfl, F, hm, kp, b, hV⟩ := c.ex
  refine PE.mono (pe_callN (E := C8.E0) F (hr.mono hk) hg hm kp b C8.pass0 ha hkw hall hks hdb (star_cons hst) hpl) fun σ H Q ⟨M, B, ρ, A, r, ρ', e, S, k⟩ => ?_
  obtain ⟨⟨rs, ρ1⟩, h1, e⟩ := bind_some e
  obtain ⟨⟨qs, ρ2⟩, h2, e⟩ := bind_some e
  dsimp only at e
  split at e
  · rename_i hlen
    refine ⟨M, B, ρ, A, rs, ρ1, h1, S, fun vs H1 A1 s1 S1 a1 => ⟨M, B, ρ1, A1, qs, ρ2, h2, S1, fun zs H2 A2 s2 S2 a2 => ?_⟩⟩
    have e1 : vs.length = n := by rw [a1.length]; exact hlen.1
    have e2 : zs.length = ks.length := by rw [a2.length]; exact hlen.2.1
    refine ⟨e1, e2, ?_⟩
    rw [hV vs zs e1 e2]
    have aa : Args X.K M A2 σ H2 (rs ++ (qs ++ sd.map R.val)) (vs ++ (zs ++ sd.map vOf)) := Args.app (Args.step S1 s2 a1) (Args.app a2 (args_flat c.flat))
    exact call_ok (by rw [aa.length]; exact hlen.2.2) S2 aa e fun v H3 A3 s3 o3 => k v H3 A3 ((s1.trans s2).trans s3) (o3.back' (s1.trans s2))
  · cases e
def evCallD (np : Nat) (sd : List D) (cf : CF) (io : List Bool) (g : AvF) : EvF := fun ρ => (g ρ).bind fun p => if (p.1 ++ sd.map R.val).length = np then evCallR cf io (p.1 ++ sd.map R.val, p.2) else none
theorem ev_cld {X : Cx} {j k np : Nat} {sd : List D} {cf : CF} {x : Str} {p pos : Pos} {e : Expr} {es : List Expr} {av : AvF} (io : List Bool)
    (c : Cld X.prog X.w X.K X.mg X.base k x sd np cf) (hr : Room j X.A) (hk : k ≤ j) (hg : Gl X x) (ha : PA X (e :: es) (tAv X.K av)) (hdb : (x == ("__debug__" : Str)) = false) (hst : (e :: es).all notStar = true) :
    PE X (.Call (.Name x p) (e :: es) [] pos) (tEv X.K (evCallD np sd cf io av)) := by
  obtain ⟨f, fd, ps, ds, rfl, F, hm, kp, b, hV⟩ := c.ex
  rw [List.all_cons, Bool.and_eq_true] at hst
  refine PE.mono (pe_call (E := C8.E0) F (hr.mono hk) hg hm kp b hV C8.pass0 ha hdb (star_cons hst.1) (star_any hst.2)) fun σ H Q ⟨M, B, ρ, A, r, ρ', e, S, k⟩ => ?_
  obtain ⟨⟨rs, ρ1⟩, h1, e⟩ := bind_some e
  dsimp only at e
  split at e
  · rename_i hlen
    refine ⟨M, B, ρ, A, rs, ρ1, h1, S, fun vs H1 A1 s1 S1 a1 => ?_⟩
    have aa : Args X.K M A1 σ H1 (rs ++ sd.map R.val) (vs ++ sd.map vOf) := Args.app a1 (args_flat c.flat)
    exact call_ok (by rw [aa.length]; exact hlen) S1 aa e fun v H2 A2 s2 o2 => k v H2 A2 (s1.trans s2) (o2.back' s1)
  · cases e
/-! ### min, max with default -/
def evDf (df : List Int → Int → Int) (f g : EvF) : EvF := fun ρ => (f ρ).bind fun p => (g p.2).bind fun q => match deref q.2 p.1, deref q.2 q.1 with
  | some (.lst xs), some (.int j) => (xs.mapM getInt).map fun ns => (.val (.int (df ns j)), q.2)
  | _, _ => none
/-! ### sorted(set(t)) of a tuple of ints -/
end RF
set_option maxHeartbeats 1000000
/-! RF13: sorted(set(..)) of a tuple of ints of any number, dict(pairs). -/
namespace RF
open PySem PySem.Spec PyProof.Rows L2
/-! ### dict of pairs -/
end RF
set_option maxHeartbeats 1000000
/-! RF14: rules that run a meaning at given slots. -/
namespace RF
open PySem L2
section
variable {ρ ρ1 ρ2 ρ3 ρ4 : Lo} {f g h : EvF} {t u : TvF} {av bv : AvF} {sf sg : SF} {sv : SvF} {r r1 r2 r3 : R} {d e d1 d2 d3 : D} {b b1 b2 : Bool} {i j : Nat} {n m : Nat} {tg : Tg} {ds es : List D} {rs qs : List R} {x : Fl × Lo} {y : R × Lo} {z : Bool × Lo}
theorem r_cst : evCst d ρ = some (.val d, ρ) := rfl
theorem r_bin {o : Operator} (h1 : f ρ = some (r1, ρ1)) (h2 : g ρ1 = some (r2, ρ2)) (h3 : deref ρ2 r1 = some d) (h4 : deref ρ2 r2 = some e) (h5 : binD o d e = some r) : evBin o f g ρ = some (r, ρ2) := by
  simp only [evBin, h1, h2, h3, h4, h5, Option.bind_some, Option.map_some]
theorem r_cmp {o : CmpOp} (h1 : f ρ = some (r1, ρ1)) (h2 : g ρ1 = some (r2, ρ2)) (h3 : deref ρ2 r1 = some d) (h4 : deref ρ2 r2 = some e) (h5 : cmpD o d e = some b) : evCmp o f g ρ = some (.val (.bl b), ρ2) := by
  simp only [evCmp, h1, h2, h3, h4, h5, Option.bind_some, Option.map_some]
theorem r_neg {i : Int} (h1 : f ρ = some (r1, ρ1)) (h2 : deref ρ1 r1 = some (.int i)) : evNeg f ρ = some (.val (.int (-i)), ρ1) := by
  simp only [evNeg, h1, h2, Option.bind_some]
theorem r_not (h1 : f ρ = some (r1, ρ1)) (h2 : deref ρ1 r1 = some (.bl b)) : evNot f ρ = some (.val (.bl (!b)), ρ1) := by
  simp only [evNot, h1, h2, Option.bind_some]
theorem r_and (h1 : f ρ = some (r1, ρ1)) (h2 : deref ρ1 r1 = some (.bl b)) (h3 : (if b = true then g ρ1 else some (.val (.bl false), ρ1)) = some y) : evAnd f g ρ = some y := by
  simp only [evAnd, h1, h2, Option.bind_some]; exact h3
theorem r_or (h1 : f ρ = some (r1, ρ1)) (h2 : deref ρ1 r1 = some (.bl b)) (h3 : (if b = true then some (.val (.bl true), ρ1) else g ρ1) = some y) : evOr f g ρ = some y := by
  simp only [evOr, h1, h2, Option.bind_some]; exact h3
theorem r_ite (h1 : t ρ = some (b, ρ1)) (h3 : (if b = true then f ρ1 else g ρ1) = some y) : evIte t f g ρ = some y := by
  simp only [evIte, h1, Option.bind_some]; exact h3
theorem r_ix (h1 : f ρ = some (r1, ρ1)) (h2 : g ρ1 = some (r2, ρ2)) (h3 : deref ρ2 r1 = some d) (h4 : deref ρ2 r2 = some e) (h5 : ixD d e = some d1) : evIx f g ρ = some (.val d1, ρ2) := by
  simp only [evIx, h1, h2, h3, h4, h5, Option.bind_some, Option.map_some]
theorem r_ovs {i : Int} (h1 : f ρ = some (r1, ρ1)) (h2 : deref ρ1 r1 = some (.int i)) : ovSome f ρ = some (some i, ρ1) := by
  simp only [ovSome, h1, h2, Option.bind_some]
theorem r_ovn : ovNone ρ = some (none, ρ) := rfl
theorem r_sl {oa ob : OvF} {lo hi : Option Int} (h1 : f ρ = some (r1, ρ1)) (h2 : oa ρ1 = some (lo, ρ2)) (h3 : ob ρ2 = some (hi, ρ3)) (h4 : deref ρ3 r1 = some d) (h5 : slD d lo hi = some r) : evSl f oa ob ρ = some (r, ρ3) := by
  simp only [evSl, h1, h2, h3, h4, h5, Option.bind_some, Option.map_some]
theorem r_of (h1 : f ρ = some (r1, ρ1)) (h2 : deref ρ1 r1 = some d) (h3 : truD d = some b) : tvOf f ρ = some (b, ρ1) := by
  simp only [tvOf, h1, h2, h3, Option.bind_some, Option.map_some]
theorem r_tnot (h1 : t ρ = some (b, ρ1)) : tvNot t ρ = some (!b, ρ1) := by
  simp only [tvNot, h1, Option.map_some]
theorem r_tand (h1 : t ρ = some (b, ρ1)) (h3 : (if b = true then u ρ1 else some (false, ρ1)) = some z) : tvAnd t u ρ = some z := by
  simp only [tvAnd, h1, Option.bind_some]; exact h3
theorem r_tor (h1 : t ρ = some (b, ρ1)) (h3 : (if b = true then some (true, ρ1) else u ρ1) = some z) : tvOr t u ρ = some z := by
  simp only [tvOr, h1, Option.bind_some]; exact h3
theorem r_nil : avNil ρ = some ([], ρ) := rfl
theorem r_cons (h1 : f ρ = some (r1, ρ1)) (h2 : av ρ1 = some (rs, ρ2)) : avCons f av ρ = some (r1 :: rs, ρ2) := by
  simp only [avCons, h1, h2, Option.bind_some, Option.map_some]
theorem r_tup (h1 : av ρ = some (rs, ρ1)) (h2 : retain ρ1 rs = some (ds, ρ2)) (h3 : ds.length ≤ lim) : evTup av ρ = some (.val (.tup ds), ρ2) := by
  simp only [evTup, h1, h2, Option.bind_some, if_pos h3]
theorem r_lst (h1 : av ρ = some (rs, ρ1)) (h2 : retain ρ1 rs = some (ds, ρ2)) (h3 : ds.length ≤ lim) : evLst av ρ = some (.fresh ds, ρ2) := by
  simp only [evLst, h1, h2, Option.bind_some, if_pos h3]
theorem r_bi {k : Bi} (h1 : av ρ = some (rs, ρ1)) (h2 : derefs ρ1 rs = some ds) (h3 : biD k ds = some r) : evBi k av ρ = some (r, ρ1) := by
  simp only [evBi, h1, h2, h3, Option.bind_some, Option.map_some]
/-- a call -/
theorem r_call {c : CF} {io : List Bool} {ps : List PArg} {ss : List Sl} {outs : List Sl} (h1 : av ρ = some (rs, ρ1)) (h2 : rs.length = n) (h3 : prep ρ1 io rs = some (ps, ρ2)) (h4 : (lentOf ρ2 ps).Nodup) (h5 : pslots ρ2 ps = some ss) (h6 : c ss = some (r, outs)) (h7 : r ≠ .ali 0 ∧ outs.length = ss.length ∧ ∀ i, r ≠ .ali i)
    : evCallN n c io av ρ = some (r, putBack ρ2 ps outs) := by
  simp only [evCallN, h1, Option.bind_some, if_pos h2, evCallR, h3, if_pos h4, h5, h6, if_pos h7.2.1]
  cases r with
  | ali i => exact absurd rfl (h7.2.2 i)
  | _ => rfl
theorem r_callD {c : CF} {io : List Bool} {sd : List D} {ps : List PArg} {ss : List Sl} {outs : List Sl} (h1 : av ρ = some (rs, ρ1)) (h2 : (rs ++ sd.map R.val).length = n) (h3 : prep ρ1 io (rs ++ sd.map R.val) = some (ps, ρ2)) (h4 : (lentOf ρ2 ps).Nodup) (h5 : pslots ρ2 ps = some ss) (h6 : c ss = some (.val d, outs)) (h7 : outs.length = ss.length)
    : evCallD n sd c io av ρ = some (.val d, putBack ρ2 ps outs) := by
  simp only [evCallD, h1, Option.bind_some, if_pos h2, evCallR, h3, if_pos h4, h5, h6, if_pos h7]
theorem r_callK {c : CF} {io : List Bool} {sd : List D} {k l : Nat} {ps : List PArg} {ss : List Sl} {outs : List Sl} (h1 : av ρ = some (rs, ρ1)) (h1' : bv ρ1 = some (qs, ρ3)) (h2 : rs.length = k ∧ qs.length = l ∧ (rs ++ (qs ++ sd.map R.val)).length = n) (h3 : prep ρ3 io (rs ++ (qs ++ sd.map R.val)) = some (ps, ρ2)) (h4 : (lentOf ρ2 ps).Nodup) (h5 : pslots ρ2 ps = some ss) (h6 : c ss = some (.val d, outs)) (h7 : outs.length = ss.length)
    : evCallK k l n sd c io av bv ρ = some (.val d, putBack ρ2 ps outs) := by
  simp only [evCallK, h1, h1', Option.bind_some, if_pos h2, evCallR, h3, if_pos h4, h5, h6, if_pos h7]
theorem r_df {df : List Int → Int → Int} {ns : List Int} {k : Int} (h1 : f ρ = some (r1, ρ1)) (h2 : g ρ1 = some (r2, ρ2)) (h3 : deref ρ2 r1 = some (.lst ds)) (h4 : deref ρ2 r2 = some (.int k)) (h5 : ds.mapM getInt = some ns) : evDf df f g ρ = some (.val (.int (df ns k)), ρ2) := by
  simp only [evDf, h1, h2, h3, h4, h5, Option.bind_some, Option.map_some]
theorem r_pop {i : Nat} (h1 : ρ[i]? = some (.own b ds)) (h2 : ds[ds.length - 1]? = some d) : evPop i ρ = some (.val d, ρ.set i (.own b ds.dropLast)) := by
  simp only [evPop, h1, h2]
theorem r_append {i : Nat} (h0 : ρ[i]? = some (.own b1 es)) (h1 : av ρ = some (rs, ρ1)) (h2 : retain ρ1 rs = some ([d], ρ2)) (h3 : ρ2[i]? = some (.own b ds)) (h4 : ds.length < lim) : evAppend i av ρ = some (.val .non, ρ2.set i (.own b (ds ++ [d]))) := by
  simp only [evAppend, h0, h1, h2, h3, Option.bind_some, if_pos h4]
theorem r_extend {i : Nat} {qs : List D} (h0 : ρ[i]? = some (.own b1 qs)) (h1 : av ρ = some (rs, ρ1)) (h2 : derefs ρ1 rs = some [.lst es]) (h3 : ρ1[i]? = some (.own b ds)) (h4 : ds.length + es.length ≤ lim) : evExtend i av ρ = some (.val .non, ρ1.set i (.own b (ds ++ es))) := by
  simp only [evExtend, h0, h1, h2, h3, Option.bind_some, if_pos h4]
/-! statements -/
def seqK : Fl → Lo → SF → Option (Fl × Lo)
  | .nx, ρ, sg => sg ρ
  | o, ρ, _ => some (o, ρ)
theorem r_seq {o : Fl} (h1 : sf ρ = some (o, ρ1)) (h2 : seqK o ρ1 sg = some x) : sfSeq sf sg ρ = some x := by
  simp only [sfSeq, h1, Option.bind_some]
  cases o <;> exact h2
theorem r_seqN (h : sg ρ = some x) : seqK .nx ρ sg = some x := h
theorem r_seqR : seqK (.rt r) ρ sg = some (.rt r, ρ) := rfl
theorem r_if (h1 : t ρ = some (b, ρ1)) (h3 : (if b = true then sf ρ1 else sg ρ1) = some x) : sfIf t sf sg ρ = some x := by
  simp only [sfIf, h1, Option.bind_some]; exact h3
theorem r_ret (h1 : f ρ = some (r, ρ1)) : sfRet f ρ = some (.rt r, ρ1) := by simp only [sfRet, h1, Option.map_some]
theorem r_drop (h1 : f ρ = some (r, ρ1)) : sfDrop f ρ = some (.nx, ρ1) := by simp only [sfDrop, h1, Option.map_some]
theorem r_snil : sfNil ρ = some (.nx, ρ) := rfl
theorem r_set (h1 : f ρ = some (r, ρ1)) (h2 : asg1 ρ1 i r = some ρ2) : sfSet i f ρ = some (.nx, ρ2) := by simp only [sfSet, h1, h2, Option.bind_some, Option.map_some]
theorem r_stup (h1 : f ρ = some (r, ρ1)) (h2 : retain1 ρ1 r = some (d, ρ2)) (h3 : tgSet tg d ρ2 = some ρ3) : sfTup tg f ρ = some (.nx, ρ3) := by simp only [sfTup, h1, h2, h3, Option.bind_some, Option.map_some]
theorem r_par (h1 : f ρ = some (r1, ρ1)) (h2 : g ρ1 = some (r2, ρ2)) (h3 : asg2 ρ2 i j r1 r2 = some ρ3) : sfPar i j f g ρ = some (.nx, ρ3) := by simp only [sfPar, h1, h2, h3, Option.bind_some, Option.map_some]
theorem r_aug {neg : Bool} {p q : Int} (h0 : ρ[i]? = some (.val (.int p))) (h1 : f ρ = some (r1, ρ1)) (h2 : deref ρ1 r1 = some (.int q)) (h3 : setV ρ1 i (.int (if neg then p - q else p + q)) = some ρ2) : sfAug i neg f ρ = some (.nx, ρ2) := by
  simp only [sfAug, h0, h1, h2, h3, Option.bind_some, Option.map_some]
theorem r_item {k : Nat} {p : Int} {qs es : List D} {b0 b1 : Bool} (h1 : g ρ = some (r1, ρ1)) (h2 : ρ1[k]? = some (.own b0 qs)) (h3 : f ρ1 = some (r2, ρ2)) (h4 : deref ρ2 r2 = some (.int p)) (h5 : retain1 ρ2 r1 = some (d, ρ3)) (h6 : ρ3[k]? = some (.own b1 es)) (h7 : ixN es.length p = some j) : sfItem k f g ρ = some (.nx, ρ3.set k (.own b1 (es.set j d))) := by
  simp only [sfItem, h1, h2, h3, h4, h5, h6, h7, Option.bind_some]
theorem r_for (h1 : sv ρ = some (ds, ρ1)) (h2 : forF tg sf ds ρ1 = some x) : sfFor sv tg sf ρ = some x := by simp only [sfFor, h1, Option.bind_some]; exact h2
theorem r_svSeq (h1 : f ρ = some (r, ρ1)) (h2 : retain1 ρ1 r = some (d, ρ2)) (h3 : seqD d = some ds) : svSeq f ρ = some (ds, ρ2) := by simp only [svSeq, h1, h2, h3, Option.bind_some, Option.map_some]
theorem r_rng1 {k : Int} (h1 : f ρ = some (r, ρ1)) (h2 : deref ρ1 r = some (.int k)) (h3 : -(2 ^ 62) ≤ k ∧ k < 2 ^ 62) : svRng1 f ρ = some (rngD 0 k.toNat, ρ1) := by simp only [svRng1, h1, h2, Option.bind_some, if_pos h3]
theorem r_rng2 {k l : Int} (h1 : f ρ = some (r1, ρ1)) (h2 : g ρ1 = some (r2, ρ2)) (h3 : deref ρ2 r1 = some (.int k)) (h4 : deref ρ2 r2 = some (.int l)) (h5 : -(2 ^ 62) ≤ k ∧ k < 2 ^ 62 ∧ -(2 ^ 62) ≤ l ∧ l < 2 ^ 62) : svRng2 f g ρ = some (rngD k (l - k).toNat, ρ2) := by
  simp only [svRng2, h1, h2, h3, h4, Option.bind_some, if_pos h5]
theorem r_zipT (h1 : av ρ = some (rs, ρ1)) (h2 : retain ρ1 rs = some ([.tup ds, .tup es], ρ2)) : svZip av ρ = some (zipD ds es, ρ2) := by simp only [svZip, h1, h2, Option.bind_some]
/-- a comprehension -/
theorem r_lc {tt : TvF} {vs : List Nat} (h1 : sv ρ = some (es, ρ1)) (h2 : ((vs.all fun v => plainSl ρ1[v]?) && (tg.slots.all fun i => vs.contains i)) = true) (h3 : es.length < lim) (h4 : lcLoop tg tt f vs es (wipeL ρ1 vs) = some (ds, ρ2)) : evLc sv tg tt f vs ρ = some (.fresh ds, restL ρ1 ρ2 vs) := by
  simp only [evLc, h1, Option.bind_some, h2, Bool.true_and, decide_eq_true h3, if_pos, h4, Option.map_some]
end
/-- each turn alike, the slots as they were -/
theorem lcLoop_map {tg : Tg} {f : EvF} {vs : List Nat} {ρ : Lo} {k : D → D} : ∀ {es : List D}, (∀ d ∈ es, ∃ ρ1 r ρ2 ρ3, tgSet tg d ρ = some ρ1 ∧ f ρ1 = some (r, ρ2) ∧ retain1 ρ2 r = some (k d, ρ3) ∧ wipeL ρ3 vs = ρ) → lcLoop tg tvYes f vs es ρ = some (es.map k, ρ)
  | [], _ => rfl
  | d :: es, h => by
    obtain ⟨ρ1, r, ρ2, ρ3, h1, h2, h3, h4⟩ := h d List.mem_cons_self
    simp only [lcLoop, h1, Option.bind_some, tvYes, if_pos, h2, h3, h4, lcLoop_map fun d m => h d (List.mem_cons_of_mem _ m), Option.map_some, List.map_cons]
/-! results that are values: nothing of the slots is touched -/
def nodupN : List Nat → Bool
  | [] => true
  | x :: xs => !xs.contains x && nodupN xs
theorem nodupN_ok : ∀ {xs : List Nat}, nodupN xs = true → xs.Nodup
  | [], _ => List.nodup_nil
  | x :: xs, h => by
    simp only [nodupN, Bool.and_eq_true, Bool.not_eq_true'] at h
    exact List.nodup_cons.mpr ⟨fun m => by have := h.1; simp [m] at this, nodupN_ok h.2⟩
/-- all of them values -/
inductive ValsR : List R → List D → Prop
  | nil : ValsR [] []
  | cons {d rs ds} (t : ValsR rs ds) : ValsR (.val d :: rs) (d :: ds)
  | fr {es rs ds} (t : ValsR rs ds) : ValsR (.fresh es :: rs) (.lst es :: ds)
theorem ValsR.prep {ρ : Lo} : ∀ {io : List Bool} {rs : List R} {ds : List D}, ValsR rs ds → RF.prep ρ io rs = some (ds.map PArg.d, ρ)
  | _, _, _, .nil => by simp [RF.prep]
  | io, _, _, .cons t => by
    have ih := ValsR.prep (ρ := ρ) (io := io.tail) t
    simp only [List.map_cons, RF.prep]
    cases io.headD false <;> simp [retain1, ih]
  | io, _, _, .fr t => by
    have ih := ValsR.prep (ρ := ρ) (io := io.tail) t
    simp only [List.map_cons, RF.prep]
    cases io.headD false <;> simp [retain1, ih]
theorem ValsR.ret {ρ : Lo} : ∀ {rs : List R} {ds : List D}, ValsR rs ds → retain ρ rs = some (ds, ρ)
  | _, _, .nil => rfl
  | _, _, .cons t => by simp only [retain, retain1, Option.bind_some, t.ret, Option.map_some]
  | _, _, .fr t => by simp only [retain, retain1, Option.bind_some, t.ret, Option.map_some]
theorem ValsR.len : ∀ {rs : List R} {ds : List D}, ValsR rs ds → rs.length = ds.length
  | _, _, .nil => rfl
  | _, _, .cons t => by simp [t.len]
  | _, _, .fr t => by simp [t.len]
theorem ValsR.app : ∀ {rs qs : List R} {ds es : List D}, ValsR rs ds → ValsR qs es → ValsR (rs ++ qs) (ds ++ es)
  | _, _, _, _, .nil, h => h
  | _, _, _, _, .cons t, h => .cons (t.app h)
  | _, _, _, _, .fr t, h => .fr (t.app h)
theorem ValsR.of : ∀ (ds : List D), ValsR (ds.map R.val) ds
  | [] => .nil
  | d :: ds => .cons (ValsR.of ds)
theorem pslots_vals {ρ : Lo} : ∀ {ds : List D}, pslots ρ (ds.map PArg.d) = some (ds.map Sl.val)
  | [] => rfl
  | d :: ds => by simp [pslots, pslots_vals (ds := ds)]
theorem lentOf_vals {ρ : Lo} : ∀ {ds : List D}, lentOf ρ (ds.map PArg.d) = []
  | [] => rfl
  | d :: ds => by simp [lentOf, lentOf_vals (ds := ds)]
theorem putBack_vals {ρ : Lo} : ∀ {ds : List D} {os : List Sl}, putBack ρ (ds.map PArg.d) os = ρ
  | [], os => by cases os <;> rfl
  | d :: ds, [] => rfl
  | d :: ds, o :: os => by simp [putBack, putBack_vals (ds := ds)]
section
variable {ρ ρ1 ρ2 : Lo} {f g : EvF} {av bv : AvF} {r : R} {d : D} {ds es sd : List D} {rs qs : List R} {n k l i : Nat} {c : CF} {io : List Bool} {outs : List Sl} {ss : List Sl}
theorem v_call0 (h1 : av ρ = some (rs, ρ1)) (h2 : ValsR rs ds) (h3 : ds.length = n) (h4 : ds.map Sl.val = ss) (h5 : c ss = some (r, outs)) (h6 : ∀ j, r ≠ .ali j) (h7 : outs.length = ss.length) : evCallN n c io av ρ = some (r, ρ1) := by
  subst h4
  have q := r_call (io := io) (c := c) (n := n) h1 (by rw [h2.len]; exact h3) h2.prep (by rw [lentOf_vals]; exact List.nodup_nil) pslots_vals h5 ⟨h6 0, h7, h6⟩
  rwa [putBack_vals] at q
theorem v_call (hio : io.any id = false) (h1 : av ρ = some (rs, ρ1)) (h2 : ValsR rs ds) (h3 : ds.length = n) (h4 : ds.map Sl.val = ss) (h5 : c ss = some (r, outs)) (h6 : ∀ j, r ≠ .ali j) (h7 : outs.length = ss.length) : evCallN n c io av ρ = some (r, ρ1) := v_call0 h1 h2 h3 h4 h5 h6 h7
theorem v_callD (h1 : av ρ = some (rs, ρ1)) (h2 : ValsR rs ds) (h3 : (ds ++ sd).length = n) (h4 : (ds ++ sd).map Sl.val = ss) (h5 : c ss = some (.val d, outs)) (h7 : outs.length = ss.length) : evCallD n sd c io av ρ = some (.val d, ρ1) := by
  subst h4
  have e := h2.app (ValsR.of sd)
  have q := r_callD (io := io) (c := c) (n := n) (sd := sd) h1 (by rw [e.len]; exact h3) e.prep (by rw [lentOf_vals]; exact List.nodup_nil) pslots_vals h5 h7
  rwa [putBack_vals] at q
theorem v_callK (h1 : av ρ = some (rs, ρ1)) (h1' : bv ρ1 = some (qs, ρ2)) (h2 : ValsR rs ds) (h2' : ValsR qs es) (h3 : ds.length = k ∧ es.length = l ∧ (ds ++ (es ++ sd)).length = n) (h4 : (ds ++ (es ++ sd)).map Sl.val = ss) (h5 : c ss = some (.val d, outs)) (h7 : outs.length = ss.length) : evCallK k l n sd c io av bv ρ = some (.val d, ρ2) := by
  subst h4
  have e := h2.app (h2'.app (ValsR.of sd))
  have q := r_callK (io := io) (c := c) (k := k) (l := l) (n := n) (sd := sd) h1 h1' ⟨by rw [h2.len]; exact h3.1, by rw [h2'.len]; exact h3.2.1, by rw [e.len]; exact h3.2.2⟩ e.prep (by rw [lentOf_vals]; exact List.nodup_nil) pslots_vals h5 h7
  rwa [putBack_vals] at q
theorem v_tup (h1 : av ρ = some (rs, ρ1)) (h2 : ValsR rs ds) (h3 : ds.length ≤ lim) : evTup av ρ = some (.val (.tup ds), ρ1) := r_tup h1 h2.ret h3
theorem v_lst (h1 : av ρ = some (rs, ρ1)) (h2 : ValsR rs ds) (h3 : ds.length ≤ lim) : evLst av ρ = some (.fresh ds, ρ1) := r_lst h1 h2.ret h3
end
theorem v_zip {ρ ρ1 : Lo} {av : AvF} {rs : List R} {ds es : List D} (h1 : av ρ = some (rs, ρ1)) (h2 : ValsR rs [.tup ds, .tup es]) : svZip av ρ = some (zipD ds es, ρ1) := by
  exact r_zipT h1 h2.ret
theorem v_seq {ρ ρ1 : Lo} {f : EvF} {d : D} {ds : List D} (h1 : f ρ = some (.val d, ρ1)) (h3 : seqD d = some ds) : svSeq f ρ = some (ds, ρ1) := r_svSeq h1 rfl h3
theorem v_seqF {ρ ρ1 : Lo} {f : EvF} {ds : List D} (h1 : f ρ = some (.fresh ds, ρ1)) : svSeq f ρ = some (ds, ρ1) := r_svSeq h1 rfl rfl
theorem d_nil {ρ : Lo} : derefs ρ [] = some [] := rfl
theorem d_cons {ρ : Lo} {r : R} {rs : List R} {d : D} {ds : List D} (h1 : deref ρ r = some d) (h2 : derefs ρ rs = some ds) : derefs ρ (r :: rs) = some (d :: ds) := by
  simp only [derefs, h1, h2, Option.bind_some, Option.map_some]
theorem a_val {ρ ρ2 : Lo} {i : Nat} {d : D} (h : notLent ρ[i]? = true) (h3 : ρ.set i (.val d) = ρ2) : asg1 ρ i (.val d) = some ρ2 := by
  subst h3
  simp only [asg1, retain1, Option.bind_some, setV, if_pos h]
theorem a_fr {ρ ρ2 : Lo} {i : Nat} {ds : List D} (h : notLent ρ[i]? = true) (h3 : ρ.set i (.own false ds) = ρ2) : asg1 ρ i (.fresh ds) = some ρ2 := by
  subst h3
  simp only [asg1, if_pos h]
theorem a2_vv {ρ ρ2 : Lo} {i j : Nat} {d e : D} (h : notLent ρ[i]? = true) (h' : notLent ρ[j]? = true) (h3 : (ρ.set i (.val d)).set j (.val e) = ρ2) : asg2 ρ i j (.val d) (.val e) = some ρ2 := by
  subst h3
  simp only [asg2, retain1, Option.bind_some, h, h', Bool.and_self, if_true]
theorem a2_ff {ρ ρ2 : Lo} {i j : Nat} {d e : List D} (h : notLent ρ[i]? = true) (h' : notLent ρ[j]? = true) (h3 : (ρ.set i (.own false d)).set j (.own false e) = ρ2) : asg2 ρ i j (.fresh d) (.fresh e) = some ρ2 := by
  subst h3
  simp only [asg2, h, h', Bool.and_self, if_true]
theorem a2_fv {ρ ρ2 : Lo} {i j : Nat} {d : List D} {e : D} (h : notLent ρ[i]? = true) (h' : notLent ρ[j]? = true) (h3 : (ρ.set i (.own false d)).set j (.val e) = ρ2) : asg2 ρ i j (.fresh d) (.val e) = some ρ2 := by
  subst h3
  simp only [asg2, retain1, Option.bind_some, h, h', Bool.and_self, if_true]
theorem t_one {ρ ρ2 : Lo} {i : Nat} {d : D} (h : notLent ρ[i]? = true) (h3 : ρ.set i (.val d) = ρ2) : tgSet (.one i) d ρ = some ρ2 := by
  subst h3
  simp only [tgSet, setV, if_pos h]
theorem t_two {ρ ρ2 : Lo} {i j : Nat} {d e : D} (h : notLent ρ[i]? = true) (h' : notLent (ρ.set i (.val d))[j]? = true) (h3 : (ρ.set i (.val d)).set j (.val e) = ρ2) : tgSet (.many [i, j]) (.tup [d, e]) ρ = some ρ2 := by
  subst h3
  simp only [tgSet, setVs, setV, if_pos h, if_pos h', Option.bind_some]
theorem i_pos {α : Type} {b : Bool} {x y z : α} (h : b = true) (h2 : x = z) : (if b = true then x else y) = z := by rw [if_pos h]; exact h2
theorem i_neg {α : Type} {b : Bool} {x y z : α} (h : b = false) (h2 : y = z) : (if b = true then x else y) = z := by rw [if_neg (by rw [h]; exact Bool.false_ne_true)]; exact h2
theorem s_z {α : Type} {a b : α} {l r : List α} (h : b :: l = r) : (a :: l).set 0 b = r := h
theorem s_s {α : Type} {a b : α} {l l' r : List α} {n : Nat} (h : l.set n b = l') (h2 : a :: l' = r) : (a :: l).set (n + 1) b = r := by subst h h2; rfl
/-- a call with lent lists -/
theorem l_call {ρ ρ1 ρ2 ρ3 : Lo} {av : AvF} {rs : List R} {n : Nat} {c : CF} {io : List Bool} {ps : List PArg} {ss outs : List Sl} {r : R} (h1 : av ρ = some (rs, ρ1)) (h2 : rs.length = n) (h3 : prep ρ1 io rs = some (ps, ρ2)) (h4 : nodupN (lentOf ρ2 ps) = true) (h5 : pslots ρ2 ps = some ss) (h6 : c ss = some (r, outs)) (h7 : ∀ j, r ≠ .ali j) (h8 : outs.length = ss.length) (h9 : putBack ρ2 ps outs = ρ3)
    : evCallN n c io av ρ = some (r, ρ3) := by
  subst h9
  exact r_call h1 h2 h3 (nodupN_ok h4) h5 h6 ⟨h7 0, h8, h7⟩
/-! whiles -/
theorem last_of {xs : List D} {d : D} : (xs ++ [d])[(xs ++ [d]).length - 1]? = some d := by simp
theorem r_popL {i : Nat} {ρ : Lo} {b : Bool} {ds xs : List D} {d : D} {ρ2 : Lo} (h1 : ρ[i]? = some (.own b ds)) (h2 : ds = xs ++ [d]) (h3 : ρ.set i (.own b xs) = ρ2) : evPop i ρ = some (.val d, ρ2) := by
  subst h2 h3
  have q := r_pop h1 last_of
  rwa [List.dropLast_concat] at q
theorem r_appL {i : Nat} {ρ ρ1 ρ2 : Lo} {av : AvF} {rs : List R} {b b1 : Bool} {es ds : List D} {d : D} (h0 : ρ[i]? = some (.own b1 es)) (h1 : av ρ = some (rs, ρ1)) (h2 : ValsR rs [d]) (h3 : ρ1[i]? = some (.own b ds)) (h4 : ds.length < lim) (h5 : ρ1.set i (.own b (ds ++ [d])) = ρ2) : evAppend i av ρ = some (.val .non, ρ2) := by
  subst h5
  exact r_append h0 h1 h2.ret h3 h4
theorem r_extL {i : Nat} {ρ ρ1 ρ2 : Lo} {av : AvF} {rs : List R} {b b1 : Bool} {es ds qs : List D} (h0 : ρ[i]? = some (.own b1 qs)) (h1 : av ρ = some (rs, ρ1)) (h2 : derefs ρ1 rs = some [.lst es]) (h3 : ρ1[i]? = some (.own b ds)) (h4 : ds.length + es.length ≤ lim) (h5 : ρ1.set i (.own b (ds ++ es)) = ρ2) : evExtend i av ρ = some (.val .non, ρ2) := by
  subst h5
  exact r_extend h0 h1 h2 h3 h4
theorem l_item {ρ ρ1 ρ2 ρ3 ρ4 : Lo} {f g : EvF} {r1 r2 : R} {k j : Nat} {p : Int} {qs es es' : List D} {b0 b1 : Bool} {d : D} (h1 : g ρ = some (r1, ρ1)) (h2 : ρ1[k]? = some (.own b0 qs)) (h3 : f ρ1 = some (r2, ρ2)) (h4 : deref ρ2 r2 = some (.int p)) (h5 : retain1 ρ2 r1 = some (d, ρ3)) (h6 : ρ3[k]? = some (.own b1 es)) (h7 : ixN es.length p = some j) (h8 : es.set j d = es') (h9 : ρ3.set k (.own b1 es') = ρ4) : sfItem k f g ρ = some (.nx, ρ4) := by
  subst h8 h9
  exact r_item h1 h2 h3 h4 h5 h6 h7
/-! a def's run -/
theorem r_cfR {n : Nat} {sf : SF} {ss ρ0 ρ1 ρ2 outs : List Sl} {r r' : R} (h0 : ss ++ List.replicate (n - ss.length) .emp = ρ0) (h1 : sf ρ0 = some (.rt r, ρ1)) (h2 : finR ρ1 r = some (r', ρ2)) (h3 : maskL ss ρ2 = outs) : cfOf n sf ss = some (r', outs) := by
  subst h0 h3
  simp only [cfOf, h1, h2, Option.bind_some, Option.map_some]
/-! operations with conditions -/
theorem b_mul {i j : Int} (h : i.natAbs.log2 + j.natAbs.log2 < 1000000) : binD .Mult (.int i) (.int j) = some (.val (.int (i * j))) := if_pos h
theorem b_mod {i j : Int} (h : 0 < j) : binD .Mod (.int i) (.int j) = some (.val (.int (i % j))) := if_pos h
theorem b_fdiv {i j : Int} (h : 0 < j ∧ j.natAbs.log2 < 9000) : binD .FloorDiv (.int i) (.int j) = some (.val (.int (i / j))) := if_pos h
theorem b_pow {i j : Int} (h : 0 ≤ j ∧ (Builtin.Int.intBits i : Int) * j ≤ 2 ^ 27) : binD .Pow (.int i) (.int j) = some (.val (.int (i ^ j.toNat))) := if_pos h
theorem log2_small {n k : Nat} (h : n < 2 ^ (k + 1)) : n.log2 < k + 1 := by
  by_cases z : n = 0
  · subst z; simp
  · exact (Nat.log2_lt z).mpr h
end RF
set_option maxHeartbeats 1000000
/-! RF15: the law's end: its promise at the script, defs from the head's facts. -/
namespace RF
open PySem PySem.Spec PyProof.Rows L2
theorem sp_law {K : PySem.W.Frag} {cf : CF} {n : Nat} {E : XK} (hc : ∀ ns : List Int, ns.length ≤ n → cf [.val (.scr ns)] = some (.val (.bl true), [.emp])) (H : Hp) (a : Addr) (ns : List Int) (hl : ns.length ≤ n) (hT : LamX.Tabs (TbK K) H) (hS : SqL K H a (ns.map V.int)) : spF K 1 cf [.ref a] H (fun v _ => v = .bl true) E := by
  have hs : ScrAt K (MA (fun _ => False) [none]) H a ns := by
    rcases hS with (h | ⟨o, h⟩) | h
    · exact .inl ⟨h, fun m => m.elim id fun m => by cases (List.mem_singleton.mp m)⟩
    · exact .inr (.inl ⟨o, h⟩)
    · exact .inr (.inr h)
  refine ⟨rfl, (fun _ => False), (fun _ => none), [.val (.scr ns)], [none], _, _, hc ns hl, ?_, fun j b e => ?_, fun v H' _ o => ?_⟩
  · refine ⟨rfl, rfl, fun i s ov oa h1 h2 h3 => ?_, fun i j b h1 h2 => ?_, fun b m => m.elim, fun b m => m.elim, (fun j b e => by cases e), hT⟩
    · cases i with
      | zero =>
        cases h1; cases h2; cases h3
        exact ⟨rfl, _, rfl, by simp only [Rep]; exact ⟨a, rfl, hs⟩⟩
      | succ i => cases h1
    · cases i with
      | zero => cases h1
      | succ i => cases h1
  · cases j with
    | zero => cases e
    | succ j => cases e
  · have q : Rep K (MA (fun _ => False) [none]) H' (.bl true) v := o.2
    simpa only [Rep] using q
section
variable {K : PySem.W.Frag} {mg : Str → Option Value} {x : Str} {st : Stmt} {f : Addr} {fd : FuncData}
/-- a def as the head tells it -/
abbrev FdP (K : PySem.W.Frag) (x : Str) (st : Stmt) (f : Addr) (fd : FuncData) : Prop := FunD K x x (C8.fnArgs st) (C8.fnBody st) (C8.fnScope st) [] [] f fd
theorem def_of (D : FdP K x st f fd) (hm : mg x = some (.ref f)) : C8.Def K mg x st f fd := by
  refine ⟨⟨?_⟩, hm, D.kp⟩
  obtain ⟨oc, od, dV, kV, doc, pm, an, cdv, ct, osl, e1, e2, e3, _, _⟩ := D.ex
  exact ⟨oc, od, dV, kV, doc, pm, an, cdv, ct, osl, e1, e2, e3⟩
end
end RF
set_option maxHeartbeats 1000000
/-! RF16: functions made by a lambda: what they do when called later, by whomever. -/
namespace RF
open PySem PySem.Spec PyProof.Rows L2
/-- what stood at (s, H) under the frames l, known to nobody, stands so at (s', H') under l' -/
def Later (s : Shared) (H : Hp) (l : List Env) (s' : Shared) (H' : Hp) (l' : List Env) : Prop :=
  ∀ b o, s.heap.get? b = some o → H b = none → b ∉ frs l → s'.heap.get? b = some o ∧ H' b = none ∧ b ∉ frs l'
theorem Later.refl {s : Shared} {H : Hp} {l : List Env} : Later s H l s H l := fun _ _ e n m => ⟨e, n, m⟩
theorem Later.trans {s s1 s2 : Shared} {H H1 H2 : Hp} {l l1 l2 : List Env} (a : Later s H l s1 H1 l1) (b : Later s1 H1 l1 s2 H2 l2) : Later s H l s2 H2 l2 := fun c o e n m =>
  let ⟨e1, n1, m1⟩ := a c o e n m
  b c o e1 n1 m1
/-- a body of a def, as it runs -/
structure Plain (X : Cx) : Prop where
  hs : X.stack = X.env :: X.outer
  hf : X.env.frame = some X.env.locals
  hex : X.ex = []
theorem Later.of {X : Cx} {pins : List (Addr × Obj)} {σ : L2.St} {H : Hp} {s : Shared} (p : Plain X) (I : Inv X pins σ H s) : Later X.s_0 X.H_0 X.outer s H X.stack := fun b o e n m => by
  have nx : b ∉ X.ex := by rw [p.hex]; simp
  refine ⟨I.base.keep b o e n m nx, I.base.free b o e n nx, fun z => ?_⟩
  rw [p.hs] at z
  obtain ⟨env, h1, h2⟩ := List.mem_filterMap.mp z
  rcases List.mem_cons.mp h1 with h1 | h1
  · subst h1
    rw [p.hf] at h2
    cases h2
    exact absurd (Nat.lt_of_lt_of_le (Heap.lt_size e) I.ok.above) (Nat.lt_irrefl _)
  · exact m (List.mem_filterMap.mpr ⟨env, h1, h2⟩)
/-- the function at f, known at (s, H), keeps the promise sp whenever it is called later -/
structure CloOk (P : Program) (w : World) (K : PySem.W.Frag) (mg : Str → Option Value) (base : Heap) (CX : CXT) (k : Nat) (sp : Sp) (f : Addr) (F : LF) (s : Shared) (H : Hp) (l : List Env) : Prop where
  fn : ∀ s' H' l', Later s H l s' H' l' → PySem.W.FnAt f s'.heap
  run : ∀ (A : Around) (outer : List Env) (s' : Shared) (H' : Hp) (us : List Value) (vs : List V) (Q : VK) (E : XK), Later s H l s' H' outer → H' F.c = some (LamX.CodeO F.c F.qual) → Room k A → Env0 P w K mg base A outer s' H' → Vals vs us → sp vs H' Q E →
    codeAny (model P w) A (.call (.ref f) ⟨us, []⟩) (CR CX outer P w H' s' Q E) s'
section
variable {P : Program} {w : World} {K : PySem.W.Frag} {mg : Str → Option Value} {base : Heap} {CX : CXT} {j k : Nat} {sp : Sp} {f : Addr} {F : LF} {s s1 : Shared} {H H1 : Hp} {l l1 : List Env}
abbrev nfOf (F : LF) : NdefX.NF := ⟨"<lambda>", F.qual, F.params, [], F.scope, F.cl, F.c⟩
theorem cells_later {cl : List (Str × Addr)} {fr : List Str} {ws : List (Option V)} (C : NdefX.CellsAt cl fr ws s.heap H) (nf : ∀ y c, cl.lookup y = some c → c ∉ frs l) (t : Later s H l s1 H1 l1) : NdefX.CellsAt cl fr ws s1.heap H1 := by
  have kp : ∀ y c, cl.lookup y = some c → ∀ v, s.heap.IsCell c v → s1.heap.IsCell c v ∧ H1 c = none := fun y c e v ⟨o, ho, hd⟩ =>
    let q := t c o ho (C.all y c e).1 (nf y c e)
    ⟨⟨o, q.1, hd⟩, q.2.1⟩
  refine ⟨C.len, fun y c e => ?_, C.inj, fun i y e => ?_⟩
  · obtain ⟨_, v, z⟩ := C.all y c e
    exact ⟨(kp y c e v z).2, v, (kp y c e v z).1⟩
  · obtain ⟨c, hc, hv⟩ := C.has i y e
    refine ⟨c, hc, fun v ev => ?_⟩
    obtain ⟨u, r, z⟩ := hv v ev
    exact ⟨u, r, (kp y c hc _ z).1⟩
/-- a lambda by its body -/
theorem clo_of {N ps fr : List Str} {ws : List (Option V)} {pm ctv : Value} (S : NdefX.NScope N ps fr F.scope) (hb : ∀ (us : List Value), us.length = ps.length → bindArgs (PySem.W.kla_fn "<lambda>" F.qual F.params F.body F.scope F.cl pm (.ref F.c) ctv) ⟨us, []⟩ = pure (ps.zip us))
    (ho : s.heap.get? f = some (PySem.W.kla_obj "<lambda>" F.qual F.params F.body F.scope F.cl pm F.c ctv)) (hn : H f = none) (hfr : f ∉ frs l) (C : NdefX.CellsAt F.cl fr ws s.heap H) (nf : ∀ y c, F.cl.lookup y = some c → c ∉ frs l) (len : ∀ vs H Q E, sp vs H Q E → vs.length = ps.length)
    (hbody : ∀ (A : Around) (outer : List Env) (s : Shared) (H : Hp) (vs : List V) (Q : VK) (E : XK), Room k (A.deeper (NdefX.envF (nfOf F) f s.heap.objs.size)) → sp vs H Q E → ∃ t, PE (NdefX.ncx CX P w K mg base N (nfOf F) f A outer s H E) F.body t ∧ t (NdefX.startF N vs ws) H Q) :
    CloOk P w K mg base CX (k + 1) sp f F s H l := by
  refine ⟨fun s' H' l' t => ⟨_, _, _, _, (t f _ ho hn hfr).1⟩, fun A outer s' H' us vs Q E t hc hr e0 r hsp => ?_⟩
  have hl := len _ _ _ _ hsp
  have of1 := (t f _ ho hn hfr).1
  have C' := cells_later C nf t
  obtain ⟨⟨oc, ws', tt, hoc, hdc, hvc⟩, _, _⟩ := e0.hok F.c _ hc
  have lim : s'.heap.NoLimit := e0.mod.nolimit.keeps fun b o e => (e0.bs b o e).1
  refine PySem.W.kla_callFunE hr.depth of1 rfl S.co S.gen rfl ⟨F.c, oc, ws', tt, rfl, hoc, hdc, hvc⟩ ?_
  rw [hb us (by rw [← r.length]; exact hl)]
  refine wpAny_pure (wpAny_newFunctionEnv S.nocell (fun ⟨n, _⟩ hy => S.par n (List.of_mem_zip hy).1) (fun h₁ hns hsb => ⟨lim.fresh _ hsb, ?_⟩) S.kind)
  show codeAny _ _ (.expr F.body (NdefX.envF (nfOf F) f s'.heap.objs.size)) _ _
  have kp : ∀ b o, s'.heap.get? b = some o → h₁.get? b = some o := fun b o e => hsb.extBut b o (Nat.ne_of_lt (Heap.lt_size e)) (Heap.get?_push_of_some _ e)
  obtain ⟨tb, ht, hq⟩ := hbody A outer s' H' vs Q E (hr.deeper _) hsp
  have J : Inv (NdefX.ncx CX P w K mg base N (nfOf F) f A outer s' H' E) [] (NdefX.startF N vs ws) H' { s' with heap := h₁, toks := s'.toks + (ps.zip us).length } := NdefX.inv_startN S hr.hd e0 hl r C' hns kp
  refine PySem.W.kla_codeExpr (wpAny_mono (ht.run [] _ (NdefX.startF N vs ws) H' Q J hq) (fun v s2 h2 => ?_) fun e s2 h2 => h2)
  obtain ⟨v', H2, J2, rv, q⟩ := h2
  exact ⟨v', H2, J2.os, J2.bare, J2.base, J2.hok, rv, q⟩
end
section
variable {X : Cx} {CX : CXT} {i j k : Nat} {sp : Sp} {f : Addr} {F : LF} {x : Str} {E : L2.St → XK} {t : TA} {e : Expr} {es : List Expr} {p pos : Pos}
theorem run_clo {pins : List (Addr × Obj)} {σ : L2.St} {H : Hp} {s : Shared} {Q : VK} {us : List Value} {vs : List V} (C : CloOk X.prog X.w X.K X.mg X.base CX k sp f F X.s_0 X.H_0 X.outer) (pl : Plain X) (hr : Room j X.A) (hk : k ≤ j) (hx : PassesAt CX X σ (E σ)) (I : Inv X pins σ H s)
    (hc : H F.c = some (LamX.CodeO F.c F.qual)) (r : Vals vs us) (q : sp vs H Q (E σ)) : wpAny (model X.prog X.w) X.A (call (.ref f) us) (EP X pins σ Q) X.xe s := by
  refine wpAny_call (codeAny_mono (C.run X.A X.stack s H us vs Q (E σ) (Later.of pl I) hc (hr.mono hk) I.env0 r q) fun r s' hq => ?_)
  cases r with
  | error e => exact hx pins H s e s' I hq
  | ok fl => cases fl with
    | ret u => exact I.after hq
    | next => exact False.elim hq
    | brk => exact False.elim hq
    | cont => exact False.elim hq
/-- a name that holds the function f, called -/
def tClo (i : Nat) (f : Addr) (F : LF) (sp : Sp) (E : L2.St → XK) (t : TA) : TE := fun σ H Q => σ[i]? = some (some (.ref f)) ∧ t σ H fun vs H1 => H1 F.c = some (LamX.CodeO F.c F.qual) ∧ sp vs H1 Q (E σ)
theorem pe_clo0 (C : CloOk X.prog X.w X.K X.mg X.base CX k sp f F X.s_0 X.H_0 X.outer) (pl : Plain X) (hr : Room j X.A) (hk : k ≤ j) (hx : ∀ σ, PassesAt CX X σ (E σ)) (hN : X.N[i]? = some x) (hv : Vis X.env.scope x)
    (hd : (x == ("__debug__" : Str)) = false) (hcd : (x == ("__classdict__" : Str)) = false) : PE X (.Call (.Name x p) [] [] pos) (tClo i f F sp E tNil) := by
  refine ⟨fun pins s σ H Q I h => ?_⟩
  obtain ⟨hs, h2, q⟩ := h
  refine wpAny_Call_Name_kw (thn ((pe_var (pos := p) hN hv hd hcd).run pins s σ H (fun v H1 => v = .ref f ∧ H1 = H) I ⟨.ref f, hs, rfl, rfl⟩) fun u s1 ⟨v, H1, I1, r1, q1⟩ => ?_)
  obtain ⟨ev, eH⟩ := q1
  subst ev eH
  obtain rfl : u = Value.ref f := r1
  refine PySem.W.callWith_F0 (first := []) (C.fn s1 H1 X.stack (Later.of pl I1)) ?_
  exact run_clo C pl hr hk (hx σ) I1 h2 .nil q
end
end RF
set_option maxHeartbeats 1000000
/-! RF17: promises with what may be raised, functions handed in. -/
namespace RF
open PySem PySem.Spec PyProof.Rows L2
/-! ### what is raised -/
/-- the class by its name, what it keeps -/
structure Xc where
  cls : Str
  pay : Option (Str × D)
def XOut (K : PySem.W.Frag) (M : Addr → Prop) (H : Hp) (x : Xc) (cls : Value) (d : Option Addr) : Prop :=
  cls = .ref (He.ga K x.cls) ∧ match x.pay with
    | none => d = none
    | some (a, p) => ∃ dd v, d = some dd ∧ H dd = some (.xd [(a, v)]) ∧ ¬ M dd ∧ Rep K M H p v
abbrev CFX := List Sl → Option (Sum R Xc × List Sl)
def upX (cf : CF) : CFX := fun ss => (cf ss).map fun p => (.inl p.1, p.2)
/-- a promise; caps: what stands in the cells ws besides -/
def spX (K : PySem.W.Frag) (n : Nat) (cf : CFX) (caps : List D) (ws : List V) : Sp := fun vs H Q E => vs.length = n ∧ ∃ M B ss A y outs, cf ss = some (y, outs) ∧ RSt K M B ss A (vs.map some) H ∧ (∀ (j : Nat) (a : Addr), A[j]? = some (some a) → B j = some a) ∧ Reps K (MA M A) H caps ws ∧
  (∀ r, y = .inl r → ∀ v H', Step A H H' A → Out K M B outs A (vs.map some) H H' r v → Q v H') ∧
  (∀ x, y = .inr x → ∀ cls d H', Step A H H' A → RSt K M B outs A (vs.map some) H' → XOut K (MA M A) H' x cls d → E cls d H')
def evCallRX (cf : CFX) (io : List Bool) (p : List R × Lo) : Option (Sum R Xc × Lo) :=
  (prep p.2 io p.1).bind fun q => if (lentOf q.2 q.1).Nodup then (pslots q.2 q.1).bind fun ss => (cf ss).bind fun o => match o.1 with
    | .inl (.ali _) => none
    | y => if o.2.length = ss.length then some (y, putBack q.2 q.1 o.2) else none
  else none
section
variable {K : PySem.W.Frag} {M : Addr → Prop} {B : Nat → Option Addr} {ρ ρ' : Lo} {A : As} {σ : L2.St} {H : Hp} {cf : CFX} {io : List Bool} {rs : List R} {vs : List V} {y : Sum R Xc} {n : Nat} {Q : VK} {E : XK} {caps : List D} {ws : List V}
theorem call_okX (hl : vs.length = n) (S : RSt K M B ρ A σ H) (a : Args K M A σ H rs vs) (h : evCallRX cf io (rs, ρ) = some (y, ρ')) (hc : Reps K (MA M A) H caps ws)
    (k : ∀ r, y = .inl r → ∀ v H' A', Step A H H' A' → Out K M B ρ' A' σ H H' r v → Q v H') (kx : ∀ x, y = .inr x → ∀ cls d H' A', Step A H H' A' → RSt K M B ρ' A' σ H' → XOut K (MA M A') H' x cls d → E cls d H') : spX K n cf caps ws vs H Q E := by
  obtain ⟨⟨ps, ρ2⟩, h1, h⟩ := bind_some h
  dsimp only at h
  split at h
  · rename_i hn
    obtain ⟨ss, h2, h⟩ := bind_some h
    obtain ⟨⟨y1, outs⟩, h3, h⟩ := bind_some h
    obtain ⟨A2, s2, S2, r2⟩ := prep_ok S a h1
    obtain ⟨Sc, hb⟩ := callee_state S2 r2 h2 hn
    have hsub : ∀ c, some c ∈ lentA ρ2 A2 ps → some c ∈ A2 := fun c => lentA_sub
    have lenY : ∀ z : Sum R Xc, (match z with
        | .inl (.ali _) => none
        | y => if outs.length = ss.length then some (y, putBack ρ2 ps outs) else none) = some (y, ρ') → z = y ∧ outs.length = ss.length ∧ putBack ρ2 ps outs = ρ' ∧ ∀ i, z ≠ .inl (.ali i) := fun z e => by
      split at e
      · cases e
      · rename_i hz
        split at e
        · rename_i hlen
          cases e
          exact ⟨rfl, hlen, rfl, hz⟩
        · cases e
    obtain ⟨ey, hlen, eρ, hz⟩ := lenY y1 h
    subst ey eρ
    have stpOf : ∀ {H' : Hp}, Step (lentA ρ2 A2 ps) H H' (lentA ρ2 A2 ps) → Step A2 H H' A2 := fun st => ⟨fun c o' e n nt => st.keep c o' e (fun m => n (hsub c m)) nt, fun c m => .inl m, st.trk⟩
    have back : ∀ {H' : Hp} c, MA M A2 c → MA (Mc M A2 (lentA ρ2 A2 ps)) (lentA ρ2 A2 ps) c := fun c m => (mc_iff hsub c).mpr m
    refine ⟨hl, _, _, ss, _, y1, outs, h3, Sc, hb, (S.reps s2 hc).mono fun c m => (mc_iff hsub c).mp m, fun r er v H' st o => ?_, fun x ex cls d H' st So o => ?_⟩
    · subst er
      have stp := stpOf st
      cases r with
      | ali i => exact absurd rfl (hz i)
      | val d =>
        have So := o.1
        refine k _ rfl v H' A2 (s2.trans stp) ⟨caller_state S2 r2 h2 hn hlen st So (fun c m => .inl m) (fun c m => ?_) (fun c m => (mc_iff hsub c).mpr m), o.2.mono fun c m => (mc_iff hsub c).mpr m⟩
        exact (S2.mtr c m).mk fun o e nt => stp.keep c _ e (S2.mt c m) nt
      | fresh ds =>
        obtain ⟨p, us, e1, e2, e3, e4, So, e6⟩ := o
        have h3' : ∀ c, MA (M1 M p) A2 c → MA (M1 (Mc M A2 (lentA ρ2 A2 ps)) p) (lentA ρ2 A2 ps) c := fun c m => by
          rcases m with (m | m) | m
          · rcases (mc_iff hsub c).mpr (.inl m) with q | q
            · exact .inl (.inl q)
            · exact .inr q
          · exact .inl (.inr m)
          · rcases (mc_iff hsub c).mpr (.inr m) with q | q
            · exact .inl (.inl q)
            · exact .inr q
        refine k _ rfl v H' A2 (s2.trans stp) ⟨p, us, e1, e2, fun m => ?_, e4, caller_state S2 r2 h2 hn hlen st So (fun c m => ?_) (fun c m => ?_) h3', e6.mono h3'⟩
        · exact (S2.mtr p m).none e2
        · rcases m with m | m
          · exact .inl m
          · subst m; exact .inr e2
        · rcases m with m | m
          · exact (S2.mtr c m).mk fun o e nt => stp.keep c _ e (S2.mt c m) nt
          · subst m; exact .inl ⟨_, e4⟩
    · subst ex
      have stp := stpOf st
      refine kx _ rfl cls d H' A2 (s2.trans stp) (caller_state S2 r2 h2 hn hlen st So (fun c m => .inl m) (fun c m => ?_) (fun c m => (mc_iff hsub c).mpr m)) ?_
      · exact (S2.mtr c m).mk fun o e nt => stp.keep c _ e (S2.mt c m) nt
      · refine ⟨o.1, ?_⟩
        have o2 := o.2
        cases e : x.pay with
        | none => rw [e] at o2; exact o2
        | some q =>
          obtain ⟨a1, p1⟩ := q
          rw [e] at o2
          obtain ⟨dd, v, g1, g2, g3, g4⟩ := o2
          exact ⟨dd, v, g1, g2, fun m => g3 ((mc_iff hsub dd).mpr m), g4.mono fun c m => (mc_iff hsub c).mpr m⟩
  · cases h
/-- .. behind other slots: the captured ones -/
theorem RSt.capt {ss : Lo} (S : RSt K M B ss A σ H) : ∀ {caps : List D} {ws : List V}, Reps K (MA M A) H caps ws → RSt K M B (ss ++ caps.map .val) (A ++ List.replicate caps.length none) (σ ++ ws.map some) H := by
  intro caps ws hc
  have memA : ∀ c, some c ∈ A ++ List.replicate caps.length (none : Option Addr) → some c ∈ A := fun c m => by
    rcases List.mem_append.mp m with m | m
    · exact m
    · cases (List.mem_replicate.mp m).2
  have lt : ∀ (i : Nat) c, (A ++ List.replicate caps.length (none : Option Addr))[i]? = some (some c) → A[i]? = some (some c) := fun i c e => by
    by_cases h : i < A.length
    · rwa [List.getElem?_append_left h] at e
    · rw [List.getElem?_append_right (by omega), List.getElem?_replicate] at e
      split at e <;> cases e
  have hm : ∀ a, MA M (A ++ List.replicate caps.length (none : Option Addr)) a → MA M A a := fun a m => m.elim .inl fun m => .inr (memA a m)
  refine ⟨by simp [S.l1], by simp [S.l2, hc.length], fun i s ov oa h1 h2 h3 => ?_, fun i j a h1 h2 => S.inj i j a (lt _ _ h1) (lt _ _ h2), fun a m q => S.mt a m (memA a q), S.mtr, fun j a e => ?_, S.tb⟩
  · by_cases h : i < ss.length
    · rw [List.getElem?_append_left h] at h1
      rw [List.getElem?_append_left (by rw [S.l2]; exact h)] at h2
      rw [List.getElem?_append_left (by rw [S.l1]; exact h)] at h3
      exact (S.sl i s ov oa h1 h2 h3).mono hm
    · rw [List.getElem?_append_right (by omega), List.getElem?_map, Option.map_eq_some_iff] at h1
      obtain ⟨d, e1, e2⟩ := h1
      subst e2
      rw [List.getElem?_append_right (by rw [S.l2]; omega), List.getElem?_map, Option.map_eq_some_iff, S.l2] at h2
      obtain ⟨v, e3, e4⟩ := h2
      subst e4
      rw [List.getElem?_append_right (by rw [S.l1]; omega), List.getElem?_replicate] at h3
      split at h3
      · cases h3
        obtain ⟨d', g1, g2⟩ := hc.get e3
        rw [e1] at g1; cases g1
        exact ⟨rfl, v, rfl, g2.mono hm⟩
      · cases h3
  · obtain ⟨q1, ds, q2⟩ := S.bb j a e
    have hj : j < A.length := (List.getElem?_eq_some_iff.mp q1).1
    exact ⟨by rw [List.getElem?_append_left hj]; exact q1, ds, by rw [List.getElem?_append_left (by rw [← S.l1]; exact hj)]; exact q2⟩
/-- what a body gives, as its caller gets it -/
theorem ret_ok {M' : Addr → Prop} {ss ρ1 : Lo} {A' : As} {σ' : L2.St} {H' : Hp} {r0 r1 : R} {v : V} (S : RSt K M B ss A σ H) (hb : ∀ (j : Nat) (a : Addr), A[j]? = some (some a) → B j = some a) (nw : ∀ a, some a ∈ A' → some a ∈ A ∨ H a = none)
    (q : Out K M B ρ' A' σ' H H' r0 v) (h3 : finR ρ' r0 = some (r1, ρ1)) : Out K M B (maskL ss ρ1) A σ H H' r1 v := by
  have sub : ∀ {M' : Addr → Prop}, RSt K M' B ρ' A' σ' H' → ∀ c, MA M' A c → MA M' A' c := fun S' c m => m.elim .inl fun m => .inr (S.subM S' hb c m)
  cases r0 with
  | val d =>
    cases h3
    exact ⟨S.outs q.1 hb, q.2.mono (sub q.1)⟩
  | fresh ds =>
    cases h3
    obtain ⟨a, us, e1, e2, e3, e4, S', rp⟩ := q
    exact ⟨a, us, e1, e2, e3, e4, S.outs S' hb, rp.mono (sub S')⟩
  | ali i =>
    obtain ⟨S', hv⟩ := q
    simp only [finR] at h3
    split at h3
    · rename_i d e
      cases h3
      obtain ⟨v', _, e2, rp⟩ := S'.valued e
      rw [hv] at e2; cases e2
      exact ⟨S.outs S' hb, rp.mono (sub S')⟩
    · rename_i ds e
      cases h3
      obtain ⟨a, us, e1, e2, e3, nM, S2, rp⟩ := S'.release e
      rw [hv] at e2; cases e2
      refine ⟨a, us, rfl, ?_, nM, e3, S.outs S2 hb, rp.mono fun c m => m.elim .inl fun m => .inr (S.subM S2 hb c m)⟩
      have mA : some a ∈ A' := List.mem_of_getElem? e1
      rcases nw a mA with m | m
      · exfalso
        obtain ⟨j, hj, e⟩ := List.getElem_of_mem m
        obtain ⟨f1, f2⟩ := S.sub S' hb j a (by rw [List.getElem?_eq_getElem hj, e])
        have := S'.inj _ _ _ e1 f2
        subst this
        obtain ⟨_, es, f3⟩ := S'.bb i a f1
        cases (show some (Sl.own false ds) = some (Sl.own true es) from (by assumption : ρ'[i]? = some (Sl.own false ds)).symm.trans f3)
      · exact m
    · cases h3
end
/-! ### a lambda's body -/
end RF
set_option maxHeartbeats 1000000
/-! RF18: defs that get a function handed in; a lambda handed in. -/
namespace RF
open PySem PySem.Spec PyProof.Rows L2
/-- a def that gets a function (of nl arguments): cf, by what that does; no exception -/
structure HCl (P : Program) (w : World) (K : PySem.W.Frag) (mg : Str → Option Value) (base : Heap) (lev : Nat → Nat) (x : Str) (n nl : Nat) (cf : Addr → LF → List D → CF → CF) : Prop where
  ex : ∃ f : Addr, mg x = some (.ref f) ∧ PySem.W.keepIn K (.ref f) = true ∧ ∀ (kl : Nat) (led : CF) (g : Addr) (F : LF) (caps : List D) (A : Around) (outer : List Env) (s : Shared) (H : Hp) (us : List Value) (vs : List V) (Q : VK) (E : XK),
    CloOk P w K mg base C8.CX0 kl (spX K nl (upX led) caps F.ws) g F s H outer → Room (lev kl) A → Env0 P w K mg base A outer s H → Vals vs us → spF K n (cf g F caps led) vs H Q E → codeAny (model P w) A (.call (.ref f) ⟨us, []⟩) (CR C8.CX0 outer P w H s Q E) s
section
variable {P : Program} {w : World} {K : PySem.W.Frag} {mg : Str → Option Value} {base : Heap} {lev : Nat → Nat} {x : Str} {st : Stmt} {f : Addr} {fd : FuncData} {N ps : List Str} {n np nl : Nat}
theorem HCl.none (Df : C8.Def K mg x st f fd) : HCl P w K mg base lev x np nl fun _ _ _ _ _ => none :=
  ⟨f, Df.mgf, Df.kp, fun _ _ _ _ _ _ _ _ _ _ _ _ _ _ _ _ _ q => by obtain ⟨_, _, _, _, _, _, _, e, _⟩ := q; cases e⟩
end
/-! ### calls of what was handed in -/
section
variable {X : Cx} {i j kl n nl : Nat} {g : Addr} {F : LF} {caps : List D} {led : CF} {io : List Bool} {x : Str} {e : Expr} {es : List Expr} {p pos : Pos} {av : AvF} {lev : Nat → Nat} {cf : Addr → LF → List D → CF → CF}
/-- the end of a call -/
theorem call_end {pins : List (Addr × Obj)} {σ : L2.St} {H : Hp} {s : Shared} {Q : VK} {E : XK} {f : Addr} {us : List Value} (I : Inv X pins σ H s) (h : codeAny (model X.prog X.w) X.A (.call (.ref f) ⟨us, []⟩) (CR C8.CX0 X.stack X.prog X.w H s Q E) s) :
    wpAny (model X.prog X.w) X.A (call (.ref f) us) (EP X pins σ Q) X.xe s := by
  refine wpAny_call (codeAny_mono h fun r s' hq => ?_)
  cases r with
  | error e => exact False.elim hq
  | ok fl => cases fl with
    | ret u => exact I.after hq
    | next => exact False.elim hq
    | brk => exact False.elim hq
    | cont => exact False.elim hq
end
/-! ### a lambda handed in, behind one argument -/
def capsOf (ρ : Lo) : List Nat → Option (List D)
  | [] => some []
  | j :: js => match ρ[j]? with
    | some (.val d) => (capsOf ρ js).map fun ds => d :: ds
    | _ => none
theorem caps_ok {K : PySem.W.Frag} {M : Addr → Prop} {B : Nat → Option Addr} {ρ : Lo} {A : As} {σ : L2.St} {H : Hp} (S : RSt K M B ρ A σ H) : ∀ {js : List Nat} {caps : List D}, capsOf ρ js = some caps → ∃ ws, js.map (NdefX.slotAt σ) = ws.map some ∧ Reps K (MA M A) H caps ws
  | [], _, h => by cases h; exact ⟨[], rfl, Reps.nil⟩
  | j :: js, _, h => by
    simp only [capsOf] at h
    split at h
    · rename_i d q
      obtain ⟨ds, h1, h2⟩ := map_some h
      cases h2
      obtain ⟨ws, e1, e2⟩ := caps_ok S h1
      obtain ⟨v, _, q2, q3⟩ := S.valued q
      exact ⟨v :: ws, by simp [e1, NdefX.slotAt_of q2], Reps.cons q3 e2⟩
    · cases h
open Classical in
noncomputable def theY {α : Type} (f : Addr → LF → Option α) : Option α := if h : ∃ y, ∀ g F, f g F = some y then some h.choose else none
theorem theY_ok {α : Type} {f : Addr → LF → Option α} {y : α} (h : theY f = some y) (g : Addr) (F : LF) : f g F = some y := by
  unfold theY at h
  split at h
  · rename_i hx
    cases h
    exact hx.choose_spec g F
  · cases h
theorem theY_of {α : Type} {f : Addr → LF → Option α} {y : α} (h : ∀ g F, f g F = some y) : theY f = some y := by
  have hx : ∃ y, ∀ g F, f g F = some y := ⟨y, h⟩
  unfold theY
  rw [dif_pos hx]
  have q := hx.choose_spec 0 default
  rw [h] at q
  exact q.symm
/-- what a lambda's text must be -/
structure LamT (X : Cx) (c P : Addr) (params : Arguments) (body : Expr) (scope : Scope) (N ps fr : List Str) (js : List Nat) : Prop where
  tb : LamX.TabB X.base X.mg c P
  cd : X.env.code = .ref c
  mT : (P, X.env.qual ++ "<lambda>") ∈ TbK X.K
  un : ∀ p ∈ TbK X.K, p.1 = P → p.2 = X.env.qual ++ "<lambda>"
  df : defaultsOf params X.env = ([], [])
  sc : NdefX.NScope N ps fr scope
  fre : ∀ y ∈ scope.names, y.2 = .free → X.env.scope.names.lookup y.1 = some .cell ∨ X.env.scope.names.lookup y.1 = some .free
  frs : ∀ y ∈ fr, (y, NameKind.free) ∈ scope.names
  js : js.map (fun j => X.N[j]?) = fr.map some
  fn : ∀ y, X.fn y = true
  bnd : ∀ (q : Str) (cl : List (Str × Addr)) (pm cv ctv : Value) (us : List Value), us.length = ps.length → bindArgs (PySem.W.kla_fn "<lambda>" q params body scope cl pm cv ctv) ⟨us, []⟩ = pure (ps.zip us)
theorem cell_nf {X : Cx} {pins : List (Addr × Obj)} {σ : L2.St} {H : Hp} {s : Shared} (pl : Plain X) (I : Inv X pins σ H s) (hfn : ∀ y, X.fn y = true) {y : Str} {c : Addr} (h : X.env.cells.lookup y = some c) : c ∉ frs X.stack := fun z => by
  rw [pl.hs] at z
  obtain ⟨env, h1, h2⟩ := List.mem_filterMap.mp z
  rcases List.mem_cons.mp h1 with h1 | h1
  · subst h1
    rw [pl.hf] at h2
    cases h2
    exact I.cne y _ h rfl
  · obtain ⟨_, o, ho, _⟩ := I.ok.funs.mem (List.mem_filterMap.mpr ⟨env, h1, h2⟩)
    exact absurd (Nat.lt_of_lt_of_le (Heap.lt_size ho) (I.ok.cab y c (hfn y) h)) (Nat.lt_irrefl _)
/-- a lambda is made; nothing that was known is gone -/
theorem lam_new {X : Cx} {pins : List (Addr × Obj)} {σ : L2.St} {H : Hp} {s : Shared} {T : List (Addr × Str)} {c P : Addr} {params : Arguments} {body : Expr} {scope : Scope} {pos : Pos} {E Q : Value → Shared → Prop} (I : Inv X pins σ H s) (tb : LamX.TabB X.base X.mg c P) (cd : X.env.code = .ref c)
    (mT : (P, X.env.qual ++ "<lambda>") ∈ T) (un : ∀ p ∈ T, p.1 = P → p.2 = X.env.qual ++ "<lambda>") (hT : LamX.Tabs T H) (df : defaultsOf params X.env = ([], [])) (fre : ∀ y ∈ scope.names, y.2 = .free → ∃ c, X.env.cells.lookup y.1 = some c)
    (go : ∀ (g c' : Addr) (pm ctv : Value) (H1 : Hp) (s' : Shared), Inv X pins σ H1 s' → LamX.ExtN H H1 → (∀ a, H1 a = none → H a = none) → LamX.Tabs T H1 →
      s'.heap.get? g = some (PySem.W.kla_obj "<lambda>" (X.env.qual ++ "<lambda>") params body scope (cloFrom X.env.cells scope.names []) pm c' ctv) → H1 g = none → g ∉ frs X.stack → H1 c' = some (LamX.CodeO c' (X.env.qual ++ "<lambda>")) → Q (.ref g) s') :
    wpAny (model X.prog X.w) X.A (eval (.Lambda params body scope pos) X.env) Q E s := by
  obtain ⟨rows, atP, tri, tell⟩ := hT _ mT
  have objP : s.heap.get? P = some { cls := .none, data := .fields rows } := I.hok P _ atP
  have noF : ∀ g, s.heap.objs.size ≤ g → g ∉ frs X.stack := fun g hg z => (List.mem_cons.mp (I.stkSub g z)).elim
    (fun e => absurd (Nat.lt_of_le_of_lt hg (by have q := I.lt; rw [← e] at q; exact q)) (Nat.lt_irrefl _)) fun e => I.nofs hg e
  refine PySem.W.kla_eval df ?_
  cases found : codeAmong pos rows.toList with
  | some cv =>
    obtain ⟨c', e, known⟩ := tell pos cv found
    subst e
    refine PySem.W.kla_makeFunctionHit (mg := X.mg) (c := c) (P := P) (ps := rows) (closure_ok fre) I.ok.glob (I.mod.glob.keeps I.bk) cd (tb.code.keeps I.bk) objP tri found (tb.bm.keeps I.bk) fun ctv h' tk hx hsz => ?_
    have J : Inv X pins σ H { s with heap := h'.push (PySem.W.kla_obj "<lambda>" (X.env.qual ++ "<lambda>") params body scope (cloFrom X.env.cells scope.names []) ((X.mg "__name__").getD .none) c' ctv), toks := tk } := I.kept fun b o q => Heap.get?_push_of_some _ (hx b o q)
    exact go _ c' _ ctv H _ J (LamX.ExtN.refl H) (fun _ q => q) hT (Heap.get?_push_size _ rfl) (I.hok.fresh hsz) (noF _ hsz) known
  | none =>
    refine PySem.W.kla_makeFunction (mg := X.mg) (c := c) (P := P) (ps := rows) (closure_ok fre) I.ok.glob (I.mod.glob.keeps I.bk) cd (tb.code.keeps I.bk) objP tri found tb.gP (tb.bm.keeps I.bk) fun c' ctv h' tk hx hge hlt made htb => ?_
    obtain ⟨c2, oc, vs, t, e2, hoc, hdc, hvc⟩ := made
    cases e2
    have big : s.heap.objs.size ≤ h'.objs.size := Nat.le_trans hge (Nat.le_of_lt hlt)
    have newC : H c' = none := I.hok.fresh hge
    have PneC : P ≠ c' := ne_of_none atP newC
    have J := LamX.inv_table (t' := tk) (more := #[rawInt pos.line, rawInt pos.col, .ref c']) (h' := h'.push (PySem.W.kla_obj "<lambda>" (X.env.qual ++ "<lambda>") params body scope (cloFrom X.env.cells scope.names []) ((X.mg "__name__").getD .none) c' ctv)) I atP
      (fun b o hb q => Heap.get?_push_of_some _ (hx b o hb q)) (Heap.get?_push_of_some _ htb) hge ⟨oc, vs, t, Heap.get?_push_of_some _ hoc, hdc, hvc⟩
    have kept : LamX.ExtN H (upd (upd H P (.tbl (rows ++ #[rawInt pos.line, rawInt pos.col, .ref c']))) c' (LamX.CodeO c' (X.env.qual ++ "<lambda>"))) := fun b o q nt => by
      have b1 : b ≠ c' := ne_of_none q newC
      have b2 : b ≠ P := fun z => nt rows (by rw [z, atP] at q; exact (Option.some.inj q).symm)
      rw [upd_ne b1, upd_ne b2]; exact q
    have longer : (rows ++ #[rawInt pos.line, rawInt pos.col, .ref c']).toList = rows.toList ++ [rawInt pos.line, rawInt pos.col, .ref c'] := by simp
    refine go h'.objs.size c' _ ctv _ _ J kept (fun a q => ?_) (fun p hp => ?_) (Heap.get?_push_size _ rfl) ?_ (noF _ big) upd_same
    · exact NdefX.upd_none (NdefX.upd_none q)
    · by_cases hb : p.1 = P
      · refine ⟨rows ++ #[rawInt pos.line, rawInt pos.col, .ref c'], by rw [hb, upd_ne PneC, upd_same], by rw [longer]; exact PySem.TriplesOk_snoc _ _ _ _ tri, fun p' cv q => ?_⟩
        rw [longer] at q
        rcases LamX.among_app _ tri q with z | z
        · obtain ⟨c0, x1, x2⟩ := tell p' cv z
          exact ⟨c0, x1, by rw [un p hp hb]; exact kept _ _ x2 LamX.codeO_ne⟩
        · exact ⟨c', z, by rw [un p hp hb]; exact upd_same⟩
      · obtain ⟨rows2, x1, x2, x3⟩ := hT p hp
        refine ⟨rows2, by rw [upd_ne (ne_of_none x1 newC), upd_ne hb]; exact x1, x2, fun p' cv q => ?_⟩
        obtain ⟨c0, y1, y2⟩ := x3 p' cv q
        exact ⟨c0, y1, kept _ _ y2 LamX.codeO_ne⟩
    · have n1 : h'.objs.size ≠ c' := (Nat.ne_of_lt hlt).symm
      have n2 : h'.objs.size ≠ P := (Nat.ne_of_lt (Nat.lt_of_lt_of_le (Heap.lt_size objP) big)).symm
      rw [upd_ne n1, upd_ne n2]
      exact I.hok.fresh big
end RF
set_option maxHeartbeats 1000000
/-! RF19: own dicts with tuples of ints as keys; ranges with a step; a def whose code object is known. -/
namespace RF
open PySem PySem.Spec PyProof.Rows L2
/-! ### a def whose code object is known -/
end RF
set_option maxHeartbeats 1000000
/-! RF20: names in a lambda's body; small words for the printed texts. -/
namespace RF
open PySem PySem.Spec PyProof.Rows L2
section
variable {CX : CXT} {P : Program} {w : World} {K : PySem.W.Frag} {mg : Str → Option Value} {base : Heap} {N : List Str} {q : Str} {params : Arguments} {body : Expr} {scope : Scope} {cl : List (Str × Addr)} {c' : Addr} {ws : List V} {g : Addr} {A : Around} {outer : List Env} {s : Shared} {H : Hp} {E : XK} {x : Str}
theorem lam_gl (h : scope.names.lookup x = some .globalImplicit) : Gl (NdefX.ncx CX P w K mg base N (nfOf ⟨q, params, body, scope, cl, c', ws⟩) g A outer s H E) x := h
theorem lam_fre (h : scope.names.lookup x = some .free) : Vis (NdefX.ncx CX P w K mg base N (nfOf ⟨q, params, body, scope, cl, c', ws⟩) g A outer s H E).env.scope x := .inr (.inr h)
end
theorem mem_tbC {P : Addr} {q a b : Str} (h : q ++ ".<locals>." ++ "<lambda>" = b) (ha : a = q ++ ".<locals>." := by rfl) : (P, a ++ "<lambda>") ∈ [(P, b)] := by rw [ha, h]; exact List.mem_singleton.mpr rfl
theorem un_tbC {P : Addr} {q a b : Str} (h : q ++ ".<locals>." ++ "<lambda>" = b) (ha : a = q ++ ".<locals>." := by rfl) : ∀ p ∈ [(P, b)], p.1 = P → p.2 = a ++ "<lambda>" := fun p m _ => by rw [List.mem_singleton.mp m, ha, h]
end RF
set_option maxHeartbeats 1000000
/-! RF21: several except clauses, with a name or without. -/
namespace RF
open PySem PySem.Spec PyProof.Rows L2
/-- a clause: its class, the slot of its name, what its suite does -/
structure Clause where
  c : Value
  i : Option Nat
  ts : Addr → Value → Option Addr → TS
def inAs : Option Nat → Ends → Ends
  | none, D => D
  | some i, D => ⟨fun σ H => D.nx (σ.set i none) H, D.rt, fun σ H => D.bk (σ.set i none) H, fun σ H => D.ct (σ.set i none) H⟩
def atAs : Option Nat → Addr → L2.St → L2.St
  | none, _, σ => σ
  | some i, a, σ => σ.set i (some (.ref a))
def wMix (K : PySem.W.Frag) (Wo : WX) (D : Ends) : List Clause → WX
  | [] => Wo
  | k :: r => fun cls d σ H => ∃ b, PySem.W.exmOne K cls k.c = some b ∧ (b = true → ∀ a, H a = none → k.ts a cls d (inAs k.i D) (atAs k.i a σ) H) ∧ (b = false → wMix K Wo D r cls d σ H)
/-- what is asked of a suite -/
def SuiteOk (X : Cx) (st : List Stmt) (ts : Addr → Value → Option Addr → TS) : Prop :=
  ∀ (a : Addr) (oe : Obj) (cls : Value) (d : Option Addr) (pn : List (Addr × Obj)), Zc cls d oe → (∃ vs, oe.data = .fields vs) → PSs (X.suite a ((a, oe) :: pn)) st (ts a cls d)
inductive Mix (X : Cx) : List ExceptHandler → List Clause → Prop
  | nil : Mix X [] []
  | one {x : Str} {k : Clause} {b : Stmt} {st : List Stmt} {np q : Pos} {hds : List ExceptHandler} {l : List Clause} (hc : Names X x k.c) (hi : k.i = none) (hsu : SuiteOk X (b :: st) k.ts) (r : Mix X hds l) : Mix X (.ExceptHandler (some (.Name x np)) none (b :: st) q :: hds) (k :: l)
  | as {x n : Str} {k : Clause} {i : Nat} {b : Stmt} {st : List Stmt} {np q : Pos} {hds : List ExceptHandler} {l : List Clause} (hc : Names X x k.c) (hi : k.i = some i) (hN : X.N[i]? = some n) (hln : X.env.kindOf n = some .local) (hsu : SuiteOk X (b :: st) k.ts) (r : Mix X hds l) : Mix X (.ExceptHandler (some (.Name x np)) (some n) (b :: st) q :: hds) (k :: l)
section
variable {X : Cx} {body : List Stmt} {h0 : ExceptHandler} {hds : List ExceptHandler} {l : List Clause} {pos : Pos} {tb : WX → TS} {Wo : WX} {D : Ends}
theorem ps_mix (hs : X.stack = X.env :: X.outer) (hf : X.env.frame = some X.env.locals) (hN : X.N.Nodup) (tk : Takes X Wo)
    (hb : ∀ (W : WX) (pn : List (Addr × Obj)) (xe : Value → Shared → Prop), Takes (X.tr pn xe) W → PassesOwn (model X.prog X.w) X.A X.env xe → PSs (X.tr pn xe) body (tb W))
    (hh : Mix X (h0 :: hds) l) : PS X (.Try body (h0 :: hds) [] [] pos) (fun D σ H => tb (wMix X.K Wo D l) D σ H) := by
  refine ⟨fun pins s σ H D I h => wpAny_Try_except ?_⟩
  have ok := I.ok
  have hfr : X.A.frames = some (X.env :: X.outer) := by rw [ok.frames, hs]
  let act : Value → Shared → Prop := fun e s1 => wpAny (model X.prog X.w) X.A (noteFrame e X.env) (fun _ s2 => wpAny (model X.prog X.w) X.A (setFlight e none) (fun _ s3 => wpAny (model X.prog X.w) X.A (handleBy e X.env (h0 :: hds)) (SP X pins D) X.xe s3) X.xe s2) X.xe s1
  have caught : Takes (X.tr (X.pn ++ pins) act) (wMix X.K Wo D l) := by
    intro u s' xx
    obtain ⟨a, B, sI, pins', τ, G, cls, d, eu, J', nb, up, sky, na, os, ag, wh⟩ := xx
    subst eu
    have J : Inv X pins τ G sI := J'.ofTry ok
    have sk2 : Sky B (X.env :: X.outer) a (Zc cls d) X.env.locals s'.heap := hs ▸ sky
    show wpAny (model X.prog X.w) X.A (noteFrame (.ref a) X.env) _ _ _
    refine sk2.land Zc.steady hfr hf (fun g fl ug => ?_)
    have Jg : Inv X pins τ G { s' with heap := g } := J.landed nb fl.1 (up.trans ug) os ag
    obtain ⟨oe, vs, eg, zg, dg⟩ := fl.there
    have off : a ∉ frs (X.env :: X.outer) := fun hm => by
      obtain ⟨_, o2, e2, z⟩ := fl.2.2.1.mem hm
      exact z _ (by rw [eg] at e2; cases e2; exact dg)
    have nL : a ≠ X.env.locals := fun z => off (List.mem_filterMap.mpr ⟨_, List.mem_cons_self, by rw [hf, z]⟩)
    have nF : a ∉ X.fs := fun hm => by
      obtain ⟨e, he, q⟩ := List.mem_filterMap.mp hm
      exact off (List.mem_filterMap.mpr ⟨e, List.mem_cons_of_mem _ he, q⟩)
    have Sg := Jg.suite eg dg na nL nF
    have Lt : PySem.W.Looks (model X.prog X.w) g (typeOf (.ref a)) cls := fun A Q E t k q => wpAny_typeOf_ref (k _ _ eg) (zg.1.symm ▸ q)
    have reads : ∀ {x : Str} {c : Value} {np : Pos} {Q E : Value → Shared → Prop}, Names X x c → Q c { s' with heap := g } → wpAny (model X.prog X.w) (X.A.mark (some (.ref a))) (eval (.Name x np) X.env) Q E { s' with heap := g } := by
      intro x c np Q E hc q
      obtain ⟨k1, k2, k3 | ⟨k3, k4, k5⟩⟩ := hc
      · exact ld_glob (X := X.suite a ((a, oe) :: (X.pn ++ pins))) Sg k1 k3 q k2
      · exact ld_blt (X := X.suite a ((a, oe) :: (X.pn ++ pins))) Sg k1 k3 k4 q k5 k2
    suffices go : ∀ {hd : List ExceptHandler} {m : List Clause}, Mix X hd m → wMix X.K Wo D m cls d τ G → wpAny (model X.prog X.w) X.A (handleBy (.ref a) X.env hd) (SP X pins D) X.xe { s' with heap := g } from go hh wh
    intro hd m hk
    induction hk with
    | nil =>
      intro w
      refine wpAny_handleBy_nil ?_
      obtain ⟨_, _, _, o5, vs5, T, oT, ts5, e5, _, d5, i5, _⟩ := id fl
      have away : wpAny (model X.prog X.w) X.A (setFlight (.ref a) X.env.frame) (fun _ t => wpAny (model X.prog X.w) X.A (throw (.ref a) : Sem Flow) (SP X pins D) X.xe t) X.xe { s' with heap := g } := by
        rw [hf]
        exact HandSPX.setFlight_upZ fl fun g2 hg2 ug2 => wpAny_throw (tk _ _ ⟨a, B, sI, pins, τ, G, cls, d, rfl, J, nb, (up.trans ug).trans ug2, .inr (.inr (hs.symm ▸ hg2)), na, os, ag, w⟩)
      unfold PySem.passOn
      refine wpAny_bind (wpAny_field e5 d5 i5 ?_)
      rw [if_neg (by simp)]
      first
        | exact wpAny_bind (wpAny_pure (wpAny_bind away))
        | exact wpAny_bind away
    | @one x k b st np q hd2 m2 hc hi hsu r ih =>
      intro w
      obtain ⟨y, hy, w1, w2⟩ := w
      have Lm := PySem.W.exm_one (M := model X.prog X.w) Jg.kIn Lt hy
      refine wpAny_handleBy_cons (codeAny_handlers_test (reads hc (Lm.here ?_))) (fun z => by cases z)
      cases y with
      | false => exact ih (w2 rfl)
      | true =>
        refine codeAny_handlers_suite (HandSPX.lands_againZ fl fun g2 fl2 ug2 => ?_)
        have Jh : Inv X pins τ G { s' with heap := g2 } := J.landed nb fl2.1 ((up.trans ug).trans ug2) os ag
        obtain ⟨oe2, vs2, eg2, zg2, dg2⟩ := fl2.there
        have w3 := w1 rfl a na
        rw [hi] at w3
        refine wpAny_mono ((hsu a oe2 cls d _ zg2 ⟨_, dg2⟩).run [] _ _ G _ (Jh.suite eg2 dg2 na nL nF) w3) (fun f s6 e6 => ?_) fun _ _ z => z.elim
        cases f with
        | next => exact let ⟨_, _, S6, q6⟩ := e6; ⟨_, _, S6.unsuite ok, q6⟩
        | brk => exact let ⟨_, _, S6, q6⟩ := e6; ⟨_, _, S6.unsuite ok, q6⟩
        | cont => exact let ⟨_, _, S6, q6⟩ := e6; ⟨_, _, S6.unsuite ok, q6⟩
        | ret u => exact let ⟨_, _, _, S6, r6, q6⟩ := e6; ⟨_, _, _, S6.unsuite ok, r6, q6⟩
    | @as x n k i b st np q hd2 m2 hc hi hn hln hsu r ih =>
      intro w
      obtain ⟨y, hy, w1, w2⟩ := w
      have Lm := PySem.W.exm_one (M := model X.prog X.w) Jg.kIn Lt hy
      refine wpAny_handleBy_cons (codeAny_handlers_test (reads hc (Lm.here ?_))) (fun z => by cases z)
      cases y with
      | false => exact ih (w2 rfl)
      | true =>
        refine codeAny_handlers_suite_as (HandSPX.lands_againZ fl fun g2 fl2 ug2 => ?_)
        have Jh : Inv X pins τ G { s' with heap := g2 } := J.landed nb fl2.1 ((up.trans ug).trans ug2) os ag
        obtain ⟨oe2, vs2, eg2, zg2, dg2⟩ := fl2.there
        have w3 := w1 rfl a na
        rw [hi] at w3
        refine store_ok (X := X.suite a ((a, oe2) :: (X.pn ++ pins))) (v := .ref a) (Jh.suite eg2 dg2 na nL nF) hN hn (.inl hln) rfl (fun s5 S5 => ?_) (.inr hln)
        refine wpAny_mono ((hsu a oe2 cls d _ zg2 ⟨_, dg2⟩).run [] s5 _ G _ S5 w3) (fun f s6 e6 => ?_) fun _ _ z => z.elim
        have fin : ∀ {υ : L2.St} {G2 : Hp} {Q : Shared → Prop}, Inv (X.suite a ((a, oe2) :: (X.pn ++ pins))) [] υ G2 s6 → (∀ s7, Inv X pins (υ.set i none) G2 s7 → Q s7) → wpAny (model X.prog X.w) X.A (do bindName X.env n .none; unbindBehindTheSuite X.env n q) (fun _ s7 => Q s7) X.xe s6 :=
          fun S6 hq => gone_ok (S6.unsuite ok) hN hn hln hq
        cases f with
        | next => exact let ⟨_, _, S6, q6⟩ := e6; fin S6 fun _ J7 => ⟨_, _, J7, q6⟩
        | brk => exact let ⟨_, _, S6, q6⟩ := e6; fin S6 fun _ J7 => ⟨_, _, J7, q6⟩
        | cont => exact let ⟨_, _, S6, q6⟩ := e6; fin S6 fun _ J7 => ⟨_, _, J7, q6⟩
        | ret u => exact let ⟨_, _, _, S6, r6, q6⟩ := e6; fin S6 fun _ J7 => ⟨_, _, _, J7, r6, q6⟩
  refine wpAny_mono ((hb _ (X.pn ++ pins) act caught PassesOwn.looking).run [] s σ H D (I.toTry _) h) (fun f s1 e1 => ?_) (fun _ _ z => z)
  cases f with
  | next => exact let ⟨_, _, J, q⟩ := e1; wpAny_execs_nil ⟨_, _, J.ofTry ok, q⟩
  | brk => exact let ⟨_, _, J, q⟩ := e1; ⟨_, _, J.ofTry ok, q⟩
  | cont => exact let ⟨_, _, J, q⟩ := e1; ⟨_, _, J.ofTry ok, q⟩
  | ret u => exact let ⟨_, _, _, J, r, q⟩ := e1; ⟨_, _, _, J.ofTry ok, r, q⟩
end
end RF
set_option maxHeartbeats 1000000
/-! RF22: statements and calls that may raise. -/
namespace RF
open PySem PySem.Spec PyProof.Rows L2
abbrev SFX := Lo → Option (Sum Fl Xc × Lo)
abbrev EvX := Lo → Option (Sum R Xc × Lo)
def tEvX (K : PySem.W.Frag) (W : WX) (f : EvX) : TE := fun σ H Q => ∃ M B ρ A y ρ', f ρ = some (y, ρ') ∧ RSt K M B ρ A σ H ∧ (∀ r, y = .inl r → ∀ v H' A', Step A H H' A' → Out K M B ρ' A' σ H H' r v → Q v H') ∧
  (∀ x, y = .inr x → ∀ cls d H' A', Step A H H' A' → RSt K M B ρ' A' σ H' → XOut K (MA M A') H' x cls d → W cls d σ H')
def DoneX (K : PySem.W.Frag) (W : WX) (M : Addr → Prop) (B : Nat → Option Addr) (ρ' : Lo) (A' : As) (H : Hp) (D : Ends) (σ' : L2.St) (H' : Hp) : Sum Fl Xc → Prop
  | .inl o => Done K M B ρ' A' H D σ' H' o
  | .inr x => RSt K M B ρ' A' σ' H' → ∀ cls d, XOut K (MA M A') H' x cls d → W cls d σ' H'
def tStX (K : PySem.W.Frag) (W : WX) (f : SFX) : TS := fun D σ H => ∃ M B ρ A o ρ', f ρ = some (o, ρ') ∧ RSt K M B ρ A σ H ∧ ∀ σ' H' A', Step A H H' A' → DoneX K W M B ρ' A' H D σ' H' o
theorem DoneX.back {K : PySem.W.Frag} {W : WX} {M : Addr → Prop} {B : Nat → Option Addr} {ρ' : Lo} {A A1 A' : As} {H H1 : Hp} {D : Ends} {σ' : L2.St} {H' : Hp} {o : Sum Fl Xc} (s : Step A H H1 A1) (h : DoneX K W M B ρ' A' H D σ' H' o) : DoneX K W M B ρ' A' H1 D σ' H' o := by
  cases o with
  | inl o => exact Done.back s h
  | inr x => exact h
def upS (f : SF) : SFX := fun ρ => (f ρ).map fun p => (.inl p.1, p.2)
def sxSeq (f g : SFX) : SFX := fun ρ => (f ρ).bind fun p => match p.1 with
  | .inl .nx => g p.2
  | o => some (o, p.2)
def sxIf (t : TvF) (f g : SFX) : SFX := fun ρ => (t ρ).bind fun p => if p.1 then f p.2 else g p.2
def retX : Sum R Xc → Sum Fl Xc
  | .inl r => .inl (.rt r)
  | .inr x => .inr x
def sxRet (f : EvX) : SFX := fun ρ => (f ρ).map fun p => (retX p.1, p.2)
def nxX : Sum R Xc → Sum Fl Xc
  | .inl _ => .inl .nx
  | .inr x => .inr x
def sxDrop (f : EvX) : SFX := fun ρ => (f ρ).map fun p => (nxX p.1, p.2)
def sxRaise (c : Str) (f : EvF) : SFX := fun ρ => (f ρ).map fun p => (.inr ⟨c, none⟩, p.2)
section
variable {X : Cx} {W : WX} {a b c e : Expr} {st : Stmt} {rest body : List Stmt} {pos p pos' : Pos} {f : EvF} {fx : EvX} {t : TvF} {sf : SF} {sx sy : SFX}
theorem sx_up (h : PS X st (tSt X.K sf)) : PS X st (tStX X.K W (upS sf)) := PS.mono h fun D σ H ⟨M, B, ρ, A, o, ρ', e, S, k⟩ => by
  obtain ⟨⟨o1, ρ1⟩, h1, e⟩ := map_some e
  cases e
  exact ⟨M, B, ρ, A, o1, ρ1, h1, S, k⟩
theorem sx_ups (h : PSs X rest (tSt X.K sf)) : PSs X rest (tStX X.K W (upS sf)) := PSs.mono h fun D σ H ⟨M, B, ρ, A, o, ρ', e, S, k⟩ => by
  obtain ⟨⟨o1, ρ1⟩, h1, e⟩ := map_some e
  cases e
  exact ⟨M, B, ρ, A, o1, ρ1, h1, S, k⟩
theorem sx_cons (h1 : PS X st (tStX X.K W sx)) (h2 : PSs X rest (tStX X.K W sy)) : PSs X (st :: rest) (tStX X.K W (sxSeq sx sy)) :=
  PSs.mono (pss_cons h1 h2) fun D σ H ⟨M, B, ρ, A, o, ρ', e, S, k⟩ => by
    obtain ⟨⟨o1, ρ1⟩, h1, e⟩ := bind_some e
    refine ⟨M, B, ρ, A, o1, ρ1, h1, S, fun σ1 H1 A1 s1 => ?_⟩
    cases o1 with
    | inr x => cases e; exact k σ1 H1 A1 s1
    | inl o1 => cases o1 with
      | nx => exact fun S1 => ⟨M, B, ρ1, A1, o, ρ', e, S1, fun σ2 H2 A2 s2 => (k σ2 H2 A2 (s1.trans s2)).back s1⟩
      | bk => cases e; exact k σ1 H1 A1 s1
      | ct => cases e; exact k σ1 H1 A1 s1
      | rt r => cases e; exact k σ1 H1 A1 s1
theorem sx_if (hc : PT X c (tTv X.K t)) (ha : PSs X body (tStX X.K W sx)) (hb : PSs X rest (tStX X.K W sy)) : PS X (.If c body rest pos) (tStX X.K W (sxIf t sx sy)) :=
  PS.mono (ps_if hc ha hb) fun D σ H ⟨M, B, ρ, A, o, ρ', e, S, k⟩ => by
    obtain ⟨⟨b1, ρ1⟩, h1, e⟩ := bind_some e
    refine ⟨M, B, ρ, A, b1, ρ1, h1, S, fun H1 A1 s1 S1 => ?_⟩
    cases b1 with
    | true => exact iteT ⟨M, B, ρ1, A1, o, ρ', e, S1, fun σ2 H2 A2 s2 => (k σ2 H2 A2 (s1.trans s2)).back s1⟩
    | false => exact iteF ⟨M, B, ρ1, A1, o, ρ', e, S1, fun σ2 H2 A2 s2 => (k σ2 H2 A2 (s1.trans s2)).back s1⟩
theorem sx_ret (ha : PE X a (tEvX X.K W fx)) : PS X (.Return (some a) pos) (tStX X.K W (sxRet fx)) :=
  PS.mono (ps_ret ha) fun D σ H ⟨M, B, ρ, A, o, ρ', e, S, k⟩ => by
    obtain ⟨⟨r1, ρ1⟩, h1, e⟩ := map_some e
    cases e
    exact ⟨M, B, ρ, A, r1, ρ1, h1, S, fun r er v H1 A1 s1 o1 => by subst er; exact k σ H1 A1 s1 v o1, fun x ex cls d H1 A1 s1 S1 o1 => by subst ex; exact k σ H1 A1 s1 S1 cls d o1⟩
theorem sx_drop (ha : PE X a (tEvX X.K W fx)) (hs : swapsWith a none pos.line X.env = pure false) : PS X (.Expr a pos) (tStX X.K W (sxDrop fx)) :=
  PS.mono (ps_expr ha hs) fun D σ H ⟨M, B, ρ, A, o, ρ', e, S, k⟩ => by
    obtain ⟨⟨r1, ρ1⟩, h1, e⟩ := map_some e
    cases e
    exact ⟨M, B, ρ, A, r1, ρ1, h1, S, fun r er v H1 A1 s1 o1 => by subst er; exact k σ H1 A1 s1 o1.st, fun x ex cls d H1 A1 s1 S1 o1 => by subst ex; exact k σ H1 A1 s1 S1 cls d o1⟩
/-- raise x(e), a class of the text without an own __init__ -/
theorem sx_raise {bmB : List Value} {BB newId initId : String} {x : Str} (hc : X.calm = true) (tk : Takes X W) (F : ExcBaseFacts BB newId initId bmB) (q : PySem.W.excIn X.K (He.ga X.K x) bmB newId = true) (gC : X.mg x = some (.ref (He.ga X.K x))) (kC : PySem.W.keepIn X.K (.ref (He.ga X.K x)) = true) (r : Raises X (.ref (He.ga X.K x))) (hg : Gl X x)
    (he : PE X e (tEv X.K f)) (hst : notStar e = true) (hdb : (x == ("__debug__" : Str)) = false) : PS X (.Raise (some (.Call (.Name x p) [e] [] pos)) none pos') (tStX X.K W (sxRaise x f)) :=
  PS.mono (ps_raise hc tk (SkE.pmk_own1 F q gC kC r hg he (star_cons hst) hdb)) fun D σ H ⟨M, B, ρ, A, o, ρ', e, S, k⟩ => by
    obtain ⟨⟨r1, ρ1⟩, h1, e⟩ := map_some e
    cases e
    exact ⟨M, B, ρ, A, r1, ρ1, h1, S, fun v H1 A1 s1 o1 => k σ H1 A1 s1 o1.st _ _ ⟨rfl, rfl⟩⟩
/-! calls -/
def evCallNX (n : Nat) (cf : CFX) (io : List Bool) (g : AvF) : EvX := fun ρ => (g ρ).bind fun p => if p.1.length = n then evCallRX cf io p else none
/-- a def that may raise, called by its name -/
structure ClX (P : Program) (w : World) (K : PySem.W.Frag) (mg : Str → Option Value) (base : Heap) (k : Nat) (x : Str) (n : Nat) (cf : CFX) : Prop where
  ex : ∃ (f : Addr) (fd : FuncData) (ps : List Str), ps.length = n ∧ FnOk P w K mg base (L2.CX P w) k f fd ps (spX K n cf [] []) ∧ mg x = some (.ref f) ∧ PySem.W.keepIn K (.ref f) = true ∧ L2.Binds K fd ps []
variable {j k n : Nat} {cf : CFX} {io : List Bool} {x : Str} {es : List Expr} {av : AvF}
theorem ex_call (io : List Bool) (c : ClX X.prog X.w X.K X.mg X.base k x n cf) (tk : Takes X W) (hr : Room j X.A) (hk : k ≤ j) (hg : Gl X x) (ha : PA X (e :: es) (tAv X.K av)) (hdb : (x == ("__debug__" : Str)) = false) (hst : (e :: es).all notStar = true) :
    PE X (.Call (.Name x p) (e :: es) [] pos) (tEvX X.K W (evCallNX n cf io av)) := by
  obtain ⟨f, fd, ps, rfl, F, hm, kp, b⟩ := c.ex
  rw [List.all_cons, Bool.and_eq_true] at hst
  refine PE.mono (pe_callS (E := WE W) F (hr.mono hk) hg hm kp b (fun σ => passAt tk σ) ha hdb (star_cons hst.1) (star_any hst.2)) fun σ H Q ⟨M, B, ρ, A, y, ρ', e, S, k1, k2⟩ => ?_
  obtain ⟨⟨rs, ρ1⟩, g1, e⟩ := bind_some e
  dsimp only at e
  split at e
  · rename_i hl
    refine ⟨M, B, ρ, A, rs, ρ1, g1, S, fun vs H1 A1 s1 S1 a1 => ?_⟩
    exact call_okX (by rw [a1.length]; exact hl) S1 a1 e Reps.nil (fun r er v H2 A2 s2 o2 => k1 r er v H2 A2 (s1.trans s2) (o2.back' s1)) fun x ex cls d H2 A2 s2 S2 o2 => k2 x ex cls d H2 A2 (s1.trans s2) S2 o2
  · cases e
/-- .. where it raises nothing -/
def tame (cf : CFX) : CF := fun ss => (cf ss).bind fun p => match p.1 with
  | .inl r => some (r, p.2)
  | .inr _ => none
theorem spX_tame {K : PySem.W.Frag} {n : Nat} {cf : CFX} {vs : List V} {H : Hp} {Q : VK} {E : XK} (h : spF K n (tame cf) vs H Q E) : spX K n cf [] [] vs H Q E := by
  obtain ⟨hl, M, B, ss, A, r, outs, hc, S, hb, k⟩ := h
  obtain ⟨⟨y, o⟩, h1, h2⟩ := bind_some hc
  cases y with
  | inr x => cases h2
  | inl rr =>
    cases h2
    exact ⟨hl, M, B, ss, A, _, _, h1, S, hb, Reps.nil, fun r' er v H' st o => by cases er; exact k v H' st o, fun x ex => by cases ex⟩
theorem ev_tame (io : List Bool) (c : ClX X.prog X.w X.K X.mg X.base k x n cf) (hr : Room j X.A) (hk : k ≤ j) (hg : Gl X x) (ha : PA X (e :: es) (tAv X.K av)) (hdb : (x == ("__debug__" : Str)) = false) (hst : (e :: es).all notStar = true) :
    PE X (.Call (.Name x p) (e :: es) [] pos) (tEv X.K (evCallN n (tame cf) io av)) := by
  obtain ⟨f, fd, ps, rfl, F, hm, kp, b⟩ := c.ex
  exact ev_call (E := C8.E0) (FnOk.imp F fun vs H Q E h => spX_tame h) (hr.mono hk) hg hm kp b (fun _ _ _ _ _ _ _ z => by obtain ⟨_, _, _, _, _, _, _, _, _, _, _, _, q⟩ := z; exact q.elim) ha hdb hst
end
end RF
set_option maxHeartbeats 1000000
/-! RF23: defs and lambdas that may raise, by their bodies; a try whose first clause meets; what is handed in may raise. -/
namespace RF
open PySem PySem.Spec PyProof.Rows L2
/-- a def's meaning by its body's -/
def cfOfX (n : Nat) (sx : SFX) : CFX := fun ss => (sx (ss ++ List.replicate (n - ss.length) .emp)).bind fun p => match p.1 with
  | .inl .nx => some (.inl (.val .non), maskL ss p.2)
  | .inl (.rt r) => (finR p.2 r).map fun q => (.inl q.1, maskL ss q.2)
  | .inl _ => none
  | .inr x => some (.inr x, maskL ss p.2)
theorem XOut.mono {K : PySem.W.Frag} {M M' : Addr → Prop} {H : Hp} {x : Xc} {cls : Value} {d : Option Addr} (h : XOut K M H x cls d) (m : ∀ a, M' a → M a) : XOut K M' H x cls d := by
  obtain ⟨h1, h2⟩ := h
  refine ⟨h1, ?_⟩
  cases e : x.pay with
  | none => rw [e] at h2; exact h2
  | some q =>
    obtain ⟨a1, p1⟩ := q
    rw [e] at h2
    obtain ⟨dd, v, g1, g2, g3, g4⟩ := h2
    exact ⟨dd, v, g1, g2, fun z => g3 (m dd z), g4.mono m⟩
theorem fn_readsX {K : PySem.W.Frag} {N : List Str} {np : Nat} {sx : SFX} {vs : List V} {H : Hp} {Q : VK} {E : XK} (h : spX K np (cfOfX N.length sx) [] [] vs H Q E) :
    tStX K (fun cls d _ H' => E cls d H') sx { nx := fun _ H' => Q .non H', rt := Q } (start N vs) H := by
  obtain ⟨hl, M, B, ss, A, y, outs, hc, S, hb, _, k, kx⟩ := h
  obtain ⟨⟨o, ρ'⟩, h1, h2⟩ := bind_some hc
  have hsl : ss.length = np := by rw [← S.l2, List.length_map]; exact hl
  have eN : N.length - ss.length = N.length - vs.length := by rw [hsl, hl]
  rw [eN] at h1
  have memA : ∀ c, some c ∈ A ++ List.replicate (N.length - vs.length) (none : Option Addr) → some c ∈ A := fun c m => by
    rcases List.mem_append.mp m with m | m
    · exact m
    · cases (List.mem_replicate.mp m).2
  refine ⟨M, B, _, _, o, ρ', h1, S.pad _, fun σ' H' A' st => ?_⟩
  have stp : Step A H H' A := ⟨fun a o e n nt => st.keep a o e (fun m => n (memA a m)) nt, fun _ m => .inl m, st.trk⟩
  cases o with
  | inr x =>
    cases h2
    intro S' cls d w
    exact kx x rfl cls d H' stp (S.outs S' hb) (w.mono fun c m => m.elim .inl fun m => .inr (S.subM S' hb c m))
  | inl o =>
    cases o with
    | bk => cases h2
    | ct => cases h2
    | nx =>
      intro S'
      cases h2
      exact k _ rfl .non H' stp ⟨S.outs S' hb, Rep.non⟩
    | rt r0 =>
      intro v q
      obtain ⟨⟨r1, ρ1⟩, h3, h2⟩ := map_some h2
      cases h2
      exact k _ rfl v H' stp (ret_ok (M' := M) S hb (fun a m => (st.new a m).elim (fun m => .inl (memA a m)) .inr) q h3)
section
variable {P : Program} {w : World} {K : PySem.W.Frag} {mg : Str → Option Value} {base : Heap}
/-- a def that may raise, by its body -/
theorem clx_rf {x : Str} {st : Stmt} {f : Addr} {fd : FuncData} {N ps : List Str} {k n np : Nat} (sx : SFX) (F : C8.Def K mg x st f fd) (b : L2.Binds K fd ps []) (S : FnScope N ps (C8.fnScope st)) (hn : N.length = n) (hp : ps.length = np)
    (hb : ∀ (W : WX) (cdv : Value) (A : Around) (outer : List Env) (s : Shared) (H : Hp) (E : XK), Takes (cxOf (L2.CX P w) P w K mg base N x (C8.fnScope st) f cdv A outer s H E) W → Room k (A.deeper (envOfC x (C8.fnScope st) s.heap.objs.size f cdv)) →
      PSs (cxOf (L2.CX P w) P w K mg base N x (C8.fnScope st) f cdv A outer s H E) (C8.fnBody st) (tStX K W sx)) :
    ClX P w K mg base (k + 1) x np (cfOfX n sx) := by
  subst hn hp
  obtain ⟨oc, od, dV, kV, doc, pm, an, cdv, ct, osl, rfl, lk, hcd⟩ := F.fn.ex
  refine ⟨f, _, ps, rfl, fn_of lk hcd S (fun vs H Q E h => h.1) fun A outer s H vs Q E hr h => ⟨_, hb _ cdv A outer s H E (takes_of rfl rfl rfl rfl) hr, fn_readsX h⟩, F.mgf, F.kp, b⟩
end
end RF
set_option maxHeartbeats 1000000
/-! RF24: lambdas that may raise; a def that gets one; a try whose first clause meets what is raised. -/
namespace RF
open PySem PySem.Spec PyProof.Rows L2
/-- the body of a lambda that may raise -/
def lamFX (n : Nat) (ev : EvX) (caps : List D) : CFX := fun ss => (ev ((ss ++ caps.map .val) ++ List.replicate (n - ss.length - caps.length) .emp)).bind fun p => match p.1 with
  | .inl r => (finR p.2 r).map fun q => (.inl q.1, maskL ss q.2)
  | .inr x => some (.inr x, maskL ss p.2)
theorem lam_readsX {K : PySem.W.Frag} {N : List Str} {np : Nat} {ev : EvX} {caps : List D} {ws vs : List V} {H : Hp} {Q : VK} {E : XK} (h : spX K np (lamFX N.length ev caps) caps ws vs H Q E) : tEvX K (fun cls d _ H' => E cls d H') ev (NdefX.startF N vs (ws.map some)) H Q := by
  obtain ⟨hl, M, B, ss, A, y, outs, hc, S, hb, hr, k, kx⟩ := h
  obtain ⟨⟨y0, ρ'⟩, h3, h4⟩ := bind_some hc
  have e1 : ss.length = vs.length := by rw [← S.l2, List.length_map]
  have e2 := hr.length
  have S1 := (S.capt hr).pad (N.length - ss.length - caps.length)
  have memA : ∀ c, some c ∈ (A ++ List.replicate caps.length (none : Option Addr)) ++ List.replicate (N.length - ss.length - caps.length) none → some c ∈ A := fun c m => by
    rcases List.mem_append.mp m with m | m
    · rcases List.mem_append.mp m with m | m
      · exact m
      · cases (List.mem_replicate.mp m).2
    · cases (List.mem_replicate.mp m).2
  have stp : ∀ {H' A'}, Step ((A ++ List.replicate caps.length (none : Option Addr)) ++ List.replicate (N.length - ss.length - caps.length) none) H H' A' → Step A H H' A := fun st => ⟨fun a o e n nt => st.keep a o e (fun m => n (memA a m)) nt, fun _ m => .inl m, st.trk⟩
  refine ⟨M, B, _, (A ++ List.replicate caps.length none) ++ List.replicate (N.length - ss.length - caps.length) none, y0, ρ', h3, ?_, fun r er v H' A' st o => ?_, fun x ex cls d H' A' st S' o => ?_⟩
  · have e3 : NdefX.startF N vs (ws.map some) = (vs.map some ++ ws.map some) ++ List.replicate (N.length - ss.length - caps.length) none := by
      unfold NdefX.startF
      rw [e1, ← e2, List.length_map, List.append_assoc]
    rw [e3]; exact S1
  · subst er
    obtain ⟨⟨r2, ρ1⟩, h5, h6⟩ := map_some h4
    cases h6
    exact k _ rfl v H' (stp st) (ret_ok (M' := M) S hb (fun a m => (st.new a m).elim (fun m => .inl (memA a m)) .inr) o h5)
  · subst ex
    cases h4
    exact kx x rfl cls d H' (stp st) (S.outs S' hb) (o.mono fun c m => m.elim .inl fun m => .inr (S.subM S' hb c m))
/-! ### ("told", call()) -/
open Classical in
noncomputable def evTold (i : Nat) (g : Addr) (F : LF) (caps : List D) (led : CFX) (z : Str) : EvX := fun ρ => if ρ[i]? = some (.val (.fn g F caps)) then (evCallRX led [] ([], ρ)).bind fun p => match p.1 with
    | .inl r => (retain1 p.2 r).map fun q => (.inl (.val (.tup [.str z, q.1])), q.2)
    | .inr x => some (.inr x, p.2)
  else none
section
variable {X : Cx} {W : WX} {i j kl : Nat} {g : Addr} {F : LF} {caps : List D} {led : CFX} {x z : Str} {p pos cpos kp : Pos} {x1 : Nat} {kk : Nat}
theorem ex_told (C : CloOk X.prog X.w X.K X.mg X.base (L2.CX X.prog X.w) kl (spX X.K 0 led caps F.ws) g F X.s_0 X.H_0 X.outer) (pl : Plain X) (tk : Takes X W) (hr : Room j X.A) (hk : kl ≤ j) (hN : X.N[i]? = some x) (hv : Vis X.env.scope x) (hd : (x == ("__debug__" : Str)) = false) (hcd : (x == ("__classdict__" : Str)) = false)
    (hz : PE X (.Constant (.str z) kk kp) (tEv X.K (evCst (.str z)))) : PE X (.Tuple [.Constant (.str z) kk kp, .Call (.Name x p) [] [] cpos] x1 pos) (tEvX X.K W (evTold i g F caps led z)) := by
  refine PE.mono (pe_tup (pa_cons hz (pa_cons (pe_clo0 (E := WE W) C pl hr hk (fun σ => passAt tk σ) hN hv hd hcd) pa_nil))) fun σ H Q ⟨M, B, ρ, A, y, ρ', e, S, k1, k2⟩ => ?_
  unfold evTold at e
  split at e
  · rename_i q
    obtain ⟨v, _, hσ, rp⟩ := S.valued q
    simp only [Rep] at rp
    obtain ⟨rfl, h1, h2, h3⟩ := rp
    obtain ⟨⟨y1, ρ1⟩, g1, e⟩ := bind_some e
    refine ⟨M, B, ρ, A, .val (.str z), ρ, rfl, S, fun v0 H0 A0 s0 o0 => ⟨hσ, ?_⟩⟩
    obtain ⟨S0, r0⟩ := o0
    refine ⟨((S.kp s0).obj _ _ h1 h2 nt_ext).1, ?_⟩
    refine call_okX rfl S0 .nil g1 (S.reps s0 h3) (fun r er v2 H2 A2 s2 o2 => ?_) fun xx ex cls d H2 A2 s2 S2 o2 => ?_
    · subst er
      obtain ⟨⟨d, ρ2⟩, g2, e⟩ := map_some e
      cases e
      obtain ⟨A3, s3, S3, rd⟩ := retain1_ok o2.st o2.arg g2
      show [v0, v2].length ≤ sizeLine ∧ _
      refine ⟨by rw [sizeLine_eq]; exact (by decide : 2 ≤ 16777216), fun p n => ?_⟩
      have st := (s0.trans s2).trans s3
      exact k1 _ rfl _ _ A3 (st.trans (Step.same (same_new n))) ⟨S3.same (same_new n), Rep.newTup n (.cons (S3.rep (Step.refl) (S0.rep (s2.trans s3) r0)) (.cons rd .nil))⟩
    · subst ex
      cases e
      exact k2 _ rfl cls d H2 A2 (s0.trans s2) S2 o2
  · cases e
end
/-! ### try, the first clause meets -/
section
variable {X : Cx} {body : List Stmt} {x : Str} {b0 : Stmt} {suite : List Stmt} {hds : List ExceptHandler} {l : List Clause} {sx : SFX} {sf : SF} {np pos pos' : Pos}
/-- clauses that are never met -/
theorem mix_as {n : Str} {i : Nat} {cv : Value} (hc : Names X x cv) (hn : X.N[i]? = some n) (hln : X.env.kindOf n = some .local) (r : Mix X hds l) : Mix X (.ExceptHandler (some (.Name x np)) (some n) (b0 :: suite) pos' :: hds) (⟨cv, some i, fun _ _ _ _ _ _ => False⟩ :: l) :=
  Mix.as (k := ⟨cv, some i, fun _ _ _ _ _ _ => False⟩) hc rfl hn hln (fun a oe cls d pn _ _ => ⟨fun pins s σ H D I h => h.elim⟩) r
end
/-! ### x(lambda: e) -/
noncomputable def evLam1X (cf : Addr → LF → List D → CFX → CF) (js : List Nat) (lam : List D → CFX) : EvF := fun ρ => (capsOf ρ js).bind fun caps => theY fun g F => evCallR (cf g F caps (lam caps)) [false] ([.val (.fn g F caps)], ρ)
section
variable {X : Cx} {j k n nl : Nat} {x : Str} {p pos lpos : Pos} {lev : Nat → Nat} {cf : Addr → LF → List D → CFX → CF} {c P : Addr} {params : Arguments} {body : Expr} {scope : Scope} {N ps fr : List Str} {js : List Nat} {ev : EvX}
theorem lam_madeX {M : Addr → Prop} {B : Nat → Option Addr} {ρ : Lo} {A : As} {σ : L2.St} {H : Hp} {s : Shared} {pins : List (Addr × Obj)} {caps : List D} {Q : Value → Shared → Prop} {E : Value → Shared → Prop} (L : LamT X c P params body scope N ps fr js) (pl : Plain X) (I : Inv X pins σ H s) (S : RSt X.K M B ρ A σ H) (hc : capsOf ρ js = some caps)
    (hbody : ∀ (W : WX) (cl : List (Str × Addr)) (c' : Addr) (ws : List V) (g : Addr) (A : Around) (outer : List Env) (s : Shared) (H : Hp) (E : XK), Takes (NdefX.ncx (L2.CX X.prog X.w) X.prog X.w X.K X.mg X.base N (nfOf ⟨X.env.qual ++ "<lambda>", params, body, scope, cl, c', ws⟩) g A outer s H E) W → Room k (A.deeper (NdefX.envF (nfOf ⟨X.env.qual ++ "<lambda>", params, body, scope, cl, c', ws⟩) g s.heap.objs.size)) →
      PE (NdefX.ncx (L2.CX X.prog X.w) X.prog X.w X.K X.mg X.base N (nfOf ⟨X.env.qual ++ "<lambda>", params, body, scope, cl, c', ws⟩) g A outer s H E) body (tEvX X.K W ev))
    (h : ∀ (g : Addr) (F : LF) (H1 : Hp) (s' : Shared) (A1 : As), Inv X pins σ H1 s' → Step A H H1 A1 → RSt X.K M B ρ A1 σ H1 → Rep X.K (MA M A1) H1 (.fn g F caps) (.ref g) → CloOk X.prog X.w X.K X.mg X.base (L2.CX X.prog X.w) (k + 1) (spX X.K ps.length (lamFX N.length ev caps) caps F.ws) g F s' H1 X.stack → Q (.ref g) s') :
    wpAny (model X.prog X.w) X.A (eval (.Lambda params body scope lpos) X.env) Q E s := by
  obtain ⟨ws, e1, e2⟩ := caps_ok S hc
  have hfree : ∀ y ∈ scope.names, y.2 = .free → ∃ c, X.env.cells.lookup y.1 = some c := fun y hy e => (L.fre y hy e).elim (fun z => I.ok.has _ (.inl z)) fun z => I.ok.has _ (.inr z)
  refine lam_new I L.tb L.cd L.mT L.un S.tb L.df hfree fun g c' pm ctv H1 s' I1 eN back T1 hf hfn hfr hco => ?_
  have st : Step A H H1 A := ⟨fun a o e _ nt => eN a o e nt, fun a m => .inl m, fun a o e => by
    cases q : H1 a with
    | some o' => exact ⟨o', rfl⟩
    | none => rw [back a q] at e; cases e⟩
  have kp := S.kp st
  have S1 : RSt X.K M B ρ A σ H1 := by
    refine ⟨S.l1, S.l2, fun i s ov oa h1 h2 h3 => ?_, S.inj, S.mt, fun a m => ?_, S.bb, T1⟩
    · have q := S.sl i s ov oa h1 h2 h3
      cases s with
      | emp => exact q
      | val d => exact ⟨q.1, q.2.choose, q.2.choose_spec.1, Rep.kp kp _ _ q.2.choose_spec.2⟩
      | own b ds =>
        obtain ⟨a, us, f1, f2, f3, f4⟩ := q
        exact ⟨a, us, f1, f2, eN _ _ f3 nt_lst, Reps.kp kp _ _ f4⟩
      | dit ks =>
        obtain ⟨a, us, f1, f2, f3, f4⟩ := q
        exact ⟨a, us, f1, f2, eN _ _ f3 nt_dt, f4⟩
    · exact (S.mtr a m).mk fun o e nt => eN _ _ e nt
  have cp := NdefX.Caps.made (scope := scope) I1.ok L.fre L.frs L.js
  have C := NdefX.cells_of I1 cp
  rw [e1] at C
  refine h g ⟨X.env.qual ++ "<lambda>", params, body, scope, cloFrom X.env.cells scope.names [], c', ws⟩ H1 s' A I1 st S1 ?_ ?_
  · simp only [Rep]
    have nM : ¬ MA M A c' := fun m => m.elim (fun m => (S1.mtr c' m).ext hco) fun m => Mb.ext (S1.lst m) hco
    exact ⟨trivial, hco, nM, S.reps st e2⟩
  · exact clo_of (F := ⟨X.env.qual ++ "<lambda>", params, body, scope, cloFrom X.env.cells scope.names [], c', ws⟩) (pm := pm) (ctv := ctv) L.sc (fun us hl => L.bnd _ _ _ _ _ us hl) hf hfn hfr C (fun y c hy => cell_nf pl I1 L.fn (cp.sub y c hy)) (fun vs H Q E q => q.1)
      fun A outer s H vs Q E hr q => ⟨_, hbody _ _ c' ws g A outer s H E (takes_of rfl rfl rfl rfl) hr, lam_readsX q⟩
end
end RF
set_option maxHeartbeats 1000000
/-! RF25: repr of a truth value, an empty dict as a value, x == (). -/
namespace RF
open PySem PySem.Spec PyProof.Rows L2
section
variable {X : Cx} {a e : Expr} {p pos tp : Pos} {f : EvF} {x1 : Nat}
/-- {} as a value -/
theorem ev_dictE : PE X (.Dict [] [] pos) (tEv X.K (evCst (.dct [] []))) :=
  PE.mono pe_dnewK fun σ H Q ⟨M, B, ρ, A, r, ρ', e0, S, k⟩ => by
    cases e0
    intro p n
    have nM : ¬ MA M A p := fun m => m.elim (fun m => (S.mtr p m).none n) fun m => Mb.none (S.lst m) n
    refine k _ _ A (Step.same (same_new n)) ⟨S.same (same_new n), ?_⟩
    simp only [Rep]
    exact ⟨p, [], rfl, upd_same, nM, rfl, Reps.nil⟩
end
end RF
set_option maxHeartbeats 1000000
/-! RF26: the law's own def, its code object known. -/
namespace RF
open PySem PySem.Spec PyProof.Rows L2
end RF
set_option maxHeartbeats 2000000
/-! RF27: own classes over LookupError with an own __init__. -/
namespace RF
open PySem PySem.Spec PyProof.Rows L2
open Builtin Builtin.ObjectAttr
section
variable {prog : Program} {w : World} {A : Around} {R : Result → Shared → Prop} {hp : Heap} {g : Array GenState} {dr : Drawn} {tk : Nat} {os : OsState}
/-- the first field -/
theorem lk_osa {K : PySem.W.Frag} {f : Str} {ft : Tok} {u : Value} {e C t1 : Addr} (X : K.In hp) (he : hp.get? e = some (PySem.W.excObj C t1 none .none)) (T : LkC K C) (hf : PySem.W.takerIn K C f = some none)
    (k : ∀ h2 tk2 dx, (∀ b o, b ≠ e → hp.get? b = some o → h2.get? b = some o) → hp.objs.size ≤ dx → dx ≠ e → h2.get? e = some (PySem.W.excObj C t1 (some dx) .none) → h2.Ns1 dx (fun y => if y = f then some u else none) → R (.ok (.ret .none)) ⟨h2, g, dr, tk2, os⟩) :
    codeAny (model prog w) A (.call (.builtin "object.__setattr__") ⟨[.ref e, .str f ft, u], []⟩) R ⟨hp, g, dr, tk, os⟩ := by
  refine PySem.W.osa_openX (od := none) PySem.F.store_LookupError X ⟨he, rfl, rfl, trivial⟩ T.ovr hf fun b => ?_
  obtain ⟨cd, hc, hd⟩ := PySem.W.any_some T.hdC
  have lt := Heap.lt_size he
  refine wpAny_bind (wpAny_pure (wpAny_bind (PySem.W.instanceDict_exc he (PySem.W.looks_clsIn X hc) hd ?_)))
  show wpAny _ _ (storeInDict hp.objs.size (.str f ft) f u) _ _ _
  refine PySem.HandSPX.store_in_new ⟨_, #[], _, (Heap.get?_update_ne _ _ _ _ (Nat.ne_of_gt lt)).trans (Heap.get?_push_at rfl rfl), rfl, fun z hz => absurd hz (by simp), fun _ => rfl⟩ fun h2 tk2 hn hs => ?_
  have e1 : (hp.push (PySem.W.dictOf [] 0)).get? e = some (PySem.W.excObj C t1 none .none) := Heap.get?_push_of_some _ he
  refine k h2 tk2 hp.objs.size (fun b o hb ho => ?_) (Nat.le_refl _) (Nat.ne_of_gt lt) ?_ hn
  · exact (hs.2 b (Nat.ne_of_lt (Heap.lt_size ho))).trans ((Heap.get?_update_ne _ _ _ _ hb).trans (Heap.get?_push_of_some _ ho))
  · exact (hs.2 e (Nat.ne_of_lt lt)).trans (Heap.get?_update_self _ e1 rfl)
end
section
variable {X : Cx} {pins : List (Addr × Obj)} {σ : L2.St} {H : Hp} {s : Shared} {e C : Addr} {f : Str} {y : V} {u : Value}
/-- the object e is written, the new object dx stands besides -/
theorem un_two {H : Hp} {hp h2 : Heap} {fs : List Addr} {e dx : Addr} {o1 o2 : HO} {o : HO} (he : H e = some o) (hz : (∀ xs, o ≠ .tup xs) ∧ (∀ q u, o ≠ .frz q u) ∧ ∀ ps, o ≠ .tbl ps) (hd : H dx = none) (nd : ∀ b q, hp.get? b = some q → b ≠ dx) (k : ∀ b q, b ≠ e → hp.get? b = some q → h2.get? b = some q) (hx : ∃ q, h2.get? e = some q) :
    Un fs [] H (upd (upd H dx o1) e o2) hp h2 := by
  have ne : ∀ b, H b = none → b ≠ e := fun b n z => by rw [z, he] at n; cases n
  have sm : ∀ b v, H b = some v → v ≠ o → upd (upd H dx o1) e o2 b = some v := fun b v q hv => by
    have n1 : b ≠ e := fun z => by rw [z, he] at q; exact hv (Option.some.inj q).symm
    have n2 : b ≠ dx := fun z => by rw [z, hd] at q; cases q
    rw [upd_ne n1, upd_ne n2]; exact q
  refine ⟨fun b q g n _ _ => k b q (ne b n) g, fun b q g n _ _ => ⟨q.slots, k b q (ne b n) g⟩, fun b q g n _ => by rw [upd_ne (ne b n), upd_ne (nd b q g)]; exact n, fun b q g _ => ?_, fun b xs q => sm b _ q fun z => hz.1 xs z.symm, fun b q u g => sm b _ g fun z => hz.2.1 q u z.symm, fun b ps q => ⟨#[], by rw [sm b _ q fun z => hz.2.2 ps z.symm]; simp⟩⟩
  by_cases hb : b = e
  · subst hb; exact hx
  · exact ⟨q, k b q hb g⟩
/-- self.f = y on a new exception -/
theorem lk_store {Q : Unit → Shared → Prop} {E : Value → Shared → Prop} {A : Around} (T : LkC X.K C) (I : Inv X pins σ H s) (he : H e = some (exo e C none)) (hf : PySem.W.takerIn X.K C f = some none) (r : RelV y u)
    (k : ∀ dx s2, H dx = none → dx ≠ e → Inv X pins σ (upd (upd H dx (exd dx [(f, y)])) e (exo e C (some dx))) s2 → Q () s2) : wpAny (model X.prog X.w) A (setAttr (.ref e) f u) Q E s := by
  obtain ⟨t1, ho⟩ := exo_at I.hok he
  obtain ⟨hp, g, dr, tk, os⟩ := s
  refine PySem.W.set_plain I.kIn (od := none) ⟨ho, rfl, rfl, trivial⟩ T.sa (lk_osa I.kIn ho T hf fun h2 tk2 dx kp ds dn hx hn => ?_)
  have hd : H dx = none := I.hok.fresh ds
  have U : Un X.fs [] H (upd (upd H dx (exd dx [(f, y)])) e (exo e C (some dx))) hp h2 :=
    un_two he ⟨fun xs => exo_tup, fun q u => exo_frz, fun ps => exo_tbl⟩ hd (fun b q z => Nat.ne_of_lt (Nat.lt_of_lt_of_le (Heap.lt_size z) ds)) kp ⟨_, hx⟩
  refine k dx _ hd dn (I.un (t' := tk2) U fun b o q => ?_)
  by_cases h1 : b = e
  · subst h1
    rw [upd_same] at q
    cases q
    exact exo_ok hx
  rw [upd_ne h1] at q
  by_cases h3 : b = dx
  · subst h3
    rw [upd_same] at q
    cases q
    exact exd_ok hn (relO_put (fs := []) r fun _ => True.intro)
  rw [upd_ne h3] at q
  refine (I.hok b o q).stay (fun c v hc z => kp c v ?_ z) (fun c hc => ?_) fun c xs hc => ?_
  · rcases hc with hc | hc
    · rw [hc]; exact h1
    · exact at_ne he hc exo_own
  · rw [upd_ne (at_ne he hc exo_own), upd_ne (ne_of_none hc hd)]; exact hc
  · rw [upd_ne (at_ne he hc exo_tup), upd_ne (ne_of_none hc hd)]; exact hc
theorem excL_of {K : PySem.W.Frag} {h : Heap} {C : Addr} (X : K.In h) (T : LkC K C) : ∃ nm N qn bs bm hdct sn sub ab col dd k0 k1 k2 k3 k5, h.get? C = some (excClassObj nm qn C N bs bm hdct sn sub ab col dd k0 k1 k2 k3 k5 "LookupError.__new__") ∧ ∀ Y : String, bm.contains (.type Y) = lkB.contains (.type Y) := PySem.W.excInit_of X T.ini
/-- LookupError.__init__(self, ..) tells nothing -/
theorem lk_init {us : List Value} {Q : Value → Shared → Prop} {E : Value → Shared → Prop} {A : Around} (T : LkC X.K C) (I : Inv X pins σ H s) (he : H e = some (exo e C none)) (hl : us.length ≤ sizeLine) (k : ∀ s2, Inv X pins σ H s2 → Q .none s2) :
    wpAny (model X.prog X.w) A (call (.builtin "LookupError.__init__") (.ref e :: us)) Q E s := by
  obtain ⟨t1, ho⟩ := exo_at I.hok he
  obtain ⟨nm, N, qn, bs, bm, hdct, sn, sub, ab, col, dd, k0, k1, k2, k3, k5, hC, hT⟩ := excL_of I.kIn T
  obtain ⟨hp, g, dr, tk, os⟩ := s
  refine wpAny_call (PySem.HandSPX.init_base PySem.F.excBase_LookupError hT hC ho hl fun h2 t2 kp hx => ?_)
  have J := I.write (t' := tk) (x := e) (e := e) (o := exo e C none) (by rw [he]; exact True.intro) (.inl rfl) kp ⟨_, hx⟩ (exo_ok hx)
  have same : upd H e (exo e C none) = H := funext fun b => by
    by_cases hb : b = e
    · subst hb; rw [upd_same, he]
    · exact upd_ne hb
  rw [same] at J
  exact k _ J
end
/-! ### rules -/
def tLkI (K : PySem.W.Frag) (ta : TA) : TE := fun σ H Q => ta σ H fun vs H1 => ∃ (a C : Addr) (ws : List V), vs = .ref a :: ws ∧ ws.length ≤ 1000 ∧ LkC K C ∧ H1 a = some (exo a C none) ∧ Q .non H1
def tLkS (K : PySem.W.Frag) (f : Str) (to te : TE) : TS := fun D σ H => te σ H fun y H1 => to σ H1 fun x H2 => ∃ a C : Addr, x = .ref a ∧ LkC K C ∧ PySem.W.takerIn K C f = some none ∧
  H2 a = some (exo a C none) ∧ ∀ dx, H2 dx = none → dx ≠ a → D.nx σ (upd (upd H2 dx (exd dx [(f, y)])) a (exo a C (some dx)))
section
variable {X : Cx} {o e : Expr} {es : List Expr} {to te : TE} {ta : TA} {f x : Str} {p p' p1 p2 pos : Pos} {B : Addr}
theorem pe_lki {pl : Sem Bool} (hg : Gl X x) (hm : X.mg x = some (.ref B)) (b : LkB X.K B) (hdb : (x == ("__debug__" : Str)) = false) (ha : PA X (e :: es) ta)
    (hc : eval (.Call (.Attribute (.Name x p1) "__init__" p2) (e :: es) [] pos) X.env = (do
      let v ← eval (.Name x p1) X.env
      standAt p2.atName
      let (f, first) ← holding [v] (getMethod v "__init__" pl)
      callWith pos f first (backTo pos (starEach (e :: es) X.env)) (backToKw pos (keywordEach [] X.env))) := by rfl)
    (he : starEach (e :: es) X.env = (false, eval e X.env) :: starEach es X.env := by rfl) (hpl : (backTo pos (starEach es X.env)).any (·.1) = false := by rfl) :
    PE X (.Call (.Attribute (.Name x p1) "__init__" p2) (e :: es) [] pos) (tLkI X.K ta) := by
  refine ⟨fun pins s σ H Q I h => ?_⟩
  refine PySem.W.methodCall_KW (ld_glob I hg hm ?_ hdb) hc
  refine PySem.W.method_cls I.kIn b.ga (PySem.W.cls_value I.kIn b.rd b.at_ (by decide +kernel) ?_)
  show wpAny _ _ (callWith pos (Value.builtin "LookupError.__init__") [] (backTo pos (starEach (e :: es) X.env)) []) _ _ _
  refine PyProof.Rows.callWith_method1 (thn (ha.run pos pins _ σ H _ (I.tok _) h) fun us s1 ⟨vs, H1, I1, r1, a, C, ws, ev, hl, T, ea, q⟩ => ?_) he hpl
  subst ev
  cases r1 with
  | @cons _ u0 _ ur ra rw' =>
    obtain rfl : u0 = Value.ref a := ra
    exact lk_init T I1 ea (by rw [← Paired.length rw', sizeLine_eq]; omega) fun s2 J => ⟨.non, H1, J, rfl, q⟩
theorem ps_lks (ho : PE X o to) (he : PE X e te) (hs : swapsWith e (some (.Attribute o f p')) pos.line X.env = pure false := by rfl) : PS X (.Assign [.Attribute o f p'] e pos) (tLkS X.K f to te) := by
  refine ⟨fun pins s σ H D I h => plainObj_wpAny_Assign_Attribute (thn (he.run pins s σ H _ I h) fun v s1 ⟨y, H1, I1, r1, q1⟩ => thn (ho.run pins s1 σ H1 _ I1 q1) fun u s2 ⟨z, H2, I2, r2, a, C, ex, T, hf, ea, q⟩ => ?_) hs⟩
  subst ex
  obtain rfl : u = Value.ref a := r2
  exact lk_store T I2 ea hf r1 fun dx s3 n ne J => ⟨σ, _, J, q dx n ne⟩
/-- C(e, ..) -/
theorem pmk_lk {CX : CXT} {C fI : Addr} {k : Nat} {fd : FuncData} {ps : List Str} {sp : Sp} (T : LkC X.K C) (iC : PySem.W.findIn X.K (.ref C) "__init__" = some (some (.ref fI))) (tI : PySem.W.typeIn X.K (.ref fI) = some (.type "function"))
    (F1 : FnOk X.prog X.w X.K X.mg X.base CX k fI fd ps sp) (hr : Room (k + 1) X.A) (hb : Binds X.K fd ps []) (hx : Passes CX X (fun _ _ _ => False)) (hg : Gl X x) (hm : X.mg x = some (.ref C)) (ha : PA X (e :: es) ta)
    (hdb : (x == ("__debug__" : Str)) = false := by decide) (he : starEach (e :: es) X.env = (false, eval e X.env) :: starEach es X.env := by rfl) (hpl : (backTo pos (starEach es X.env)).any (·.1) = false := by rfl) :
    PMk X (.Call (.Name x p) (e :: es) [] pos) (tMkO C sp [] ta) := by
  intro pins s σ H Q I h
  refine wpAny_Call_Name_kw (ld_glob I hg hm ?_ hdb)
  refine PySem.W.callWith_K (h₀ := X.base) I.ok.mod.kin T.kC (thn (ha.run pos pins s σ H _ I h) fun us s1 ⟨vs, H1, I1, r1, hz, q1⟩ => ⟨I1.kIn, ?_⟩) he hpl
  show wpAny _ _ (call (.ref C) us) _ _ _
  obtain ⟨nm, N, qn, bs, bm, hdct, sn, sub, ab, col, dd, k0, k1, k2, k3, k5, hC, hT⟩ := excL_of I1.kIn T
  obtain ⟨hp, g, dr, tk, os⟩ := s1
  have hsz := Nat.le_succ hp.objs.size
  have hq := q1 (hp.objs.size + 1) (I1.hok.fresh hsz)
  rw [List.append_nil] at hq
  have up : ∀ b o, hp.get? b = some o → ((hp.push (PySem.W.kdv_tup us)).push (PySem.HandSPX.excO C hp.objs.size)).get? b = some o := fun b o z => Heap.get?_push_of_some _ (Heap.get?_push_of_some _ z)
  have at1 : ((hp.push (PySem.W.kdv_tup us)).push (PySem.HandSPX.excO C hp.objs.size)).get? (hp.objs.size + 1) = some (PySem.HandSPX.excO C hp.objs.size) := by heap_get
  have I2 : Inv X pins σ (upd H1 (hp.objs.size + 1) (exo (hp.objs.size + 1) C none)) (Shared.mk ((hp.push (PySem.W.kdv_tup us)).push (PySem.HandSPX.excO C hp.objs.size)) g dr tk os) := I1.laid (t' := tk) (a := hp.objs.size + 1) (o := exo (hp.objs.size + 1) C none) (h' := (hp.push (PySem.W.kdv_tup us)).push (PySem.HandSPX.excO C hp.objs.size)) up hsz (exo_ok at1)
  have r2 : Vals (V.ref (hp.objs.size + 1) :: vs) (Value.ref (hp.objs.size + 1) :: us) := .cons rfl r1
  have hl : (Value.ref (hp.objs.size + 1) :: us).length = ps.length := (F1.len _ _ _ _ hq).symm.trans r2.length |>.symm
  have bt := hb (Shared.mk ((hp.push (PySem.W.kdv_tup us)).push (PySem.HandSPX.excO C hp.objs.size)) g dr tk os) (Value.ref (hp.objs.size + 1) :: us) I2.kIn (by rw [List.append_nil]; exact hl)
  rw [List.append_nil] at bt
  refine wpAny_call (PySem.HandSPX.call_own PySem.F.excBase_LookupError hT hC (PySem.W.looks_findIn I1.kIn iC) (fun self => PySem.W.bind_fn I1.kIn self tI) (by rw [← Paired.length r1, sizeLine_eq]; omega)
    (codeAny_mono (F1.run _ X.stack _ _ ⟨Value.ref (hp.objs.size + 1) :: us, []⟩ (Value.ref (hp.objs.size + 1) :: us) _ _ (fun _ _ _ => False) (hr.make C us []) (I2.env0.make C us []) bt r2 hq) fun r s2 hq2 => ?_))
  cases r with
  | error er => exact hx pins σ _ _ er s2 I2 hq2
  | ok fl => cases fl with
  | ret u =>
    obtain ⟨v, H2, os2, bare2, un2, hok2, rv, ev, d, fs, ea, ed, hd1, q2⟩ := hq2
    subst ev
    obtain ⟨h2, g2, d2, t2, os3⟩ := s2
    exact ⟨rv, mk_end (raises_own T.exC T.tyC) I1 hsz up un2 hok2 os2 bare2 ea ed hd1 q2⟩
  | _ => exact False.elim hq2
end
end RF
set_option maxHeartbeats 2000000
/-! RF28: raise C(e) where C keeps e; clauses that read what is kept. -/
namespace RF
open PySem PySem.Spec PyProof.Rows L2
/-- an own __init__(self, y): B.__init__(self, "..") and self.f = y -/
def spI (K : PySem.W.Frag) (f : Str) : Sp := fun vs H Q _ => ∃ (e C : Addr) (v : V), vs = [.ref e, v] ∧ LkC K C ∧ PySem.W.takerIn K C f = some none ∧ H e = some (exo e C none) ∧
  ∀ dx, H dx = none → dx ≠ e → Q .non (upd (upd H dx (exd dx [(f, v)])) e (exo e C (some dx)))
section
variable {X : Cx} {x f z n0 n1 : Str} {p1 p2 p3 p4 p5 p6 p7 p8 p9 pA : Pos} {kk : Nat} {B : Addr}
def tIni (K : PySem.W.Frag) (f z : Str) : TS := tSeq (tDrop (tLkI K (tCons (tVar 0) (tCons (tC (.str z)) tNil)))) (tSeq (tLkS K f (tVar 0) (tVar 1)) tNext)
theorem tIni_ok {K : PySem.W.Frag} {N : List Str} {vs : List V} {H : Hp} {Q : VK} {E : XK} (hN : N.length = 2) (h : spI K f vs H Q E) : tIni K f z { nx := fun _ H' => Q .non H', rt := Q } (L2.start N vs) H := by
  obtain ⟨e, C, v, rfl, T, hf, he, k⟩ := h
  have e0 : (L2.start N [V.ref e, v])[0]? = some (some (V.ref e)) := by simp [L2.start]
  have e1 : (L2.start N [V.ref e, v])[1]? = some (some v) := by simp [L2.start]
  simp only [tIni, tSeq, tDrop, tLkI, tCons, tVar, tC, tNil, tLkS, tNext]
  exact ⟨_, e0, e, C, [.str z], rfl, by simp, T, he, ⟨v, e1, _, e0, e, C, rfl, T, hf, he, k⟩⟩
/-- the def itself -/
theorem fn_ini {P : Program} {w : World} {K : PySem.W.Frag} {mg : Str → Option Value} {base : Heap} {name qual : Str} {params : Arguments} {body : List Stmt} {scope : Scope} {g : Addr} {fd : FuncData} {N : List Str}
    (D0 : FunD K name qual params body scope [] [] g fd) (S : FnScope N N scope) (hN : N.length = 2)
    (hb : ∀ (cdv : Value) (A : Around) (outer : List Env) (s : Shared) (H : Hp) (E : XK), PSs (cxOf (L2.CX P w) P w K mg base N qual scope g cdv A outer s H E) body (tIni K f z)) :
    FnOk P w K mg base (L2.CX P w) 1 g fd N (spI K f) := by
  obtain ⟨oc, od, dV, kV, doc, pm, an, cdv, ct, osl, rfl, lk, hcd, _, _⟩ := D0.ex
  exact fn_of lk hcd S (fun vs H Q E h => by obtain ⟨e, C, v, rfl, _⟩ := h; exact hN.symm) fun A outer s H vs Q E hr h => ⟨_, hb cdv A outer s H E, tIni_ok hN h⟩
end
/-! ### raise C(e) -/
def sxRaiseP (c f : Str) (g : EvF) : SFX := fun ρ => (g ρ).bind fun p => (retain1 p.2 p.1).map fun q => (.inr ⟨c, some (f, q.1)⟩, q.2)
/-- what is known of a class that keeps a thing -/
structure KeepC (P : Program) (w : World) (K : PySem.W.Frag) (mg : Str → Option Value) (base : Heap) (c f : Str) : Prop where
  ck : LkC K (He.ga K c)
  tk : PySem.W.takerIn K (He.ga K c) f = some none
  mgc : mg c = some (.ref (He.ga K c))
  ini : ∃ (g : Addr) (fd : FuncData) (ps : List Str), PySem.W.findIn K (.ref (He.ga K c)) "__init__" = some (some (.ref g)) ∧ PySem.W.typeIn K (.ref g) = some (.type "function") ∧ FnOk P w K mg base (L2.CX P w) 1 g fd ps (spI K f) ∧ L2.Binds K fd ps []
section
variable {X : Cx} {W : WX} {e : Expr} {c f : Str} {p pos pos' : Pos} {g : EvF}
theorem sx_raiseP (hc : X.calm = true) (tk : Takes X W) (T : KeepC X.prog X.w X.K X.mg X.base c f) (hr : Room 2 X.A) (hg : Gl X c) (he : PE X e (tEv X.K g)) (hst : notStar e = true) (hdb : (c == ("__debug__" : Str)) = false) :
    PS X (.Raise (some (.Call (.Name c p) [e] [] pos)) none pos') (tStX X.K W (sxRaiseP c f g)) := by
  obtain ⟨gi, fd, ps, iC, tI, F1, hb⟩ := T.ini
  refine PS.mono (ps_raise hc tk (pmk_lk T.ck iC tI F1 hr hb (fun _ _ _ _ _ _ _ z => by obtain ⟨_, _, _, _, _, _, _, _, _, _, _, _, q⟩ := z; exact q.elim) hg T.mgc (pa_cons he pa_nil (star_cons hst)) hdb (star_cons hst))) fun D σ H ⟨M, B, ρ, A, o, ρ', e0, S, k⟩ => ?_
  obtain ⟨⟨r1, ρ1⟩, h1, e0⟩ := bind_some e0
  obtain ⟨⟨d, ρ2⟩, h2, e0⟩ := map_some e0
  cases e0
  refine ⟨M, B, ρ, A, r1, ρ1, h1, S, fun v H1 A1 s1 o1 => ?_⟩
  obtain ⟨A2, s2, S2, rd⟩ := retain1_ok o1.st o1.arg h2
  show [v].length ≤ 1000 ∧ _
  refine ⟨by simp, fun a na => ?_⟩
  refine ⟨a, He.ga X.K c, v, rfl, T.ck, T.tk, upd_same, fun dx nd ne => ⟨rfl, dx, [(f, v)], upd_same, by rw [upd_ne ne]; exact upd_same, ?_, ?_⟩⟩
  · rw [upd_ne ne] at nd; exact nd
  · rw [upd_ne ne] at nd
    have eH : upd (del (upd (upd (upd H1 a (exo a (He.ga X.K c) none)) dx (exd dx [(f, v)])) a (exo a (He.ga X.K c) (some dx))) a) dx (.xd [(f, v)]) = upd H1 dx (.xd [(f, v)]) := by
      funext b
      by_cases hb1 : b = dx
      · subst hb1; rw [upd_same, upd_same]
      · rw [upd_ne hb1, upd_ne hb1]
        by_cases hb2 : b = a
        · subst hb2; rw [del_same, na]
        · rw [del_ne hb2, upd_ne hb2, upd_ne hb1, upd_ne hb2]
    rw [eH]
    have st : Step A H (upd H1 dx (.xd [(f, v)])) A2 := (s1.trans s2).trans (Step.same (same_new nd))
    refine k σ _ A2 st (S2.same (same_new nd)) _ _ ⟨rfl, dx, v, rfl, upd_same, fun m => ?_, rd.same (same_new nd)⟩
    exact m.elim (fun m => (S2.mtr dx m).none nd) fun m => Mb.none (S2.lst m) nd
end
end RF
set_option maxHeartbeats 2000000
/-! RF29: a try whose first clause meets, or whose second, which reads what is kept. -/
namespace RF
open PySem PySem.Spec PyProof.Rows L2
/-- a suite behind «as», at slot i: what is caught stands at a -/
def tH (K : PySem.W.Frag) (i : Nat) (h : Xc → SF) (a : Addr) (cls : Value) (d : Option Addr) : TS := fun D σ H => ∃ M B ρ A x r ρ' σ0, h x ρ = some (.rt r, ρ') ∧ RSt K M B ρ A σ0 H ∧ σ = σ0.set i (some (.ref a)) ∧ i < σ0.length ∧ XOut K (MA M A) H x cls d ∧
  ∀ H' A', Step A H H' A' → ∀ v, Out K M B ρ' A' σ0 H H' r v → D.rt v H'
def sfTry2 (c1 c2 : Str) (i : Nat) (body : SFX) (h1 : SF) (h2 : Xc → SF) : SF := fun ρ => (body ρ).bind fun p => match p.1 with
  | .inl o => some (o, p.2)
  | .inr x => if x.cls = c1 then h1 p.2 else if x.cls = c2 then (match h2 x p.2 with
    | some (.rt r, ρ') => if i < p.2.length then some (.rt r, ρ') else none
    | _ => none) else none
section
variable {X : Cx} {body : List Stmt} {x y n : Str} {b0 b1 : Stmt} {suite suit2 : List Stmt} {hds : List ExceptHandler} {l : List Clause} {sx : SFX} {sf : SF} {h2 : Xc → SF} {i : Nat} {np np2 pos pos' pos2 : Pos}
theorem st_try2 (pl : Plain X) (hN : X.N.Nodup) (hc : Names X x (.ref (He.ga X.K x))) (hc2 : Names X y (.ref (He.ga X.K y))) (hn : X.N[i]? = some n) (hln : X.env.kindOf n = some .local)
    (hm : PySem.W.exmOne X.K (.ref (He.ga X.K x)) (.ref (He.ga X.K x)) = some true) (hm2 : PySem.W.exmOne X.K (.ref (He.ga X.K y)) (.ref (He.ga X.K x)) = some false) (hm3 : PySem.W.exmOne X.K (.ref (He.ga X.K y)) (.ref (He.ga X.K y)) = some true)
    (hb : ∀ (W : WX) (pn : List (Addr × Obj)) (xe : Value → Shared → Prop), Takes (X.tr pn xe) W → PSs (X.tr pn xe) body (tStX X.K W sx)) (hsu : ∀ (a : Addr) (pn : List (Addr × Obj)), PSs (X.suite a pn) (b0 :: suite) (tSt X.K sf))
    (hsu2 : SuiteOk X (b1 :: suit2) (tH X.K i h2)) (r : Mix X hds l) :
    PS X (.Try body (.ExceptHandler (some (.Name x np)) none (b0 :: suite) pos' :: .ExceptHandler (some (.Name y np2)) (some n) (b1 :: suit2) pos2 :: hds) [] [] pos) (tSt X.K (sfTry2 x y i sx sf h2)) := by
  refine PS.mono (ps_mix (Wo := fun _ _ _ _ => False) pl.hs pl.hf hN takes_none5 (fun W pn xe tk _ => hb W pn xe tk)
    (Mix.one (k := ⟨.ref (He.ga X.K x), none, fun _ _ _ => tSt X.K sf⟩) hc rfl (fun a oe cls d pn _ _ => hsu a _) (Mix.as (k := ⟨.ref (He.ga X.K y), some i, tH X.K i h2⟩) hc2 rfl hn hln hsu2 r))) fun D σ H ⟨M, B, ρ, A, o, ρ', e, S, k⟩ => ?_
  obtain ⟨⟨o1, ρ1⟩, g1, e⟩ := bind_some e
  refine ⟨M, B, ρ, A, o1, ρ1, g1, S, fun σ1 H1 A1 s1 => ?_⟩
  cases o1 with
  | inl o1 => cases e; exact k σ1 H1 A1 s1
  | inr z =>
    dsimp only at e
    split at e
    · rename_i hy
      intro S1 cls d w
      obtain ⟨rfl, _⟩ := w
      rw [hy]
      exact ⟨true, hm, fun _ a _ => ⟨M, B, ρ1, A1, o, ρ', e, S1, fun σ2 H2 A2 s2 => (k σ2 H2 A2 (s1.trans s2)).back s1⟩, fun z => by cases z⟩
    · split at e
      · rename_i hy
        split at e
        · rename_i r1 ρ2 q
          split at e
          · rename_i lt
            cases e
            intro S1 cls d w
            have ec := w.1
            rw [ec, hy]
            refine ⟨false, hm2, (fun z => by cases z), fun _ => ⟨true, hm3, fun _ a _ => ?_, fun z => by cases z⟩⟩
            exact ⟨M, B, ρ1, A1, z, r1, _, σ1, q, S1, rfl, by rw [S1.l2]; exact lt, by rw [← hy, ← ec]; exact w, fun H2 A2 s2 v o2 => k σ1 H2 A2 (s1.trans s2) v (o2.back' s1)⟩
          · cases e
        · cases e
      · cases e
end
end RF
set_option maxHeartbeats 2000000
/-! RF30: defs as values; repr of nested data where no repr is under way. -/
namespace RF
open PySem PySem.Spec PyProof.Rows L2
section
variable {X : Cx} {W : WX} {x : Str} {p pos : Pos} {i j k n : Nat} {e : Expr} {es : List Expr} {av : AvF} {f : EvF}
/-- the name of a def, as a value -/
theorem ev_glo (hg : Gl X x) (hm : X.mg x = some (.ref (He.ga X.K x))) (hdb : (x == ("__debug__" : Str)) = false) : PE X (.Name x p) (tEv X.K (evCst (.gl x))) :=
  ⟨fun pins s σ H Q I ⟨M, B, ρ, A, r, ρ', e0, S, k0⟩ => by
    cases e0
    exact ld_glob I hg hm ⟨.ref (He.ga X.K x), H, I, rfl, k0 _ H A Step.refl ⟨S, by simp only [Rep]⟩⟩ hdb⟩
/-- a call of what slot i holds, one of some defs -/
def evCallGX (i : Nat) (tbl : List (Str × CFX)) (n : Nat) (io : List Bool) (g : AvF) : EvX := fun ρ => match ρ[i]? with
  | some (.val (.gl x)) => (match tbl.lookup x with
    | some cf => evCallNX n cf io g ρ
    | none => none)
  | _ => none
theorem ex_callG {tbl : List (Str × CFX)} (io : List Bool) (hA : ∀ y cf, tbl.lookup y = some cf → ClX X.prog X.w X.K X.mg X.base k y n cf ∧ X.mg y = some (.ref (He.ga X.K y))) (tk : Takes X W) (hr : Room j X.A) (hk : k ≤ j) (hN : X.N[i]? = some x) (hv : Vis X.env.scope x)
    (ha : PA X (e :: es) (tAv X.K av)) (hdb : (x == ("__debug__" : Str)) = false) (hcd : (x == ("__classdict__" : Str)) = false) (hst : (e :: es).all notStar = true) :
    PE X (.Call (.Name x p) (e :: es) [] pos) (tEvX X.K W (evCallGX i tbl n io av)) := by
  rw [List.all_cons, Bool.and_eq_true] at hst
  refine ⟨fun pins s σ H Q I ⟨M, B, ρ, A, y, ρ', e0, S, k1, k2⟩ => ?_⟩
  unfold evCallGX at e0
  split at e0
  · rename_i g q
    split at e0
    · rename_i cf hl
      obtain ⟨c, hm2⟩ := hA _ _ hl
      obtain ⟨f, fd, ps, rfl, F, hm, kp, b⟩ := c.ex
      have ef : f = He.ga X.K g := by
        rw [hm] at hm2
        exact Value.ref.inj (Option.some.inj hm2)
      obtain ⟨v, _, hσ, rp⟩ := S.valued q
      simp only [Rep] at rp
      subst rp
      rw [← ef] at hσ
      refine wpAny_Call_Name_kw (thn ((pe_var (pos := p) hN hv hdb hcd).run pins s σ H (fun u H1 => u = .ref f ∧ H1 = H) I ⟨.ref f, hσ, rfl, rfl⟩) fun u s1 ⟨v1, H1, I1, r1, q1⟩ => ?_)
      obtain ⟨rfl, rfl⟩ := q1
      cases r1
      obtain ⟨⟨rs, ρ1⟩, g1, e0⟩ := bind_some e0
      dsimp only at e0
      split at e0
      · rename_i hln
        refine PySem.W.callWith_K (h₀ := X.base) I1.ok.mod.kin kp (thn (ha.run pos pins s1 σ _ (fun vs H2 => spX X.K ps.length cf [] [] vs H2 Q (WE W σ)) I1 ⟨M, B, ρ, A, rs, ρ1, g1, S, fun vs H2 A2 s2 S2 a2 => ?_⟩) fun us s2 ⟨vs, H2, I2, r, q2⟩ => ⟨I2.kIn, ?_⟩) (star_cons hst.1) (star_any hst.2)
        · exact call_okX (by rw [a2.length]; exact hln) S2 a2 e0 Reps.nil (fun r er v H3 A3 s3 o3 => k1 r er v H3 A3 (s2.trans s3) (o3.back' s2)) fun z ez cls d H3 A3 s3 S3 o3 => k2 z ez cls d H3 A3 (s2.trans s3) S3 o3
        · exact run_fnS F (hr.mono hk) b (passAt tk σ) I2 r q2
      · cases e0
    · cases e0
  · cases e0
end
/-! ### repr -/
def okR (d : PyData) : Bool := d.canLay0 && (decide (d.depth ≤ 60) && (d.showable && decide (d.shown.length ≤ lim)))
/-- repr(e), e nested data -/
def evRepr (f : EvF) : EvF := fun ρ => (f ρ).bind fun p => (deref p.2 p.1).bind fun d => if okR (toPy d) = true then some (.val (.str (toPy d).shown), p.2) else none
def rRepr (K : PySem.W.Frag) : List V → Hp → VK → Prop := fun xs H Q => ∃ (v : V) (d : PyData), xs = [v] ∧ Dp K H v d ∧ okR d = true ∧ Q (.str d.shown) H
section
variable {X : Cx} {e : Expr} {p pos : Pos} {f : EvF}
theorem cr_repr (hg : X.A.guards = some []) (hu : X.A.units + 64 < cLine) : CallR X (.builtin "repr") (rRepr X.K) := by
  intro pins s σ H xs us Q I r h
  obtain ⟨v, d, rfl, hd, ok, q⟩ := h
  cases r with
  | @cons _ u _ _ a t =>
    cases t
    simp only [okR, Bool.and_eq_true, decide_eq_true_eq] at ok
    obtain ⟨o1, o2, o3, o4⟩ := ok
    have hl : d.shown.length ≤ sizeLine := lim_le o4
    obtain ⟨as, rd⟩ := Dp.reads I d v u hd a
    have fin : ∀ h' tk u', (∀ b o, s.heap.get? b = some o → h'.get? b = some o) → EP X pins σ Q (.str d.shown u') { s with heap := h', toks := tk } := fun h' tk u' k => ⟨.str _, H, I.kept (t' := tk) k, ⟨_, rfl⟩, q⟩
    have ref : ∀ b, u = .ref b → wpAny (model X.prog X.w) X.A (call (.builtin "repr") [u]) (EP X pins σ Q) X.xe s := fun b eb => by
      subst eb
      exact repr_of_reads' rd o3 (PyData.noDict_hsm (PyData.hasDict_of_canLay d o1)) hg (by omega) (fun _ _ z => z) (fun h' u' tk k => fin h' tk u' k) hl
    cases rd with
    | none => exact PySem.P.repr_of_none (by simpa only [PyData.shown] using fin s.heap _ _ fun _ _ z => z)
    | bool b => exact PySem.P.repr_of_bool (by simpa only [PyData.shown] using fin s.heap _ _ fun _ _ z => z)
    | int i t => exact PySem.P.repr_of_int (by simpa [PyData.showable] using o3) (by simpa only [PyData.shown] using fin s.heap _ _ fun _ _ z => z)
    | str y t => exact PySem.P.repr_of_str (by simpa only [PyData.shown] using fin s.heap _ _ fun _ _ z => z) (by simpa only [PyData.shown] using hl)
    | _ => exact ref _ rfl
theorem ev_repr (hgu : X.A.guards = some []) (hu : X.A.units + 64 < cLine) (hg : Gl X "repr") (hm : X.mg "repr" = none) (he : PE X e (tEv X.K f)) (hst : notStar e = true) : PE X (.Call (.Name "repr" p) [e] [] pos) (tEv X.K (evRepr f)) :=
  PE.mono (pe_callB (id := "repr") (t := tCons (tEv X.K f) tNil) (cr_repr hgu hu) hg hm (by decide +kernel) (pa_cons he pa_nil (star_cons hst)) (by decide +kernel) (by decide +kernel) (star_cons hst) (by rfl)) fun σ H Q ⟨M, B, ρ, A, r, ρ', e0, S, k⟩ => by
    obtain ⟨⟨r1, ρ1⟩, h1, e0⟩ := bind_some e0
    obtain ⟨d, h2, e0⟩ := bind_some e0
    split at e0
    · rename_i ok
      cases e0
      refine ⟨M, B, ρ, A, r1, _, h1, S, fun v H1 A1 s1 o1 => ?_⟩
      have ok1 := ok
      unfold okR at ok1
      rw [Bool.and_eq_true] at ok1
      exact ⟨v, toPy d, rfl, dpP_of ok1.1 (o1.arg.peek o1.st h2), ok, k _ H1 A1 s1 ⟨o1.st, Rep.str⟩⟩
    · cases e0
end
end RF
set_option maxHeartbeats 2000000
/-! RF31: a law that is called where no repr is under way. -/
namespace RF
open PySem PySem.Spec PyProof.Rows L2
/-- a def that may be called where no repr is under way -/
structure GCl (P : Program) (w : World) (K : PySem.W.Frag) (mg : Str → Option Value) (base : Heap) (k : Nat) (x : Str) (n : Nat) (cf : CF) : Prop where
  ex : ∃ f : Addr, mg x = some (.ref f) ∧ PySem.W.keepIn K (.ref f) = true ∧ ∀ (A : Around) (outer : List Env) (s : Shared) (H : Hp) (us : List Value) (vs : List V) (Q : VK) (E : XK),
    A.guards = some [] → Room k A → Env0 P w K mg base A outer s H → Vals vs us → spF K n cf vs H Q E → codeAny (model P w) A (.call (.ref f) ⟨us, []⟩) (CR C8.CX0 outer P w H s Q E) s
section
variable {P : Program} {w : World} {K : PySem.W.Frag} {mg : Str → Option Value} {base : Heap}
/-- of its body, the code object known -/
theorem gcl_rfC {x : Str} {st : Stmt} {fd : FuncData} {N ps : List Str} {k n np : Nat} (sf : SF) (D0 : FdP K x st (He.fAd K (x, none)) fd) (hm : mg x = some (.ref (He.fAd K (x, none)))) (b : L2.Binds K fd ps []) (S : FnScope N ps (C8.fnScope st)) (hn : N.length = n) (hp : ps.length = np)
    (hb : ∀ (A : Around) (outer : List Env) (s : Shared) (H : Hp) (E : XK), A.guards = some [] → Room k (A.deeper (envOfC x (C8.fnScope st) s.heap.objs.size (He.fAd K (x, none)) (.ref (He.codeOf K (x, none))))) →
      PSs (cxOf C8.CX0 P w K mg base N x (C8.fnScope st) (He.fAd K (x, none)) (.ref (He.codeOf K (x, none))) A outer s H E).nox (C8.fnBody st) (tSt K sf)) : GCl P w K mg base (k + 1) x np (cfOf n sf) := by
  subst hn hp
  have kp := D0.kp
  obtain ⟨oc, od, dV, kV, doc, pm, an, cdv, ct, osl, rfl, lk, hcd, _, _⟩ := D0.ex
  obtain ⟨c, rfl⟩ := He.codeIn_ref hcd
  have ec : He.codeOf K (x, none) = c := He.codeOf_eq lk rfl
  rw [ec] at hb
  refine ⟨_, hm, kp, fun A outer s H us vs Q E hg hr e0 r q => ?_⟩
  have KX : K.In s.heap := e0.mod.kin.keeps fun b o e => (e0.bs b o e).1
  have bt := b s us KX (by rw [List.append_nil, ← r.length]; exact q.1)
  rw [List.append_nil] at bt
  exact LamX.run_ofS lk hcd S hr e0 bt r q.1 fun hr' => ⟨_, (hb A outer s H E hg hr').nox, fn_reads q⟩
end
section
variable {P : Program} {w : World} {K : PySem.W.Frag} {mg : Str → Option Value} {base : Heap}
theorem gcl_rf {x : Str} {st : Stmt} {f : Addr} {fd : FuncData} {N ps : List Str} {k n np : Nat} (sf : SF) (F : C8.Def K mg x st f fd) (b : L2.Binds K fd ps []) (S : FnScope N ps (C8.fnScope st)) (hn : N.length = n) (hp : ps.length = np)
    (hb : ∀ (cdv : Value) (A : Around) (outer : List Env) (s : Shared) (H : Hp) (E : XK), A.guards = some [] → Room k (A.deeper (envOfC x (C8.fnScope st) s.heap.objs.size f cdv)) → PSs (cxOf C8.CX0 P w K mg base N x (C8.fnScope st) f cdv A outer s H E).nox (C8.fnBody st) (tSt K sf)) :
    GCl P w K mg base (k + 1) x np (cfOf n sf) := by
  subst hn hp
  have hm := F.mgf
  have kp := F.kp
  obtain ⟨oc, od, dV, kV, doc, pm, an, cdv, ct, osl, rfl, lk, hcd⟩ := F.fn.ex
  refine ⟨_, hm, kp, fun A outer s H us vs Q E hg hr e0 r q => ?_⟩
  have KX : K.In s.heap := e0.mod.kin.keeps fun b o e => (e0.bs b o e).1
  have bt := b s us KX (by rw [List.append_nil, ← r.length]; exact q.1)
  rw [List.append_nil] at bt
  exact LamX.run_ofS lk hcd S hr e0 bt r q.1 fun hr' => ⟨_, (hb cdv A outer s H E hg hr').nox, fn_reads q⟩
end
section
variable {X : Cx} {j k n : Nat} {cf : CF} {x : Str} {p pos : Pos} {e : Expr} {es : List Expr} {av : AvF}
theorem ev_gcl (io : List Bool) (hgu : X.A.guards = some []) (c : GCl X.prog X.w X.K X.mg X.base k x n cf) (hr : Room j X.A) (hk : k ≤ j) (hg : Gl X x) (ha : PA X (e :: es) (tAv X.K av)) (hdb : (x == ("__debug__" : Str)) = false) (hst : (e :: es).all notStar = true) :
    PE X (.Call (.Name x p) (e :: es) [] pos) (tEv X.K (evCallN n cf io av)) := by
  obtain ⟨f, hm, kp, run⟩ := c.ex
  rw [List.all_cons, Bool.and_eq_true] at hst
  refine ⟨fun pins s σ H Q I ⟨M, B, ρ, A, r, ρ', e0, S, kk⟩ => ?_⟩
  obtain ⟨⟨rs, ρ1⟩, h1, e0⟩ := bind_some e0
  dsimp only at e0
  split at e0
  · rename_i hl
    refine wpAny_Call_Name_kw (ld_glob I hg hm ?_ hdb)
    refine PySem.W.callWith_K (h₀ := X.base) I.ok.mod.kin kp (thn (ha.run pos pins s σ H (fun vs H2 => spF X.K n cf vs H2 Q C8.E0) I ⟨M, B, ρ, A, rs, ρ1, h1, S, fun vs H2 A2 s2 S2 a2 => ?_⟩) fun us s2 ⟨vs, H2, I2, r2, q2⟩ => ⟨I2.kIn, ?_⟩) (star_cons hst.1) (star_any hst.2)
    · exact call_ok (by rw [a2.length]; exact hl) S2 a2 e0 fun v H3 A3 s3 o3 => kk v H3 A3 (s2.trans s3) (o3.back' s2)
    · exact call_end I2 (run X.A X.stack s2 H2 us vs Q C8.E0 hgu (hr.mono hk) I2.env0 r2 q2)
  · cases e0
end
theorem lookup_all {α : Type} : ∀ (l : List (Str × α)) (p : Str × α → Prop), (∀ x ∈ l, p x) → ∀ {y : Str} {a : α}, l.lookup y = some a → p (y, a)
  | [], _, _, _, _, hy => by cases hy
  | (z, b) :: l, p, h, y, a, hy => by
    by_cases e : y = z
    · subst e
      simp only [List.lookup, beq_self_eq_true, Option.some.injEq] at hy
      subst hy
      exact h _ List.mem_cons_self
    · have e2 : (y == z) = false := beq_eq_false_iff_ne.mpr e
      simp only [List.lookup, e2] at hy
      exact lookup_all l p (fun x m => h x (List.mem_cons_of_mem _ m)) hy
/-! ### a, b, c = e, [], [] -/
end RF
set_option maxHeartbeats 1000000
/-! RF32: rules that run what may raise at given slots. -/
namespace RF
open PySem L2
section
variable {ρ ρ1 ρ2 : Lo} {f g : SFX} {fx : EvX} {sf : SF} {o : Fl} {b : Bool} {t : TvF} {y : Sum Fl Xc × Lo} {x : Xc} {r : R} {e : EvF} {z : Sum R Xc} {d : D}
theorem x_seqX (h1 : f ρ = some (.inr x, ρ1)) : sxSeq f g ρ = some (.inr x, ρ1) := by
  simp only [sxSeq, h1, Option.bind_some]
theorem x_retX (h1 : fx ρ = some (.inr x, ρ1)) : sxRet fx ρ = some (.inr x, ρ1) := by
  simp only [sxRet, h1, Option.map_some, retX]
end
section
variable {ρ ρ1 : Lo} {av : AvF} {rs : List R} {ds : List D} {n : Nat} {cf : CFX} {io : List Bool} {ss outs : List Sl} {x : Xc} {d : D}
theorem callRX {ρ1 : Lo} (h2 : ValsR rs ds) (h4 : ds.map Sl.val = ss) {y : Sum R Xc} (h5 : cf ss = some (y, outs)) (hy : ∀ j, y ≠ .inl (.ali j)) (h7 : outs.length = ss.length) : evCallRX cf io (rs, ρ1) = some (y, ρ1) := by
  subst h4
  unfold evCallRX
  dsimp only
  rw [h2.prep]
  simp only [Option.bind_some]
  rw [if_pos (by rw [lentOf_vals]; exact List.nodup_nil), pslots_vals]
  simp only [Option.bind_some, h5]
  cases y with
  | inr z => rw [if_pos h7, putBack_vals]
  | inl r =>
    cases r with
    | ali j => exact absurd rfl (hy j)
    | _ => rw [if_pos h7, putBack_vals]
/-- what is called raises -/
theorem v_callX (h1 : av ρ = some (rs, ρ1)) (h2 : ValsR rs ds) (h3 : rs.length = n) (h4 : ds.map Sl.val = ss) (h5 : cf ss = some (.inr x, outs)) (h7 : outs.length = ss.length) : evCallNX n cf io av ρ = some (.inr x, ρ1) := by
  simp only [evCallNX, h1, Option.bind_some]
  exact (if_pos h3).trans (callRX h2 h4 h5 (fun j z => by cases z) h7)
theorem v_callGX {i : Nat} {tbl : List (Str × CFX)} {g : Str} {y : Sum R Xc × Lo} (h0 : ρ[i]? = some (.val (.gl g))) (hl : tbl.lookup g = some cf) (h : evCallNX n cf io av ρ = some y) : evCallGX i tbl n io av ρ = some y := by
  unfold evCallGX
  rw [h0]
  dsimp only
  rw [hl]
  exact h
/-- a lambda that raises -/
theorem r_lamFX {k : Nat} {ev : EvX} {caps : List D} (h0 : (caps.map Sl.val) ++ List.replicate (k - caps.length) .emp = ρ) (h1 : ev ρ = some (.inr x, ρ1)) : lamFX k ev caps [] = some (.inr x, []) := by
  subst h0
  unfold lamFX
  simp only [List.nil_append, List.length_nil, Nat.sub_zero, h1, Option.bind_some]
  rfl
/-- x(lambda: ..), whatever the function is -/
theorem r_lam1X {cf : Addr → LF → List D → CFX → CF} {js : List Nat} {lam : List D → CFX} {caps : List D} {d : D} (h1 : capsOf ρ js = some caps) (h2 : ∀ g F, cf g F caps (lam caps) [.val (.fn g F caps)] = some (.val d, [.emp])) : evLam1X cf js lam ρ = some (.val d, ρ) := by
  unfold evLam1X
  simp only [h1, Option.bind_some]
  apply theY_of
  intro g F
  have hv : ValsR [R.val (D.fn g F caps)] [.fn g F caps] := .cons .nil
  have q := v_call (n := 1) (c := cf g F caps (lam caps)) (io := [false]) (av := fun ρ => some ([R.val (D.fn g F caps)], ρ)) (ρ := ρ) rfl rfl hv rfl rfl (h2 g F) (fun j z => by cases z) rfl
  unfold evCallN at q
  simpa using q
theorem r_told {i : Nat} {g : Addr} {F : LF} {caps : List D} {led : CFX} {z : Str} (h0 : ρ[i]? = some (.val (.fn g F caps))) (h : led [] = some (.inr x, [])) : evTold i g F caps led z ρ = some (.inr x, ρ) := by
  unfold evTold
  refine (if_pos h0).trans ?_
  rw [callRX (rs := []) (ds := []) (ss := []) (outs := []) .nil rfl h (fun j z => by cases z) rfl]
  rfl
end
/-! repr -/
theorem r_repr {f : EvF} {ρ ρ1 : Lo} {r : R} {d : D} (h1 : f ρ = some (r, ρ1)) (h2 : deref ρ1 r = some d) (h3 : okR (toPy d) = true) : evRepr f ρ = some (.val (.str (toPy d).shown), ρ1) := by
  simp only [evRepr, h1, h2, Option.bind_some, if_pos h3]
end RF
set_option maxHeartbeats 2000000
/-! RF33: for with a body that may raise; list.count; comprehensions within comprehensions; a suite that returns the repr of what is kept; a def that gets a function, called where no repr is under way. -/
namespace RF
open PySem PySem.Spec PyProof.Rows L2
/-! ### for, the body may raise -/
def forX (tg : Tg) (sx : SFX) : List D → SFX
  | [], ρ => some (.inl .nx, ρ)
  | d :: ds, ρ => (tgSet tg d ρ).bind fun ρ1 => (sx ρ1).bind fun p => match p.1 with
    | .inl .nx => forX tg sx ds p.2
    | .inl .ct => forX tg sx ds p.2
    | .inl .bk => some (.inl .nx, p.2)
    | .inl (.rt r) => some (.inl (.rt r), p.2)
    | .inr x => some (.inr x, p.2)
def sxFor (sv : SvF) (tg : Tg) (sx : SFX) : SFX := fun ρ => (sv ρ).bind fun p => forX tg sx p.1 p.2
section
variable {X : Cx} {W : WX} {tgt iter : Expr} {body : List Stmt} {pos : Pos} {sv : SvF} {tg : Tg} {sx : SFX}
theorem sx_for (hp : PassesOwn (model X.prog X.w) X.A X.env X.xe) (hc : X.calm = true) (hns : notSet iter = true) (hi : PI X tgt iter (tSv X.K sv)) (hg : PG X tgt (gTg X.K tg)) (hb : PSs X body (tStX X.K W sx)) : PS X (.For tgt iter body [] pos) (tStX X.K W (sxFor sv tg sx)) :=
  PS.mono (ps_for hp hc hi hg hb (folded_of hns)) fun D σ H ⟨M, B, ρ, A, o, ρ', e, S, k⟩ => by
    obtain ⟨⟨items, ρ1⟩, h1, e⟩ := bind_some e
    refine ⟨M, B, ρ, A, items, ρ1, h1, S, fun J H1 A1 s1 S1 src => ?_⟩
    refine ⟨fun i m σ2 H2 => m = items.length - i ∧ i ≤ items.length ∧ ∃ ρ2 A2, forX tg sx (items.drop i) ρ2 = some (o, ρ') ∧ RSt X.K M B ρ2 A2 σ2 H2 ∧ Step A1 H1 H2 A2, ⟨items.length, by simp, Nat.zero_le _, ρ1, A1, by simpa using e, S1, Step.refl⟩, ?_⟩
    rintro i m σ2 H2 ⟨rfl, hle, ρ2, A2, e2, S2, s2⟩
    by_cases hlt : i < items.length
    · right
      have hd : items.drop i = items[i] :: items.drop (i + 1) := List.drop_eq_getElem_cons hlt
      rw [hd] at e2
      obtain ⟨ρ3, g1, e2⟩ := bind_some e2
      obtain ⟨⟨o4, ρ4⟩, g2, e2⟩ := bind_some e2
      refine ⟨src.go A2 H2 s2 i hlt, fun σ' H' => ∃ ρ2 A2, forX tg sx (items.drop (i + 1)) ρ2 = some (o, ρ') ∧ RSt X.K M B ρ2 A2 σ' H' ∧ Step A1 H1 H' A2, fun σ' H' w => ⟨items.length - (i + 1), by omega, rfl, hlt, w⟩, fun x H3 y => ?_⟩
      obtain ⟨sm, d, e3, rd⟩ := src.yld M A2 H2 (fun a m => .inl m) s2 i x H3 hlt y
      have e4 : items[i] = d := by rw [List.getElem?_eq_getElem hlt] at e3; exact Option.some.inj e3
      subst e4
      refine tg_ok (S2.same sm) g1 rd fun σ3 A3 S3 s3 _ => ?_
      refine ⟨M, B, ρ3, A3, o4, ρ4, g2, S3, fun σ4 H4 A4 s4 => ?_⟩
      have st := ((s2.trans (Step.same sm)).trans s3).trans s4
      cases o4 with
      | inr x => cases e2; exact k σ4 H4 A4 (s1.trans st)
      | inl o4 => cases o4 with
        | nx => exact fun S4 => ⟨ρ4, A4, e2, S4, st⟩
        | ct => exact fun S4 => ⟨ρ4, A4, e2, S4, st⟩
        | bk => cases e2; exact fun S4 => k σ4 H4 A4 (s1.trans st) S4
        | rt r => cases e2; exact fun v q => k σ4 H4 A4 (s1.trans st) v (q.back' (s1.trans ((s2.trans (Step.same sm)).trans s3)))
    · left
      have e5 : i = items.length := by omega
      subst e5
      rw [List.drop_length] at e2
      cases e2
      exact ⟨src.stop A2 H2 s2, k σ2 H2 A2 (s1.trans s2) S2⟩
end
/-! ### xs.count(e), ints -/
def intsD : List D → Option (List Int)
  | [] => some []
  | .int k :: ds => (intsD ds).map (k :: ·)
  | _ => none
theorem intsD_ok {K : PySem.W.Frag} {M : Addr → Prop} {H : Hp} : ∀ {ds : List D} {ns : List Int} {vs : List V}, intsD ds = some ns → Reps K M H ds vs → vs = ns.map V.int
  | [], _, vs, h, r => by
    cases h
    simp only [Reps] at r
    rw [r]
    rfl
  | d :: ds, ns, vs, h, r => by
    cases d with
    | int k =>
      obtain ⟨ns1, h1, h2⟩ := map_some (show (intsD ds).map (k :: ·) = some ns from h)
      subst h2
      simp only [Reps] at r
      obtain ⟨v, us, e1, r1, r2⟩ := r
      subst e1
      simp only [Rep] at r1
      subst r1
      rw [intsD_ok h1 r2]
      rfl
    | _ => cases h
def evCnt (i : Nat) (g : AvF) : EvF := fun ρ => match ρ[i]? with
  | some (.own _ _) => (g ρ).bind fun p => (derefs p.2 p.1).bind fun q => match q, p.2[i]? with
    | [.int k], some (.own _ ds) => (intsD ds).map fun ns => (.val (.int (ns.count k : Nat)), p.2)
    | _, _ => none
  | _ => none
section
variable {X : Cx} {x : Str} {a : Expr} {av : AvF} {pos : Pos}
theorem ev_cnt {i : Nat} {nm apos : Pos} (ho : PE X (.Name x nm) (tVar i)) (hline : (apos.endLine == pos.line) = true) (ha : PA X [a] (tAv X.K av)) (hst : notStar a = true) :
    PE X (.Call (.Attribute (.Name x nm) "count" apos) [a] [] pos) (tEv X.K (evCnt i av)) :=
  PE.mono (pe_bm PySem.F.plainAttrs_list PySem.F.slot_list_count PySem.F.type_list_count mt_lcount ho ha (by rfl) (by rw [star_cons hst]; rfl) hline (star_cons hst) (by rfl)) fun σ H Q ⟨M, B, ρ, A, r, ρ', e, S, k⟩ => by
    unfold evCnt at e
    split at e
    · rename_i b ds q
      obtain ⟨a0, vs, h1, h2, h3, h4, h5⟩ := S.owned q
      obtain ⟨⟨rs, ρ1⟩, g1, e⟩ := bind_some e
      obtain ⟨qs, g2, e⟩ := bind_some e
      refine ⟨_, h2, .inl ⟨rfl, _, SqL.of h3⟩, M, B, ρ, A, rs, ρ1, g1, S, fun us H1 A1 s1 S1 a1 => ?_⟩
      have pk := derefs_ok S1 a1 g2
      dsimp only at e
      split at e
      · rename_i kk b' ds' q'
        obtain ⟨ns, g3, e⟩ := map_some e
        cases e
        obtain ⟨a', ws, f1, f2, f3, f4, f5⟩ := S1.owned q'
        rw [h2] at f2; cases f2
        have ew := intsD_ok g3 f4
        subst ew
        cases pk with
        | cons p1 pt =>
          cases pt
          have := p1.int
          subst this
          exact ⟨a0, ns, kk, rfl, rfl, SqL.of f3, k _ _ A1 s1 ⟨S1, Rep.int⟩⟩
      · cases e
    · cases e
end
/-! ### blocks within blocks -/
section
variable {X : Cx} {s : Shared} {H : Hp} {so scope : Scope} {C : Addr} {cl : List (Str × Addr)} {fp : List Addr} {x : Str} {N : List Str} {own : List (Str × Nat)}
theorem blkOk_in (h : blkC N so scope own = true) : BlkOk N (Bk X s H so C cl fp).env.scope scope own := by
  have b := blkOk_by h
  refine ⟨b.kind, b.uniq, b.ix, fun y hy e => ?_, b.own⟩
  rcases b.free y hy e with q | q
  · exact .inl (bl_cel q)
  · rcases rl_fre (env := X.env) q with q | q
    · exact .inl q
    · exact .inr q
theorem bl_fn (h : so.names.lookup x = some .cell) : (Bk X s H so C cl fp).fn x = true := by
  show (so.names.lookup x == some .cell) = true
  rw [h]
  rfl
end
/-! ### return (z, w + repr(error.f)) -/
def hPayR (c f z w : Str) : Xc → SF := fun x ρ => if x.cls = c then (match x.pay with
  | some (g, p) => if g = f ∧ okR (toPy p) = true ∧ w.length + (toPy p).shown.length ≤ lim then some (.rt (.val (.tup [.str z, .str (w ++ (toPy p).shown)])), ρ) else none
  | none => none) else none
section
variable {X : Cx} {c f z wt n : Str} {i : Nat} {kk kk2 x1 : Nat} {kp kp2 p ap tp rp np bp cp : Pos}
theorem suite_payR (hgu : X.A.guards = some []) (hu : X.A.units + 64 < cLine) (T : XfC X.K (He.ga X.K c)) (hno : PySem.W.findIn X.K (.ref (He.ga X.K c)) f = some none) (hN : X.N[i]? = some n) (hv : Vis X.env.scope n) (hd : (n == ("__debug__" : Str)) = false) (hcd : (n == ("__classdict__" : Str)) = false)
    (hg : Gl X "repr") (hm : X.mg "repr" = none)
    (hb : ∀ (a : Addr) (oe : Obj) (pn : List (Addr × Obj)), attributeBase (.Name n p) f (X.suite a ((a, oe) :: pn)).env (eval (.Name n p) (X.suite a ((a, oe) :: pn)).env) = eval (.Name n p) (X.suite a ((a, oe) :: pn)).env) :
    SuiteOk X [.Return (some (.Tuple [.Constant (.str z) kk kp, .BinOp (.Constant (.str wt) kk2 kp2) .Add (.Call (.Name "repr" np) [.Attribute (.Name n p) f ap] [] cp) bp] x1 tp)) rp] (tH X.K i (hPayR c f z wt)) := by
  intro a oe cls d pn hz hdt
  have gu : (X.suite a ((a, oe) :: pn)).A.guards = some [] := hgu
  have hu2 : (X.suite a ((a, oe) :: pn)).A.units + 64 < cLine := hu
  have hg2 : Gl (X.suite a ((a, oe) :: pn)) "repr" := hg
  have pr := pe_callB (pos := cp) (p := np) (id := "repr") (cr_repr gu hu2) hg2 hm (by decide +kernel) (pa_cons (pe_xf (pos := ap) T hno hz hdt (pe_var (pos := p) hN hv hd hcd) (hb a oe pn)) pa_nil (by rfl)) (by decide +kernel) (by decide +kernel) (by rfl) (by rfl)
  refine PSs.mono (pss_cons (ps_ret (pe_tup (pa_cons pe_str (pa_cons (pe_op (op_bin .Add) pe_str pr) pa_nil)))) pss_nil) fun D σ H ⟨M, B, ρ, A, x, r, ρ', σ0, e, S, es, lt, w, k⟩ => ?_
  unfold hPayR at e
  split at e
  · rename_i hc
    obtain ⟨w1, w2⟩ := w
    split at e
    · rename_i g pd q
      split at e
      · rename_i hg
        cases e
        obtain ⟨hg, ok, hl⟩ := hg
        subst hg
        rw [q] at w2
        obtain ⟨dd, v, g1, g2, g3, g4⟩ := w2
        rw [hc] at w1
        subst es
        have ok1 := ok
        unfold okR at ok1
        rw [Bool.and_eq_true] at ok1
        refine ⟨.ref a, List.getElem?_set_self lt, rfl, w1, dd, [(g, v)], v, g1, g2, by simp [List.lookup], ?_⟩
        refine ⟨v, toPy pd, rfl, dpP_of ok1.1 (Rep.p g4), ok, ?_⟩
        refine .inr (.inl ⟨wt, _, rfl, rfl, lim_le hl, ?_⟩)
        show [V.str z, V.str _].length ≤ sizeLine ∧ _
        refine ⟨by rw [sizeLine_eq]; exact (by decide : 2 ≤ 16777216), fun pp np => ?_⟩
        exact k _ A (Step.same (same_new np)) _ ⟨S.same (same_new np), Rep.newTup np (.cons Rep.str (.cons Rep.str .nil))⟩
      · cases e
    · cases e
  · cases e
end
/-! ### a def that gets a function that may raise, called where no repr is under way -/
structure HGClX (P : Program) (w : World) (K : PySem.W.Frag) (mg : Str → Option Value) (base : Heap) (lev : Nat → Nat) (x : Str) (n nl : Nat) (cf : Addr → LF → List D → CFX → CF) : Prop where
  ex : ∃ f : Addr, mg x = some (.ref f) ∧ PySem.W.keepIn K (.ref f) = true ∧ ∀ (kl : Nat) (led : CFX) (g : Addr) (F : LF) (caps : List D) (A : Around) (outer : List Env) (s : Shared) (H : Hp) (us : List Value) (vs : List V) (Q : VK) (E : XK),
    A.guards = some [] → CloOk P w K mg base (L2.CX P w) kl (spX K nl led caps F.ws) g F s H outer → Room (lev kl) A → Env0 P w K mg base A outer s H → Vals vs us → spF K n (cf g F caps led) vs H Q E → codeAny (model P w) A (.call (.ref f) ⟨us, []⟩) (CR C8.CX0 outer P w H s Q E) s
section
variable {P : Program} {w : World} {K : PySem.W.Frag} {mg : Str → Option Value} {base : Heap} {lev : Nat → Nat} {x : Str} {st : Stmt} {f : Addr} {fd : FuncData} {N ps : List Str} {n np nl : Nat}
theorem hgclx_rf (sf : Addr → LF → List D → CFX → SF) (Df : C8.Def K mg x st f fd) (b : L2.Binds K fd ps []) (S : FnScope N ps (C8.fnScope st)) (hn : N.length = n) (hp : ps.length = np)
    (hb : ∀ (kl : Nat) (led : CFX) (g : Addr) (F : LF) (caps : List D) (cdv : Value) (A : Around) (outer : List Env) (s : Shared) (H : Hp) (E : XK), A.guards = some [] → CloOk P w K mg base (L2.CX P w) kl (spX K nl led caps F.ws) g F s H outer →
      Room (lev kl) (A.deeper (envOfC x (C8.fnScope st) s.heap.objs.size f cdv)) → PSs (cxOf C8.CX0 P w K mg base N x (C8.fnScope st) f cdv A outer s H E).nox (C8.fnBody st) (tSt K (sf g F caps led))) :
    HGClX P w K mg base (fun kl => lev kl + 1) x np nl (fun g F caps led => cfOf n (sf g F caps led)) := by
  subst hn hp
  refine ⟨f, Df.mgf, Df.kp, fun kl led g F caps A outer s H us vs Q E hg C hr e0 r q => ?_⟩
  have KX : K.In s.heap := e0.mod.kin.keeps fun b o e => (e0.bs b o e).1
  have hl : vs.length = ps.length := q.1
  have bt := b s us KX (by rw [List.append_nil, ← r.length]; exact hl)
  rw [List.append_nil] at bt
  obtain ⟨oc, od, dV, kV, doc, pm, an, cdv, ct, osl, rfl, lk, hcd⟩ := Df.fn.ex
  exact LamX.run_ofS lk hcd S hr e0 bt r hl fun hr' => ⟨_, (hb kl led g F caps cdv A outer s H E hg C hr').nox, fn_reads q⟩
end
section
variable {X : Cx} {j k n nl : Nat} {x : Str} {p pos lpos : Pos} {lev : Nat → Nat} {cf : Addr → LF → List D → CFX → CF} {c P : Addr} {params : Arguments} {body : Expr} {scope : Scope} {N ps fr : List Str} {js : List Nat} {ev : EvX}
theorem ev_lam1G (hgu : X.A.guards = some []) (hh : HGClX X.prog X.w X.K X.mg X.base lev x 1 ps.length cf) (L : LamT X c P params body scope N ps fr js) (pl : Plain X)
    (hbody : ∀ (W : WX) (cl : List (Str × Addr)) (c' : Addr) (ws : List V) (g : Addr) (A : Around) (outer : List Env) (s : Shared) (H : Hp) (E : XK), Takes (NdefX.ncx (L2.CX X.prog X.w) X.prog X.w X.K X.mg X.base N (nfOf ⟨X.env.qual ++ "<lambda>", params, body, scope, cl, c', ws⟩) g A outer s H E) W → Room k (A.deeper (NdefX.envF (nfOf ⟨X.env.qual ++ "<lambda>", params, body, scope, cl, c', ws⟩) g s.heap.objs.size)) →
      PE (NdefX.ncx (L2.CX X.prog X.w) X.prog X.w X.K X.mg X.base N (nfOf ⟨X.env.qual ++ "<lambda>", params, body, scope, cl, c', ws⟩) g A outer s H E) body (tEvX X.K W ev))
    (hr : Room j X.A) (hk : lev (k + 1) ≤ j) (hg : Gl X x) (hdb : (x == ("__debug__" : Str)) = false) : PE X (.Call (.Name x p) [.Lambda params body scope lpos] [] pos) (tEv X.K (evLam1X cf js (lamFX N.length ev))) := by
  obtain ⟨fX, hm, kp, run⟩ := hh.ex
  refine ⟨fun pins s σ H Q I ⟨M, B, ρ, A, r, ρ', e0, S, kk⟩ => ?_⟩
  obtain ⟨caps, h3, e0⟩ := bind_some e0
  have e1 := theY_ok e0
  refine wpAny_Call_Name_kw (ld_glob I hg hm ?_ hdb)
  refine PySem.W.callWith_K (h₀ := X.base) I.ok.mod.kin kp ?_ rfl rfl
  show wpAny _ _ (spliced ((false, eval (.Lambda params body scope lpos) X.env) :: [])) _ _ s
  refine Calls.spliced_cons (lam_madeX L pl I S h3 hbody fun g F H3 s3 A3 I3 st3 S3 rg C => ?_)
  refine Calls.spliced_nil ⟨I3.kIn, ?_⟩
  have a3 : Args X.K M A3 σ H3 [.val (.fn g F caps)] [.ref g] := .cons rg .nil
  exact call_end I3 (run (k + 1) _ g F caps X.A X.stack s3 H3 [.ref g] [.ref g] Q C8.E0 hgu C (hr.mono hk) I3.env0 (.cons rfl .nil) (call_ok rfl S3 a3 (e1 g F) fun v4 H4 A4 s4 o4 => kk v4 H4 A4 (st3.trans s4) (o4.back' st3)))
end
end RF
set_option maxHeartbeats 4000000
namespace G
open PySem PySem.Spec PyProof.Rows L2 RF
theorem nd_GREATEST : (("GREATEST" : Str) == ("__debug__" : Str)) = false := by decide +kernel
theorem nd_LACK : (("LACK" : Str) == ("__debug__" : Str)) = false := by decide +kernel
theorem nd_LEAST : (("LEAST" : Str) == ("__debug__" : Str)) = false := by decide +kernel
theorem nd_LONGEST : (("LONGEST" : Str) == ("__debug__" : Str)) = false := by decide +kernel
theorem nd_LackError : (("LackError" : Str) == ("__debug__" : Str)) = false := by decide +kernel
theorem nd_MOST_MANY : (("MOST_MANY" : Str) == ("__debug__" : Str)) = false := by decide +kernel
theorem nd_MOST_SETS : (("MOST_SETS" : Str) == ("__debug__" : Str)) = false := by decide +kernel
theorem nd_MOST_THINGS : (("MOST_THINGS" : Str) == ("__debug__" : Str)) = false := by decide +kernel
theorem nd_NoNumber : (("NoNumber" : Str) == ("__debug__" : Str)) = false := by decide +kernel
theorem nd_NoTable : (("NoTable" : Str) == ("__debug__" : Str)) = false := by decide +kernel
theorem nd_PAPER_SIZE : (("PAPER_SIZE" : Str) == ("__debug__" : Str)) = false := by decide +kernel
theorem nd_SETS : (("SETS" : Str) == ("__debug__" : Str)) = false := by decide +kernel
theorem nd_TooMany : (("TooMany" : Str) == ("__debug__" : Str)) = false := by decide +kernel
theorem nd__law_crock : (("_law_crock" : Str) == ("__debug__" : Str)) = false := by decide +kernel
theorem nd__law_ladle : (("_law_ladle" : Str) == ("__debug__" : Str)) = false := by decide +kernel
theorem nd__law_met : (("_law_met" : Str) == ("__debug__" : Str)) = false := by decide +kernel
theorem nd__law_pick_of : (("_law_pick_of" : Str) == ("__debug__" : Str)) = false := by decide +kernel
theorem nd__law_right : (("_law_right" : Str) == ("__debug__" : Str)) = false := by decide +kernel
theorem nd_abs : (("abs" : Str) == ("__debug__" : Str)) = false := by decide +kernel
theorem nd_all : (("all" : Str) == ("__debug__" : Str)) = false := by decide +kernel
theorem nd_are_sets : (("are_sets" : Str) == ("__debug__" : Str)) = false := by decide +kernel
theorem nd_are_weights : (("are_weights" : Str) == ("__debug__" : Str)) = false := by decide +kernel
theorem nd_at : (("at" : Str) == ("__debug__" : Str)) = false := by decide +kernel
theorem ncd_at : (("at" : Str) == ("__classdict__" : Str)) = false := by decide +kernel
theorem nd_at_least : (("at_least" : Str) == ("__debug__" : Str)) = false := by decide +kernel
theorem nd_bool : (("bool" : Str) == ("__debug__" : Str)) = false := by decide +kernel
theorem nd_call : (("call" : Str) == ("__debug__" : Str)) = false := by decide +kernel
theorem ncd_call : (("call" : Str) == ("__classdict__" : Str)) = false := by decide +kernel
theorem nd_cell : (("cell" : Str) == ("__debug__" : Str)) = false := by decide +kernel
theorem ncd_cell : (("cell" : Str) == ("__classdict__" : Str)) = false := by decide +kernel
theorem nd_counts : (("counts" : Str) == ("__debug__" : Str)) = false := by decide +kernel
theorem ncd_counts : (("counts" : Str) == ("__classdict__" : Str)) = false := by decide +kernel
theorem nd_counts_by : (("counts_by" : Str) == ("__debug__" : Str)) = false := by decide +kernel
theorem nd_counts_in : (("counts_in" : Str) == ("__debug__" : Str)) = false := by decide +kernel
theorem nd_counts_of : (("counts_of" : Str) == ("__debug__" : Str)) = false := by decide +kernel
theorem nd_crock : (("crock" : Str) == ("__debug__" : Str)) = false := by decide +kernel
theorem ncd_crock : (("crock" : Str) == ("__classdict__" : Str)) = false := by decide +kernel
theorem nd_due : (("due" : Str) == ("__debug__" : Str)) = false := by decide +kernel
theorem ncd_due : (("due" : Str) == ("__classdict__" : Str)) = false := by decide +kernel
theorem nd_ended : (("ended" : Str) == ("__debug__" : Str)) = false := by decide +kernel
theorem nd_error : (("error" : Str) == ("__debug__" : Str)) = false := by decide +kernel
theorem ncd_error : (("error" : Str) == ("__classdict__" : Str)) = false := by decide +kernel
theorem nd_far : (("far" : Str) == ("__debug__" : Str)) = false := by decide +kernel
theorem ncd_far : (("far" : Str) == ("__classdict__" : Str)) = false := by decide +kernel
theorem nd_first : (("first" : Str) == ("__debug__" : Str)) = false := by decide +kernel
theorem ncd_first : (("first" : Str) == ("__classdict__" : Str)) = false := by decide +kernel
theorem nd_found : (("found" : Str) == ("__debug__" : Str)) = false := by decide +kernel
theorem ncd_found : (("found" : Str) == ("__classdict__" : Str)) = false := by decide +kernel
theorem nd_great : (("great" : Str) == ("__debug__" : Str)) = false := by decide +kernel
theorem ncd_great : (("great" : Str) == ("__classdict__" : Str)) = false := by decide +kernel
theorem nd_greatest_in : (("greatest_in" : Str) == ("__debug__" : Str)) = false := by decide +kernel
theorem nd_greatest_paper : (("greatest_paper" : Str) == ("__debug__" : Str)) = false := by decide +kernel
theorem nd_greatest_total : (("greatest_total" : Str) == ("__debug__" : Str)) = false := by decide +kernel
theorem nd_int : (("int" : Str) == ("__debug__" : Str)) = false := by decide +kernel
theorem nd_is_fraction : (("is_fraction" : Str) == ("__debug__" : Str)) = false := by decide +kernel
theorem nd_is_greatest_paper : (("is_greatest_paper" : Str) == ("__debug__" : Str)) = false := by decide +kernel
theorem nd_is_least_paper : (("is_least_paper" : Str) == ("__debug__" : Str)) = false := by decide +kernel
theorem nd_is_sums_paper : (("is_sums_paper" : Str) == ("__debug__" : Str)) = false := by decide +kernel
theorem nd_is_under : (("is_under" : Str) == ("__debug__" : Str)) = false := by decide +kernel
theorem nd_is_whole : (("is_whole" : Str) == ("__debug__" : Str)) = false := by decide +kernel
theorem nd_isinstance : (("isinstance" : Str) == ("__debug__" : Str)) = false := by decide +kernel
theorem nd_items : (("items" : Str) == ("__debug__" : Str)) = false := by decide +kernel
theorem ncd_items : (("items" : Str) == ("__classdict__" : Str)) = false := by decide +kernel
theorem nd_j : (("j" : Str) == ("__debug__" : Str)) = false := by decide +kernel
theorem ncd_j : (("j" : Str) == ("__classdict__" : Str)) = false := by decide +kernel
theorem nd_just_counts : (("just_counts" : Str) == ("__debug__" : Str)) = false := by decide +kernel
theorem nd_least : (("least" : Str) == ("__debug__" : Str)) = false := by decide +kernel
theorem ncd_least : (("least" : Str) == ("__classdict__" : Str)) = false := by decide +kernel
theorem nd_least_in : (("least_in" : Str) == ("__debug__" : Str)) = false := by decide +kernel
theorem nd_least_paper : (("least_paper" : Str) == ("__debug__" : Str)) = false := by decide +kernel
theorem nd_least_total : (("least_total" : Str) == ("__debug__" : Str)) = false := by decide +kernel
theorem nd_len : (("len" : Str) == ("__debug__" : Str)) = false := by decide +kernel
theorem nd_list : (("list" : Str) == ("__debug__" : Str)) = false := by decide +kernel
theorem nd_lowest : (("lowest" : Str) == ("__debug__" : Str)) = false := by decide +kernel
theorem nd_many : (("many" : Str) == ("__debug__" : Str)) = false := by decide +kernel
theorem ncd_many : (("many" : Str) == ("__classdict__" : Str)) = false := by decide +kernel
theorem nd_max : (("max" : Str) == ("__debug__" : Str)) = false := by decide +kernel
theorem nd_meet_sums : (("meet_sums" : Str) == ("__debug__" : Str)) = false := by decide +kernel
theorem nd_min : (("min" : Str) == ("__debug__" : Str)) = false := by decide +kernel
theorem nd_most : (("most" : Str) == ("__debug__" : Str)) = false := by decide +kernel
theorem ncd_most : (("most" : Str) == ("__classdict__" : Str)) = false := by decide +kernel
theorem nd_near : (("near" : Str) == ("__debug__" : Str)) = false := by decide +kernel
theorem ncd_near : (("near" : Str) == ("__classdict__" : Str)) = false := by decide +kernel
theorem nd_need_numbers : (("need_numbers" : Str) == ("__debug__" : Str)) = false := by decide +kernel
theorem nd_need_sets : (("need_sets" : Str) == ("__debug__" : Str)) = false := by decide +kernel
theorem nd_need_sums : (("need_sums" : Str) == ("__debug__" : Str)) = false := by decide +kernel
theorem nd_need_things : (("need_things" : Str) == ("__debug__" : Str)) = false := by decide +kernel
theorem nd_need_weights : (("need_weights" : Str) == ("__debug__" : Str)) = false := by decide +kernel
theorem nd_number : (("number" : Str) == ("__debug__" : Str)) = false := by decide +kernel
theorem ncd_number : (("number" : Str) == ("__classdict__" : Str)) = false := by decide +kernel
theorem nd_odd : (("odd" : Str) == ("__debug__" : Str)) = false := by decide +kernel
theorem ncd_odd : (("odd" : Str) == ("__classdict__" : Str)) = false := by decide +kernel
theorem nd_often : (("often" : Str) == ("__debug__" : Str)) = false := by decide +kernel
theorem ncd_often : (("often" : Str) == ("__classdict__" : Str)) = false := by decide +kernel
theorem nd_one : (("one" : Str) == ("__debug__" : Str)) = false := by decide +kernel
theorem ncd_one : (("one" : Str) == ("__classdict__" : Str)) = false := by decide +kernel
theorem nd_out_of : (("out_of" : Str) == ("__debug__" : Str)) = false := by decide +kernel
theorem nd_pairs_of : (("pairs_of" : Str) == ("__debug__" : Str)) = false := by decide +kernel
theorem nd_part : (("part" : Str) == ("__debug__" : Str)) = false := by decide +kernel
theorem ncd_part : (("part" : Str) == ("__classdict__" : Str)) = false := by decide +kernel
theorem nd_plus : (("plus" : Str) == ("__debug__" : Str)) = false := by decide +kernel
theorem nd_r : (("r" : Str) == ("__debug__" : Str)) = false := by decide +kernel
theorem ncd_r : (("r" : Str) == ("__classdict__" : Str)) = false := by decide +kernel
theorem nd_script : (("script" : Str) == ("__debug__" : Str)) = false := by decide +kernel
theorem ncd_script : (("script" : Str) == ("__classdict__" : Str)) = false := by decide +kernel
theorem nd_second : (("second" : Str) == ("__debug__" : Str)) = false := by decide +kernel
theorem ncd_second : (("second" : Str) == ("__classdict__" : Str)) = false := by decide +kernel
theorem nd_self : (("self" : Str) == ("__debug__" : Str)) = false := by decide +kernel
theorem ncd_self : (("self" : Str) == ("__classdict__" : Str)) = false := by decide +kernel
theorem nd_sets : (("sets" : Str) == ("__debug__" : Str)) = false := by decide +kernel
theorem ncd_sets : (("sets" : Str) == ("__classdict__" : Str)) = false := by decide +kernel
theorem nd_shows_sums : (("shows_sums" : Str) == ("__debug__" : Str)) = false := by decide +kernel
theorem nd_shows_total : (("shows_total" : Str) == ("__debug__" : Str)) = false := by decide +kernel
theorem nd_sign_of : (("sign_of" : Str) == ("__debug__" : Str)) = false := by decide +kernel
theorem nd_size : (("size" : Str) == ("__debug__" : Str)) = false := by decide +kernel
theorem ncd_size : (("size" : Str) == ("__classdict__" : Str)) = false := by decide +kernel
theorem nd_spot : (("spot" : Str) == ("__debug__" : Str)) = false := by decide +kernel
theorem ncd_spot : (("spot" : Str) == ("__classdict__" : Str)) = false := by decide +kernel
theorem nd_str : (("str" : Str) == ("__debug__" : Str)) = false := by decide +kernel
theorem nd_sum : (("sum" : Str) == ("__debug__" : Str)) = false := by decide +kernel
theorem nd_sums : (("sums" : Str) == ("__debug__" : Str)) = false := by decide +kernel
theorem ncd_sums : (("sums" : Str) == ("__classdict__" : Str)) = false := by decide +kernel
theorem nd_sums_in : (("sums_in" : Str) == ("__debug__" : Str)) = false := by decide +kernel
theorem nd_sums_of : (("sums_of" : Str) == ("__debug__" : Str)) = false := by decide +kernel
theorem nd_sums_paper : (("sums_paper" : Str) == ("__debug__" : Str)) = false := by decide +kernel
theorem nd_sums_told : (("sums_told" : Str) == ("__debug__" : Str)) = false := by decide +kernel
theorem nd_thing : (("thing" : Str) == ("__debug__" : Str)) = false := by decide +kernel
theorem ncd_thing : (("thing" : Str) == ("__classdict__" : Str)) = false := by decide +kernel
theorem nd_things : (("things" : Str) == ("__debug__" : Str)) = false := by decide +kernel
theorem ncd_things : (("things" : Str) == ("__classdict__" : Str)) = false := by decide +kernel
theorem nd_times : (("times" : Str) == ("__debug__" : Str)) = false := by decide +kernel
theorem nd_together : (("together" : Str) == ("__debug__" : Str)) = false := by decide +kernel
theorem nd_told : (("told" : Str) == ("__debug__" : Str)) = false := by decide +kernel
theorem ncd_told : (("told" : Str) == ("__classdict__" : Str)) = false := by decide +kernel
theorem nd_total : (("total" : Str) == ("__debug__" : Str)) = false := by decide +kernel
theorem ncd_total : (("total" : Str) == ("__classdict__" : Str)) = false := by decide +kernel
theorem nd_tuple : (("tuple" : Str) == ("__debug__" : Str)) = false := by decide +kernel
theorem nd_two : (("two" : Str) == ("__debug__" : Str)) = false := by decide +kernel
theorem ncd_two : (("two" : Str) == ("__classdict__" : Str)) = false := by decide +kernel
theorem nd_value : (("value" : Str) == ("__debug__" : Str)) = false := by decide +kernel
theorem ncd_value : (("value" : Str) == ("__classdict__" : Str)) = false := by decide +kernel
theorem nd_values : (("values" : Str) == ("__debug__" : Str)) = false := by decide +kernel
theorem ncd_values : (("values" : Str) == ("__classdict__" : Str)) = false := by decide +kernel
theorem nd_weight : (("weight" : Str) == ("__debug__" : Str)) = false := by decide +kernel
theorem ncd_weight : (("weight" : Str) == ("__classdict__" : Str)) = false := by decide +kernel
theorem nd_worth : (("worth" : Str) == ("__debug__" : Str)) = false := by decide +kernel
theorem ncd_worth : (("worth" : Str) == ("__classdict__" : Str)) = false := by decide +kernel
theorem nd_x : (("x" : Str) == ("__debug__" : Str)) = false := by decide +kernel
theorem ncd_x : (("x" : Str) == ("__classdict__" : Str)) = false := by decide +kernel
theorem nd_y : (("y" : Str) == ("__debug__" : Str)) = false := by decide +kernel
theorem ncd_y : (("y" : Str) == ("__classdict__" : Str)) = false := by decide +kernel
theorem nn_abs : ("abs" : Str) ≠ "__name__" := by decide +kernel
theorem bb_abs : bootBuiltins "abs" = some (biVal .abs) := by decide +kernel
theorem nn_all : ("all" : Str) ≠ "__name__" := by decide +kernel
theorem bb_all : bootBuiltins "all" = some (biVal .all) := by decide +kernel
theorem nn_bool : ("bool" : Str) ≠ "__name__" := by decide +kernel
theorem bt_bool : bootBuiltins "bool" = some (.type "bool") := by decide +kernel
theorem nn_int : ("int" : Str) ≠ "__name__" := by decide +kernel
theorem bb_int : bootBuiltins "int" = some (biVal .int) := by decide +kernel
theorem bt_int : bootBuiltins "int" = some (.type "int") := by decide +kernel
theorem nn_isinstance : ("isinstance" : Str) ≠ "__name__" := by decide +kernel
theorem bb_isinstance : bootBuiltins "isinstance" = some (biVal .isinst) := by decide +kernel
theorem nn_len : ("len" : Str) ≠ "__name__" := by decide +kernel
theorem bb_len : bootBuiltins "len" = some (biVal .len) := by decide +kernel
theorem nn_list : ("list" : Str) ≠ "__name__" := by decide +kernel
theorem bb_list : bootBuiltins "list" = some (biVal .list) := by decide +kernel
theorem nn_max : ("max" : Str) ≠ "__name__" := by decide +kernel
theorem bb_max : bootBuiltins "max" = some (biVal .max2) := by decide +kernel
theorem nn_min : ("min" : Str) ≠ "__name__" := by decide +kernel
theorem bb_min : bootBuiltins "min" = some (biVal .min2) := by decide +kernel
theorem nn_str : ("str" : Str) ≠ "__name__" := by decide +kernel
theorem bt_str : bootBuiltins "str" = some (.type "str") := by decide +kernel
theorem nn_sum : ("sum" : Str) ≠ "__name__" := by decide +kernel
theorem bb_sum : bootBuiltins "sum" = some (biVal .sum) := by decide +kernel
theorem nn_tuple : ("tuple" : Str) ≠ "__name__" := by decide +kernel
theorem bb_tuple : bootBuiltins "tuple" = some (biVal .tuple) := by decide +kernel
theorem bt_tuple : bootBuiltins "tuple" = some (.type "tuple") := by decide +kernel
structure Tx (mg : Str → Option Value) : Prop where
  b_abs : mg "abs" = none
  b_all : mg "all" = none
  b_bool : mg "bool" = none
  b_enumerate : mg "enumerate" = none
  b_int : mg "int" = none
  b_isinstance : mg "isinstance" = none
  b_len : mg "len" = none
  b_list : mg "list" = none
  b_max : mg "max" = none
  b_min : mg "min" = none
  b_range : mg "range" = none
  b_repr : mg "repr" = none
  b_str : mg "str" = none
  b_sum : mg "sum" = none
  b_tuple : mg "tuple" = none
  b_zip : mg "zip" = none
  c_GREATEST : ∃ t, mg "GREATEST" = some (.str "greatest" t)
  c_LACK : ∃ t, mg "LACK" = some (.str "lack" t)
  c_LEAST : ∃ t, mg "LEAST" = some (.str "least" t)
  c_LONGEST : ∃ t, mg "LONGEST" = some (.int 1000000000000000000000000000000 t)
  c_MOST_MANY : ∃ t, mg "MOST_MANY" = some (.int 12 t)
  c_MOST_SETS : ∃ t, mg "MOST_SETS" = some (.int 6 t)
  c_MOST_THINGS : ∃ t, mg "MOST_THINGS" = some (.int 30 t)
  c_PAPER_SIZE : ∃ t, mg "PAPER_SIZE" = some (.int 3 t)
  c_SETS : ∃ t, mg "SETS" = some (.str "sets" t)
structure Tk (K : PySem.W.Frag) (mg : Str → Option Value) : Prop where
  gx_NoTable : mg "NoTable" = some (.ref (He.ga K "NoTable"))
  gx_NoNumber : mg "NoNumber" = some (.ref (He.ga K "NoNumber"))
  gx_TooMany : mg "TooMany" = some (.ref (He.ga K "TooMany"))
  ex_NoTable : PySem.W.excIn K (He.ga K "NoTable") He.veBase "ValueError.__new__" = true ∧ PySem.W.keepIn K (.ref (He.ga K "NoTable")) = true ∧ PySem.W.subIn K (.ref (He.ga K "NoTable")) (.type "BaseException") = some true ∧ PySem.W.typeIn K (.ref (He.ga K "NoTable")) = some (.type "type")
  em_NoTable : PySem.W.exmOne K (.ref (He.ga K "NoTable")) (.ref (He.ga K "NoTable")) = some true
  ck_NoNumber : LkC K (He.ga K "NoNumber")
  tk_NoNumber : PySem.W.takerIn K (He.ga K "NoNumber") "number" = some none
  xf_NoNumber : XfC K (He.ga K "NoNumber")
  no_NoNumber : PySem.W.findIn K (.ref (He.ga K "NoNumber")) "number" = some none
  lb_NoNumber : LkB K (He.ga K "LackError")
  gb_NoNumber : mg "LackError" = some (.ref (He.ga K "LackError"))
  in_NoNumber : PySem.W.findIn K (.ref (He.ga K "NoNumber")) "__init__" = some (some (.ref (He.ma K (He.ga K "NoNumber") "__init__")))
  ti_NoNumber : PySem.W.typeIn K (.ref (He.ma K (He.ga K "NoNumber") "__init__")) = some (.type "function")
  em_NoNumber : PySem.W.exmOne K (.ref (He.ga K "NoNumber")) (.ref (He.ga K "NoNumber")) = some true
  en_NoNumber_NoTable : PySem.W.exmOne K (.ref (He.ga K "NoNumber")) (.ref (He.ga K "NoTable")) = some false
variable {P : Program} {w : World} {K : PySem.W.Frag} {mg : Str → Option Value} {base : Heap}
end G
set_option maxHeartbeats 4000000
namespace G
open PySem PySem.Spec PyProof.Rows L2 RF
noncomputable section
def N__law_crock : List Str := ["script", "spot", "cell", "great"]
def P__law_crock : List Str := ["script", "spot"]
def F__law_crock : SF :=
 (sfSeq (sfSet 2 (evIte (tvOf (evCmp .Lt (evVar 1) (evBi .len (avCons (evVar 0) avNil)))) (evBi .int (avCons (evIx (evVar 0) (evVar 1)) avNil)) (evBin .Add (evBin .Mult (evCst (.int 967)) (evVar 1)) (evCst (.int 83)))))
 (sfSeq (sfSet 3 (evBin .Mod (evBi .int (avCons (evBi .abs (avCons (evVar 2) avNil)) avNil)) (evBin .Pow (evBin .Pow (evCst (.int 10)) (evCst (.int 58))) (evCst (.int 5)))))
 (sfSeq (sfRet (evLst (avCons (evBi .max2 (avCons (evCst (.int 0)) (avCons (evBin .Sub (evVar 3) (evBin .Pow (evCst (.int 10)) (evCst (.int 17)))) avNil))) (avCons (evBin .Add (evBin .Add (evBin .Add (evBin .Mult (evBin .Mod (evBi .int (avCons (evVar 3) avNil)) (evCst (.int 2305843009213693907))) (evCst (.int 101))) (evBin .Mult (evCst (.int 1171)) (evVar 1))) (evBin .Mult (evCst (.int 43)) (evBi .int (avCons (evCmp .Lt (evVar 2) (evCst (.int 0))) avNil)))) (evCst (.int 19))) (avCons (evCst (.int 0)) avNil)))))
 sfNil)))
def c__law_crock : CF := cfOf 4 F__law_crock
def N_is_whole : List Str := ["thing", "least", "most"]
def P_is_whole : List Str := ["thing", "least", "most"]
def F_is_whole : SF :=
 (sfSeq (sfIf (tvOr (tvNot (tvOf (evBi .isinst (avCons (evVar 0) (avCons (evCst (.ty "int")) avNil))))) (tvOf (evBi .isinst (avCons (evVar 0) (avCons (evCst (.ty "bool")) avNil)))))
 (sfSeq (sfRet (evCst (.bl false)))
 sfNil)
 sfNil)
 (sfSeq (sfIf (tvAnd (tvOf (evCmp .IsNot (evVar 1) (evCst .non))) (tvOf (evCmp .Lt (evVar 0) (evVar 1))))
 (sfSeq (sfRet (evCst (.bl false)))
 sfNil)
 sfNil)
 (sfSeq (sfRet (evOr (evCmp .Is (evVar 2) (evCst .non)) (evCmp .LtE (evVar 0) (evVar 2))))
 sfNil)))
def c_is_whole : CF := cfOf 3 F_is_whole
structure IsW (P : Program) (w : World) (K : PySem.W.Frag) (mg : Str → Option Value) (base : Heap) : Prop where
  w0 : Cld P w K mg base 1 "is_whole" [.non, .non] 3 c_is_whole
  w1 : Clk P w K mg base 1 "is_whole" 1 ["least"] [.non] 3 c_is_whole
  w2 : Clk P w K mg base 1 "is_whole" 1 ["least", "most"] [] 3 c_is_whole
def N_need_things : List Str := ["things"]
def P_need_things : List Str := ["things"]
def F_need_things : SFX :=
 (sxSeq (sxIf (tvNot (tvOf (evCallK 1 2 3 [] c_is_whole [false, false, false] (avCons (evVar 0) avNil) (avCons (evCst (.int 0)) (avCons (evCst (.int 30)) avNil)))))
 (sxSeq (sxRaiseP "NoNumber" "number" (evVar 0))
 (upS sfNil))
 (upS sfNil))
 (upS sfNil))
def c_need_things : CFX := cfOfX 1 F_need_things
def N_are_sets : List Str := ["things", "thing", "one", "at", "near", "far"]
def P_are_sets : List Str := ["things", "thing"]
def b_are_sets_1 : SF :=
 (sfSeq (sfIf (tvOr (tvNot (tvOf (evBi .isinst (avCons (evVar 2) (avCons (evCst (.ty "tuple")) avNil))))) (tvNot (tvOf (evBi .all (avCons (evLc (svSeq (evVar 2)) (.one 3) tvYes (evCallK 1 2 3 [] c_is_whole [false, false, false] (avCons (evVar 3) avNil) (avCons (evCst (.int 0)) (avCons (evBin .Sub (evVar 0) (evCst (.int 1))) avNil))) [3]) avNil)))))
 (sfSeq (sfRet (evCst (.bl false)))
 sfNil)
 sfNil)
 (sfSeq (sfIf (tvNot (tvOf (evBi .all (avCons (evLc (svZip (avCons (evVar 2) (avCons (evSl (evVar 2) (ovSome (evCst (.int 1))) ovNone) avNil))) (.many [4, 5]) tvYes (evCmp .Lt (evVar 4) (evVar 5)) [4, 5]) avNil))))
 (sfSeq (sfRet (evCst (.bl false)))
 sfNil)
 sfNil)
 sfNil))
def F_are_sets : SF :=
 (sfSeq (sfIf (tvNot (tvOf (evBi .isinst (avCons (evVar 1) (avCons (evCst (.ty "tuple")) avNil)))))
 (sfSeq (sfRet (evCst (.bl false)))
 sfNil)
 sfNil)
 (sfSeq (sfFor (svSeq (evVar 1)) (.one 2)
 b_are_sets_1)
 (sfSeq (sfRet (evCst (.bl true)))
 sfNil)))
def c_are_sets : CF := cfOf 6 F_are_sets
def N_need_sets : List Str := ["things", "sets"]
def P_need_sets : List Str := ["things", "sets"]
def F_need_sets : SFX :=
 (sxSeq (sxDrop (evCallNX 1 c_need_things [false] (avCons (evVar 0) avNil)))
 (sxSeq (sxIf (tvOr (tvNot (tvOf (evCallN 2 c_are_sets [false, false] (avCons (evVar 0) (avCons (evVar 1) avNil))))) (tvNot (tvOf (evChn .LtE .LtE (evCst (.int 1)) (evBi .len (avCons (evVar 1) avNil)) (evCst (.int 6))))))
 (sxSeq (sxRaise "NoTable" (evCst (.str "no tuple of one to six sets")))
 (upS sfNil))
 (upS sfNil))
 (upS sfNil)))
def c_need_sets : CFX := cfOfX 2 F_need_sets
def N_out_of : List Str := ["many", "size", "found", "at"]
def P_out_of : List Str := ["many", "size"]
def b_out_of_1 : SF :=
 (sfSeq (sfSet 2 (evBin .FloorDiv (evBin .Mult (evVar 2) (evBin .Sub (evVar 0) (evVar 3))) (evBin .Add (evVar 3) (evCst (.int 1)))))
 sfNil)
def F_out_of : SF :=
 (sfSeq (sfIf (tvNot (tvOf (evChn .LtE .LtE (evCst (.int 0)) (evVar 1) (evVar 0))))
 (sfSeq (sfRet (evCst (.int 0)))
 sfNil)
 sfNil)
 (sfSeq (sfSet 2 (evCst (.int 1)))
 (sfSeq (sfFor (svRng1 (evVar 1)) (.one 3)
 b_out_of_1)
 (sfSeq (sfRet (evVar 2))
 sfNil))))
def c_out_of : CF := cfOf 4 F_out_of
def N_sums_in : List Str := ["counts", "many", "j", "r"]
def P_sums_in : List Str := ["counts"]
def F_sums_in : SF :=
 (sfSeq (sfSet 1 (evBi .len (avCons (evVar 0) avNil)))
 (sfSeq (sfRet (evLc (svRng1 (evVar 1)) (.one 2) tvYes (evBi .sum (avCons (evLc (svRng2 (evVar 2) (evVar 1)) (.one 3) tvYes (evBin .Mult (evCallN 2 c_out_of [false, false] (avCons (evVar 3) (avCons (evVar 2) avNil))) (evIx (evVar 0) (evVar 3))) [3]) avNil)) [2]))
 sfNil))
def c_sums_in : CF := cfOf 4 F_sums_in
def N_counts_by : List Str := ["things", "sets", "often", "thing", "one", "many"]
def P_counts_by : List Str := ["things", "sets"]
def F_counts_by : SF :=
 (sfSeq (sfSet 2 (evLc (svRng1 (evVar 0)) (.one 3) tvYes (evBi .len (avCons (evLc (svSeq (evVar 1)) (.one 4) (tvOf (evCmp .In (evVar 3) (evVar 4))) (evVar 4) [4]) avNil)) [3]))
 (sfSeq (sfRet (evLc (svRng1 (evBin .Add (evBi .len (avCons (evVar 1) avNil)) (evCst (.int 1)))) (.one 5) tvYes (evCnt 2 (avCons (evVar 5) avNil)) [5]))
 sfNil))
def c_counts_by : CF := cfOf 6 F_counts_by
def N_meet_sums : List Str := ["things", "sets"]
def P_meet_sums : List Str := ["things", "sets"]
def F_meet_sums : SFX :=
 (sxSeq (sxDrop (evCallNX 2 c_need_sets [false, false] (avCons (evVar 0) (avCons (evVar 1) avNil))))
 (sxSeq (upS (sfRet (evBi .tuple (avCons (evCallN 1 c_sums_in [false] (avCons (evCallN 2 c_counts_by [false, false] (avCons (evVar 0) (avCons (evVar 1) avNil))) avNil)) avNil))))
 (upS sfNil)))
def c_meet_sums : CFX := cfOfX 2 F_meet_sums
def N__law_ladle : List Str := ["crock", "total", "found", "one", "two"]
def P__law_ladle : List Str := ["crock", "total"]
def F__law_ladle : SF :=
 (sfSeq (sfIf (tvOf (evCmp .Gt (evIx (evVar 0) (evCst (.int 0))) (evCst (.int 0))))
 (sfSeq (sfSet 2 (evBin .Mod (evBi .int (avCons (evIx (evVar 0) (evCst (.int 0))) avNil)) (evVar 1)))
 (sfSeq (sfItem 0 (evCst (.int 0)) (evBin .FloorDiv (evIx (evVar 0) (evCst (.int 0))) (evVar 1)))
 (sfSeq (sfRet (evVar 2))
 sfNil)))
 sfNil)
 (sfSeq (sfItem 0 (evCst (.int 2)) (evBin .Add (evIx (evVar 0) (evCst (.int 2))) (evCst (.int 1))))
 (sfSeq (sfSet 3 (evBin .Mod (evBi .int (avCons (evBin .Add (evIx (evVar 0) (evCst (.int 1))) (evBin .Mult (evCst (.int 86028121)) (evIx (evVar 0) (evCst (.int 2))))) avNil)) (evCst (.int 2305843009213693951))))
 (sfSeq (sfSet 4 (evBin .Add (evBin .Mult (evBin .Mod (evBi .int (avCons (evBin .Add (evBin .Mult (evVar 3) (evVar 3)) (evBin .Mult (evCst (.int 271)) (evIx (evVar 0) (evCst (.int 2))))) avNil)) (evCst (.int 2305843009213693921))) (evCst (.int 5915587277))) (evVar 3)))
 (sfSeq (sfRet (evBin .Mod (evBi .int (avCons (evBin .FloorDiv (evVar 4) (evCst (.int 65543))) avNil)) (evVar 1)))
 sfNil)))))
def c__law_ladle : CF := cfOf 5 F__law_ladle
def N__law_pick_of : List Str := ["crock", "items"]
def P__law_pick_of : List Str := ["crock", "items"]
def F__law_pick_of : SF :=
 (sfSeq (sfRet (evIx (evVar 1) (evCallN 2 c__law_ladle [true, false] (avCons (evVar 0) (avCons (evBi .len (avCons (evVar 1) avNil)) avNil)))))
 sfNil)
def c__law_pick_of : CF := cfOf 2 F__law_pick_of
def N_just_counts : List Str := ["things", "sets"]
def P_just_counts : List Str := ["things", "sets"]
def F_just_counts : SFX :=
 (sxSeq (sxDrop (evCallNX 2 c_need_sets [false, false] (avCons (evVar 0) (avCons (evVar 1) avNil))))
 (sxSeq (upS (sfRet (evBi .tuple (avCons (evCallN 2 c_counts_by [false, false] (avCons (evVar 0) (avCons (evVar 1) avNil))) avNil))))
 (upS sfNil)))
def c_just_counts : CFX := cfOfX 2 F_just_counts
def N_need_sums : List Str := ["thing", "number"]
def P_need_sums : List Str := ["thing"]
def F_need_sums : SFX :=
 (sxSeq (sxIf (tvOr (tvNot (tvOf (evBi .isinst (avCons (evVar 0) (avCons (evCst (.ty "tuple")) avNil))))) (tvNot (tvOf (evChn .LtE .LtE (evCst (.int 2)) (evBi .len (avCons (evVar 0) avNil)) (evBin .Add (evCst (.int 6)) (evCst (.int 1)))))))
 (sxSeq (sxRaise "NoTable" (evCst (.str "no tuple of two to seven whole numbers")))
 (upS sfNil))
 (upS sfNil))
 (sxSeq (sxIf (tvNot (tvOf (evBi .all (avCons (evLc (svSeq (evVar 0)) (.one 1) tvYes (evAnd (evCallD 3 [.non, .non] c_is_whole [false, false, false] (avCons (evVar 1) avNil)) (evCmp .Lt (evBi .abs (avCons (evVar 1) avNil)) (evCst (.int 1000000000000000000000000000000)))) [1]) avNil))))
 (sxSeq (sxRaise "NoTable" (evCst (.str "no tuple of two to seven whole numbers")))
 (upS sfNil))
 (upS sfNil))
 (upS sfNil)))
def c_need_sums : CFX := cfOfX 2 F_need_sums
def P_counts_in : List Str := ["sums"]
def c_counts_in : CF := fun _ => none
def N_counts_of : List Str := ["sums"]
def P_counts_of : List Str := ["sums"]
def F_counts_of : SFX :=
 (sxSeq (sxDrop (evCallNX 1 c_need_sums [false] (avCons (evVar 0) avNil)))
 (sxSeq (upS (sfRet (evBi .tuple (avCons (evCallN 1 c_counts_in [false] (avCons (evVar 0) avNil)) avNil))))
 (upS sfNil)))
def c_counts_of : CFX := cfOfX 1 F_counts_of
def N_sums_of : List Str := ["counts"]
def P_sums_of : List Str := ["counts"]
def F_sums_of : SFX :=
 (sxSeq (sxDrop (evCallNX 1 c_need_sums [false] (avCons (evVar 0) avNil)))
 (sxSeq (upS (sfRet (evBi .tuple (avCons (evCallN 1 c_sums_in [false] (avCons (evVar 0) avNil)) avNil))))
 (upS sfNil)))
def c_sums_of : CFX := cfOfX 1 F_sums_of
def P_sums_told : List Str := ["sums"]
def c_sums_told : CF := fun _ => none
def N_sums_paper : List Str := ["sums"]
def P_sums_paper : List Str := ["sums"]
def F_sums_paper : SFX :=
 (sxSeq (sxDrop (evCallNX 1 c_need_sums [false] (avCons (evVar 0) avNil)))
 (sxSeq (sxDrop (evCallNX 1 c_need_things [false] (avCons (evIx (evVar 0) (evCst (.int 0))) avNil)))
 (sxSeq (upS (sfRet (evCallN 1 c_sums_told [false] (avCons (evVar 0) avNil))))
 (upS sfNil))))
def c_sums_paper : CFX := cfOfX 1 F_sums_paper
def P_sign_of : List Str := ["number"]
def c_sign_of : CF := fun _ => none
def N_ended : List Str := ["sums", "many", "j"]
def P_ended : List Str := ["sums", "many"]
def F_ended : SFX :=
 (sxSeq (sxDrop (evCallNX 1 c_need_sums [false] (avCons (evVar 0) avNil)))
 (sxSeq (sxIf (tvNot (tvOf (evCallK 1 2 3 [] c_is_whole [false, false, false] (avCons (evVar 1) avNil) (avCons (evCst (.int 1)) (avCons (evBin .Sub (evBi .len (avCons (evVar 0) avNil)) (evCst (.int 1))) avNil)))))
 (sxSeq (sxRaiseP "NoNumber" "number" (evVar 1))
 (upS sfNil))
 (upS sfNil))
 (sxSeq (upS (sfRet (evBi .sum (avCons (evLc (svRng2 (evCst (.int 1)) (evBin .Add (evVar 1) (evCst (.int 1)))) (.one 2) tvYes (evBin .Mult (evCallN 1 c_sign_of [false] (avCons (evBin .Sub (evVar 2) (evCst (.int 1))) avNil)) (evIx (evVar 0) (evVar 2))) [2]) avNil))))
 (upS sfNil))))
def c_ended : CFX := cfOfX 3 F_ended
def N_at_least : List Str := ["sums", "least", "j"]
def P_at_least : List Str := ["sums", "least"]
def F_at_least : SFX :=
 (sxSeq (sxDrop (evCallNX 1 c_need_sums [false] (avCons (evVar 0) avNil)))
 (sxSeq (sxIf (tvNot (tvOf (evCallK 1 2 3 [] c_is_whole [false, false, false] (avCons (evVar 1) avNil) (avCons (evCst (.int 1)) (avCons (evBin .Sub (evBi .len (avCons (evVar 0) avNil)) (evCst (.int 1))) avNil)))))
 (sxSeq (sxRaiseP "NoNumber" "number" (evVar 1))
 (upS sfNil))
 (upS sfNil))
 (sxSeq (upS (sfRet (evBi .sum (avCons (evLc (svRng2 (evVar 1) (evBi .len (avCons (evVar 0) avNil))) (.one 2) tvYes (evBin .Mult (evBin .Mult (evCallN 1 c_sign_of [false] (avCons (evBin .Sub (evVar 2) (evVar 1)) avNil)) (evCallN 2 c_out_of [false, false] (avCons (evBin .Sub (evVar 2) (evCst (.int 1))) (avCons (evBin .Sub (evVar 1) (evCst (.int 1))) avNil)))) (evIx (evVar 0) (evVar 2))) [2]) avNil))))
 (upS sfNil))))
def c_at_least : CFX := cfOfX 3 F_at_least
def N_need_numbers : List Str := ["many", "first", "second", "number"]
def P_need_numbers : List Str := ["many", "first", "second"]
def b_need_numbers_1 : SFX :=
 (sxSeq (sxIf (tvNot (tvOf (evCallK 1 2 3 [] c_is_whole [false, false, false] (avCons (evVar 3) avNil) (avCons (evCst (.int 0)) (avCons (evBin .Sub (evCst (.int 1000000000000000000000000000000)) (evCst (.int 1))) avNil)))))
 (sxSeq (sxRaiseP "NoNumber" "number" (evVar 3))
 (upS sfNil))
 (upS sfNil))
 (upS sfNil))
def F_need_numbers : SFX :=
 (sxSeq (sxIf (tvNot (tvOf (evCallK 1 2 3 [] c_is_whole [false, false, false] (avCons (evVar 0) avNil) (avCons (evCst (.int 1)) (avCons (evCst (.int 12)) avNil)))))
 (sxSeq (sxRaiseP "NoNumber" "number" (evVar 0))
 (upS sfNil))
 (upS sfNil))
 (sxSeq (sxFor (svSeq (evTup (avCons (evVar 1) (avCons (evVar 2) avNil)))) (.one 3)
 b_need_numbers_1)
 (upS sfNil)))
def c_need_numbers : CFX := cfOfX 4 F_need_numbers
def N_need_weights : List Str := ["many", "first", "second"]
def P_need_weights : List Str := ["many", "first", "second"]
def F_need_weights : SFX :=
 (sxSeq (sxDrop (evCallNX 3 c_need_numbers [false, false, false] (avCons (evVar 0) (avCons (evVar 1) (avCons (evVar 2) avNil)))))
 (sxSeq (sxIf (tvOf (evCmp .Gt (evBin .Mult (evCst (.int 2)) (evVar 2)) (evBin .Mult (evBin .Sub (evVar 0) (evCst (.int 1))) (evVar 1))))
 (sxSeq (sxRaise "NoTable" (evCst (.str "no weights have these sums")))
 (upS sfNil))
 (upS sfNil))
 (upS sfNil)))
def c_need_weights : CFX := cfOfX 3 F_need_weights
def P_together : List Str := ["fractions"]
def c_together : CF := fun _ => none
def P_least_in : List Str := ["many", "first", "second"]
def c_least_in : CF := fun _ => none
def N_least_total : List Str := ["many", "first", "second"]
def P_least_total : List Str := ["many", "first", "second"]
def F_least_total : SFX :=
 (sxSeq (sxDrop (evCallNX 3 c_need_weights [false, false, false] (avCons (evVar 0) (avCons (evVar 1) (avCons (evVar 2) avNil)))))
 (sxSeq (upS (sfRet (evCallN 1 c_together [false] (avCons (evBi .list (avCons (evIx (evCallN 3 c_least_in [false, false, false] (avCons (evVar 0) (avCons (evVar 1) (avCons (evVar 2) avNil)))) (evCst (.int 0))) avNil)) avNil))))
 (upS sfNil)))
def c_least_total : CFX := cfOfX 3 F_least_total
def P_greatest_in : List Str := ["many", "first", "second"]
def c_greatest_in : CF := fun _ => none
def N_greatest_total : List Str := ["many", "first", "second"]
def P_greatest_total : List Str := ["many", "first", "second"]
def F_greatest_total : SFX :=
 (sxSeq (sxDrop (evCallNX 3 c_need_weights [false, false, false] (avCons (evVar 0) (avCons (evVar 1) (avCons (evVar 2) avNil)))))
 (sxSeq (upS (sfRet (evCallN 1 c_together [false] (avCons (evBi .list (avCons (evIx (evCallN 3 c_greatest_in [false, false, false] (avCons (evVar 0) (avCons (evVar 1) (avCons (evVar 2) avNil)))) (evCst (.int 0))) avNil)) avNil))))
 (upS sfNil)))
def c_greatest_total : CFX := cfOfX 3 F_greatest_total
def N_least_paper : List Str := ["many", "first", "second"]
def P_least_paper : List Str := ["many", "first", "second"]
def F_least_paper : SFX :=
 (sxSeq (sxDrop (evCallNX 3 c_need_weights [false, false, false] (avCons (evVar 0) (avCons (evVar 1) (avCons (evVar 2) avNil)))))
 (sxSeq (upS (sfRet (evTup (avCons (evCst (.str "least")) (avStar (evCallN 3 c_least_in [false, false, false] (avCons (evVar 0) (avCons (evVar 1) (avCons (evVar 2) avNil)))) avNil)))))
 (upS sfNil)))
def c_least_paper : CFX := cfOfX 3 F_least_paper
def N_greatest_paper : List Str := ["many", "first", "second"]
def P_greatest_paper : List Str := ["many", "first", "second"]
def F_greatest_paper : SFX :=
 (sxSeq (sxDrop (evCallNX 3 c_need_weights [false, false, false] (avCons (evVar 0) (avCons (evVar 1) (avCons (evVar 2) avNil)))))
 (sxSeq (upS (sfRet (evTup (avCons (evCst (.str "greatest")) (avStar (evCallN 3 c_greatest_in [false, false, false] (avCons (evVar 0) (avCons (evVar 1) (avCons (evVar 2) avNil)))) avNil)))))
 (upS sfNil)))
def c_greatest_paper : CFX := cfOfX 3 F_greatest_paper
def P_plus : List Str := ["one", "other"]
def c_plus : CF := fun _ => none
def P_times : List Str := ["one", "other"]
def c_times : CF := fun _ => none
def P_lowest : List Str := ["top", "bottom"]
def c_lowest : CF := fun _ => none
def N_is_fraction : List Str := ["thing", "part"]
def P_is_fraction : List Str := ["thing"]
def F_is_fraction : SF :=
 (sfSeq (sfIf (tvOr (tvNot (tvOf (evBi .isinst (avCons (evVar 0) (avCons (evCst (.ty "tuple")) avNil))))) (tvOr (tvOf (evCmp .NotEq (evBi .len (avCons (evVar 0) avNil)) (evCst (.int 2)))) (tvNot (tvOf (evBi .all (avCons (evLc (svSeq (evVar 0)) (.one 1) tvYes (evCallD 3 [.non, .non] c_is_whole [false, false, false] (avCons (evVar 1) avNil)) [1]) avNil))))))
 (sfSeq (sfRet (evCst (.bl false)))
 sfNil)
 sfNil)
 (sfSeq (sfRet (evAnd (evCmp .Gt (evIx (evVar 0) (evCst (.int 1))) (evCst (.int 0))) (evCmp .Eq (evCallN 2 c_lowest [false, false] (avCons (evIx (evVar 0) (evCst (.int 0))) (avCons (evIx (evVar 0) (evCst (.int 1))) avNil))) (evVar 0))))
 sfNil))
def c_is_fraction : CF := cfOf 2 F_is_fraction
def P_pairs_of : List Str := ["number"]
def c_pairs_of : CF := fun _ => none
def N_are_weights : List Str := ["many", "first", "second", "thing", "near", "far", "weight", "at"]
def P_are_weights : List Str := ["many", "first", "second", "thing"]
def F_are_weights : SF :=
 (sfSeq (sfIf (tvOr (tvNot (tvOf (evBi .isinst (avCons (evVar 3) (avCons (evCst (.ty "tuple")) avNil))))) (tvOf (evCmp .NotEq (evBi .len (avCons (evVar 3) avNil)) (evVar 0))))
 (sfSeq (sfRet (evCst (.bl false)))
 sfNil)
 sfNil)
 (sfSeq (sfIf (tvNot (tvOf (evBi .all (avCons (evLc (svSeq (evVar 3)) (.one 6) tvYes (evAnd (evCallN 1 c_is_fraction [false] (avCons (evVar 6) avNil)) (evCmp .GtE (evIx (evVar 6) (evCst (.int 0))) (evCst (.int 0)))) [6]) avNil))))
 (sfSeq (sfRet (evCst (.bl false)))
 sfNil)
 sfNil)
 (sfSeq (sfSet 4 (evCallN 1 c_together [false] (avCons (evLc (svEnum (avCons (evVar 3) avNil)) (.many [7, 6]) tvYes (evCallN 2 c_times [false, false] (avCons (evTup (avCons (evBin .Add (evVar 7) (evCst (.int 1))) (avCons (evCst (.int 1)) avNil))) (avCons (evVar 6) avNil))) [7, 6]) avNil)))
 (sfSeq (sfSet 5 (evCallN 1 c_together [false] (avCons (evLc (svEnum (avCons (evVar 3) avNil)) (.many [7, 6]) tvYes (evCallN 2 c_times [false, false] (avCons (evTup (avCons (evCallN 1 c_pairs_of [false] (avCons (evBin .Add (evVar 7) (evCst (.int 1))) avNil)) (avCons (evCst (.int 1)) avNil))) (avCons (evVar 6) avNil))) [7, 6]) avNil)))
 (sfSeq (sfRet (evAnd (evCmp .Eq (evVar 4) (evTup (avCons (evVar 1) (avCons (evCst (.int 1)) avNil)))) (evCmp .Eq (evVar 5) (evTup (avCons (evVar 2) (avCons (evCst (.int 1)) avNil))))))
 sfNil)))))
def c_are_weights : CF := cfOf 8 F_are_weights
def P_is_under : List Str := ["one", "other"]
def c_is_under : CF := fun _ => none
def N_shows_total : List Str := ["told", "many", "first", "second", "thing", "x", "y", "number", "worth", "one"]
def P_shows_total : List Str := ["told", "many", "first", "second", "thing"]
def b_shows_total_1 : SF :=
 (sfSeq (sfSet 8 (evCallN 2 c_plus [false, false] (avCons (evCallN 2 c_times [false, false] (avCons (evTup (avCons (evVar 7) (avCons (evCst (.int 1)) avNil))) (avCons (evVar 5) avNil))) (avCons (evCallN 2 c_times [false, false] (avCons (evTup (avCons (evCallN 1 c_pairs_of [false] (avCons (evVar 7) avNil)) (avCons (evCst (.int 1)) avNil))) (avCons (evVar 6) avNil))) avNil))))
 (sfSeq (sfIf (tvOr (tvAnd (tvOf (evCmp .Eq (evVar 0) (evCst (.str "least")))) (tvOf (evCallN 2 c_is_under [false, false] (avCons (evTup (avCons (evCst (.int 1)) (avCons (evCst (.int 1)) avNil))) (avCons (evVar 8) avNil))))) (tvAnd (tvOf (evCmp .Eq (evVar 0) (evCst (.str "greatest")))) (tvOf (evCallN 2 c_is_under [false, false] (avCons (evVar 8) (avCons (evTup (avCons (evCst (.int 1)) (avCons (evCst (.int 1)) avNil))) avNil))))))
 (sfSeq (sfRet (evCst (.bl false)))
 sfNil)
 sfNil)
 sfNil))
def F_shows_total : SF :=
 (sfSeq (sfIf (tvOr (tvNot (tvOf (evBi .isinst (avCons (evVar 4) (avCons (evCst (.ty "tuple")) avNil))))) (tvOr (tvOf (evCmp .NotEq (evBi .len (avCons (evVar 4) avNil)) (evCst (.int 3)))) (tvOr (tvNot (tvOf (evBi .isinst (avCons (evIx (evVar 4) (evCst (.int 0))) (avCons (evCst (.ty "str")) avNil))))) (tvOf (evCmp .NotEq (evIx (evVar 4) (evCst (.int 0))) (evVar 0))))))
 (sfSeq (sfRet (evCst (.bl false)))
 sfNil)
 sfNil)
 (sfSeq (sfIf (tvOr (tvNot (tvOf (evCallN 4 c_are_weights [false, false, false, false] (avCons (evVar 1) (avCons (evVar 2) (avCons (evVar 3) (avCons (evIx (evVar 4) (evCst (.int 1))) avNil))))))) (tvOr (tvNot (tvOf (evBi .isinst (avCons (evIx (evVar 4) (evCst (.int 2))) (avCons (evCst (.ty "tuple")) avNil))))) (tvOf (evCmp .NotEq (evBi .len (avCons (evIx (evVar 4) (evCst (.int 2))) avNil)) (evCst (.int 2))))))
 (sfSeq (sfRet (evCst (.bl false)))
 sfNil)
 sfNil)
 (sfSeq (sfIf (tvNot (tvOf (evBi .all (avCons (evLc (svSeq (evIx (evVar 4) (evCst (.int 2)))) (.one 9) tvYes (evCallN 1 c_is_fraction [false] (avCons (evVar 9) avNil)) [9]) avNil))))
 (sfSeq (sfRet (evCst (.bl false)))
 sfNil)
 sfNil)
 (sfSeq (sfTup (.many [5, 6]) (evIx (evVar 4) (evCst (.int 2))))
 (sfSeq (sfFor (svRng2 (evCst (.int 1)) (evBin .Add (evVar 1) (evCst (.int 1)))) (.one 7)
 b_shows_total_1)
 (sfSeq (sfRet (evCmp .Eq (evCallN 2 c_plus [false, false] (avCons (evCallN 2 c_times [false, false] (avCons (evTup (avCons (evVar 2) (avCons (evCst (.int 1)) avNil))) (avCons (evVar 5) avNil))) (avCons (evCallN 2 c_times [false, false] (avCons (evTup (avCons (evVar 3) (avCons (evCst (.int 1)) avNil))) (avCons (evVar 6) avNil))) avNil))) (evCallN 1 c_together [false] (avCons (evBi .list (avCons (evIx (evVar 4) (evCst (.int 1))) avNil)) avNil))))
 sfNil))))))
def c_shows_total : CF := cfOf 10 F_shows_total
def N_is_least_paper : List Str := ["many", "first", "second", "value"]
def P_is_least_paper : List Str := ["many", "first", "second", "value"]
def F_is_least_paper : SFX :=
 (sxSeq (sxDrop (evCallNX 3 c_need_numbers [false, false, false] (avCons (evVar 0) (avCons (evVar 1) (avCons (evVar 2) avNil)))))
 (sxSeq (upS (sfRet (evCallN 5 c_shows_total [false, false, false, false, false] (avCons (evCst (.str "least")) (avCons (evVar 0) (avCons (evVar 1) (avCons (evVar 2) (avCons (evVar 3) avNil))))))))
 (upS sfNil)))
def c_is_least_paper : CFX := cfOfX 4 F_is_least_paper
def N_is_greatest_paper : List Str := ["many", "first", "second", "value"]
def P_is_greatest_paper : List Str := ["many", "first", "second", "value"]
def F_is_greatest_paper : SFX :=
 (sxSeq (sxDrop (evCallNX 3 c_need_numbers [false, false, false] (avCons (evVar 0) (avCons (evVar 1) (avCons (evVar 2) avNil)))))
 (sxSeq (upS (sfRet (evCallN 5 c_shows_total [false, false, false, false, false] (avCons (evCst (.str "greatest")) (avCons (evVar 0) (avCons (evVar 1) (avCons (evVar 2) (avCons (evVar 3) avNil))))))))
 (upS sfNil)))
def c_is_greatest_paper : CFX := cfOfX 4 F_is_greatest_paper
def N__law_met : List Str := ["call", "error"]
def P__law_met : List Str := ["call"]
noncomputable def F__law_met (g : Addr) (F : LF) (caps : List D) (led : CFX) : SF :=
 (sfSeq (sfTry2 "NoTable" "NoNumber" 1 (sxSeq (sxRet (evTold 0 g F caps led "told")) (upS sfNil)) (sfSeq (sfRet (evTup (avCons (evCst (.str "refused")) (avCons (evCst (.str "table")) avNil)))) sfNil) (hPayR "NoNumber" "number" "refused" "number ")) sfNil)
noncomputable def c__law_met (g : Addr) (F : LF) (caps : List D) (led : CFX) : CF := cfOf 2 (F__law_met g F caps led)
def N_shows_sums : List Str := ["sums", "thing"]
def P_shows_sums : List Str := ["sums", "thing"]
def F_shows_sums : SF :=
 (sfSeq (sfIf (tvOr (tvNot (tvOf (evBi .isinst (avCons (evVar 1) (avCons (evCst (.ty "tuple")) avNil))))) (tvOr (tvOf (evCmp .NotEq (evBi .len (avCons (evVar 1) avNil)) (evCst (.int 2)))) (tvNot (tvOf (evBi .isinst (avCons (evIx (evVar 1) (evCst (.int 0))) (avCons (evCst (.ty "str")) avNil)))))))
 (sfSeq (sfRet (evCst (.bl false)))
 sfNil)
 sfNil)
 (sfSeq (sfIf (tvOf (evCmp .Eq (evIx (evVar 1) (evCst (.int 0))) (evCst (.str "lack"))))
 (sfSeq (sfRet (evAnd (evCallK 1 2 3 [] c_is_whole [false, false, false] (avCons (evIx (evVar 1) (evCst (.int 1))) avNil) (avCons (evCst (.int 0)) (avCons (evBin .Sub (evBi .len (avCons (evVar 0) avNil)) (evCst (.int 1))) avNil))) (evCmp .Lt (evIx (evCallN 1 c_counts_in [false] (avCons (evVar 0) avNil)) (evIx (evVar 1) (evCst (.int 1)))) (evCst (.int 0)))))
 sfNil)
 sfNil)
 (sfSeq (sfIf (tvOr (tvOf (evCmp .NotEq (evIx (evVar 1) (evCst (.int 0))) (evCst (.str "sets")))) (tvOr (tvNot (tvOf (evCallN 2 c_are_sets [false, false] (avCons (evIx (evVar 0) (evCst (.int 0))) (avCons (evIx (evVar 1) (evCst (.int 1))) avNil))))) (tvOf (evCmp .NotEq (evBi .len (avCons (evIx (evVar 1) (evCst (.int 1))) avNil)) (evBin .Sub (evBi .len (avCons (evVar 0) avNil)) (evCst (.int 1)))))))
 (sfSeq (sfRet (evCst (.bl false)))
 sfNil)
 sfNil)
 (sfSeq (sfRet (evCmp .Eq (evCallN 2 c_counts_by [false, false] (avCons (evIx (evVar 0) (evCst (.int 0))) (avCons (evIx (evVar 1) (evCst (.int 1))) avNil))) (evCallN 1 c_counts_in [false] (avCons (evVar 0) avNil))))
 sfNil))))
def c_shows_sums : CF := cfOf 2 F_shows_sums
def N_is_sums_paper : List Str := ["sums", "value"]
def P_is_sums_paper : List Str := ["sums", "value"]
def F_is_sums_paper : SFX :=
 (sxSeq (sxDrop (evCallNX 1 c_need_sums [false] (avCons (evVar 0) avNil)))
 (sxSeq (sxDrop (evCallNX 1 c_need_things [false] (avCons (evIx (evVar 0) (evCst (.int 0))) avNil)))
 (sxSeq (upS (sfRet (evCallN 2 c_shows_sums [false, false] (avCons (evVar 0) (avCons (evVar 1) avNil)))))
 (upS sfNil))))
def c_is_sums_paper : CFX := cfOfX 2 F_is_sums_paper
def N__law_right : List Str := ["crock", "things", "sets", "sums", "many", "odd", "told", "due", "call", "values", "value", "one"]
def P__law_right : List Str := ["crock"]
def b__law_right_1 : SF :=
 (sfSeq (sfIf (tvOr (tvOf (evCmp .IsNot (evCallN 2 (tame c_is_sums_paper) [false, false] (avCons (evTup (avCons (evCst (.int 3)) (avCons (evCst (.int 2)) avNil))) (avCons (evVar 10) avNil))) (evCst (.bl false)))) (tvOf (evCmp .IsNot (evCallN 4 (tame c_is_least_paper) [false, false, false, false] (avCons (evCst (.int 3)) (avCons (evCst (.int 1)) (avCons (evCst (.int 2)) (avCons (evVar 10) avNil))))) (evCst (.bl false)))))
 (sfSeq (sfRet (evCst (.bl false)))
 sfNil)
 sfNil)
 (sfSeq (sfIf (tvOf (evCmp .IsNot (evCallN 4 (tame c_is_greatest_paper) [false, false, false, false] (avCons (evCst (.int 3)) (avCons (evCst (.int 8)) (avCons (evCst (.int 4)) (avCons (evVar 10) avNil))))) (evCst (.bl false))))
 (sfSeq (sfRet (evCst (.bl false)))
 sfNil)
 sfNil)
 sfNil))
def b__law_right_2 : SF :=
 (sfSeq (sfDrop (evAppend 6 (avCons (evLam1X (fun g F caps led => c__law_met g F caps led) [8, 4, 5] (lamFX 3 (evCallGX 0 [("is_least_paper", c_is_least_paper), ("is_greatest_paper", c_is_greatest_paper)] 4 [false, false, false, false] (avCons (evVar 1) (avCons (evVar 2) (avCons (evVar 2) (avCons (evCst .non) avNil))))))) avNil)))
 (sfSeq (sfDrop (evAppend 6 (avCons (evLam1X (fun g F caps led => c__law_met g F caps led) [8, 5] (lamFX 2 (evCallGX 0 [("is_least_paper", c_is_least_paper), ("is_greatest_paper", c_is_greatest_paper)] 4 [false, false, false, false] (avCons (evCst (.int 3)) (avCons (evVar 1) (avCons (evCst (.int 1)) (avCons (evCst .non) avNil))))))) avNil)))
 (sfSeq (sfDrop (evAppend 6 (avCons (evLam1X (fun g F caps led => c__law_met g F caps led) [8, 5] (lamFX 2 (evCallGX 0 [("is_least_paper", c_is_least_paper), ("is_greatest_paper", c_is_greatest_paper)] 4 [false, false, false, false] (avCons (evCst (.int 3)) (avCons (evCst (.int 1)) (avCons (evVar 1) (avCons (evCst .non) avNil))))))) avNil)))
 (sfSeq (sfSet 7 (evBin .Add (evVar 7) (evLst (avCons (evBin .Add (evCst (.str "number ")) (evRepr (evVar 4))) (avCons (evBin .Add (evCst (.str "number ")) (evRepr (evVar 5))) (avCons (evBin .Add (evCst (.str "number ")) (evRepr (evVar 5))) avNil))))))
 sfNil))))
def b__law_right_3 : SF :=
 (sfSeq (sfDrop (evAppend 6 (avCons (evLam1X (fun g F caps led => c__law_met g F caps led) [8, 4, 5] (lamFX 3 (evCallGX 0 [("least_total", c_least_total), ("greatest_total", c_greatest_total), ("least_paper", c_least_paper), ("greatest_paper", c_greatest_paper)] 3 [false, false, false] (avCons (evVar 1) (avCons (evVar 2) (avCons (evVar 2) avNil)))))) avNil)))
 (sfSeq (sfDrop (evAppend 6 (avCons (evLam1X (fun g F caps led => c__law_met g F caps led) [8, 5] (lamFX 2 (evCallGX 0 [("least_total", c_least_total), ("greatest_total", c_greatest_total), ("least_paper", c_least_paper), ("greatest_paper", c_greatest_paper)] 3 [false, false, false] (avCons (evCst (.int 3)) (avCons (evVar 1) (avCons (evVar 1) avNil)))))) avNil)))
 (sfSeq (sfDrop (evAppend 6 (avCons (evLam1X (fun g F caps led => c__law_met g F caps led) [8, 5] (lamFX 2 (evCallGX 0 [("least_total", c_least_total), ("greatest_total", c_greatest_total), ("least_paper", c_least_paper), ("greatest_paper", c_greatest_paper)] 3 [false, false, false] (avCons (evCst (.int 3)) (avCons (evCst (.int 1)) (avCons (evVar 1) avNil)))))) avNil)))
 (sfSeq (sfDrop (evAppend 6 (avCons (evLam1X (fun g F caps led => c__law_met g F caps led) [8] (lamFX 1 (evCallGX 0 [("least_total", c_least_total), ("greatest_total", c_greatest_total), ("least_paper", c_least_paper), ("greatest_paper", c_greatest_paper)] 3 [false, false, false] (avCons (evCst (.int 3)) (avCons (evCst (.int 1)) (avCons (evCst (.int 2)) avNil)))))) avNil)))
 (sfSeq (sfSet 7 (evBin .Add (evVar 7) (evLst (avCons (evBin .Add (evCst (.str "number ")) (evRepr (evVar 4))) (avCons (evBin .Add (evCst (.str "number ")) (evRepr (evVar 5))) (avCons (evBin .Add (evCst (.str "number ")) (evRepr (evVar 5))) (avCons (evCst (.str "table")) avNil)))))))
 sfNil)))))
def b__law_right_4 : SF :=
 (sfSeq (sfDrop (evAppend 6 (avCons (evLam1X (fun g F caps led => c__law_met g F caps led) [8, 3, 4] (lamFX 3 (evCallGX 0 [("meet_sums", c_meet_sums), ("just_counts", c_just_counts), ("ended", c_ended), ("at_least", c_at_least)] 2 [false, false] (avCons (evVar 1) (avCons (evVar 2) avNil))))) avNil)))
 (sfSeq (sfDrop (evAppend 6 (avCons (evLam1X (fun g F caps led => c__law_met g F caps led) [8, 4] (lamFX 2 (evCallGX 0 [("meet_sums", c_meet_sums), ("just_counts", c_just_counts), ("ended", c_ended), ("at_least", c_at_least)] 2 [false, false] (avCons (evTup (avCons (evCst (.int 6)) (avCons (evCst (.int 8)) (avCons (evCst (.int 4)) (avCons (evCst (.int 1)) avNil))))) (avCons (evVar 1) avNil))))) avNil)))
 (sfSeq (sfDrop (evAppend 6 (avCons (evLam1X (fun g F caps led => c__law_met g F caps led) [8] (lamFX 1 (evCallGX 0 [("meet_sums", c_meet_sums), ("just_counts", c_just_counts), ("ended", c_ended), ("at_least", c_at_least)] 2 [false, false] (avCons (evTup (avCons (evCst (.int 6)) (avCons (evCst (.int 8)) (avCons (evCst (.int 4)) (avCons (evCst (.int 1)) avNil))))) (avCons (evCst (.int 4)) avNil))))) avNil)))
 (sfSeq (sfSet 7 (evBin .Add (evVar 7) (evLst (avCons (evCst (.str "table")) (avCons (evBin .Add (evCst (.str "number ")) (evRepr (evVar 4))) (avCons (evCst (.str "number 4")) avNil))))))
 sfNil))))
def b__law_right_5 : SF :=
 (sfSeq (sfDrop (evAppend 6 (avCons (evLam1X (fun g F caps led => c__law_met g F caps led) [8, 3] (lamFX 2 (evCallGX 0 [("counts_of", c_counts_of), ("sums_of", c_sums_of), ("sums_paper", c_sums_paper)] 1 [false] (avCons (evVar 1) avNil)))) avNil)))
 (sfSeq (sfDrop (evAppend 7 (avCons (evCst (.str "table")) avNil)))
 sfNil))
def b__law_right_6 : SF :=
 (sfSeq (sfDrop (evAppend 6 (avCons (evLam1X (fun g F caps led => c__law_met g F caps led) [8, 1, 2] (lamFX 3 (evCallGX 0 [("meet_sums", c_meet_sums), ("just_counts", c_just_counts), ("ended", c_ended), ("at_least", c_at_least)] 2 [false, false] (avCons (evVar 1) (avCons (evVar 2) avNil))))) avNil)))
 (sfSeq (sfDrop (evAppend 6 (avCons (evLam1X (fun g F caps led => c__law_met g F caps led) [8, 2] (lamFX 2 (evCallGX 0 [("meet_sums", c_meet_sums), ("just_counts", c_just_counts), ("ended", c_ended), ("at_least", c_at_least)] 2 [false, false] (avCons (evCst (.int 3)) (avCons (evVar 1) avNil))))) avNil)))
 (sfSeq (sfSet 7 (evBin .Add (evVar 7) (evLst (avCons (evBin .Add (evCst (.str "number ")) (evRepr (evVar 1))) (avCons (evCst (.str "table")) avNil)))))
 sfNil)))
noncomputable def F__law_right : SF :=
 (sfSeq (sfSet 1 (evCallN 2 c__law_pick_of [true, false] (avCons (evVar 0) (avCons (evLst (avCons (evCst .non) (avCons (evCst (.int 31)) (avCons (evNeg (evCst (.int 1))) (avCons (evCst (.bl true)) (avCons (evCst (.str "3")) (avCons (evTup (avCons (evCst (.int 3)) avNil)) (avCons (evLst avNil) (avCons (evBin .Pow (evCst (.int 10)) (evCst (.int 20))) avNil))))))))) avNil))))
 (sfSeq (sfSet 2 (evLst (avCons (evCst .non) (avCons (evTup avNil) (avCons (evCst (.int 0)) (avCons (evTup (avCons (evTup (avCons (evCst (.int 3)) avNil)) avNil)) (avCons (evTup (avCons (evTup (avCons (evNeg (evCst (.int 1))) avNil)) avNil)) (avCons (evTup (avCons (evTup (avCons (evCst (.int 1)) (avCons (evCst (.int 0)) avNil))) avNil)) (avCons (evTup (avCons (evTup (avCons (evCst (.int 0)) (avCons (evCst (.int 0)) avNil))) avNil)) (avCons (evTup (avCons (evLst (avCons (evCst (.int 0)) avNil)) avNil)) (avCons (evLst (avCons (evTup (avCons (evCst (.int 0)) avNil)) avNil)) (avCons (evTup (avCons (evTup (avCons (evCst (.bl true)) avNil)) avNil)) (avCons (evTup (avCons (evTup (avCons (evCst (.str "0")) avNil)) avNil)) avNil)))))))))))))
 (sfSeq (sfSet 2 (evBin .Add (evVar 2) (evLst (avCons (evBin .Mult (evTup (avCons (evTup avNil) avNil)) (evCst (.int 7))) (avCons (evCst (.dct [] [])) (avCons (evCst (.str "0")) avNil))))))
 (sfSeq (sfSet 2 (evCallN 2 c__law_pick_of [true, false] (avCons (evVar 0) (avCons (evVar 2) avNil))))
 (sfSeq (sfSet 3 (evLst (avCons (evCst .non) (avCons (evTup avNil) (avCons (evTup (avCons (evCst (.int 1)) avNil)) (avCons (evCst (.int 0)) (avCons (evBin .Mult (evTup (avCons (evCst (.int 1)) avNil)) (evCst (.int 8))) (avCons (evLst (avCons (evCst (.int 1)) (avCons (evCst (.int 1)) avNil))) (avCons (evTup (avCons (evCst (.bl true)) (avCons (evCst (.int 1)) avNil))) (avCons (evTup (avCons (evCst (.int 1)) (avCons (evCst .non) avNil))) (avCons (evCst (.str "11")) (avCons (evCst (.dct [] [])) (avCons (evTup (avCons (evBin .Pow (evCst (.int 10)) (evCst (.int 30))) (avCons (evCst (.int 1)) avNil))) (avCons (evTup (avCons (evCst (.int 1)) (avCons (evCst (.str "1")) avNil))) avNil))))))))))))))
 (sfSeq (sfSet 3 (evCallN 2 c__law_pick_of [true, false] (avCons (evVar 0) (avCons (evVar 3) avNil))))
 (sfSeq (sfSet 4 (evCallN 2 c__law_pick_of [true, false] (avCons (evVar 0) (avCons (evLst (avCons (evCst .non) (avCons (evCst (.int 0)) (avCons (evCst (.int 13)) (avCons (evNeg (evCst (.int 1))) (avCons (evCst (.bl true)) (avCons (evCst (.str "3")) (avCons (evTup (avCons (evCst (.int 3)) avNil)) (avCons (evLst avNil) avNil))))))))) avNil))))
 (sfSeq (sfSet 5 (evCallN 2 c__law_pick_of [true, false] (avCons (evVar 0) (avCons (evLst (avCons (evCst .non) (avCons (evNeg (evCst (.int 1))) (avCons (evCst (.bl true)) (avCons (evCst (.str "0")) (avCons (evTup (avCons (evCst (.int 0)) avNil)) (avCons (evLst avNil) (avCons (evBin .Pow (evCst (.int 10)) (evCst (.int 30))) avNil)))))))) avNil))))
 (sfSeq (sfPar 6 7 (evLst avNil) (evLst avNil))
 (sfSeq (sfFor (svSeq (evTup (avCons (evCst (.gl "meet_sums")) (avCons (evCst (.gl "just_counts")) avNil)))) (.one 8)
 b__law_right_6)
 (sfSeq (sfFor (svSeq (evTup (avCons (evCst (.gl "counts_of")) (avCons (evCst (.gl "sums_of")) (avCons (evCst (.gl "sums_paper")) avNil))))) (.one 8)
 b__law_right_5)
 (sfSeq (sfDrop (evAppend 6 (avCons (evLam1X (fun g F caps led => c__law_met g F caps led) [3] (lamFX 1 (evCallNX 2 c_is_sums_paper [false, false] (avCons (evVar 0) (avCons (evCst .non) avNil))))) avNil)))
 (sfSeq (sfDrop (evAppend 6 (avCons (evLam1X (fun g F caps led => c__law_met g F caps led) [] (lamFX 0 (evCallNX 1 c_sums_paper [false] (avCons (evTup (avCons (evCst (.int 31)) (avCons (evCst (.int 1)) avNil))) avNil)))) avNil)))
 (sfSeq (sfDrop (evAppend 6 (avCons (evLam1X (fun g F caps led => c__law_met g F caps led) [] (lamFX 0 (evCallNX 1 c_sums_paper [false] (avCons (evTup (avCons (evNeg (evCst (.int 1))) (avCons (evCst (.int 1)) avNil))) avNil)))) avNil)))
 (sfSeq (sfDrop (evAppend 6 (avCons (evLam1X (fun g F caps led => c__law_met g F caps led) [] (lamFX 0 (evCallNX 2 c_is_sums_paper [false, false] (avCons (evTup (avCons (evCst (.int 31)) (avCons (evCst (.int 1)) avNil))) (avCons (evCst .non) avNil))))) avNil)))
 (sfSeq (sfSet 7 (evBin .Add (evVar 7) (evLst (avCons (evCst (.str "table")) (avCons (evCst (.str "number 31")) (avCons (evCst (.str "number -1")) (avCons (evCst (.str "number 31")) avNil)))))))
 (sfSeq (sfFor (svSeq (evTup (avCons (evCst (.gl "ended")) (avCons (evCst (.gl "at_least")) avNil)))) (.one 8)
 b__law_right_4)
 (sfSeq (sfFor (svSeq (evTup (avCons (evCst (.gl "least_total")) (avCons (evCst (.gl "greatest_total")) (avCons (evCst (.gl "least_paper")) (avCons (evCst (.gl "greatest_paper")) avNil)))))) (.one 8)
 b__law_right_3)
 (sfSeq (sfFor (svSeq (evTup (avCons (evCst (.gl "is_least_paper")) (avCons (evCst (.gl "is_greatest_paper")) avNil)))) (.one 8)
 b__law_right_2)
 (sfSeq (sfIf (tvOf (evCmp .NotEq (evVar 6) (evLc (svSeq (evVar 7)) (.one 11) tvYes (evTup (avCons (evCst (.str "refused")) (avCons (evVar 11) avNil))) [11])))
 (sfSeq (sfRet (evCst (.bl false)))
 sfNil)
 sfNil)
 (sfSeq (sfSet 9 (evLst (avCons (evVar 1) (avCons (evVar 2) (avCons (evVar 3) (avCons (evVar 4) (avCons (evVar 5) (avCons (evCst (.dct [] [])) (avCons (evLst (avCons (evLst avNil) avNil)) (avCons (evTup (avCons (evCst (.str "sets")) (avCons (evCst (.dct [] [])) avNil))) (avCons (evTup (avCons (evCst (.str "lack")) (avCons (evCst (.dct [] [])) avNil))) (avCons (evTup (avCons (evCst (.str "sets")) (avCons (evTup (avCons (evCst (.dct [] [])) avNil)) avNil))) (avCons (evTup (avCons (evCst (.dct [] [])) (avCons (evCst (.int 0)) avNil))) avNil)))))))))))))
 (sfSeq (sfSet 9 (evBin .Add (evVar 9) (evLst (avCons (evTup (avCons (evCst (.str "sets")) (avCons (evTup (avCons (evTup (avCons (evCst .non) avNil)) avNil)) avNil))) avNil))))
 (sfSeq (sfFor (svSeq (evBin .Add (evVar 9) (evLst (avCons (evTup (avCons (evCst (.str "least")) (avCons (evCst (.dct [] [])) (avCons (evCst (.dct [] [])) avNil)))) (avCons (evTup (avCons (evCst (.str "least")) (avCons (evTup (avCons (evCst (.dct [] [])) (avCons (evCst (.int 1)) (avCons (evCst (.int 2)) avNil)))) (avCons (evTup (avCons (evTup (avCons (evCst (.int 0)) (avCons (evCst (.int 1)) avNil))) (avCons (evTup (avCons (evCst (.int 0)) (avCons (evCst (.int 1)) avNil))) avNil))) avNil)))) (avCons (evTup (avCons (evCst (.str "greatest")) (avCons (evTup avNil) (avCons (evTup (avCons (evTup (avCons (evCst (.int 0)) (avCons (evCst (.int 1)) avNil))) avNil)) avNil)))) avNil)))))) (.one 10)
 b__law_right_1)
 (sfSeq (sfRet (evCst (.bl true)))
 sfNil))))))))))))))))))))))))
noncomputable def c__law_right : CF := cfOf 12 F__law_right
abbrev tbl__law_right_call4 : List (Str × CFX) := [("is_least_paper", c_is_least_paper), ("is_greatest_paper", c_is_greatest_paper)]
abbrev tbl__law_right_call3 : List (Str × CFX) := [("least_total", c_least_total), ("greatest_total", c_greatest_total), ("least_paper", c_least_paper), ("greatest_paper", c_greatest_paper)]
abbrev tbl__law_right_call2 : List (Str × CFX) := [("meet_sums", c_meet_sums), ("just_counts", c_just_counts), ("ended", c_ended), ("at_least", c_at_least)]
abbrev tbl__law_right_call1 : List (Str × CFX) := [("counts_of", c_counts_of), ("sums_of", c_sums_of), ("sums_paper", c_sums_paper)]
def N_law : List Str := ["script", "spot", "crock", "thing"]
def P_law : List Str := ["script"]
def b_law_1 : SF :=
 (sfSeq (sfSet 2 (evCallN 2 c__law_crock [false, false] (avCons (evVar 0) (avCons (evVar 1) avNil))))
 (sfSeq (sfIf (tvOr (tvNot (tvOf (evCallN 1 c__law_right [true] (avCons (evVar 2) avNil)))) (tvNot (tvOf (evCallN 1 c__law_right [true] (avCons (evVar 2) avNil)))))
 (sfSeq (sfRet (evCst (.bl false)))
 sfNil)
 sfNil)
 sfNil))
def F_law : SF :=
 (sfSeq (sfFor (svRng1 (evBi .max2 (avCons (evCst (.int 1)) (avCons (evBi .min2 (avCons (evCst (.int 4)) (avCons (evBi .len (avCons (evVar 0) avNil)) avNil))) avNil)))) (.one 1)
 b_law_1)
 (sfSeq (sfRet (evCmp .Eq (evCallN 2 (tame c_meet_sums) [false, false] (avCons (evCst (.int 30)) (avCons (evTup (avCons (evBi .tuple (avCons (evLc (svRng1 (evCst (.int 30))) (.one 3) tvYes (evVar 3) [3]) avNil)) avNil)) avNil))) (evTup (avCons (evCst (.int 30)) (avCons (evCst (.int 30)) avNil)))))
 sfNil))
def c_law : CF := cfOf 4 F_law
def P_NoNumber_init : List Str := ["self", "number"]
end
end G
set_option maxHeartbeats 4000000
namespace G
open PySem PySem.Spec PyProof.Rows L2 RF
variable {P : Program} {w : World} {K : PySem.W.Frag} {mg : Str → Option Value} {base : Heap}
theorem sc__law_crock : FnScope N__law_crock P__law_crock (C8.fnScope s__law_crock) := C8.fnScope_by (by decide +kernel)
theorem lk__law_crock_abs : (C8.fnScope s__law_crock).names.lookup ("abs" : Str) = some .globalImplicit := by decide +kernel
theorem lk__law_crock_cell : (C8.fnScope s__law_crock).names.lookup ("cell" : Str) = some .local := by decide +kernel
theorem lk__law_crock_great : (C8.fnScope s__law_crock).names.lookup ("great" : Str) = some .local := by decide +kernel
theorem lk__law_crock_int : (C8.fnScope s__law_crock).names.lookup ("int" : Str) = some .globalImplicit := by decide +kernel
theorem lk__law_crock_len : (C8.fnScope s__law_crock).names.lookup ("len" : Str) = some .globalImplicit := by decide +kernel
theorem lk__law_crock_max : (C8.fnScope s__law_crock).names.lookup ("max" : Str) = some .globalImplicit := by decide +kernel
theorem lk__law_crock_script : (C8.fnScope s__law_crock).names.lookup ("script" : Str) = some .local := by decide +kernel
theorem lk__law_crock_spot : (C8.fnScope s__law_crock).names.lookup ("spot" : Str) = some .local := by decide +kernel
theorem ok__law_crock {f : Addr} {fd : FuncData} (T : Tx mg) (D : C8.Def K mg "_law_crock" s__law_crock f fd) (b : L2.Binds K fd P__law_crock []) : Cl P w K mg base 1 "_law_crock" 2 c__law_crock :=
  cl_rf F__law_crock D b sc__law_crock rfl rfl fun cdv A outer s H E hr =>
 (st_cons (st_set (i := 2) sc__law_crock.nd rfl (.inl lk__law_crock_cell) (ev_ite (tv_cmp hr.units (ev_nm (i := 1) rfl (.inl lk__law_crock_spot) nd_spot ncd_spot) (ev_bi .len rfl lk__law_crock_len T.b_len bb_len (av_cons (ev_nm (i := 0) rfl (.inl lk__law_crock_script) nd_script ncd_script) av_nil (star_cons rfl)) nn_len nd_len rfl) rfl) (ev_bi .int rfl lk__law_crock_int T.b_int bb_int (av_cons (ev_ix (ev_nm (i := 0) rfl (.inl lk__law_crock_script) nd_script ncd_script) (ev_nm (i := 1) rfl (.inl lk__law_crock_spot) nd_spot ncd_spot) (fun _ _ => rfl)) av_nil (star_cons rfl)) nn_int nd_int rfl) (ev_bin (ev_bin ec_int (ev_nm (i := 1) rfl (.inl lk__law_crock_spot) nd_spot ncd_spot)) ec_int)) rfl rfl (.inl rfl))
 (st_cons (st_set (i := 3) sc__law_crock.nd rfl (.inl lk__law_crock_great) (ev_bin (ev_bi .int rfl lk__law_crock_int T.b_int bb_int (av_cons (ev_bi .abs rfl lk__law_crock_abs T.b_abs bb_abs (av_cons (ev_nm (i := 2) rfl (.inl lk__law_crock_cell) nd_cell ncd_cell) av_nil (star_cons rfl)) nn_abs nd_abs rfl) av_nil (star_cons rfl)) nn_int nd_int rfl) (ev_bin (ev_bin ec_int ec_int) ec_int)) rfl rfl (.inl rfl))
 (st_cons (st_ret (ev_lst (av_cons (ev_bi .max2 rfl lk__law_crock_max T.b_max bb_max (av_cons ec_int (av_cons (ev_bin (ev_nm (i := 3) rfl (.inl lk__law_crock_great) nd_great ncd_great) (ev_bin ec_int ec_int)) av_nil (star_cons rfl)) (star_cons rfl)) nn_max nd_max rfl) (av_cons (ev_bin (ev_bin (ev_bin (ev_bin (ev_bin (ev_bi .int rfl lk__law_crock_int T.b_int bb_int (av_cons (ev_nm (i := 3) rfl (.inl lk__law_crock_great) nd_great ncd_great) av_nil (star_cons rfl)) nn_int nd_int rfl) ec_int) ec_int) (ev_bin ec_int (ev_nm (i := 1) rfl (.inl lk__law_crock_spot) nd_spot ncd_spot))) (ev_bin ec_int (ev_bi .int rfl lk__law_crock_int T.b_int bb_int (av_cons (ev_cmp hr.units (ev_nm (i := 2) rfl (.inl lk__law_crock_cell) nd_cell ncd_cell) ec_int rfl) av_nil (star_cons rfl)) nn_int nd_int rfl))) ec_int) (av_cons ec_int av_nil (star_cons rfl)) (star_cons rfl)) (star_cons rfl))))
 st_nil)))
end G
set_option maxHeartbeats 4000000
namespace G
open PySem PySem.Spec PyProof.Rows L2 RF
variable {P : Program} {w : World} {K : PySem.W.Frag} {mg : Str → Option Value} {base : Heap}
theorem sc_is_whole : FnScope N_is_whole P_is_whole (C8.fnScope s_is_whole) := C8.fnScope_by (by decide +kernel)
theorem lk_is_whole_bool : (C8.fnScope s_is_whole).names.lookup ("bool" : Str) = some .globalImplicit := by decide +kernel
theorem lk_is_whole_int : (C8.fnScope s_is_whole).names.lookup ("int" : Str) = some .globalImplicit := by decide +kernel
theorem lk_is_whole_isinstance : (C8.fnScope s_is_whole).names.lookup ("isinstance" : Str) = some .globalImplicit := by decide +kernel
theorem lk_is_whole_least : (C8.fnScope s_is_whole).names.lookup ("least" : Str) = some .local := by decide +kernel
theorem lk_is_whole_most : (C8.fnScope s_is_whole).names.lookup ("most" : Str) = some .local := by decide +kernel
theorem lk_is_whole_thing : (C8.fnScope s_is_whole).names.lookup ("thing" : Str) = some .local := by decide +kernel
abbrev FdW (K : PySem.W.Frag) (f : Addr) (fd : FuncData) : Prop := FunD K "is_whole" "is_whole" (C8.fnArgs s_is_whole) (C8.fnBody s_is_whole) (C8.fnScope s_is_whole) [] [("least", V.non), ("most", V.non)] f fd
theorem fn_is_whole {f : Addr} {fd : FuncData} (T : Tx mg) (D : FdW K f fd) : FnOk P w K mg base C8.CX0 1 f fd P_is_whole (spF K 3 c_is_whole) := by
  have F : C8.Fun K "is_whole" "is_whole" s_is_whole f fd := by
    obtain ⟨oc, od, dV, kV, doc, pm, an, cdv, ct, osl, e1, e2, e3, _, _⟩ := D.ex
    exact ⟨oc, od, dV, kV, doc, pm, an, cdv, ct, osl, e1, e2, e3⟩
  exact fn_rf (N := N_is_whole) (ps := P_is_whole) (k := 0) F_is_whole F sc_is_whole fun cdv A outer s H E hr =>
 (st_cons (st_if (PW.pt (tv_or (tv_not (tv_val (ev_bi .isinst rfl lk_is_whole_isinstance T.b_isinstance bb_isinstance (av_cons (ev_nm (i := 0) rfl (.inl lk_is_whole_thing) nd_thing ncd_thing) (av_cons (ec_ty lk_is_whole_int T.b_int bt_int nn_int nd_int) av_nil (star_cons rfl)) (star_cons rfl)) nn_isinstance nd_isinstance rfl) (fun _ => rfl))) (tv_or1 (tv_val (ev_bi .isinst rfl lk_is_whole_isinstance T.b_isinstance bb_isinstance (av_cons (ev_nm (i := 0) rfl (.inl lk_is_whole_thing) nd_thing ncd_thing) (av_cons (ec_ty lk_is_whole_bool T.b_bool bt_bool nn_bool nd_bool) av_nil (star_cons rfl)) (star_cons rfl)) nn_isinstance nd_isinstance rfl) (fun _ => rfl)))))
 (st_cons (st_ret ec_bl)
 st_nil)
 st_nil)
 (st_cons (st_if (PW.pt (tv_and (tv_cmp hr.units (ev_nm (i := 1) rfl (.inl lk_is_whole_least) nd_least ncd_least) ec_non rfl) (tv_and1 (tv_cmp hr.units (ev_nm (i := 0) rfl (.inl lk_is_whole_thing) nd_thing ncd_thing) (ev_nm (i := 1) rfl (.inl lk_is_whole_least) nd_least ncd_least) rfl))))
 (st_cons (st_ret ec_bl)
 st_nil)
 st_nil)
 (st_cons (st_ret (ev_or (ev_cmp hr.units (ev_nm (i := 2) rfl (.inl lk_is_whole_most) nd_most ncd_most) ec_non rfl) (ev_one (ev_cmp hr.units (ev_nm (i := 0) rfl (.inl lk_is_whole_thing) nd_thing ncd_thing) (ev_nm (i := 2) rfl (.inl lk_is_whole_most) nd_most ncd_most) rfl))))
 st_nil)))
theorem ok_is_whole {f : Addr} {fd : FuncData} (T : Tx mg) (D : FdW K f fd) (hm : mg "is_whole" = some (.ref f)) : IsW P w K mg base := by
  have F : FnOk P w K mg base C8.CX0 1 f fd P_is_whole (spF K 3 c_is_whole) := fn_is_whole T D
  refine ⟨⟨rfl, ?_⟩, ⟨rfl, ?_⟩, ⟨rfl, ?_⟩⟩
  · obtain ⟨ds, r, b⟩ := FunD.binds0 (ps := P_is_whole) D 1 (by simp) rfl fun D doc pm an cdv ct us ks hl hk => match us, ks, hl, hk with
      | [u], [x, y], _, _ => ⟨_, _, _, _, _, _, rfl, rfl, ⟨_, _, _, _, _, _, rfl, rfl, rfl⟩⟩
    exact ⟨f, fd, P_is_whole, ds, rfl, F, hm, D.kp, b, r⟩
  · obtain ⟨mv, b⟩ := FunD.kbinds0 (ps := P_is_whole) D 1 ["least"] [("most", V.non)] (fun vs mz zs => vs ++ (zs ++ mz)) (by simp) (by simp) (fun r1 r2 r3 => r1.append (r3.append r2)) fun D doc pm an cdv ct us mv ws hl hm hw => match us, mv, ws, hl, hm, hw with
      | [u], [x], [y], _, _, _ => ⟨_, _, _, _, _, _, rfl, rfl, rfl⟩
    exact ⟨f, fd, P_is_whole, _, _, rfl, F, hm, D.kp, b, fun vs zs _ _ => rfl⟩
  · obtain ⟨mv, b⟩ := FunD.kbinds0 (ps := P_is_whole) D 1 ["least", "most"] [] (fun vs mz zs => vs ++ (zs ++ mz)) (by simp) (by simp) (fun r1 r2 r3 => r1.append (r3.append r2)) fun D doc pm an cdv ct us mv ws hl hm hw => match us, mv, ws, hl, hm, hw with
      | [u], [], [x, y], _, _, _ => rfl
    exact ⟨f, fd, P_is_whole, _, _, rfl, F, hm, D.kp, b, fun vs zs _ _ => rfl⟩
end G
set_option maxHeartbeats 4000000
namespace G
open PySem PySem.Spec PyProof.Rows L2 RF
variable {P : Program} {w : World} {K : PySem.W.Frag} {mg : Str → Option Value} {base : Heap}
theorem sc_need_things : FnScope N_need_things P_need_things (C8.fnScope s_need_things) := C8.fnScope_by (by decide +kernel)
theorem lk_need_things_MOST_THINGS : (C8.fnScope s_need_things).names.lookup ("MOST_THINGS" : Str) = some .globalImplicit := by decide +kernel
theorem lk_need_things_NoNumber : (C8.fnScope s_need_things).names.lookup ("NoNumber" : Str) = some .globalImplicit := by decide +kernel
theorem lk_need_things_is_whole : (C8.fnScope s_need_things).names.lookup ("is_whole" : Str) = some .globalImplicit := by decide +kernel
theorem lk_need_things_things : (C8.fnScope s_need_things).names.lookup ("things" : Str) = some .local := by decide +kernel
theorem ok_need_things {f : Addr} {fd : FuncData} (T : Tx mg) (TK : Tk K mg) (D : C8.Def K mg "need_things" s_need_things f fd) (b : L2.Binds K fd P_need_things [])
    (h_is_whole : IsW P w K mg base)
    (kc_NoNumber : KeepC P w K mg base "NoNumber" "number") : ClX P w K mg base 3 "need_things" 1 c_need_things :=
  clx_rf F_need_things D b sc_need_things rfl rfl fun W cdv A outer s H E tk hr =>
 (sx_cons (sx_if (tv_not (tv_val (ev_clk (ks := ["least", "most"]) [false, false, false] h_is_whole.w2 hr (by decide) lk_need_things_is_whole (av_cons (ev_nm (i := 0) rfl (.inl lk_need_things_things) nd_things ncd_things) av_nil (star_cons rfl)) (ak_cons ec_int (ak_cons (ec_gint lk_need_things_MOST_THINGS T.c_MOST_THINGS nd_MOST_THINGS) ak_nil)) rfl rfl nd_is_whole rfl rfl) (fun _ => rfl)))
 (sx_cons (sx_raiseP rfl tk kc_NoNumber (hr.mono (by decide)) lk_need_things_NoNumber (ev_nm (i := 0) rfl (.inl lk_need_things_things) nd_things ncd_things) rfl nd_NoNumber)
 (sx_ups st_nil))
 (sx_ups st_nil))
 (sx_ups st_nil))
end G
set_option maxHeartbeats 4000000
namespace G
open PySem PySem.Spec PyProof.Rows L2 RF
variable {P : Program} {w : World} {K : PySem.W.Frag} {mg : Str → Option Value} {base : Heap}
theorem sc_are_sets : FnScope N_are_sets P_are_sets (C8.fnScope s_are_sets) := C8.fnScope_by (by decide +kernel)
theorem lk_are_sets_all : (C8.fnScope s_are_sets).names.lookup ("all" : Str) = some .globalImplicit := by decide +kernel
theorem lk_are_sets_isinstance : (C8.fnScope s_are_sets).names.lookup ("isinstance" : Str) = some .globalImplicit := by decide +kernel
theorem lk_are_sets_one : (C8.fnScope s_are_sets).names.lookup ("one" : Str) = some .local := by decide +kernel
theorem lk_are_sets_thing : (C8.fnScope s_are_sets).names.lookup ("thing" : Str) = some .local := by decide +kernel
theorem lk_are_sets_tuple : (C8.fnScope s_are_sets).names.lookup ("tuple" : Str) = some .globalImplicit := by decide +kernel
theorem lk_are_sets_zip : (C8.fnScope s_are_sets).names.lookup ("zip" : Str) = some .globalImplicit := by decide +kernel
theorem ok_are_sets {f : Addr} {fd : FuncData} (T : Tx mg) (D : C8.Def K mg "are_sets" s_are_sets f fd) (b : L2.Binds K fd P_are_sets [])
    (h_is_whole : IsW P w K mg base) : Cl P w K mg base 2 "are_sets" 2 c_are_sets :=
  cl_rf F_are_sets D b sc_are_sets rfl rfl fun cdv A outer s H E hr =>
 (st_cons (st_if (tv_not (tv_val (ev_bi .isinst rfl lk_are_sets_isinstance T.b_isinstance bb_isinstance (av_cons (ev_nm (i := 1) rfl (.inl lk_are_sets_thing) nd_thing ncd_thing) (av_cons (ec_ty lk_are_sets_tuple T.b_tuple bt_tuple nn_tuple nd_tuple) av_nil (star_cons rfl)) (star_cons rfl)) nn_isinstance nd_isinstance rfl) (fun _ => rfl)))
 (st_cons (st_ret ec_bl)
 st_nil)
 st_nil)
 (st_cons (st_for PassesOwn.never rfl rfl (sv_seq (ev_nm (i := 1) rfl (.inl lk_are_sets_thing) nd_thing ncd_thing)) (pg_name (i := 2) sc_are_sets.nd rfl (.inl lk_are_sets_one) (.inl rfl))
 (st_cons (st_if (PW.pt (tv_or (tv_not (tv_val (ev_bi .isinst rfl lk_are_sets_isinstance T.b_isinstance bb_isinstance (av_cons (ev_nm (i := 2) rfl (.inl lk_are_sets_one) nd_one ncd_one) (av_cons (ec_ty lk_are_sets_tuple T.b_tuple bt_tuple nn_tuple nd_tuple) av_nil (star_cons rfl)) (star_cons rfl)) nn_isinstance nd_isinstance rfl) (fun _ => rfl))) (tv_or1 (tv_not (tv_val (ev_bi .all rfl lk_are_sets_all T.b_all bb_all (av_cons (ev_lc [("at", 3)] rfl sc_are_sets.nd (sv_seq (ev_nm (i := 2) rfl (.inl lk_are_sets_one) nd_one ncd_one)) (blkOk_by (N := N_are_sets) (sc := C8.fnScope s_are_sets) (by decide +kernel)) (fun _ _ _ _ _ => (pg_name (i := 3) sc_are_sets.nd rfl (.inl (bl_loc (by decide +kernel))) (.inr (bl_loc (by decide +kernel))))) (fun _ _ _ _ _ => tvs_nil) (fun _ _ _ _ _ => (ev_clk (ks := ["least", "most"]) [false, false, false] h_is_whole.w2 hr (by decide) (bl_gl (by decide +kernel)) (av_cons (ev_nm (i := 3) rfl (bl_vis (by decide +kernel)) nd_at ncd_at) av_nil (star_cons rfl)) (ak_cons ec_int (ak_cons (ev_bin (ev_nm (i := 0) rfl (bl_free (by decide +kernel)) nd_things ncd_things) ec_int) ak_nil)) rfl rfl nd_is_whole rfl rfl)) rfl) av_nil (star_cons rfl)) nn_all nd_all rfl) (fun _ => rfl))))))
 (st_cons (st_ret ec_bl)
 st_nil)
 st_nil)
 (st_cons (st_if (tv_not (tv_val (ev_bi .all rfl lk_are_sets_all T.b_all bb_all (av_cons (ev_lc [("near", 4), ("far", 5)] rfl sc_are_sets.nd (sv_zip lk_are_sets_zip T.b_zip (av_cons (ev_nm (i := 2) rfl (.inl lk_are_sets_one) nd_one ncd_one) (av_cons (ev_sl (ev_nm (i := 2) rfl (.inl lk_are_sets_one) nd_one ncd_one) (ov_some ec_int) ov_none) av_nil (star_cons rfl)) (star_cons rfl)) rfl rfl) (blkOk_by (N := N_are_sets) (sc := C8.fnScope s_are_sets) (by decide +kernel)) (fun _ _ _ _ _ => (pg_tup rfl (pgs_cons (pg_name (i := 4) sc_are_sets.nd rfl (.inl (bl_loc (by decide +kernel))) (.inr (bl_loc (by decide +kernel)))) (pgs_cons (pg_name (i := 5) sc_are_sets.nd rfl (.inl (bl_loc (by decide +kernel))) (.inr (bl_loc (by decide +kernel)))) pgs_nil)))) (fun _ _ _ _ _ => tvs_nil) (fun _ _ _ _ _ => (ev_cmp hr.units (ev_nm (i := 4) rfl (bl_vis (by decide +kernel)) nd_near ncd_near) (ev_nm (i := 5) rfl (bl_vis (by decide +kernel)) nd_far ncd_far) rfl)) rfl) av_nil (star_cons rfl)) nn_all nd_all rfl) (fun _ => rfl)))
 (st_cons (st_ret ec_bl)
 st_nil)
 st_nil)
 st_nil)))
 (st_cons (st_ret ec_bl)
 st_nil)))
end G
set_option maxHeartbeats 4000000
namespace G
open PySem PySem.Spec PyProof.Rows L2 RF
variable {P : Program} {w : World} {K : PySem.W.Frag} {mg : Str → Option Value} {base : Heap}
theorem sc_need_sets : FnScope N_need_sets P_need_sets (C8.fnScope s_need_sets) := C8.fnScope_by (by decide +kernel)
theorem lk_need_sets_MOST_SETS : (C8.fnScope s_need_sets).names.lookup ("MOST_SETS" : Str) = some .globalImplicit := by decide +kernel
theorem lk_need_sets_NoTable : (C8.fnScope s_need_sets).names.lookup ("NoTable" : Str) = some .globalImplicit := by decide +kernel
theorem lk_need_sets_are_sets : (C8.fnScope s_need_sets).names.lookup ("are_sets" : Str) = some .globalImplicit := by decide +kernel
theorem lk_need_sets_len : (C8.fnScope s_need_sets).names.lookup ("len" : Str) = some .globalImplicit := by decide +kernel
theorem lk_need_sets_need_things : (C8.fnScope s_need_sets).names.lookup ("need_things" : Str) = some .globalImplicit := by decide +kernel
theorem lk_need_sets_sets : (C8.fnScope s_need_sets).names.lookup ("sets" : Str) = some .local := by decide +kernel
theorem lk_need_sets_things : (C8.fnScope s_need_sets).names.lookup ("things" : Str) = some .local := by decide +kernel
theorem ok_need_sets {f : Addr} {fd : FuncData} (T : Tx mg) (TK : Tk K mg) (D : C8.Def K mg "need_sets" s_need_sets f fd) (b : L2.Binds K fd P_need_sets [])
    (h_need_things : ClX P w K mg base 3 "need_things" 1 c_need_things)
    (h_are_sets : Cl P w K mg base 2 "are_sets" 2 c_are_sets) : ClX P w K mg base 4 "need_sets" 2 c_need_sets :=
  clx_rf F_need_sets D b sc_need_sets rfl rfl fun W cdv A outer s H E tk hr =>
 (sx_cons (sx_drop (ex_call [false] h_need_things tk hr (by decide) lk_need_sets_need_things (av_cons (ev_nm (i := 0) rfl (.inl lk_need_sets_things) nd_things ncd_things) av_nil (star_cons rfl)) nd_need_things rfl) rfl)
 (sx_cons (sx_if (PW.pt (tv_or (tv_not (tv_val (ev_cl [false, false] h_are_sets hr (by decide) lk_need_sets_are_sets (av_cons (ev_nm (i := 0) rfl (.inl lk_need_sets_things) nd_things ncd_things) (av_cons (ev_nm (i := 1) rfl (.inl lk_need_sets_sets) nd_sets ncd_sets) av_nil (star_cons rfl)) (star_cons rfl)) nd_are_sets rfl) (fun _ => rfl))) (tv_or1 (tv_not (tv_chn hr.units ec_int (ev_bi .len rfl lk_need_sets_len T.b_len bb_len (av_cons (ev_nm (i := 1) rfl (.inl lk_need_sets_sets) nd_sets ncd_sets) av_nil (star_cons rfl)) nn_len nd_len rfl) (ec_gint lk_need_sets_MOST_SETS T.c_MOST_SETS nd_MOST_SETS) rfl)))))
 (sx_cons (sx_raise rfl tk PySem.F.excBase_ValueError TK.ex_NoTable.1 TK.gx_NoTable TK.ex_NoTable.2.1 (raises_own TK.ex_NoTable.2.2.1 TK.ex_NoTable.2.2.2) lk_need_sets_NoTable ec_str rfl nd_NoTable)
 (sx_ups st_nil))
 (sx_ups st_nil))
 (sx_ups st_nil)))
end G
set_option maxHeartbeats 4000000
namespace G
open PySem PySem.Spec PyProof.Rows L2 RF
variable {P : Program} {w : World} {K : PySem.W.Frag} {mg : Str → Option Value} {base : Heap}
theorem sc_out_of : FnScope N_out_of P_out_of (C8.fnScope s_out_of) := C8.fnScope_by (by decide +kernel)
theorem lk_out_of_at : (C8.fnScope s_out_of).names.lookup ("at" : Str) = some .local := by decide +kernel
theorem lk_out_of_found : (C8.fnScope s_out_of).names.lookup ("found" : Str) = some .local := by decide +kernel
theorem lk_out_of_many : (C8.fnScope s_out_of).names.lookup ("many" : Str) = some .local := by decide +kernel
theorem lk_out_of_range : (C8.fnScope s_out_of).names.lookup ("range" : Str) = some .globalImplicit := by decide +kernel
theorem lk_out_of_size : (C8.fnScope s_out_of).names.lookup ("size" : Str) = some .local := by decide +kernel
theorem ok_out_of {f : Addr} {fd : FuncData} (T : Tx mg) (D : C8.Def K mg "out_of" s_out_of f fd) (b : L2.Binds K fd P_out_of []) : Cl P w K mg base 1 "out_of" 2 c_out_of :=
  cl_rf F_out_of D b sc_out_of rfl rfl fun cdv A outer s H E hr =>
 (st_cons (st_if (tv_not (tv_chn hr.units ec_int (ev_nm (i := 1) rfl (.inl lk_out_of_size) nd_size ncd_size) (ev_nm (i := 0) rfl (.inl lk_out_of_many) nd_many ncd_many) rfl))
 (st_cons (st_ret ec_int)
 st_nil)
 st_nil)
 (st_cons (st_set (i := 2) sc_out_of.nd rfl (.inl lk_out_of_found) ec_int rfl rfl (.inl rfl))
 (st_cons (st_for PassesOwn.never rfl rfl (sv_rng1 lk_out_of_range T.b_range (ev_nm (i := 1) rfl (.inl lk_out_of_size) nd_size ncd_size) rfl) (pg_name (i := 3) sc_out_of.nd rfl (.inl lk_out_of_at) (.inl rfl))
 (st_cons (st_set (i := 2) sc_out_of.nd rfl (.inl lk_out_of_found) (ev_bin (ev_bin (ev_nm (i := 2) rfl (.inl lk_out_of_found) nd_found ncd_found) (ev_bin (ev_nm (i := 0) rfl (.inl lk_out_of_many) nd_many ncd_many) (ev_nm (i := 3) rfl (.inl lk_out_of_at) nd_at ncd_at))) (ev_bin (ev_nm (i := 3) rfl (.inl lk_out_of_at) nd_at ncd_at) ec_int)) rfl rfl (.inl rfl))
 st_nil))
 (st_cons (st_ret (ev_nm (i := 2) rfl (.inl lk_out_of_found) nd_found ncd_found))
 st_nil))))
end G
set_option maxHeartbeats 4000000
namespace G
open PySem PySem.Spec PyProof.Rows L2 RF
variable {P : Program} {w : World} {K : PySem.W.Frag} {mg : Str → Option Value} {base : Heap}
theorem sc_sums_in : FnScope N_sums_in P_sums_in (C8.fnScope s_sums_in) := C8.fnScope_by (by decide +kernel)
theorem lk_sums_in_counts : (C8.fnScope s_sums_in).names.lookup ("counts" : Str) = some .cell := by decide +kernel
theorem lk_sums_in_len : (C8.fnScope s_sums_in).names.lookup ("len" : Str) = some .globalImplicit := by decide +kernel
theorem lk_sums_in_many : (C8.fnScope s_sums_in).names.lookup ("many" : Str) = some .cell := by decide +kernel
theorem lk_sums_in_range : (C8.fnScope s_sums_in).names.lookup ("range" : Str) = some .globalImplicit := by decide +kernel
theorem ok_sums_in {f : Addr} {fd : FuncData} (T : Tx mg) (D : C8.Def K mg "sums_in" s_sums_in f fd) (b : L2.Binds K fd P_sums_in [])
    (h_out_of : Cl P w K mg base 1 "out_of" 2 c_out_of) : Cl P w K mg base 2 "sums_in" 1 c_sums_in :=
  cl_rf F_sums_in D b sc_sums_in rfl rfl fun cdv A outer s H E hr =>
 (st_cons (st_set (i := 1) sc_sums_in.nd rfl (.inr lk_sums_in_many) (ev_bi .len rfl lk_sums_in_len T.b_len bb_len (av_cons (ev_nm (i := 0) rfl (.inr (.inl lk_sums_in_counts)) nd_counts ncd_counts) av_nil (star_cons rfl)) nn_len nd_len rfl) rfl rfl (.inl rfl))
 (st_cons (st_ret (ev_lc [("j", 2)] rfl sc_sums_in.nd (sv_rng1 lk_sums_in_range T.b_range (ev_nm (i := 1) rfl (.inr (.inl lk_sums_in_many)) nd_many ncd_many) rfl) (blkOk_by (N := N_sums_in) (sc := C8.fnScope s_sums_in) (by decide +kernel)) (fun _ _ _ _ _ => (pg_name (i := 2) sc_sums_in.nd rfl (.inr (bl_cel (by decide +kernel))) (.inl (bl_fn (by decide +kernel))))) (fun _ _ _ _ _ => tvs_nil) (fun _ _ _ _ _ => (ev_bi .sum rfl (bl_gl (by decide +kernel)) T.b_sum bb_sum (av_cons (ev_lc [("r", 3)] rfl sc_sums_in.nd (sv_rng2 (bl_gl (by decide +kernel)) T.b_range (ev_nm (i := 2) rfl (.inr (.inl (bl_cel (by decide +kernel)))) nd_j ncd_j) (ev_nm (i := 1) rfl (bl_free (by decide +kernel)) nd_many ncd_many) rfl rfl) (blkOk_in (N := N_sums_in) (by decide +kernel)) (fun _ _ _ _ _ => (pg_name (i := 3) sc_sums_in.nd rfl (.inl (bl_loc (by decide +kernel))) (.inr (bl_loc (by decide +kernel))))) (fun _ _ _ _ _ => tvs_nil) (fun _ _ _ _ _ => (ev_bin (ev_cl [false, false] h_out_of hr (by decide) (bl_gl (by decide +kernel)) (av_cons (ev_nm (i := 3) rfl (bl_vis (by decide +kernel)) nd_r ncd_r) (av_cons (ev_nm (i := 2) rfl (bl_free (by decide +kernel)) nd_j ncd_j) av_nil (star_cons rfl)) (star_cons rfl)) nd_out_of rfl) (ev_ix (ev_nm (i := 0) rfl (bl_free (by decide +kernel)) nd_counts ncd_counts) (ev_nm (i := 3) rfl (bl_vis (by decide +kernel)) nd_r ncd_r) (fun _ _ => rfl)))) rfl) av_nil (star_cons rfl)) nn_sum nd_sum rfl)) rfl))
 st_nil))
end G
set_option maxHeartbeats 4000000
namespace G
open PySem PySem.Spec PyProof.Rows L2 RF
variable {P : Program} {w : World} {K : PySem.W.Frag} {mg : Str → Option Value} {base : Heap}
theorem sc_counts_by : FnScope N_counts_by P_counts_by (C8.fnScope s_counts_by) := C8.fnScope_by (by decide +kernel)
theorem lk_counts_by_len : (C8.fnScope s_counts_by).names.lookup ("len" : Str) = some .globalImplicit := by decide +kernel
theorem lk_counts_by_often : (C8.fnScope s_counts_by).names.lookup ("often" : Str) = some .cell := by decide +kernel
theorem lk_counts_by_range : (C8.fnScope s_counts_by).names.lookup ("range" : Str) = some .globalImplicit := by decide +kernel
theorem lk_counts_by_sets : (C8.fnScope s_counts_by).names.lookup ("sets" : Str) = some .cell := by decide +kernel
theorem lk_counts_by_things : (C8.fnScope s_counts_by).names.lookup ("things" : Str) = some .local := by decide +kernel
theorem ok_counts_by {f : Addr} {fd : FuncData} (T : Tx mg) (D : C8.Def K mg "counts_by" s_counts_by f fd) (b : L2.Binds K fd P_counts_by []) : Cl P w K mg base 1 "counts_by" 2 c_counts_by :=
  cl_rf F_counts_by D b sc_counts_by rfl rfl fun cdv A outer s H E hr =>
 (st_cons (st_set (i := 2) sc_counts_by.nd rfl (.inr lk_counts_by_often) (ev_lc [("thing", 3)] rfl sc_counts_by.nd (sv_rng1 lk_counts_by_range T.b_range (ev_nm (i := 0) rfl (.inl lk_counts_by_things) nd_things ncd_things) rfl) (blkOk_by (N := N_counts_by) (sc := C8.fnScope s_counts_by) (by decide +kernel)) (fun _ _ _ _ _ => (pg_name (i := 3) sc_counts_by.nd rfl (.inr (bl_cel (by decide +kernel))) (.inl (bl_fn (by decide +kernel))))) (fun _ _ _ _ _ => tvs_nil) (fun _ _ _ _ _ => (ev_bi .len rfl (bl_gl (by decide +kernel)) T.b_len bb_len (av_cons (ev_lc [("one", 4)] rfl sc_counts_by.nd (sv_seq (ev_nm (i := 1) rfl (bl_free (by decide +kernel)) nd_sets ncd_sets)) (blkOk_in (N := N_counts_by) (by decide +kernel)) (fun _ _ _ _ _ => (pg_name (i := 4) sc_counts_by.nd rfl (.inl (bl_loc (by decide +kernel))) (.inr (bl_loc (by decide +kernel))))) (fun _ _ _ _ _ => (tvs_one (tv_cmp hr.units (ev_nm (i := 3) rfl (bl_free (by decide +kernel)) nd_thing ncd_thing) (ev_nm (i := 4) rfl (bl_vis (by decide +kernel)) nd_one ncd_one) rfl))) (fun _ _ _ _ _ => (ev_nm (i := 4) rfl (bl_vis (by decide +kernel)) nd_one ncd_one)) rfl) av_nil (star_cons rfl)) nn_len nd_len rfl)) rfl) rfl rfl (.inl rfl))
 (st_cons (st_ret (ev_lc [("many", 5)] rfl sc_counts_by.nd (sv_rng1 lk_counts_by_range T.b_range (ev_bin (ev_bi .len rfl lk_counts_by_len T.b_len bb_len (av_cons (ev_nm (i := 1) rfl (.inr (.inl lk_counts_by_sets)) nd_sets ncd_sets) av_nil (star_cons rfl)) nn_len nd_len rfl) ec_int) rfl) (blkOk_by (N := N_counts_by) (sc := C8.fnScope s_counts_by) (by decide +kernel)) (fun _ _ _ _ _ => (pg_name (i := 5) sc_counts_by.nd rfl (.inl (bl_loc (by decide +kernel))) (.inr (bl_loc (by decide +kernel))))) (fun _ _ _ _ _ => tvs_nil) (fun _ _ _ _ _ => (ev_cnt (pe_var (i := 2) rfl (bl_free (by decide +kernel)) nd_often ncd_often) rfl (av_cons (ev_nm (i := 5) rfl (bl_vis (by decide +kernel)) nd_many ncd_many) av_nil (star_cons rfl)) rfl)) rfl))
 st_nil))
end G
set_option maxHeartbeats 4000000
namespace G
open PySem PySem.Spec PyProof.Rows L2 RF
variable {P : Program} {w : World} {K : PySem.W.Frag} {mg : Str → Option Value} {base : Heap}
theorem sc_meet_sums : FnScope N_meet_sums P_meet_sums (C8.fnScope s_meet_sums) := C8.fnScope_by (by decide +kernel)
theorem lk_meet_sums_counts_by : (C8.fnScope s_meet_sums).names.lookup ("counts_by" : Str) = some .globalImplicit := by decide +kernel
theorem lk_meet_sums_need_sets : (C8.fnScope s_meet_sums).names.lookup ("need_sets" : Str) = some .globalImplicit := by decide +kernel
theorem lk_meet_sums_sets : (C8.fnScope s_meet_sums).names.lookup ("sets" : Str) = some .local := by decide +kernel
theorem lk_meet_sums_sums_in : (C8.fnScope s_meet_sums).names.lookup ("sums_in" : Str) = some .globalImplicit := by decide +kernel
theorem lk_meet_sums_things : (C8.fnScope s_meet_sums).names.lookup ("things" : Str) = some .local := by decide +kernel
theorem lk_meet_sums_tuple : (C8.fnScope s_meet_sums).names.lookup ("tuple" : Str) = some .globalImplicit := by decide +kernel
theorem ok_meet_sums {f : Addr} {fd : FuncData} (T : Tx mg) (TK : Tk K mg) (D : C8.Def K mg "meet_sums" s_meet_sums f fd) (b : L2.Binds K fd P_meet_sums [])
    (h_need_sets : ClX P w K mg base 4 "need_sets" 2 c_need_sets)
    (h_sums_in : Cl P w K mg base 2 "sums_in" 1 c_sums_in)
    (h_counts_by : Cl P w K mg base 1 "counts_by" 2 c_counts_by) : ClX P w K mg base 5 "meet_sums" 2 c_meet_sums :=
  clx_rf F_meet_sums D b sc_meet_sums rfl rfl fun W cdv A outer s H E tk hr =>
 (sx_cons (sx_drop (ex_call [false, false] h_need_sets tk hr (by decide) lk_meet_sums_need_sets (av_cons (ev_nm (i := 0) rfl (.inl lk_meet_sums_things) nd_things ncd_things) (av_cons (ev_nm (i := 1) rfl (.inl lk_meet_sums_sets) nd_sets ncd_sets) av_nil (star_cons rfl)) (star_cons rfl)) nd_need_sets rfl) rfl)
 (sx_cons (sx_up (st_ret (ev_bi .tuple rfl lk_meet_sums_tuple T.b_tuple bb_tuple (av_cons (ev_cl [false] h_sums_in hr (by decide) lk_meet_sums_sums_in (av_cons (ev_cl [false, false] h_counts_by hr (by decide) lk_meet_sums_counts_by (av_cons (ev_nm (i := 0) rfl (.inl lk_meet_sums_things) nd_things ncd_things) (av_cons (ev_nm (i := 1) rfl (.inl lk_meet_sums_sets) nd_sets ncd_sets) av_nil (star_cons rfl)) (star_cons rfl)) nd_counts_by rfl) av_nil (star_cons rfl)) nd_sums_in rfl) av_nil (star_cons rfl)) nn_tuple nd_tuple rfl)))
 (sx_ups st_nil)))
end G
set_option maxHeartbeats 4000000
namespace G
open PySem PySem.Spec PyProof.Rows L2 RF
variable {P : Program} {w : World} {K : PySem.W.Frag} {mg : Str → Option Value} {base : Heap}
theorem sc__law_ladle : FnScope N__law_ladle P__law_ladle (C8.fnScope s__law_ladle) := C8.fnScope_by (by decide +kernel)
theorem lk__law_ladle_crock : (C8.fnScope s__law_ladle).names.lookup ("crock" : Str) = some .local := by decide +kernel
theorem lk__law_ladle_found : (C8.fnScope s__law_ladle).names.lookup ("found" : Str) = some .local := by decide +kernel
theorem lk__law_ladle_int : (C8.fnScope s__law_ladle).names.lookup ("int" : Str) = some .globalImplicit := by decide +kernel
theorem lk__law_ladle_one : (C8.fnScope s__law_ladle).names.lookup ("one" : Str) = some .local := by decide +kernel
theorem lk__law_ladle_total : (C8.fnScope s__law_ladle).names.lookup ("total" : Str) = some .local := by decide +kernel
theorem lk__law_ladle_two : (C8.fnScope s__law_ladle).names.lookup ("two" : Str) = some .local := by decide +kernel
theorem ok__law_ladle {f : Addr} {fd : FuncData} (T : Tx mg) (D : C8.Def K mg "_law_ladle" s__law_ladle f fd) (b : L2.Binds K fd P__law_ladle []) : Cl P w K mg base 1 "_law_ladle" 2 c__law_ladle :=
  cl_rf F__law_ladle D b sc__law_ladle rfl rfl fun cdv A outer s H E hr =>
 (st_cons (st_if (tv_cmp hr.units (ev_ix (ev_nm (i := 0) rfl (.inl lk__law_ladle_crock) nd_crock ncd_crock) ec_int (fun _ _ => rfl)) ec_int rfl)
 (st_cons (st_set (i := 2) sc__law_ladle.nd rfl (.inl lk__law_ladle_found) (ev_bin (ev_bi .int rfl lk__law_ladle_int T.b_int bb_int (av_cons (ev_ix (ev_nm (i := 0) rfl (.inl lk__law_ladle_crock) nd_crock ncd_crock) ec_int (fun _ _ => rfl)) av_nil (star_cons rfl)) nn_int nd_int rfl) (ev_nm (i := 1) rfl (.inl lk__law_ladle_total) nd_total ncd_total)) rfl rfl (.inl rfl))
 (st_cons (st_item (pe_var (i := 0) rfl (.inl lk__law_ladle_crock) nd_crock ncd_crock) ec_int (ev_bin (ev_ix (ev_nm (i := 0) rfl (.inl lk__law_ladle_crock) nd_crock ncd_crock) ec_int (fun _ _ => rfl)) (ev_nm (i := 1) rfl (.inl lk__law_ladle_total) nd_total ncd_total)) rfl rfl rfl)
 (st_cons (st_ret (ev_nm (i := 2) rfl (.inl lk__law_ladle_found) nd_found ncd_found))
 st_nil)))
 st_nil)
 (st_cons (st_item (pe_var (i := 0) rfl (.inl lk__law_ladle_crock) nd_crock ncd_crock) ec_int (ev_bin (ev_ix (ev_nm (i := 0) rfl (.inl lk__law_ladle_crock) nd_crock ncd_crock) ec_int (fun _ _ => rfl)) ec_int) rfl rfl rfl)
 (st_cons (st_set (i := 3) sc__law_ladle.nd rfl (.inl lk__law_ladle_one) (ev_bin (ev_bi .int rfl lk__law_ladle_int T.b_int bb_int (av_cons (ev_bin (ev_ix (ev_nm (i := 0) rfl (.inl lk__law_ladle_crock) nd_crock ncd_crock) ec_int (fun _ _ => rfl)) (ev_bin ec_int (ev_ix (ev_nm (i := 0) rfl (.inl lk__law_ladle_crock) nd_crock ncd_crock) ec_int (fun _ _ => rfl)))) av_nil (star_cons rfl)) nn_int nd_int rfl) ec_int) rfl rfl (.inl rfl))
 (st_cons (st_set (i := 4) sc__law_ladle.nd rfl (.inl lk__law_ladle_two) (ev_bin (ev_bin (ev_bin (ev_bi .int rfl lk__law_ladle_int T.b_int bb_int (av_cons (ev_bin (ev_bin (ev_nm (i := 3) rfl (.inl lk__law_ladle_one) nd_one ncd_one) (ev_nm (i := 3) rfl (.inl lk__law_ladle_one) nd_one ncd_one)) (ev_bin ec_int (ev_ix (ev_nm (i := 0) rfl (.inl lk__law_ladle_crock) nd_crock ncd_crock) ec_int (fun _ _ => rfl)))) av_nil (star_cons rfl)) nn_int nd_int rfl) ec_int) ec_int) (ev_nm (i := 3) rfl (.inl lk__law_ladle_one) nd_one ncd_one)) rfl rfl (.inl rfl))
 (st_cons (st_ret (ev_bin (ev_bi .int rfl lk__law_ladle_int T.b_int bb_int (av_cons (ev_bin (ev_nm (i := 4) rfl (.inl lk__law_ladle_two) nd_two ncd_two) ec_int) av_nil (star_cons rfl)) nn_int nd_int rfl) (ev_nm (i := 1) rfl (.inl lk__law_ladle_total) nd_total ncd_total)))
 st_nil)))))
end G
set_option maxHeartbeats 4000000
namespace G
open PySem PySem.Spec PyProof.Rows L2 RF
variable {P : Program} {w : World} {K : PySem.W.Frag} {mg : Str → Option Value} {base : Heap}
theorem sc__law_pick_of : FnScope N__law_pick_of P__law_pick_of (C8.fnScope s__law_pick_of) := C8.fnScope_by (by decide +kernel)
theorem lk__law_pick_of__law_ladle : (C8.fnScope s__law_pick_of).names.lookup ("_law_ladle" : Str) = some .globalImplicit := by decide +kernel
theorem lk__law_pick_of_crock : (C8.fnScope s__law_pick_of).names.lookup ("crock" : Str) = some .local := by decide +kernel
theorem lk__law_pick_of_items : (C8.fnScope s__law_pick_of).names.lookup ("items" : Str) = some .local := by decide +kernel
theorem lk__law_pick_of_len : (C8.fnScope s__law_pick_of).names.lookup ("len" : Str) = some .globalImplicit := by decide +kernel
theorem ok__law_pick_of {f : Addr} {fd : FuncData} (T : Tx mg) (D : C8.Def K mg "_law_pick_of" s__law_pick_of f fd) (b : L2.Binds K fd P__law_pick_of [])
    (h__law_ladle : Cl P w K mg base 1 "_law_ladle" 2 c__law_ladle) : Cl P w K mg base 2 "_law_pick_of" 2 c__law_pick_of :=
  cl_rf F__law_pick_of D b sc__law_pick_of rfl rfl fun cdv A outer s H E hr =>
 (st_cons (st_ret (ev_ix (ev_nm (i := 1) rfl (.inl lk__law_pick_of_items) nd_items ncd_items) (ev_cl [true, false] h__law_ladle hr (by decide) lk__law_pick_of__law_ladle (av_cons (ev_nm (i := 0) rfl (.inl lk__law_pick_of_crock) nd_crock ncd_crock) (av_cons (ev_bi .len rfl lk__law_pick_of_len T.b_len bb_len (av_cons (ev_nm (i := 1) rfl (.inl lk__law_pick_of_items) nd_items ncd_items) av_nil (star_cons rfl)) nn_len nd_len rfl) av_nil (star_cons rfl)) (star_cons rfl)) nd__law_ladle rfl) (fun _ _ => rfl)))
 st_nil)
end G
set_option maxHeartbeats 4000000
namespace G
open PySem PySem.Spec PyProof.Rows L2 RF
variable {P : Program} {w : World} {K : PySem.W.Frag} {mg : Str → Option Value} {base : Heap}
theorem sc_just_counts : FnScope N_just_counts P_just_counts (C8.fnScope s_just_counts) := C8.fnScope_by (by decide +kernel)
theorem lk_just_counts_counts_by : (C8.fnScope s_just_counts).names.lookup ("counts_by" : Str) = some .globalImplicit := by decide +kernel
theorem lk_just_counts_need_sets : (C8.fnScope s_just_counts).names.lookup ("need_sets" : Str) = some .globalImplicit := by decide +kernel
theorem lk_just_counts_sets : (C8.fnScope s_just_counts).names.lookup ("sets" : Str) = some .local := by decide +kernel
theorem lk_just_counts_things : (C8.fnScope s_just_counts).names.lookup ("things" : Str) = some .local := by decide +kernel
theorem lk_just_counts_tuple : (C8.fnScope s_just_counts).names.lookup ("tuple" : Str) = some .globalImplicit := by decide +kernel
theorem ok_just_counts {f : Addr} {fd : FuncData} (T : Tx mg) (TK : Tk K mg) (D : C8.Def K mg "just_counts" s_just_counts f fd) (b : L2.Binds K fd P_just_counts [])
    (h_need_sets : ClX P w K mg base 4 "need_sets" 2 c_need_sets)
    (h_counts_by : Cl P w K mg base 1 "counts_by" 2 c_counts_by) : ClX P w K mg base 5 "just_counts" 2 c_just_counts :=
  clx_rf F_just_counts D b sc_just_counts rfl rfl fun W cdv A outer s H E tk hr =>
 (sx_cons (sx_drop (ex_call [false, false] h_need_sets tk hr (by decide) lk_just_counts_need_sets (av_cons (ev_nm (i := 0) rfl (.inl lk_just_counts_things) nd_things ncd_things) (av_cons (ev_nm (i := 1) rfl (.inl lk_just_counts_sets) nd_sets ncd_sets) av_nil (star_cons rfl)) (star_cons rfl)) nd_need_sets rfl) rfl)
 (sx_cons (sx_up (st_ret (ev_bi .tuple rfl lk_just_counts_tuple T.b_tuple bb_tuple (av_cons (ev_cl [false, false] h_counts_by hr (by decide) lk_just_counts_counts_by (av_cons (ev_nm (i := 0) rfl (.inl lk_just_counts_things) nd_things ncd_things) (av_cons (ev_nm (i := 1) rfl (.inl lk_just_counts_sets) nd_sets ncd_sets) av_nil (star_cons rfl)) (star_cons rfl)) nd_counts_by rfl) av_nil (star_cons rfl)) nn_tuple nd_tuple rfl)))
 (sx_ups st_nil)))
end G
set_option maxHeartbeats 4000000
namespace G
open PySem PySem.Spec PyProof.Rows L2 RF
variable {P : Program} {w : World} {K : PySem.W.Frag} {mg : Str → Option Value} {base : Heap}
theorem sc_need_sums : FnScope N_need_sums P_need_sums (C8.fnScope s_need_sums) := C8.fnScope_by (by decide +kernel)
theorem lk_need_sums_MOST_SETS : (C8.fnScope s_need_sums).names.lookup ("MOST_SETS" : Str) = some .globalImplicit := by decide +kernel
theorem lk_need_sums_NoTable : (C8.fnScope s_need_sums).names.lookup ("NoTable" : Str) = some .globalImplicit := by decide +kernel
theorem lk_need_sums_all : (C8.fnScope s_need_sums).names.lookup ("all" : Str) = some .globalImplicit := by decide +kernel
theorem lk_need_sums_isinstance : (C8.fnScope s_need_sums).names.lookup ("isinstance" : Str) = some .globalImplicit := by decide +kernel
theorem lk_need_sums_len : (C8.fnScope s_need_sums).names.lookup ("len" : Str) = some .globalImplicit := by decide +kernel
theorem lk_need_sums_thing : (C8.fnScope s_need_sums).names.lookup ("thing" : Str) = some .local := by decide +kernel
theorem lk_need_sums_tuple : (C8.fnScope s_need_sums).names.lookup ("tuple" : Str) = some .globalImplicit := by decide +kernel
theorem ok_need_sums {f : Addr} {fd : FuncData} (T : Tx mg) (TK : Tk K mg) (D : C8.Def K mg "need_sums" s_need_sums f fd) (b : L2.Binds K fd P_need_sums [])
    (h_is_whole : IsW P w K mg base) : ClX P w K mg base 2 "need_sums" 1 c_need_sums :=
  clx_rf F_need_sums D b sc_need_sums rfl rfl fun W cdv A outer s H E tk hr =>
 (sx_cons (sx_if (PW.pt (tv_or (tv_not (tv_val (ev_bi .isinst rfl lk_need_sums_isinstance T.b_isinstance bb_isinstance (av_cons (ev_nm (i := 0) rfl (.inl lk_need_sums_thing) nd_thing ncd_thing) (av_cons (ec_ty lk_need_sums_tuple T.b_tuple bt_tuple nn_tuple nd_tuple) av_nil (star_cons rfl)) (star_cons rfl)) nn_isinstance nd_isinstance rfl) (fun _ => rfl))) (tv_or1 (tv_not (tv_chn hr.units ec_int (ev_bi .len rfl lk_need_sums_len T.b_len bb_len (av_cons (ev_nm (i := 0) rfl (.inl lk_need_sums_thing) nd_thing ncd_thing) av_nil (star_cons rfl)) nn_len nd_len rfl) (ev_bin (ec_gint lk_need_sums_MOST_SETS T.c_MOST_SETS nd_MOST_SETS) ec_int) rfl)))))
 (sx_cons (sx_raise rfl tk PySem.F.excBase_ValueError TK.ex_NoTable.1 TK.gx_NoTable TK.ex_NoTable.2.1 (raises_own TK.ex_NoTable.2.2.1 TK.ex_NoTable.2.2.2) lk_need_sums_NoTable ec_str rfl nd_NoTable)
 (sx_ups st_nil))
 (sx_ups st_nil))
 (sx_cons (sx_if (tv_not (tv_val (ev_bi .all rfl lk_need_sums_all T.b_all bb_all (av_cons (ev_lc [("number", 1)] rfl sc_need_sums.nd (sv_seq (ev_nm (i := 0) rfl (.inl lk_need_sums_thing) nd_thing ncd_thing)) (blkOk_by (N := N_need_sums) (sc := C8.fnScope s_need_sums) (by decide +kernel)) (fun _ _ _ _ _ => (pg_name (i := 1) sc_need_sums.nd rfl (.inl (bl_loc (by decide +kernel))) (.inr (bl_loc (by decide +kernel))))) (fun _ _ _ _ _ => tvs_nil) (fun _ _ _ _ _ => (ev_and (ev_cld [false, false, false] h_is_whole.w0 hr (by decide) (bl_gl (by decide +kernel)) (av_cons (ev_nm (i := 1) rfl (bl_vis (by decide +kernel)) nd_number ncd_number) av_nil (star_cons rfl)) nd_is_whole rfl) (ev_one (ev_cmp hr.units (ev_bi .abs rfl (bl_gl (by decide +kernel)) T.b_abs bb_abs (av_cons (ev_nm (i := 1) rfl (bl_vis (by decide +kernel)) nd_number ncd_number) av_nil (star_cons rfl)) nn_abs nd_abs rfl) (ec_gint (bl_gl (by decide +kernel)) T.c_LONGEST nd_LONGEST) rfl)))) rfl) av_nil (star_cons rfl)) nn_all nd_all rfl) (fun _ => rfl)))
 (sx_cons (sx_raise rfl tk PySem.F.excBase_ValueError TK.ex_NoTable.1 TK.gx_NoTable TK.ex_NoTable.2.1 (raises_own TK.ex_NoTable.2.2.1 TK.ex_NoTable.2.2.2) lk_need_sums_NoTable ec_str rfl nd_NoTable)
 (sx_ups st_nil))
 (sx_ups st_nil))
 (sx_ups st_nil)))
end G
set_option maxHeartbeats 4000000
namespace G
open PySem PySem.Spec PyProof.Rows L2 RF
variable {P : Program} {w : World} {K : PySem.W.Frag} {mg : Str → Option Value} {base : Heap}
theorem ok_counts_in {f : Addr} {fd : FuncData} (T : Tx mg) (D : C8.Def K mg "counts_in" s_counts_in f fd) (b : L2.Binds K fd P_counts_in []) : Cl P w K mg base 1 "counts_in" 1 c_counts_in := Cl.none D b rfl
end G
set_option maxHeartbeats 4000000
namespace G
open PySem PySem.Spec PyProof.Rows L2 RF
variable {P : Program} {w : World} {K : PySem.W.Frag} {mg : Str → Option Value} {base : Heap}
theorem sc_counts_of : FnScope N_counts_of P_counts_of (C8.fnScope s_counts_of) := C8.fnScope_by (by decide +kernel)
theorem lk_counts_of_counts_in : (C8.fnScope s_counts_of).names.lookup ("counts_in" : Str) = some .globalImplicit := by decide +kernel
theorem lk_counts_of_need_sums : (C8.fnScope s_counts_of).names.lookup ("need_sums" : Str) = some .globalImplicit := by decide +kernel
theorem lk_counts_of_sums : (C8.fnScope s_counts_of).names.lookup ("sums" : Str) = some .local := by decide +kernel
theorem lk_counts_of_tuple : (C8.fnScope s_counts_of).names.lookup ("tuple" : Str) = some .globalImplicit := by decide +kernel
theorem ok_counts_of {f : Addr} {fd : FuncData} (T : Tx mg) (TK : Tk K mg) (D : C8.Def K mg "counts_of" s_counts_of f fd) (b : L2.Binds K fd P_counts_of [])
    (h_need_sums : ClX P w K mg base 2 "need_sums" 1 c_need_sums)
    (h_counts_in : Cl P w K mg base 1 "counts_in" 1 c_counts_in) : ClX P w K mg base 3 "counts_of" 1 c_counts_of :=
  clx_rf F_counts_of D b sc_counts_of rfl rfl fun W cdv A outer s H E tk hr =>
 (sx_cons (sx_drop (ex_call [false] h_need_sums tk hr (by decide) lk_counts_of_need_sums (av_cons (ev_nm (i := 0) rfl (.inl lk_counts_of_sums) nd_sums ncd_sums) av_nil (star_cons rfl)) nd_need_sums rfl) rfl)
 (sx_cons (sx_up (st_ret (ev_bi .tuple rfl lk_counts_of_tuple T.b_tuple bb_tuple (av_cons (ev_cl [false] h_counts_in hr (by decide) lk_counts_of_counts_in (av_cons (ev_nm (i := 0) rfl (.inl lk_counts_of_sums) nd_sums ncd_sums) av_nil (star_cons rfl)) nd_counts_in rfl) av_nil (star_cons rfl)) nn_tuple nd_tuple rfl)))
 (sx_ups st_nil)))
end G
set_option maxHeartbeats 4000000
namespace G
open PySem PySem.Spec PyProof.Rows L2 RF
variable {P : Program} {w : World} {K : PySem.W.Frag} {mg : Str → Option Value} {base : Heap}
theorem sc_sums_of : FnScope N_sums_of P_sums_of (C8.fnScope s_sums_of) := C8.fnScope_by (by decide +kernel)
theorem lk_sums_of_counts : (C8.fnScope s_sums_of).names.lookup ("counts" : Str) = some .local := by decide +kernel
theorem lk_sums_of_need_sums : (C8.fnScope s_sums_of).names.lookup ("need_sums" : Str) = some .globalImplicit := by decide +kernel
theorem lk_sums_of_sums_in : (C8.fnScope s_sums_of).names.lookup ("sums_in" : Str) = some .globalImplicit := by decide +kernel
theorem lk_sums_of_tuple : (C8.fnScope s_sums_of).names.lookup ("tuple" : Str) = some .globalImplicit := by decide +kernel
theorem ok_sums_of {f : Addr} {fd : FuncData} (T : Tx mg) (TK : Tk K mg) (D : C8.Def K mg "sums_of" s_sums_of f fd) (b : L2.Binds K fd P_sums_of [])
    (h_sums_in : Cl P w K mg base 2 "sums_in" 1 c_sums_in)
    (h_need_sums : ClX P w K mg base 2 "need_sums" 1 c_need_sums) : ClX P w K mg base 3 "sums_of" 1 c_sums_of :=
  clx_rf F_sums_of D b sc_sums_of rfl rfl fun W cdv A outer s H E tk hr =>
 (sx_cons (sx_drop (ex_call [false] h_need_sums tk hr (by decide) lk_sums_of_need_sums (av_cons (ev_nm (i := 0) rfl (.inl lk_sums_of_counts) nd_counts ncd_counts) av_nil (star_cons rfl)) nd_need_sums rfl) rfl)
 (sx_cons (sx_up (st_ret (ev_bi .tuple rfl lk_sums_of_tuple T.b_tuple bb_tuple (av_cons (ev_cl [false] h_sums_in hr (by decide) lk_sums_of_sums_in (av_cons (ev_nm (i := 0) rfl (.inl lk_sums_of_counts) nd_counts ncd_counts) av_nil (star_cons rfl)) nd_sums_in rfl) av_nil (star_cons rfl)) nn_tuple nd_tuple rfl)))
 (sx_ups st_nil)))
end G
set_option maxHeartbeats 4000000
namespace G
open PySem PySem.Spec PyProof.Rows L2 RF
variable {P : Program} {w : World} {K : PySem.W.Frag} {mg : Str → Option Value} {base : Heap}
theorem ok_sums_told {f : Addr} {fd : FuncData} (T : Tx mg) (D : C8.Def K mg "sums_told" s_sums_told f fd) (b : L2.Binds K fd P_sums_told []) : Cl P w K mg base 1 "sums_told" 1 c_sums_told := Cl.none D b rfl
end G
set_option maxHeartbeats 4000000
namespace G
open PySem PySem.Spec PyProof.Rows L2 RF
variable {P : Program} {w : World} {K : PySem.W.Frag} {mg : Str → Option Value} {base : Heap}
theorem sc_sums_paper : FnScope N_sums_paper P_sums_paper (C8.fnScope s_sums_paper) := C8.fnScope_by (by decide +kernel)
theorem lk_sums_paper_need_sums : (C8.fnScope s_sums_paper).names.lookup ("need_sums" : Str) = some .globalImplicit := by decide +kernel
theorem lk_sums_paper_need_things : (C8.fnScope s_sums_paper).names.lookup ("need_things" : Str) = some .globalImplicit := by decide +kernel
theorem lk_sums_paper_sums : (C8.fnScope s_sums_paper).names.lookup ("sums" : Str) = some .local := by decide +kernel
theorem lk_sums_paper_sums_told : (C8.fnScope s_sums_paper).names.lookup ("sums_told" : Str) = some .globalImplicit := by decide +kernel
theorem ok_sums_paper {f : Addr} {fd : FuncData} (T : Tx mg) (TK : Tk K mg) (D : C8.Def K mg "sums_paper" s_sums_paper f fd) (b : L2.Binds K fd P_sums_paper [])
    (h_need_things : ClX P w K mg base 3 "need_things" 1 c_need_things)
    (h_need_sums : ClX P w K mg base 2 "need_sums" 1 c_need_sums)
    (h_sums_told : Cl P w K mg base 1 "sums_told" 1 c_sums_told) : ClX P w K mg base 4 "sums_paper" 1 c_sums_paper :=
  clx_rf F_sums_paper D b sc_sums_paper rfl rfl fun W cdv A outer s H E tk hr =>
 (sx_cons (sx_drop (ex_call [false] h_need_sums tk hr (by decide) lk_sums_paper_need_sums (av_cons (ev_nm (i := 0) rfl (.inl lk_sums_paper_sums) nd_sums ncd_sums) av_nil (star_cons rfl)) nd_need_sums rfl) rfl)
 (sx_cons (sx_drop (ex_call [false] h_need_things tk hr (by decide) lk_sums_paper_need_things (av_cons (ev_ix (ev_nm (i := 0) rfl (.inl lk_sums_paper_sums) nd_sums ncd_sums) ec_int (fun _ _ => rfl)) av_nil (star_cons rfl)) nd_need_things rfl) rfl)
 (sx_cons (sx_up (st_ret (ev_cl [false] h_sums_told hr (by decide) lk_sums_paper_sums_told (av_cons (ev_nm (i := 0) rfl (.inl lk_sums_paper_sums) nd_sums ncd_sums) av_nil (star_cons rfl)) nd_sums_told rfl)))
 (sx_ups st_nil))))
end G
set_option maxHeartbeats 4000000
namespace G
open PySem PySem.Spec PyProof.Rows L2 RF
variable {P : Program} {w : World} {K : PySem.W.Frag} {mg : Str → Option Value} {base : Heap}
theorem ok_sign_of {f : Addr} {fd : FuncData} (T : Tx mg) (D : C8.Def K mg "sign_of" s_sign_of f fd) (b : L2.Binds K fd P_sign_of []) : Cl P w K mg base 1 "sign_of" 1 c_sign_of := Cl.none D b rfl
end G
set_option maxHeartbeats 4000000
namespace G
open PySem PySem.Spec PyProof.Rows L2 RF
variable {P : Program} {w : World} {K : PySem.W.Frag} {mg : Str → Option Value} {base : Heap}
theorem sc_ended : FnScope N_ended P_ended (C8.fnScope s_ended) := C8.fnScope_by (by decide +kernel)
theorem lk_ended_NoNumber : (C8.fnScope s_ended).names.lookup ("NoNumber" : Str) = some .globalImplicit := by decide +kernel
theorem lk_ended_is_whole : (C8.fnScope s_ended).names.lookup ("is_whole" : Str) = some .globalImplicit := by decide +kernel
theorem lk_ended_len : (C8.fnScope s_ended).names.lookup ("len" : Str) = some .globalImplicit := by decide +kernel
theorem lk_ended_many : (C8.fnScope s_ended).names.lookup ("many" : Str) = some .local := by decide +kernel
theorem lk_ended_need_sums : (C8.fnScope s_ended).names.lookup ("need_sums" : Str) = some .globalImplicit := by decide +kernel
theorem lk_ended_range : (C8.fnScope s_ended).names.lookup ("range" : Str) = some .globalImplicit := by decide +kernel
theorem lk_ended_sum : (C8.fnScope s_ended).names.lookup ("sum" : Str) = some .globalImplicit := by decide +kernel
theorem lk_ended_sums : (C8.fnScope s_ended).names.lookup ("sums" : Str) = some .cell := by decide +kernel
theorem ok_ended {f : Addr} {fd : FuncData} (T : Tx mg) (TK : Tk K mg) (D : C8.Def K mg "ended" s_ended f fd) (b : L2.Binds K fd P_ended [])
    (h_is_whole : IsW P w K mg base)
    (h_need_sums : ClX P w K mg base 2 "need_sums" 1 c_need_sums)
    (h_sign_of : Cl P w K mg base 1 "sign_of" 1 c_sign_of)
    (kc_NoNumber : KeepC P w K mg base "NoNumber" "number") : ClX P w K mg base 3 "ended" 2 c_ended :=
  clx_rf F_ended D b sc_ended rfl rfl fun W cdv A outer s H E tk hr =>
 (sx_cons (sx_drop (ex_call [false] h_need_sums tk hr (by decide) lk_ended_need_sums (av_cons (ev_nm (i := 0) rfl (.inr (.inl lk_ended_sums)) nd_sums ncd_sums) av_nil (star_cons rfl)) nd_need_sums rfl) rfl)
 (sx_cons (sx_if (tv_not (tv_val (ev_clk (ks := ["least", "most"]) [false, false, false] h_is_whole.w2 hr (by decide) lk_ended_is_whole (av_cons (ev_nm (i := 1) rfl (.inl lk_ended_many) nd_many ncd_many) av_nil (star_cons rfl)) (ak_cons ec_int (ak_cons (ev_bin (ev_bi .len rfl lk_ended_len T.b_len bb_len (av_cons (ev_nm (i := 0) rfl (.inr (.inl lk_ended_sums)) nd_sums ncd_sums) av_nil (star_cons rfl)) nn_len nd_len rfl) ec_int) ak_nil)) rfl rfl nd_is_whole rfl rfl) (fun _ => rfl)))
 (sx_cons (sx_raiseP rfl tk kc_NoNumber (hr.mono (by decide)) lk_ended_NoNumber (ev_nm (i := 1) rfl (.inl lk_ended_many) nd_many ncd_many) rfl nd_NoNumber)
 (sx_ups st_nil))
 (sx_ups st_nil))
 (sx_cons (sx_up (st_ret (ev_bi .sum rfl lk_ended_sum T.b_sum bb_sum (av_cons (ev_lc [("j", 2)] rfl sc_ended.nd (sv_rng2 lk_ended_range T.b_range ec_int (ev_bin (ev_nm (i := 1) rfl (.inl lk_ended_many) nd_many ncd_many) ec_int) rfl rfl) (blkOk_by (N := N_ended) (sc := C8.fnScope s_ended) (by decide +kernel)) (fun _ _ _ _ _ => (pg_name (i := 2) sc_ended.nd rfl (.inl (bl_loc (by decide +kernel))) (.inr (bl_loc (by decide +kernel))))) (fun _ _ _ _ _ => tvs_nil) (fun _ _ _ _ _ => (ev_bin (ev_cl [false] h_sign_of hr (by decide) (bl_gl (by decide +kernel)) (av_cons (ev_bin (ev_nm (i := 2) rfl (bl_vis (by decide +kernel)) nd_j ncd_j) ec_int) av_nil (star_cons rfl)) nd_sign_of rfl) (ev_ix (ev_nm (i := 0) rfl (bl_free (by decide +kernel)) nd_sums ncd_sums) (ev_nm (i := 2) rfl (bl_vis (by decide +kernel)) nd_j ncd_j) (fun _ _ => rfl)))) rfl) av_nil (star_cons rfl)) nn_sum nd_sum rfl)))
 (sx_ups st_nil))))
end G
set_option maxHeartbeats 4000000
namespace G
open PySem PySem.Spec PyProof.Rows L2 RF
variable {P : Program} {w : World} {K : PySem.W.Frag} {mg : Str → Option Value} {base : Heap}
theorem sc_at_least : FnScope N_at_least P_at_least (C8.fnScope s_at_least) := C8.fnScope_by (by decide +kernel)
theorem lk_at_least_NoNumber : (C8.fnScope s_at_least).names.lookup ("NoNumber" : Str) = some .globalImplicit := by decide +kernel
theorem lk_at_least_is_whole : (C8.fnScope s_at_least).names.lookup ("is_whole" : Str) = some .globalImplicit := by decide +kernel
theorem lk_at_least_least : (C8.fnScope s_at_least).names.lookup ("least" : Str) = some .cell := by decide +kernel
theorem lk_at_least_len : (C8.fnScope s_at_least).names.lookup ("len" : Str) = some .globalImplicit := by decide +kernel
theorem lk_at_least_need_sums : (C8.fnScope s_at_least).names.lookup ("need_sums" : Str) = some .globalImplicit := by decide +kernel
theorem lk_at_least_range : (C8.fnScope s_at_least).names.lookup ("range" : Str) = some .globalImplicit := by decide +kernel
theorem lk_at_least_sum : (C8.fnScope s_at_least).names.lookup ("sum" : Str) = some .globalImplicit := by decide +kernel
theorem lk_at_least_sums : (C8.fnScope s_at_least).names.lookup ("sums" : Str) = some .cell := by decide +kernel
theorem ok_at_least {f : Addr} {fd : FuncData} (T : Tx mg) (TK : Tk K mg) (D : C8.Def K mg "at_least" s_at_least f fd) (b : L2.Binds K fd P_at_least [])
    (h_is_whole : IsW P w K mg base)
    (h_out_of : Cl P w K mg base 1 "out_of" 2 c_out_of)
    (h_need_sums : ClX P w K mg base 2 "need_sums" 1 c_need_sums)
    (h_sign_of : Cl P w K mg base 1 "sign_of" 1 c_sign_of)
    (kc_NoNumber : KeepC P w K mg base "NoNumber" "number") : ClX P w K mg base 3 "at_least" 2 c_at_least :=
  clx_rf F_at_least D b sc_at_least rfl rfl fun W cdv A outer s H E tk hr =>
 (sx_cons (sx_drop (ex_call [false] h_need_sums tk hr (by decide) lk_at_least_need_sums (av_cons (ev_nm (i := 0) rfl (.inr (.inl lk_at_least_sums)) nd_sums ncd_sums) av_nil (star_cons rfl)) nd_need_sums rfl) rfl)
 (sx_cons (sx_if (tv_not (tv_val (ev_clk (ks := ["least", "most"]) [false, false, false] h_is_whole.w2 hr (by decide) lk_at_least_is_whole (av_cons (ev_nm (i := 1) rfl (.inr (.inl lk_at_least_least)) nd_least ncd_least) av_nil (star_cons rfl)) (ak_cons ec_int (ak_cons (ev_bin (ev_bi .len rfl lk_at_least_len T.b_len bb_len (av_cons (ev_nm (i := 0) rfl (.inr (.inl lk_at_least_sums)) nd_sums ncd_sums) av_nil (star_cons rfl)) nn_len nd_len rfl) ec_int) ak_nil)) rfl rfl nd_is_whole rfl rfl) (fun _ => rfl)))
 (sx_cons (sx_raiseP rfl tk kc_NoNumber (hr.mono (by decide)) lk_at_least_NoNumber (ev_nm (i := 1) rfl (.inr (.inl lk_at_least_least)) nd_least ncd_least) rfl nd_NoNumber)
 (sx_ups st_nil))
 (sx_ups st_nil))
 (sx_cons (sx_up (st_ret (ev_bi .sum rfl lk_at_least_sum T.b_sum bb_sum (av_cons (ev_lc [("j", 2)] rfl sc_at_least.nd (sv_rng2 lk_at_least_range T.b_range (ev_nm (i := 1) rfl (.inr (.inl lk_at_least_least)) nd_least ncd_least) (ev_bi .len rfl lk_at_least_len T.b_len bb_len (av_cons (ev_nm (i := 0) rfl (.inr (.inl lk_at_least_sums)) nd_sums ncd_sums) av_nil (star_cons rfl)) nn_len nd_len rfl) rfl rfl) (blkOk_by (N := N_at_least) (sc := C8.fnScope s_at_least) (by decide +kernel)) (fun _ _ _ _ _ => (pg_name (i := 2) sc_at_least.nd rfl (.inl (bl_loc (by decide +kernel))) (.inr (bl_loc (by decide +kernel))))) (fun _ _ _ _ _ => tvs_nil) (fun _ _ _ _ _ => (ev_bin (ev_bin (ev_cl [false] h_sign_of hr (by decide) (bl_gl (by decide +kernel)) (av_cons (ev_bin (ev_nm (i := 2) rfl (bl_vis (by decide +kernel)) nd_j ncd_j) (ev_nm (i := 1) rfl (bl_free (by decide +kernel)) nd_least ncd_least)) av_nil (star_cons rfl)) nd_sign_of rfl) (ev_cl [false, false] h_out_of hr (by decide) (bl_gl (by decide +kernel)) (av_cons (ev_bin (ev_nm (i := 2) rfl (bl_vis (by decide +kernel)) nd_j ncd_j) ec_int) (av_cons (ev_bin (ev_nm (i := 1) rfl (bl_free (by decide +kernel)) nd_least ncd_least) ec_int) av_nil (star_cons rfl)) (star_cons rfl)) nd_out_of rfl)) (ev_ix (ev_nm (i := 0) rfl (bl_free (by decide +kernel)) nd_sums ncd_sums) (ev_nm (i := 2) rfl (bl_vis (by decide +kernel)) nd_j ncd_j) (fun _ _ => rfl)))) rfl) av_nil (star_cons rfl)) nn_sum nd_sum rfl)))
 (sx_ups st_nil))))
end G
set_option maxHeartbeats 4000000
namespace G
open PySem PySem.Spec PyProof.Rows L2 RF
variable {P : Program} {w : World} {K : PySem.W.Frag} {mg : Str → Option Value} {base : Heap}
theorem sc_need_numbers : FnScope N_need_numbers P_need_numbers (C8.fnScope s_need_numbers) := C8.fnScope_by (by decide +kernel)
theorem lk_need_numbers_LONGEST : (C8.fnScope s_need_numbers).names.lookup ("LONGEST" : Str) = some .globalImplicit := by decide +kernel
theorem lk_need_numbers_MOST_MANY : (C8.fnScope s_need_numbers).names.lookup ("MOST_MANY" : Str) = some .globalImplicit := by decide +kernel
theorem lk_need_numbers_NoNumber : (C8.fnScope s_need_numbers).names.lookup ("NoNumber" : Str) = some .globalImplicit := by decide +kernel
theorem lk_need_numbers_first : (C8.fnScope s_need_numbers).names.lookup ("first" : Str) = some .local := by decide +kernel
theorem lk_need_numbers_is_whole : (C8.fnScope s_need_numbers).names.lookup ("is_whole" : Str) = some .globalImplicit := by decide +kernel
theorem lk_need_numbers_many : (C8.fnScope s_need_numbers).names.lookup ("many" : Str) = some .local := by decide +kernel
theorem lk_need_numbers_number : (C8.fnScope s_need_numbers).names.lookup ("number" : Str) = some .local := by decide +kernel
theorem lk_need_numbers_second : (C8.fnScope s_need_numbers).names.lookup ("second" : Str) = some .local := by decide +kernel
theorem ok_need_numbers {f : Addr} {fd : FuncData} (T : Tx mg) (TK : Tk K mg) (D : C8.Def K mg "need_numbers" s_need_numbers f fd) (b : L2.Binds K fd P_need_numbers [])
    (h_is_whole : IsW P w K mg base)
    (kc_NoNumber : KeepC P w K mg base "NoNumber" "number") : ClX P w K mg base 3 "need_numbers" 3 c_need_numbers :=
  clx_rf F_need_numbers D b sc_need_numbers rfl rfl fun W cdv A outer s H E tk hr =>
 (sx_cons (sx_if (tv_not (tv_val (ev_clk (ks := ["least", "most"]) [false, false, false] h_is_whole.w2 hr (by decide) lk_need_numbers_is_whole (av_cons (ev_nm (i := 0) rfl (.inl lk_need_numbers_many) nd_many ncd_many) av_nil (star_cons rfl)) (ak_cons ec_int (ak_cons (ec_gint lk_need_numbers_MOST_MANY T.c_MOST_MANY nd_MOST_MANY) ak_nil)) rfl rfl nd_is_whole rfl rfl) (fun _ => rfl)))
 (sx_cons (sx_raiseP rfl tk kc_NoNumber (hr.mono (by decide)) lk_need_numbers_NoNumber (ev_nm (i := 0) rfl (.inl lk_need_numbers_many) nd_many ncd_many) rfl nd_NoNumber)
 (sx_ups st_nil))
 (sx_ups st_nil))
 (sx_cons (sx_for (passes_of rfl) rfl rfl (sv_seq (ev_tup (av_cons (ev_nm (i := 1) rfl (.inl lk_need_numbers_first) nd_first ncd_first) (av_cons (ev_nm (i := 2) rfl (.inl lk_need_numbers_second) nd_second ncd_second) av_nil (star_cons rfl)) (star_cons rfl)))) (pg_name (i := 3) sc_need_numbers.nd rfl (.inl lk_need_numbers_number) (.inl rfl))
 (sx_cons (sx_if (tv_not (tv_val (ev_clk (ks := ["least", "most"]) [false, false, false] h_is_whole.w2 hr (by decide) lk_need_numbers_is_whole (av_cons (ev_nm (i := 3) rfl (.inl lk_need_numbers_number) nd_number ncd_number) av_nil (star_cons rfl)) (ak_cons ec_int (ak_cons (ev_bin (ec_gint lk_need_numbers_LONGEST T.c_LONGEST nd_LONGEST) ec_int) ak_nil)) rfl rfl nd_is_whole rfl rfl) (fun _ => rfl)))
 (sx_cons (sx_raiseP rfl tk kc_NoNumber (hr.mono (by decide)) lk_need_numbers_NoNumber (ev_nm (i := 3) rfl (.inl lk_need_numbers_number) nd_number ncd_number) rfl nd_NoNumber)
 (sx_ups st_nil))
 (sx_ups st_nil))
 (sx_ups st_nil)))
 (sx_ups st_nil)))
end G
set_option maxHeartbeats 4000000
namespace G
open PySem PySem.Spec PyProof.Rows L2 RF
variable {P : Program} {w : World} {K : PySem.W.Frag} {mg : Str → Option Value} {base : Heap}
theorem sc_need_weights : FnScope N_need_weights P_need_weights (C8.fnScope s_need_weights) := C8.fnScope_by (by decide +kernel)
theorem lk_need_weights_NoTable : (C8.fnScope s_need_weights).names.lookup ("NoTable" : Str) = some .globalImplicit := by decide +kernel
theorem lk_need_weights_first : (C8.fnScope s_need_weights).names.lookup ("first" : Str) = some .local := by decide +kernel
theorem lk_need_weights_many : (C8.fnScope s_need_weights).names.lookup ("many" : Str) = some .local := by decide +kernel
theorem lk_need_weights_need_numbers : (C8.fnScope s_need_weights).names.lookup ("need_numbers" : Str) = some .globalImplicit := by decide +kernel
theorem lk_need_weights_second : (C8.fnScope s_need_weights).names.lookup ("second" : Str) = some .local := by decide +kernel
theorem ok_need_weights {f : Addr} {fd : FuncData} (T : Tx mg) (TK : Tk K mg) (D : C8.Def K mg "need_weights" s_need_weights f fd) (b : L2.Binds K fd P_need_weights [])
    (h_need_numbers : ClX P w K mg base 3 "need_numbers" 3 c_need_numbers) : ClX P w K mg base 4 "need_weights" 3 c_need_weights :=
  clx_rf F_need_weights D b sc_need_weights rfl rfl fun W cdv A outer s H E tk hr =>
 (sx_cons (sx_drop (ex_call [false, false, false] h_need_numbers tk hr (by decide) lk_need_weights_need_numbers (av_cons (ev_nm (i := 0) rfl (.inl lk_need_weights_many) nd_many ncd_many) (av_cons (ev_nm (i := 1) rfl (.inl lk_need_weights_first) nd_first ncd_first) (av_cons (ev_nm (i := 2) rfl (.inl lk_need_weights_second) nd_second ncd_second) av_nil (star_cons rfl)) (star_cons rfl)) (star_cons rfl)) nd_need_numbers rfl) rfl)
 (sx_cons (sx_if (tv_cmp hr.units (ev_bin ec_int (ev_nm (i := 2) rfl (.inl lk_need_weights_second) nd_second ncd_second)) (ev_bin (ev_bin (ev_nm (i := 0) rfl (.inl lk_need_weights_many) nd_many ncd_many) ec_int) (ev_nm (i := 1) rfl (.inl lk_need_weights_first) nd_first ncd_first)) rfl)
 (sx_cons (sx_raise rfl tk PySem.F.excBase_ValueError TK.ex_NoTable.1 TK.gx_NoTable TK.ex_NoTable.2.1 (raises_own TK.ex_NoTable.2.2.1 TK.ex_NoTable.2.2.2) lk_need_weights_NoTable ec_str rfl nd_NoTable)
 (sx_ups st_nil))
 (sx_ups st_nil))
 (sx_ups st_nil)))
end G
set_option maxHeartbeats 4000000
namespace G
open PySem PySem.Spec PyProof.Rows L2 RF
variable {P : Program} {w : World} {K : PySem.W.Frag} {mg : Str → Option Value} {base : Heap}
theorem ok_together {f : Addr} {fd : FuncData} (T : Tx mg) (D : C8.Def K mg "together" s_together f fd) (b : L2.Binds K fd P_together []) : Cl P w K mg base 1 "together" 1 c_together := Cl.none D b rfl
end G
set_option maxHeartbeats 4000000
namespace G
open PySem PySem.Spec PyProof.Rows L2 RF
variable {P : Program} {w : World} {K : PySem.W.Frag} {mg : Str → Option Value} {base : Heap}
theorem ok_least_in {f : Addr} {fd : FuncData} (T : Tx mg) (D : C8.Def K mg "least_in" s_least_in f fd) (b : L2.Binds K fd P_least_in []) : Cl P w K mg base 1 "least_in" 3 c_least_in := Cl.none D b rfl
end G
set_option maxHeartbeats 4000000
namespace G
open PySem PySem.Spec PyProof.Rows L2 RF
variable {P : Program} {w : World} {K : PySem.W.Frag} {mg : Str → Option Value} {base : Heap}
theorem sc_least_total : FnScope N_least_total P_least_total (C8.fnScope s_least_total) := C8.fnScope_by (by decide +kernel)
theorem lk_least_total_first : (C8.fnScope s_least_total).names.lookup ("first" : Str) = some .local := by decide +kernel
theorem lk_least_total_least_in : (C8.fnScope s_least_total).names.lookup ("least_in" : Str) = some .globalImplicit := by decide +kernel
theorem lk_least_total_list : (C8.fnScope s_least_total).names.lookup ("list" : Str) = some .globalImplicit := by decide +kernel
theorem lk_least_total_many : (C8.fnScope s_least_total).names.lookup ("many" : Str) = some .local := by decide +kernel
theorem lk_least_total_need_weights : (C8.fnScope s_least_total).names.lookup ("need_weights" : Str) = some .globalImplicit := by decide +kernel
theorem lk_least_total_second : (C8.fnScope s_least_total).names.lookup ("second" : Str) = some .local := by decide +kernel
theorem lk_least_total_together : (C8.fnScope s_least_total).names.lookup ("together" : Str) = some .globalImplicit := by decide +kernel
theorem ok_least_total {f : Addr} {fd : FuncData} (T : Tx mg) (TK : Tk K mg) (D : C8.Def K mg "least_total" s_least_total f fd) (b : L2.Binds K fd P_least_total [])
    (h_need_weights : ClX P w K mg base 4 "need_weights" 3 c_need_weights)
    (h_together : Cl P w K mg base 1 "together" 1 c_together)
    (h_least_in : Cl P w K mg base 1 "least_in" 3 c_least_in) : ClX P w K mg base 5 "least_total" 3 c_least_total :=
  clx_rf F_least_total D b sc_least_total rfl rfl fun W cdv A outer s H E tk hr =>
 (sx_cons (sx_drop (ex_call [false, false, false] h_need_weights tk hr (by decide) lk_least_total_need_weights (av_cons (ev_nm (i := 0) rfl (.inl lk_least_total_many) nd_many ncd_many) (av_cons (ev_nm (i := 1) rfl (.inl lk_least_total_first) nd_first ncd_first) (av_cons (ev_nm (i := 2) rfl (.inl lk_least_total_second) nd_second ncd_second) av_nil (star_cons rfl)) (star_cons rfl)) (star_cons rfl)) nd_need_weights rfl) rfl)
 (sx_cons (sx_up (st_ret (ev_cl [false] h_together hr (by decide) lk_least_total_together (av_cons (ev_bi .list rfl lk_least_total_list T.b_list bb_list (av_cons (ev_ix (ev_cl [false, false, false] h_least_in hr (by decide) lk_least_total_least_in (av_cons (ev_nm (i := 0) rfl (.inl lk_least_total_many) nd_many ncd_many) (av_cons (ev_nm (i := 1) rfl (.inl lk_least_total_first) nd_first ncd_first) (av_cons (ev_nm (i := 2) rfl (.inl lk_least_total_second) nd_second ncd_second) av_nil (star_cons rfl)) (star_cons rfl)) (star_cons rfl)) nd_least_in rfl) ec_int (fun _ _ => rfl)) av_nil (star_cons rfl)) nn_list nd_list rfl) av_nil (star_cons rfl)) nd_together rfl)))
 (sx_ups st_nil)))
end G
set_option maxHeartbeats 4000000
namespace G
open PySem PySem.Spec PyProof.Rows L2 RF
variable {P : Program} {w : World} {K : PySem.W.Frag} {mg : Str → Option Value} {base : Heap}
theorem ok_greatest_in {f : Addr} {fd : FuncData} (T : Tx mg) (D : C8.Def K mg "greatest_in" s_greatest_in f fd) (b : L2.Binds K fd P_greatest_in []) : Cl P w K mg base 1 "greatest_in" 3 c_greatest_in := Cl.none D b rfl
end G
set_option maxHeartbeats 4000000
namespace G
open PySem PySem.Spec PyProof.Rows L2 RF
variable {P : Program} {w : World} {K : PySem.W.Frag} {mg : Str → Option Value} {base : Heap}
theorem sc_greatest_total : FnScope N_greatest_total P_greatest_total (C8.fnScope s_greatest_total) := C8.fnScope_by (by decide +kernel)
theorem lk_greatest_total_first : (C8.fnScope s_greatest_total).names.lookup ("first" : Str) = some .local := by decide +kernel
theorem lk_greatest_total_greatest_in : (C8.fnScope s_greatest_total).names.lookup ("greatest_in" : Str) = some .globalImplicit := by decide +kernel
theorem lk_greatest_total_list : (C8.fnScope s_greatest_total).names.lookup ("list" : Str) = some .globalImplicit := by decide +kernel
theorem lk_greatest_total_many : (C8.fnScope s_greatest_total).names.lookup ("many" : Str) = some .local := by decide +kernel
theorem lk_greatest_total_need_weights : (C8.fnScope s_greatest_total).names.lookup ("need_weights" : Str) = some .globalImplicit := by decide +kernel
theorem lk_greatest_total_second : (C8.fnScope s_greatest_total).names.lookup ("second" : Str) = some .local := by decide +kernel
theorem lk_greatest_total_together : (C8.fnScope s_greatest_total).names.lookup ("together" : Str) = some .globalImplicit := by decide +kernel
theorem ok_greatest_total {f : Addr} {fd : FuncData} (T : Tx mg) (TK : Tk K mg) (D : C8.Def K mg "greatest_total" s_greatest_total f fd) (b : L2.Binds K fd P_greatest_total [])
    (h_need_weights : ClX P w K mg base 4 "need_weights" 3 c_need_weights)
    (h_together : Cl P w K mg base 1 "together" 1 c_together)
    (h_greatest_in : Cl P w K mg base 1 "greatest_in" 3 c_greatest_in) : ClX P w K mg base 5 "greatest_total" 3 c_greatest_total :=
  clx_rf F_greatest_total D b sc_greatest_total rfl rfl fun W cdv A outer s H E tk hr =>
 (sx_cons (sx_drop (ex_call [false, false, false] h_need_weights tk hr (by decide) lk_greatest_total_need_weights (av_cons (ev_nm (i := 0) rfl (.inl lk_greatest_total_many) nd_many ncd_many) (av_cons (ev_nm (i := 1) rfl (.inl lk_greatest_total_first) nd_first ncd_first) (av_cons (ev_nm (i := 2) rfl (.inl lk_greatest_total_second) nd_second ncd_second) av_nil (star_cons rfl)) (star_cons rfl)) (star_cons rfl)) nd_need_weights rfl) rfl)
 (sx_cons (sx_up (st_ret (ev_cl [false] h_together hr (by decide) lk_greatest_total_together (av_cons (ev_bi .list rfl lk_greatest_total_list T.b_list bb_list (av_cons (ev_ix (ev_cl [false, false, false] h_greatest_in hr (by decide) lk_greatest_total_greatest_in (av_cons (ev_nm (i := 0) rfl (.inl lk_greatest_total_many) nd_many ncd_many) (av_cons (ev_nm (i := 1) rfl (.inl lk_greatest_total_first) nd_first ncd_first) (av_cons (ev_nm (i := 2) rfl (.inl lk_greatest_total_second) nd_second ncd_second) av_nil (star_cons rfl)) (star_cons rfl)) (star_cons rfl)) nd_greatest_in rfl) ec_int (fun _ _ => rfl)) av_nil (star_cons rfl)) nn_list nd_list rfl) av_nil (star_cons rfl)) nd_together rfl)))
 (sx_ups st_nil)))
end G
set_option maxHeartbeats 4000000
namespace G
open PySem PySem.Spec PyProof.Rows L2 RF
variable {P : Program} {w : World} {K : PySem.W.Frag} {mg : Str → Option Value} {base : Heap}
theorem sc_least_paper : FnScope N_least_paper P_least_paper (C8.fnScope s_least_paper) := C8.fnScope_by (by decide +kernel)
theorem lk_least_paper_LEAST : (C8.fnScope s_least_paper).names.lookup ("LEAST" : Str) = some .globalImplicit := by decide +kernel
theorem lk_least_paper_first : (C8.fnScope s_least_paper).names.lookup ("first" : Str) = some .local := by decide +kernel
theorem lk_least_paper_least_in : (C8.fnScope s_least_paper).names.lookup ("least_in" : Str) = some .globalImplicit := by decide +kernel
theorem lk_least_paper_many : (C8.fnScope s_least_paper).names.lookup ("many" : Str) = some .local := by decide +kernel
theorem lk_least_paper_need_weights : (C8.fnScope s_least_paper).names.lookup ("need_weights" : Str) = some .globalImplicit := by decide +kernel
theorem lk_least_paper_second : (C8.fnScope s_least_paper).names.lookup ("second" : Str) = some .local := by decide +kernel
theorem ok_least_paper {f : Addr} {fd : FuncData} (T : Tx mg) (TK : Tk K mg) (D : C8.Def K mg "least_paper" s_least_paper f fd) (b : L2.Binds K fd P_least_paper [])
    (h_need_weights : ClX P w K mg base 4 "need_weights" 3 c_need_weights)
    (h_least_in : Cl P w K mg base 1 "least_in" 3 c_least_in) : ClX P w K mg base 5 "least_paper" 3 c_least_paper :=
  clx_rf F_least_paper D b sc_least_paper rfl rfl fun W cdv A outer s H E tk hr =>
 (sx_cons (sx_drop (ex_call [false, false, false] h_need_weights tk hr (by decide) lk_least_paper_need_weights (av_cons (ev_nm (i := 0) rfl (.inl lk_least_paper_many) nd_many ncd_many) (av_cons (ev_nm (i := 1) rfl (.inl lk_least_paper_first) nd_first ncd_first) (av_cons (ev_nm (i := 2) rfl (.inl lk_least_paper_second) nd_second ncd_second) av_nil (star_cons rfl)) (star_cons rfl)) (star_cons rfl)) nd_need_weights rfl) rfl)
 (sx_cons (sx_up (st_ret (ev_tup (av_cons (ec_gstr lk_least_paper_LEAST T.c_LEAST nd_LEAST) (av_star (ev_cl [false, false, false] h_least_in hr (by decide) lk_least_paper_least_in (av_cons (ev_nm (i := 0) rfl (.inl lk_least_paper_many) nd_many ncd_many) (av_cons (ev_nm (i := 1) rfl (.inl lk_least_paper_first) nd_first ncd_first) (av_cons (ev_nm (i := 2) rfl (.inl lk_least_paper_second) nd_second ncd_second) av_nil (star_cons rfl)) (star_cons rfl)) (star_cons rfl)) nd_least_in rfl) av_nil) (star_cons rfl)))))
 (sx_ups st_nil)))
end G
set_option maxHeartbeats 4000000
namespace G
open PySem PySem.Spec PyProof.Rows L2 RF
variable {P : Program} {w : World} {K : PySem.W.Frag} {mg : Str → Option Value} {base : Heap}
theorem sc_greatest_paper : FnScope N_greatest_paper P_greatest_paper (C8.fnScope s_greatest_paper) := C8.fnScope_by (by decide +kernel)
theorem lk_greatest_paper_GREATEST : (C8.fnScope s_greatest_paper).names.lookup ("GREATEST" : Str) = some .globalImplicit := by decide +kernel
theorem lk_greatest_paper_first : (C8.fnScope s_greatest_paper).names.lookup ("first" : Str) = some .local := by decide +kernel
theorem lk_greatest_paper_greatest_in : (C8.fnScope s_greatest_paper).names.lookup ("greatest_in" : Str) = some .globalImplicit := by decide +kernel
theorem lk_greatest_paper_many : (C8.fnScope s_greatest_paper).names.lookup ("many" : Str) = some .local := by decide +kernel
theorem lk_greatest_paper_need_weights : (C8.fnScope s_greatest_paper).names.lookup ("need_weights" : Str) = some .globalImplicit := by decide +kernel
theorem lk_greatest_paper_second : (C8.fnScope s_greatest_paper).names.lookup ("second" : Str) = some .local := by decide +kernel
theorem ok_greatest_paper {f : Addr} {fd : FuncData} (T : Tx mg) (TK : Tk K mg) (D : C8.Def K mg "greatest_paper" s_greatest_paper f fd) (b : L2.Binds K fd P_greatest_paper [])
    (h_need_weights : ClX P w K mg base 4 "need_weights" 3 c_need_weights)
    (h_greatest_in : Cl P w K mg base 1 "greatest_in" 3 c_greatest_in) : ClX P w K mg base 5 "greatest_paper" 3 c_greatest_paper :=
  clx_rf F_greatest_paper D b sc_greatest_paper rfl rfl fun W cdv A outer s H E tk hr =>
 (sx_cons (sx_drop (ex_call [false, false, false] h_need_weights tk hr (by decide) lk_greatest_paper_need_weights (av_cons (ev_nm (i := 0) rfl (.inl lk_greatest_paper_many) nd_many ncd_many) (av_cons (ev_nm (i := 1) rfl (.inl lk_greatest_paper_first) nd_first ncd_first) (av_cons (ev_nm (i := 2) rfl (.inl lk_greatest_paper_second) nd_second ncd_second) av_nil (star_cons rfl)) (star_cons rfl)) (star_cons rfl)) nd_need_weights rfl) rfl)
 (sx_cons (sx_up (st_ret (ev_tup (av_cons (ec_gstr lk_greatest_paper_GREATEST T.c_GREATEST nd_GREATEST) (av_star (ev_cl [false, false, false] h_greatest_in hr (by decide) lk_greatest_paper_greatest_in (av_cons (ev_nm (i := 0) rfl (.inl lk_greatest_paper_many) nd_many ncd_many) (av_cons (ev_nm (i := 1) rfl (.inl lk_greatest_paper_first) nd_first ncd_first) (av_cons (ev_nm (i := 2) rfl (.inl lk_greatest_paper_second) nd_second ncd_second) av_nil (star_cons rfl)) (star_cons rfl)) (star_cons rfl)) nd_greatest_in rfl) av_nil) (star_cons rfl)))))
 (sx_ups st_nil)))
end G
set_option maxHeartbeats 4000000
namespace G
open PySem PySem.Spec PyProof.Rows L2 RF
variable {P : Program} {w : World} {K : PySem.W.Frag} {mg : Str → Option Value} {base : Heap}
theorem ok_plus {f : Addr} {fd : FuncData} (T : Tx mg) (D : C8.Def K mg "plus" s_plus f fd) (b : L2.Binds K fd P_plus []) : Cl P w K mg base 1 "plus" 2 c_plus := Cl.none D b rfl
end G
set_option maxHeartbeats 4000000
namespace G
open PySem PySem.Spec PyProof.Rows L2 RF
variable {P : Program} {w : World} {K : PySem.W.Frag} {mg : Str → Option Value} {base : Heap}
theorem ok_times {f : Addr} {fd : FuncData} (T : Tx mg) (D : C8.Def K mg "times" s_times f fd) (b : L2.Binds K fd P_times []) : Cl P w K mg base 1 "times" 2 c_times := Cl.none D b rfl
end G
set_option maxHeartbeats 4000000
namespace G
open PySem PySem.Spec PyProof.Rows L2 RF
variable {P : Program} {w : World} {K : PySem.W.Frag} {mg : Str → Option Value} {base : Heap}
theorem ok_lowest {f : Addr} {fd : FuncData} (T : Tx mg) (D : C8.Def K mg "lowest" s_lowest f fd) (b : L2.Binds K fd P_lowest []) : Cl P w K mg base 1 "lowest" 2 c_lowest := Cl.none D b rfl
end G
set_option maxHeartbeats 4000000
namespace G
open PySem PySem.Spec PyProof.Rows L2 RF
variable {P : Program} {w : World} {K : PySem.W.Frag} {mg : Str → Option Value} {base : Heap}
theorem sc_is_fraction : FnScope N_is_fraction P_is_fraction (C8.fnScope s_is_fraction) := C8.fnScope_by (by decide +kernel)
theorem lk_is_fraction_all : (C8.fnScope s_is_fraction).names.lookup ("all" : Str) = some .globalImplicit := by decide +kernel
theorem lk_is_fraction_isinstance : (C8.fnScope s_is_fraction).names.lookup ("isinstance" : Str) = some .globalImplicit := by decide +kernel
theorem lk_is_fraction_len : (C8.fnScope s_is_fraction).names.lookup ("len" : Str) = some .globalImplicit := by decide +kernel
theorem lk_is_fraction_lowest : (C8.fnScope s_is_fraction).names.lookup ("lowest" : Str) = some .globalImplicit := by decide +kernel
theorem lk_is_fraction_thing : (C8.fnScope s_is_fraction).names.lookup ("thing" : Str) = some .local := by decide +kernel
theorem lk_is_fraction_tuple : (C8.fnScope s_is_fraction).names.lookup ("tuple" : Str) = some .globalImplicit := by decide +kernel
theorem ok_is_fraction {f : Addr} {fd : FuncData} (T : Tx mg) (D : C8.Def K mg "is_fraction" s_is_fraction f fd) (b : L2.Binds K fd P_is_fraction [])
    (h_is_whole : IsW P w K mg base)
    (h_lowest : Cl P w K mg base 1 "lowest" 2 c_lowest) : Cl P w K mg base 2 "is_fraction" 1 c_is_fraction :=
  cl_rf F_is_fraction D b sc_is_fraction rfl rfl fun cdv A outer s H E hr =>
 (st_cons (st_if (PW.pt (tv_or (tv_not (tv_val (ev_bi .isinst rfl lk_is_fraction_isinstance T.b_isinstance bb_isinstance (av_cons (ev_nm (i := 0) rfl (.inl lk_is_fraction_thing) nd_thing ncd_thing) (av_cons (ec_ty lk_is_fraction_tuple T.b_tuple bt_tuple nn_tuple nd_tuple) av_nil (star_cons rfl)) (star_cons rfl)) nn_isinstance nd_isinstance rfl) (fun _ => rfl))) (tv_or (tv_cmp hr.units (ev_bi .len rfl lk_is_fraction_len T.b_len bb_len (av_cons (ev_nm (i := 0) rfl (.inl lk_is_fraction_thing) nd_thing ncd_thing) av_nil (star_cons rfl)) nn_len nd_len rfl) ec_int rfl) (tv_or1 (tv_not (tv_val (ev_bi .all rfl lk_is_fraction_all T.b_all bb_all (av_cons (ev_lc [("part", 1)] rfl sc_is_fraction.nd (sv_seq (ev_nm (i := 0) rfl (.inl lk_is_fraction_thing) nd_thing ncd_thing)) (blkOk_by (N := N_is_fraction) (sc := C8.fnScope s_is_fraction) (by decide +kernel)) (fun _ _ _ _ _ => (pg_name (i := 1) sc_is_fraction.nd rfl (.inl (bl_loc (by decide +kernel))) (.inr (bl_loc (by decide +kernel))))) (fun _ _ _ _ _ => tvs_nil) (fun _ _ _ _ _ => (ev_cld [false, false, false] h_is_whole.w0 hr (by decide) (bl_gl (by decide +kernel)) (av_cons (ev_nm (i := 1) rfl (bl_vis (by decide +kernel)) nd_part ncd_part) av_nil (star_cons rfl)) nd_is_whole rfl)) rfl) av_nil (star_cons rfl)) nn_all nd_all rfl) (fun _ => rfl)))))))
 (st_cons (st_ret ec_bl)
 st_nil)
 st_nil)
 (st_cons (st_ret (ev_and (ev_cmp hr.units (ev_ix (ev_nm (i := 0) rfl (.inl lk_is_fraction_thing) nd_thing ncd_thing) ec_int (fun _ _ => rfl)) ec_int rfl) (ev_one (ev_cmp hr.units (ev_cl [false, false] h_lowest hr (by decide) lk_is_fraction_lowest (av_cons (ev_ix (ev_nm (i := 0) rfl (.inl lk_is_fraction_thing) nd_thing ncd_thing) ec_int (fun _ _ => rfl)) (av_cons (ev_ix (ev_nm (i := 0) rfl (.inl lk_is_fraction_thing) nd_thing ncd_thing) ec_int (fun _ _ => rfl)) av_nil (star_cons rfl)) (star_cons rfl)) nd_lowest rfl) (ev_nm (i := 0) rfl (.inl lk_is_fraction_thing) nd_thing ncd_thing) rfl))))
 st_nil))
end G
set_option maxHeartbeats 4000000
namespace G
open PySem PySem.Spec PyProof.Rows L2 RF
variable {P : Program} {w : World} {K : PySem.W.Frag} {mg : Str → Option Value} {base : Heap}
theorem ok_pairs_of {f : Addr} {fd : FuncData} (T : Tx mg) (D : C8.Def K mg "pairs_of" s_pairs_of f fd) (b : L2.Binds K fd P_pairs_of []) : Cl P w K mg base 1 "pairs_of" 1 c_pairs_of := Cl.none D b rfl
end G
set_option maxHeartbeats 4000000
namespace G
open PySem PySem.Spec PyProof.Rows L2 RF
variable {P : Program} {w : World} {K : PySem.W.Frag} {mg : Str → Option Value} {base : Heap}
theorem sc_are_weights : FnScope N_are_weights P_are_weights (C8.fnScope s_are_weights) := C8.fnScope_by (by decide +kernel)
theorem lk_are_weights_all : (C8.fnScope s_are_weights).names.lookup ("all" : Str) = some .globalImplicit := by decide +kernel
theorem lk_are_weights_enumerate : (C8.fnScope s_are_weights).names.lookup ("enumerate" : Str) = some .globalImplicit := by decide +kernel
theorem lk_are_weights_far : (C8.fnScope s_are_weights).names.lookup ("far" : Str) = some .local := by decide +kernel
theorem lk_are_weights_first : (C8.fnScope s_are_weights).names.lookup ("first" : Str) = some .local := by decide +kernel
theorem lk_are_weights_isinstance : (C8.fnScope s_are_weights).names.lookup ("isinstance" : Str) = some .globalImplicit := by decide +kernel
theorem lk_are_weights_len : (C8.fnScope s_are_weights).names.lookup ("len" : Str) = some .globalImplicit := by decide +kernel
theorem lk_are_weights_many : (C8.fnScope s_are_weights).names.lookup ("many" : Str) = some .local := by decide +kernel
theorem lk_are_weights_near : (C8.fnScope s_are_weights).names.lookup ("near" : Str) = some .local := by decide +kernel
theorem lk_are_weights_second : (C8.fnScope s_are_weights).names.lookup ("second" : Str) = some .local := by decide +kernel
theorem lk_are_weights_thing : (C8.fnScope s_are_weights).names.lookup ("thing" : Str) = some .local := by decide +kernel
theorem lk_are_weights_together : (C8.fnScope s_are_weights).names.lookup ("together" : Str) = some .globalImplicit := by decide +kernel
theorem lk_are_weights_tuple : (C8.fnScope s_are_weights).names.lookup ("tuple" : Str) = some .globalImplicit := by decide +kernel
theorem ok_are_weights {f : Addr} {fd : FuncData} (T : Tx mg) (D : C8.Def K mg "are_weights" s_are_weights f fd) (b : L2.Binds K fd P_are_weights [])
    (h_together : Cl P w K mg base 1 "together" 1 c_together)
    (h_times : Cl P w K mg base 1 "times" 2 c_times)
    (h_is_fraction : Cl P w K mg base 2 "is_fraction" 1 c_is_fraction)
    (h_pairs_of : Cl P w K mg base 1 "pairs_of" 1 c_pairs_of) : Cl P w K mg base 3 "are_weights" 4 c_are_weights :=
  cl_rf F_are_weights D b sc_are_weights rfl rfl fun cdv A outer s H E hr =>
 (st_cons (st_if (PW.pt (tv_or (tv_not (tv_val (ev_bi .isinst rfl lk_are_weights_isinstance T.b_isinstance bb_isinstance (av_cons (ev_nm (i := 3) rfl (.inl lk_are_weights_thing) nd_thing ncd_thing) (av_cons (ec_ty lk_are_weights_tuple T.b_tuple bt_tuple nn_tuple nd_tuple) av_nil (star_cons rfl)) (star_cons rfl)) nn_isinstance nd_isinstance rfl) (fun _ => rfl))) (tv_or1 (tv_cmp hr.units (ev_bi .len rfl lk_are_weights_len T.b_len bb_len (av_cons (ev_nm (i := 3) rfl (.inl lk_are_weights_thing) nd_thing ncd_thing) av_nil (star_cons rfl)) nn_len nd_len rfl) (ev_nm (i := 0) rfl (.inl lk_are_weights_many) nd_many ncd_many) rfl))))
 (st_cons (st_ret ec_bl)
 st_nil)
 st_nil)
 (st_cons (st_if (tv_not (tv_val (ev_bi .all rfl lk_are_weights_all T.b_all bb_all (av_cons (ev_lc [("weight", 6)] rfl sc_are_weights.nd (sv_seq (ev_nm (i := 3) rfl (.inl lk_are_weights_thing) nd_thing ncd_thing)) (blkOk_by (N := N_are_weights) (sc := C8.fnScope s_are_weights) (by decide +kernel)) (fun _ _ _ _ _ => (pg_name (i := 6) sc_are_weights.nd rfl (.inl (bl_loc (by decide +kernel))) (.inr (bl_loc (by decide +kernel))))) (fun _ _ _ _ _ => tvs_nil) (fun _ _ _ _ _ => (ev_and (ev_cl [false] h_is_fraction hr (by decide) (bl_gl (by decide +kernel)) (av_cons (ev_nm (i := 6) rfl (bl_vis (by decide +kernel)) nd_weight ncd_weight) av_nil (star_cons rfl)) nd_is_fraction rfl) (ev_one (ev_cmp hr.units (ev_ix (ev_nm (i := 6) rfl (bl_vis (by decide +kernel)) nd_weight ncd_weight) ec_int (fun _ _ => rfl)) ec_int rfl)))) rfl) av_nil (star_cons rfl)) nn_all nd_all rfl) (fun _ => rfl)))
 (st_cons (st_ret ec_bl)
 st_nil)
 st_nil)
 (st_cons (st_set (i := 4) sc_are_weights.nd rfl (.inl lk_are_weights_near) (ev_cl [false] h_together hr (by decide) lk_are_weights_together (av_cons (ev_lc [("at", 7), ("weight", 6)] rfl sc_are_weights.nd (sv_enum lk_are_weights_enumerate T.b_enumerate (av_cons (ev_nm (i := 3) rfl (.inl lk_are_weights_thing) nd_thing ncd_thing) av_nil (star_cons rfl)) rfl) (blkOk_by (N := N_are_weights) (sc := C8.fnScope s_are_weights) (by decide +kernel)) (fun _ _ _ _ _ => (pg_tup rfl (pgs_cons (pg_name (i := 7) sc_are_weights.nd rfl (.inl (bl_loc (by decide +kernel))) (.inr (bl_loc (by decide +kernel)))) (pgs_cons (pg_name (i := 6) sc_are_weights.nd rfl (.inl (bl_loc (by decide +kernel))) (.inr (bl_loc (by decide +kernel)))) pgs_nil)))) (fun _ _ _ _ _ => tvs_nil) (fun _ _ _ _ _ => (ev_cl [false, false] h_times hr (by decide) (bl_gl (by decide +kernel)) (av_cons (ev_tup (av_cons (ev_bin (ev_nm (i := 7) rfl (bl_vis (by decide +kernel)) nd_at ncd_at) ec_int) (av_cons ec_int av_nil (star_cons rfl)) (star_cons rfl))) (av_cons (ev_nm (i := 6) rfl (bl_vis (by decide +kernel)) nd_weight ncd_weight) av_nil (star_cons rfl)) (star_cons rfl)) nd_times rfl)) rfl) av_nil (star_cons rfl)) nd_together rfl) rfl rfl (.inl rfl))
 (st_cons (st_set (i := 5) sc_are_weights.nd rfl (.inl lk_are_weights_far) (ev_cl [false] h_together hr (by decide) lk_are_weights_together (av_cons (ev_lc [("at", 7), ("weight", 6)] rfl sc_are_weights.nd (sv_enum lk_are_weights_enumerate T.b_enumerate (av_cons (ev_nm (i := 3) rfl (.inl lk_are_weights_thing) nd_thing ncd_thing) av_nil (star_cons rfl)) rfl) (blkOk_by (N := N_are_weights) (sc := C8.fnScope s_are_weights) (by decide +kernel)) (fun _ _ _ _ _ => (pg_tup rfl (pgs_cons (pg_name (i := 7) sc_are_weights.nd rfl (.inl (bl_loc (by decide +kernel))) (.inr (bl_loc (by decide +kernel)))) (pgs_cons (pg_name (i := 6) sc_are_weights.nd rfl (.inl (bl_loc (by decide +kernel))) (.inr (bl_loc (by decide +kernel)))) pgs_nil)))) (fun _ _ _ _ _ => tvs_nil) (fun _ _ _ _ _ => (ev_cl [false, false] h_times hr (by decide) (bl_gl (by decide +kernel)) (av_cons (ev_tup (av_cons (ev_cl [false] h_pairs_of hr (by decide) (bl_gl (by decide +kernel)) (av_cons (ev_bin (ev_nm (i := 7) rfl (bl_vis (by decide +kernel)) nd_at ncd_at) ec_int) av_nil (star_cons rfl)) nd_pairs_of rfl) (av_cons ec_int av_nil (star_cons rfl)) (star_cons rfl))) (av_cons (ev_nm (i := 6) rfl (bl_vis (by decide +kernel)) nd_weight ncd_weight) av_nil (star_cons rfl)) (star_cons rfl)) nd_times rfl)) rfl) av_nil (star_cons rfl)) nd_together rfl) rfl rfl (.inl rfl))
 (st_cons (st_ret (ev_and (ev_cmp hr.units (ev_nm (i := 4) rfl (.inl lk_are_weights_near) nd_near ncd_near) (ev_tup (av_cons (ev_nm (i := 1) rfl (.inl lk_are_weights_first) nd_first ncd_first) (av_cons ec_int av_nil (star_cons rfl)) (star_cons rfl))) rfl) (ev_one (ev_cmp hr.units (ev_nm (i := 5) rfl (.inl lk_are_weights_far) nd_far ncd_far) (ev_tup (av_cons (ev_nm (i := 2) rfl (.inl lk_are_weights_second) nd_second ncd_second) (av_cons ec_int av_nil (star_cons rfl)) (star_cons rfl))) rfl))))
 st_nil)))))
end G
set_option maxHeartbeats 4000000
namespace G
open PySem PySem.Spec PyProof.Rows L2 RF
variable {P : Program} {w : World} {K : PySem.W.Frag} {mg : Str → Option Value} {base : Heap}
theorem ok_is_under {f : Addr} {fd : FuncData} (T : Tx mg) (D : C8.Def K mg "is_under" s_is_under f fd) (b : L2.Binds K fd P_is_under []) : Cl P w K mg base 1 "is_under" 2 c_is_under := Cl.none D b rfl
end G
set_option maxHeartbeats 4000000
namespace G
open PySem PySem.Spec PyProof.Rows L2 RF
variable {P : Program} {w : World} {K : PySem.W.Frag} {mg : Str → Option Value} {base : Heap}
theorem sc_shows_total : FnScope N_shows_total P_shows_total (C8.fnScope s_shows_total) := C8.fnScope_by (by decide +kernel)
theorem lk_shows_total_GREATEST : (C8.fnScope s_shows_total).names.lookup ("GREATEST" : Str) = some .globalImplicit := by decide +kernel
theorem lk_shows_total_LEAST : (C8.fnScope s_shows_total).names.lookup ("LEAST" : Str) = some .globalImplicit := by decide +kernel
theorem lk_shows_total_PAPER_SIZE : (C8.fnScope s_shows_total).names.lookup ("PAPER_SIZE" : Str) = some .globalImplicit := by decide +kernel
theorem lk_shows_total_all : (C8.fnScope s_shows_total).names.lookup ("all" : Str) = some .globalImplicit := by decide +kernel
theorem lk_shows_total_are_weights : (C8.fnScope s_shows_total).names.lookup ("are_weights" : Str) = some .globalImplicit := by decide +kernel
theorem lk_shows_total_first : (C8.fnScope s_shows_total).names.lookup ("first" : Str) = some .local := by decide +kernel
theorem lk_shows_total_is_under : (C8.fnScope s_shows_total).names.lookup ("is_under" : Str) = some .globalImplicit := by decide +kernel
theorem lk_shows_total_isinstance : (C8.fnScope s_shows_total).names.lookup ("isinstance" : Str) = some .globalImplicit := by decide +kernel
theorem lk_shows_total_len : (C8.fnScope s_shows_total).names.lookup ("len" : Str) = some .globalImplicit := by decide +kernel
theorem lk_shows_total_list : (C8.fnScope s_shows_total).names.lookup ("list" : Str) = some .globalImplicit := by decide +kernel
theorem lk_shows_total_many : (C8.fnScope s_shows_total).names.lookup ("many" : Str) = some .local := by decide +kernel
theorem lk_shows_total_number : (C8.fnScope s_shows_total).names.lookup ("number" : Str) = some .local := by decide +kernel
theorem lk_shows_total_pairs_of : (C8.fnScope s_shows_total).names.lookup ("pairs_of" : Str) = some .globalImplicit := by decide +kernel
theorem lk_shows_total_plus : (C8.fnScope s_shows_total).names.lookup ("plus" : Str) = some .globalImplicit := by decide +kernel
theorem lk_shows_total_range : (C8.fnScope s_shows_total).names.lookup ("range" : Str) = some .globalImplicit := by decide +kernel
theorem lk_shows_total_second : (C8.fnScope s_shows_total).names.lookup ("second" : Str) = some .local := by decide +kernel
theorem lk_shows_total_str : (C8.fnScope s_shows_total).names.lookup ("str" : Str) = some .globalImplicit := by decide +kernel
theorem lk_shows_total_thing : (C8.fnScope s_shows_total).names.lookup ("thing" : Str) = some .local := by decide +kernel
theorem lk_shows_total_times : (C8.fnScope s_shows_total).names.lookup ("times" : Str) = some .globalImplicit := by decide +kernel
theorem lk_shows_total_together : (C8.fnScope s_shows_total).names.lookup ("together" : Str) = some .globalImplicit := by decide +kernel
theorem lk_shows_total_told : (C8.fnScope s_shows_total).names.lookup ("told" : Str) = some .local := by decide +kernel
theorem lk_shows_total_tuple : (C8.fnScope s_shows_total).names.lookup ("tuple" : Str) = some .globalImplicit := by decide +kernel
theorem lk_shows_total_worth : (C8.fnScope s_shows_total).names.lookup ("worth" : Str) = some .local := by decide +kernel
theorem lk_shows_total_x : (C8.fnScope s_shows_total).names.lookup ("x" : Str) = some .local := by decide +kernel
theorem lk_shows_total_y : (C8.fnScope s_shows_total).names.lookup ("y" : Str) = some .local := by decide +kernel
theorem ok_shows_total {f : Addr} {fd : FuncData} (T : Tx mg) (D : C8.Def K mg "shows_total" s_shows_total f fd) (b : L2.Binds K fd P_shows_total [])
    (h_together : Cl P w K mg base 1 "together" 1 c_together)
    (h_plus : Cl P w K mg base 1 "plus" 2 c_plus)
    (h_times : Cl P w K mg base 1 "times" 2 c_times)
    (h_is_fraction : Cl P w K mg base 2 "is_fraction" 1 c_is_fraction)
    (h_pairs_of : Cl P w K mg base 1 "pairs_of" 1 c_pairs_of)
    (h_are_weights : Cl P w K mg base 3 "are_weights" 4 c_are_weights)
    (h_is_under : Cl P w K mg base 1 "is_under" 2 c_is_under) : Cl P w K mg base 4 "shows_total" 5 c_shows_total :=
  cl_rf F_shows_total D b sc_shows_total rfl rfl fun cdv A outer s H E hr =>
 (st_cons (st_if (PW.pt (tv_or (tv_not (tv_val (ev_bi .isinst rfl lk_shows_total_isinstance T.b_isinstance bb_isinstance (av_cons (ev_nm (i := 4) rfl (.inl lk_shows_total_thing) nd_thing ncd_thing) (av_cons (ec_ty lk_shows_total_tuple T.b_tuple bt_tuple nn_tuple nd_tuple) av_nil (star_cons rfl)) (star_cons rfl)) nn_isinstance nd_isinstance rfl) (fun _ => rfl))) (tv_or (tv_cmp hr.units (ev_bi .len rfl lk_shows_total_len T.b_len bb_len (av_cons (ev_nm (i := 4) rfl (.inl lk_shows_total_thing) nd_thing ncd_thing) av_nil (star_cons rfl)) nn_len nd_len rfl) (ec_gint lk_shows_total_PAPER_SIZE T.c_PAPER_SIZE nd_PAPER_SIZE) rfl) (tv_or (tv_not (tv_val (ev_bi .isinst rfl lk_shows_total_isinstance T.b_isinstance bb_isinstance (av_cons (ev_ix (ev_nm (i := 4) rfl (.inl lk_shows_total_thing) nd_thing ncd_thing) ec_int (fun _ _ => rfl)) (av_cons (ec_ty lk_shows_total_str T.b_str bt_str nn_str nd_str) av_nil (star_cons rfl)) (star_cons rfl)) nn_isinstance nd_isinstance rfl) (fun _ => rfl))) (tv_or1 (tv_cmp hr.units (ev_ix (ev_nm (i := 4) rfl (.inl lk_shows_total_thing) nd_thing ncd_thing) ec_int (fun _ _ => rfl)) (ev_nm (i := 0) rfl (.inl lk_shows_total_told) nd_told ncd_told) rfl))))))
 (st_cons (st_ret ec_bl)
 st_nil)
 st_nil)
 (st_cons (st_if (PW.pt (tv_or (tv_not (tv_val (ev_cl [false, false, false, false] h_are_weights hr (by decide) lk_shows_total_are_weights (av_cons (ev_nm (i := 1) rfl (.inl lk_shows_total_many) nd_many ncd_many) (av_cons (ev_nm (i := 2) rfl (.inl lk_shows_total_first) nd_first ncd_first) (av_cons (ev_nm (i := 3) rfl (.inl lk_shows_total_second) nd_second ncd_second) (av_cons (ev_ix (ev_nm (i := 4) rfl (.inl lk_shows_total_thing) nd_thing ncd_thing) ec_int (fun _ _ => rfl)) av_nil (star_cons rfl)) (star_cons rfl)) (star_cons rfl)) (star_cons rfl)) nd_are_weights rfl) (fun _ => rfl))) (tv_or (tv_not (tv_val (ev_bi .isinst rfl lk_shows_total_isinstance T.b_isinstance bb_isinstance (av_cons (ev_ix (ev_nm (i := 4) rfl (.inl lk_shows_total_thing) nd_thing ncd_thing) ec_int (fun _ _ => rfl)) (av_cons (ec_ty lk_shows_total_tuple T.b_tuple bt_tuple nn_tuple nd_tuple) av_nil (star_cons rfl)) (star_cons rfl)) nn_isinstance nd_isinstance rfl) (fun _ => rfl))) (tv_or1 (tv_cmp hr.units (ev_bi .len rfl lk_shows_total_len T.b_len bb_len (av_cons (ev_ix (ev_nm (i := 4) rfl (.inl lk_shows_total_thing) nd_thing ncd_thing) ec_int (fun _ _ => rfl)) av_nil (star_cons rfl)) nn_len nd_len rfl) ec_int rfl)))))
 (st_cons (st_ret ec_bl)
 st_nil)
 st_nil)
 (st_cons (st_if (tv_not (tv_val (ev_bi .all rfl lk_shows_total_all T.b_all bb_all (av_cons (ev_lc [("one", 9)] rfl sc_shows_total.nd (sv_seq (ev_ix (ev_nm (i := 4) rfl (.inl lk_shows_total_thing) nd_thing ncd_thing) ec_int (fun _ _ => rfl))) (blkOk_by (N := N_shows_total) (sc := C8.fnScope s_shows_total) (by decide +kernel)) (fun _ _ _ _ _ => (pg_name (i := 9) sc_shows_total.nd rfl (.inl (bl_loc (by decide +kernel))) (.inr (bl_loc (by decide +kernel))))) (fun _ _ _ _ _ => tvs_nil) (fun _ _ _ _ _ => (ev_cl [false] h_is_fraction hr (by decide) (bl_gl (by decide +kernel)) (av_cons (ev_nm (i := 9) rfl (bl_vis (by decide +kernel)) nd_one ncd_one) av_nil (star_cons rfl)) nd_is_fraction rfl)) rfl) av_nil (star_cons rfl)) nn_all nd_all rfl) (fun _ => rfl)))
 (st_cons (st_ret ec_bl)
 st_nil)
 st_nil)
 (st_cons (st_tup (pg_tup rfl (pgs_cons (pg_name (i := 5) sc_shows_total.nd rfl (.inl lk_shows_total_x) (.inl rfl)) (pgs_cons (pg_name (i := 6) sc_shows_total.nd rfl (.inl lk_shows_total_y) (.inl rfl)) pgs_nil))) (ev_ix (ev_nm (i := 4) rfl (.inl lk_shows_total_thing) nd_thing ncd_thing) ec_int (fun _ _ => rfl)) rfl rfl)
 (st_cons (st_for PassesOwn.never rfl rfl (sv_rng2 lk_shows_total_range T.b_range ec_int (ev_bin (ev_nm (i := 1) rfl (.inl lk_shows_total_many) nd_many ncd_many) ec_int) rfl rfl) (pg_name (i := 7) sc_shows_total.nd rfl (.inl lk_shows_total_number) (.inl rfl))
 (st_cons (st_set (i := 8) sc_shows_total.nd rfl (.inl lk_shows_total_worth) (ev_cl [false, false] h_plus hr (by decide) lk_shows_total_plus (av_cons (ev_cl [false, false] h_times hr (by decide) lk_shows_total_times (av_cons (ev_tup (av_cons (ev_nm (i := 7) rfl (.inl lk_shows_total_number) nd_number ncd_number) (av_cons ec_int av_nil (star_cons rfl)) (star_cons rfl))) (av_cons (ev_nm (i := 5) rfl (.inl lk_shows_total_x) nd_x ncd_x) av_nil (star_cons rfl)) (star_cons rfl)) nd_times rfl) (av_cons (ev_cl [false, false] h_times hr (by decide) lk_shows_total_times (av_cons (ev_tup (av_cons (ev_cl [false] h_pairs_of hr (by decide) lk_shows_total_pairs_of (av_cons (ev_nm (i := 7) rfl (.inl lk_shows_total_number) nd_number ncd_number) av_nil (star_cons rfl)) nd_pairs_of rfl) (av_cons ec_int av_nil (star_cons rfl)) (star_cons rfl))) (av_cons (ev_nm (i := 6) rfl (.inl lk_shows_total_y) nd_y ncd_y) av_nil (star_cons rfl)) (star_cons rfl)) nd_times rfl) av_nil (star_cons rfl)) (star_cons rfl)) nd_plus rfl) rfl rfl (.inl rfl))
 (st_cons (st_if (PW.pt (tv_or (PW.pt (tv_and (tv_cmp hr.units (ev_nm (i := 0) rfl (.inl lk_shows_total_told) nd_told ncd_told) (ec_gstr lk_shows_total_LEAST T.c_LEAST nd_LEAST) rfl) (tv_and1 (tv_val (ev_cl [false, false] h_is_under hr (by decide) lk_shows_total_is_under (av_cons (ev_tup (av_cons ec_int (av_cons ec_int av_nil (star_cons rfl)) (star_cons rfl))) (av_cons (ev_nm (i := 8) rfl (.inl lk_shows_total_worth) nd_worth ncd_worth) av_nil (star_cons rfl)) (star_cons rfl)) nd_is_under rfl) (fun _ => rfl))))) (tv_or1 (PW.pt (tv_and (tv_cmp hr.units (ev_nm (i := 0) rfl (.inl lk_shows_total_told) nd_told ncd_told) (ec_gstr lk_shows_total_GREATEST T.c_GREATEST nd_GREATEST) rfl) (tv_and1 (tv_val (ev_cl [false, false] h_is_under hr (by decide) lk_shows_total_is_under (av_cons (ev_nm (i := 8) rfl (.inl lk_shows_total_worth) nd_worth ncd_worth) (av_cons (ev_tup (av_cons ec_int (av_cons ec_int av_nil (star_cons rfl)) (star_cons rfl))) av_nil (star_cons rfl)) (star_cons rfl)) nd_is_under rfl) (fun _ => rfl))))))))
 (st_cons (st_ret ec_bl)
 st_nil)
 st_nil)
 st_nil)))
 (st_cons (st_ret (ev_cmp hr.units (ev_cl [false, false] h_plus hr (by decide) lk_shows_total_plus (av_cons (ev_cl [false, false] h_times hr (by decide) lk_shows_total_times (av_cons (ev_tup (av_cons (ev_nm (i := 2) rfl (.inl lk_shows_total_first) nd_first ncd_first) (av_cons ec_int av_nil (star_cons rfl)) (star_cons rfl))) (av_cons (ev_nm (i := 5) rfl (.inl lk_shows_total_x) nd_x ncd_x) av_nil (star_cons rfl)) (star_cons rfl)) nd_times rfl) (av_cons (ev_cl [false, false] h_times hr (by decide) lk_shows_total_times (av_cons (ev_tup (av_cons (ev_nm (i := 3) rfl (.inl lk_shows_total_second) nd_second ncd_second) (av_cons ec_int av_nil (star_cons rfl)) (star_cons rfl))) (av_cons (ev_nm (i := 6) rfl (.inl lk_shows_total_y) nd_y ncd_y) av_nil (star_cons rfl)) (star_cons rfl)) nd_times rfl) av_nil (star_cons rfl)) (star_cons rfl)) nd_plus rfl) (ev_cl [false] h_together hr (by decide) lk_shows_total_together (av_cons (ev_bi .list rfl lk_shows_total_list T.b_list bb_list (av_cons (ev_ix (ev_nm (i := 4) rfl (.inl lk_shows_total_thing) nd_thing ncd_thing) ec_int (fun _ _ => rfl)) av_nil (star_cons rfl)) nn_list nd_list rfl) av_nil (star_cons rfl)) nd_together rfl) rfl))
 st_nil))))))
end G
set_option maxHeartbeats 4000000
namespace G
open PySem PySem.Spec PyProof.Rows L2 RF
variable {P : Program} {w : World} {K : PySem.W.Frag} {mg : Str → Option Value} {base : Heap}
theorem sc_is_least_paper : FnScope N_is_least_paper P_is_least_paper (C8.fnScope s_is_least_paper) := C8.fnScope_by (by decide +kernel)
theorem lk_is_least_paper_LEAST : (C8.fnScope s_is_least_paper).names.lookup ("LEAST" : Str) = some .globalImplicit := by decide +kernel
theorem lk_is_least_paper_first : (C8.fnScope s_is_least_paper).names.lookup ("first" : Str) = some .local := by decide +kernel
theorem lk_is_least_paper_many : (C8.fnScope s_is_least_paper).names.lookup ("many" : Str) = some .local := by decide +kernel
theorem lk_is_least_paper_need_numbers : (C8.fnScope s_is_least_paper).names.lookup ("need_numbers" : Str) = some .globalImplicit := by decide +kernel
theorem lk_is_least_paper_second : (C8.fnScope s_is_least_paper).names.lookup ("second" : Str) = some .local := by decide +kernel
theorem lk_is_least_paper_shows_total : (C8.fnScope s_is_least_paper).names.lookup ("shows_total" : Str) = some .globalImplicit := by decide +kernel
theorem lk_is_least_paper_value : (C8.fnScope s_is_least_paper).names.lookup ("value" : Str) = some .local := by decide +kernel
theorem ok_is_least_paper {f : Addr} {fd : FuncData} (T : Tx mg) (TK : Tk K mg) (D : C8.Def K mg "is_least_paper" s_is_least_paper f fd) (b : L2.Binds K fd P_is_least_paper [])
    (h_need_numbers : ClX P w K mg base 3 "need_numbers" 3 c_need_numbers)
    (h_shows_total : Cl P w K mg base 4 "shows_total" 5 c_shows_total) : ClX P w K mg base 5 "is_least_paper" 4 c_is_least_paper :=
  clx_rf F_is_least_paper D b sc_is_least_paper rfl rfl fun W cdv A outer s H E tk hr =>
 (sx_cons (sx_drop (ex_call [false, false, false] h_need_numbers tk hr (by decide) lk_is_least_paper_need_numbers (av_cons (ev_nm (i := 0) rfl (.inl lk_is_least_paper_many) nd_many ncd_many) (av_cons (ev_nm (i := 1) rfl (.inl lk_is_least_paper_first) nd_first ncd_first) (av_cons (ev_nm (i := 2) rfl (.inl lk_is_least_paper_second) nd_second ncd_second) av_nil (star_cons rfl)) (star_cons rfl)) (star_cons rfl)) nd_need_numbers rfl) rfl)
 (sx_cons (sx_up (st_ret (ev_cl [false, false, false, false, false] h_shows_total hr (by decide) lk_is_least_paper_shows_total (av_cons (ec_gstr lk_is_least_paper_LEAST T.c_LEAST nd_LEAST) (av_cons (ev_nm (i := 0) rfl (.inl lk_is_least_paper_many) nd_many ncd_many) (av_cons (ev_nm (i := 1) rfl (.inl lk_is_least_paper_first) nd_first ncd_first) (av_cons (ev_nm (i := 2) rfl (.inl lk_is_least_paper_second) nd_second ncd_second) (av_cons (ev_nm (i := 3) rfl (.inl lk_is_least_paper_value) nd_value ncd_value) av_nil (star_cons rfl)) (star_cons rfl)) (star_cons rfl)) (star_cons rfl)) (star_cons rfl)) nd_shows_total rfl)))
 (sx_ups st_nil)))
end G
set_option maxHeartbeats 4000000
namespace G
open PySem PySem.Spec PyProof.Rows L2 RF
variable {P : Program} {w : World} {K : PySem.W.Frag} {mg : Str → Option Value} {base : Heap}
theorem sc_is_greatest_paper : FnScope N_is_greatest_paper P_is_greatest_paper (C8.fnScope s_is_greatest_paper) := C8.fnScope_by (by decide +kernel)
theorem lk_is_greatest_paper_GREATEST : (C8.fnScope s_is_greatest_paper).names.lookup ("GREATEST" : Str) = some .globalImplicit := by decide +kernel
theorem lk_is_greatest_paper_first : (C8.fnScope s_is_greatest_paper).names.lookup ("first" : Str) = some .local := by decide +kernel
theorem lk_is_greatest_paper_many : (C8.fnScope s_is_greatest_paper).names.lookup ("many" : Str) = some .local := by decide +kernel
theorem lk_is_greatest_paper_need_numbers : (C8.fnScope s_is_greatest_paper).names.lookup ("need_numbers" : Str) = some .globalImplicit := by decide +kernel
theorem lk_is_greatest_paper_second : (C8.fnScope s_is_greatest_paper).names.lookup ("second" : Str) = some .local := by decide +kernel
theorem lk_is_greatest_paper_shows_total : (C8.fnScope s_is_greatest_paper).names.lookup ("shows_total" : Str) = some .globalImplicit := by decide +kernel
theorem lk_is_greatest_paper_value : (C8.fnScope s_is_greatest_paper).names.lookup ("value" : Str) = some .local := by decide +kernel
theorem ok_is_greatest_paper {f : Addr} {fd : FuncData} (T : Tx mg) (TK : Tk K mg) (D : C8.Def K mg "is_greatest_paper" s_is_greatest_paper f fd) (b : L2.Binds K fd P_is_greatest_paper [])
    (h_need_numbers : ClX P w K mg base 3 "need_numbers" 3 c_need_numbers)
    (h_shows_total : Cl P w K mg base 4 "shows_total" 5 c_shows_total) : ClX P w K mg base 5 "is_greatest_paper" 4 c_is_greatest_paper :=
  clx_rf F_is_greatest_paper D b sc_is_greatest_paper rfl rfl fun W cdv A outer s H E tk hr =>
 (sx_cons (sx_drop (ex_call [false, false, false] h_need_numbers tk hr (by decide) lk_is_greatest_paper_need_numbers (av_cons (ev_nm (i := 0) rfl (.inl lk_is_greatest_paper_many) nd_many ncd_many) (av_cons (ev_nm (i := 1) rfl (.inl lk_is_greatest_paper_first) nd_first ncd_first) (av_cons (ev_nm (i := 2) rfl (.inl lk_is_greatest_paper_second) nd_second ncd_second) av_nil (star_cons rfl)) (star_cons rfl)) (star_cons rfl)) nd_need_numbers rfl) rfl)
 (sx_cons (sx_up (st_ret (ev_cl [false, false, false, false, false] h_shows_total hr (by decide) lk_is_greatest_paper_shows_total (av_cons (ec_gstr lk_is_greatest_paper_GREATEST T.c_GREATEST nd_GREATEST) (av_cons (ev_nm (i := 0) rfl (.inl lk_is_greatest_paper_many) nd_many ncd_many) (av_cons (ev_nm (i := 1) rfl (.inl lk_is_greatest_paper_first) nd_first ncd_first) (av_cons (ev_nm (i := 2) rfl (.inl lk_is_greatest_paper_second) nd_second ncd_second) (av_cons (ev_nm (i := 3) rfl (.inl lk_is_greatest_paper_value) nd_value ncd_value) av_nil (star_cons rfl)) (star_cons rfl)) (star_cons rfl)) (star_cons rfl)) (star_cons rfl)) nd_shows_total rfl)))
 (sx_ups st_nil)))
end G
set_option maxHeartbeats 4000000
namespace G
open PySem PySem.Spec PyProof.Rows L2 RF
variable {P : Program} {w : World} {K : PySem.W.Frag} {mg : Str → Option Value} {base : Heap}
theorem sc__law_met : FnScope N__law_met P__law_met (C8.fnScope s__law_met) := C8.fnScope_by (by decide +kernel)
theorem lk__law_met_NoNumber : (C8.fnScope s__law_met).names.lookup ("NoNumber" : Str) = some .globalImplicit := by decide +kernel
theorem lk__law_met_NoTable : (C8.fnScope s__law_met).names.lookup ("NoTable" : Str) = some .globalImplicit := by decide +kernel
theorem lk__law_met_TooMany : (C8.fnScope s__law_met).names.lookup ("TooMany" : Str) = some .globalImplicit := by decide +kernel
theorem lk__law_met_call : (C8.fnScope s__law_met).names.lookup ("call" : Str) = some .local := by decide +kernel
theorem lk__law_met_error : (C8.fnScope s__law_met).names.lookup ("error" : Str) = some .local := by decide +kernel
theorem lk__law_met_repr : (C8.fnScope s__law_met).names.lookup ("repr" : Str) = some .globalImplicit := by decide +kernel
theorem ok__law_met {f : Addr} {fd : FuncData} (T : Tx mg) (TK : Tk K mg) (D : C8.Def K mg "_law_met" s__law_met f fd) (b : L2.Binds K fd P__law_met []) : HGClX P w K mg base (fun kl => kl + 1) "_law_met" 1 0 (fun g F caps led => c__law_met g F caps led) :=
  hgclx_rf (lev := fun kl => kl) (fun g F caps led => F__law_met g F caps led) D b sc__law_met rfl rfl fun kl led g F caps cdv A outer s H E hg hclo hr =>
 (st_cons (st_try2 (i := 1) ⟨rfl, rfl, rfl⟩ sc__law_met.nd ⟨lk__law_met_NoTable, nd_NoTable, .inl TK.gx_NoTable⟩ ⟨lk__law_met_NoNumber, nd_NoNumber, .inl TK.gx_NoNumber⟩ rfl lk__law_met_error TK.em_NoTable TK.en_NoNumber_NoTable TK.em_NoNumber (fun W pn xe tk => sx_cons (sx_ret (ex_told (i := 0) hclo ⟨rfl, rfl, rfl⟩ tk hr (Nat.le_refl _) rfl (.inl lk__law_met_call) nd_call ncd_call ec_str)) (sx_ups st_nil)) (fun a pn => st_cons (st_ret (ev_tup (av_cons ec_str (av_cons ec_str av_nil (star_cons rfl)) (star_cons rfl)))) st_nil) (suite_payR hg hr.units TK.xf_NoNumber TK.no_NoNumber rfl (.inl lk__law_met_error) nd_error ncd_error lk__law_met_repr T.b_repr (fun _ _ _ => rfl)) (mix_as (i := 1) ⟨lk__law_met_TooMany, nd_TooMany, .inl TK.gx_TooMany⟩ rfl lk__law_met_error Mix.nil)) st_nil)
end G
set_option maxHeartbeats 4000000
namespace G
open PySem PySem.Spec PyProof.Rows L2 RF
variable {P : Program} {w : World} {K : PySem.W.Frag} {mg : Str → Option Value} {base : Heap}
theorem sc_shows_sums : FnScope N_shows_sums P_shows_sums (C8.fnScope s_shows_sums) := C8.fnScope_by (by decide +kernel)
theorem lk_shows_sums_LACK : (C8.fnScope s_shows_sums).names.lookup ("LACK" : Str) = some .globalImplicit := by decide +kernel
theorem lk_shows_sums_SETS : (C8.fnScope s_shows_sums).names.lookup ("SETS" : Str) = some .globalImplicit := by decide +kernel
theorem lk_shows_sums_are_sets : (C8.fnScope s_shows_sums).names.lookup ("are_sets" : Str) = some .globalImplicit := by decide +kernel
theorem lk_shows_sums_counts_by : (C8.fnScope s_shows_sums).names.lookup ("counts_by" : Str) = some .globalImplicit := by decide +kernel
theorem lk_shows_sums_counts_in : (C8.fnScope s_shows_sums).names.lookup ("counts_in" : Str) = some .globalImplicit := by decide +kernel
theorem lk_shows_sums_is_whole : (C8.fnScope s_shows_sums).names.lookup ("is_whole" : Str) = some .globalImplicit := by decide +kernel
theorem lk_shows_sums_isinstance : (C8.fnScope s_shows_sums).names.lookup ("isinstance" : Str) = some .globalImplicit := by decide +kernel
theorem lk_shows_sums_len : (C8.fnScope s_shows_sums).names.lookup ("len" : Str) = some .globalImplicit := by decide +kernel
theorem lk_shows_sums_str : (C8.fnScope s_shows_sums).names.lookup ("str" : Str) = some .globalImplicit := by decide +kernel
theorem lk_shows_sums_sums : (C8.fnScope s_shows_sums).names.lookup ("sums" : Str) = some .local := by decide +kernel
theorem lk_shows_sums_thing : (C8.fnScope s_shows_sums).names.lookup ("thing" : Str) = some .local := by decide +kernel
theorem lk_shows_sums_tuple : (C8.fnScope s_shows_sums).names.lookup ("tuple" : Str) = some .globalImplicit := by decide +kernel
theorem ok_shows_sums {f : Addr} {fd : FuncData} (T : Tx mg) (D : C8.Def K mg "shows_sums" s_shows_sums f fd) (b : L2.Binds K fd P_shows_sums [])
    (h_is_whole : IsW P w K mg base)
    (h_are_sets : Cl P w K mg base 2 "are_sets" 2 c_are_sets)
    (h_counts_by : Cl P w K mg base 1 "counts_by" 2 c_counts_by)
    (h_counts_in : Cl P w K mg base 1 "counts_in" 1 c_counts_in) : Cl P w K mg base 3 "shows_sums" 2 c_shows_sums :=
  cl_rf F_shows_sums D b sc_shows_sums rfl rfl fun cdv A outer s H E hr =>
 (st_cons (st_if (PW.pt (tv_or (tv_not (tv_val (ev_bi .isinst rfl lk_shows_sums_isinstance T.b_isinstance bb_isinstance (av_cons (ev_nm (i := 1) rfl (.inl lk_shows_sums_thing) nd_thing ncd_thing) (av_cons (ec_ty lk_shows_sums_tuple T.b_tuple bt_tuple nn_tuple nd_tuple) av_nil (star_cons rfl)) (star_cons rfl)) nn_isinstance nd_isinstance rfl) (fun _ => rfl))) (tv_or (tv_cmp hr.units (ev_bi .len rfl lk_shows_sums_len T.b_len bb_len (av_cons (ev_nm (i := 1) rfl (.inl lk_shows_sums_thing) nd_thing ncd_thing) av_nil (star_cons rfl)) nn_len nd_len rfl) ec_int rfl) (tv_or1 (tv_not (tv_val (ev_bi .isinst rfl lk_shows_sums_isinstance T.b_isinstance bb_isinstance (av_cons (ev_ix (ev_nm (i := 1) rfl (.inl lk_shows_sums_thing) nd_thing ncd_thing) ec_int (fun _ _ => rfl)) (av_cons (ec_ty lk_shows_sums_str T.b_str bt_str nn_str nd_str) av_nil (star_cons rfl)) (star_cons rfl)) nn_isinstance nd_isinstance rfl) (fun _ => rfl)))))))
 (st_cons (st_ret ec_bl)
 st_nil)
 st_nil)
 (st_cons (st_if (tv_cmp hr.units (ev_ix (ev_nm (i := 1) rfl (.inl lk_shows_sums_thing) nd_thing ncd_thing) ec_int (fun _ _ => rfl)) (ec_gstr lk_shows_sums_LACK T.c_LACK nd_LACK) rfl)
 (st_cons (st_ret (ev_and (ev_clk (ks := ["least", "most"]) [false, false, false] h_is_whole.w2 hr (by decide) lk_shows_sums_is_whole (av_cons (ev_ix (ev_nm (i := 1) rfl (.inl lk_shows_sums_thing) nd_thing ncd_thing) ec_int (fun _ _ => rfl)) av_nil (star_cons rfl)) (ak_cons ec_int (ak_cons (ev_bin (ev_bi .len rfl lk_shows_sums_len T.b_len bb_len (av_cons (ev_nm (i := 0) rfl (.inl lk_shows_sums_sums) nd_sums ncd_sums) av_nil (star_cons rfl)) nn_len nd_len rfl) ec_int) ak_nil)) rfl rfl nd_is_whole rfl rfl) (ev_one (ev_cmp hr.units (ev_ix (ev_cl [false] h_counts_in hr (by decide) lk_shows_sums_counts_in (av_cons (ev_nm (i := 0) rfl (.inl lk_shows_sums_sums) nd_sums ncd_sums) av_nil (star_cons rfl)) nd_counts_in rfl) (ev_ix (ev_nm (i := 1) rfl (.inl lk_shows_sums_thing) nd_thing ncd_thing) ec_int (fun _ _ => rfl)) (fun _ _ => rfl)) ec_int rfl))))
 st_nil)
 st_nil)
 (st_cons (st_if (PW.pt (tv_or (tv_cmp hr.units (ev_ix (ev_nm (i := 1) rfl (.inl lk_shows_sums_thing) nd_thing ncd_thing) ec_int (fun _ _ => rfl)) (ec_gstr lk_shows_sums_SETS T.c_SETS nd_SETS) rfl) (tv_or (tv_not (tv_val (ev_cl [false, false] h_are_sets hr (by decide) lk_shows_sums_are_sets (av_cons (ev_ix (ev_nm (i := 0) rfl (.inl lk_shows_sums_sums) nd_sums ncd_sums) ec_int (fun _ _ => rfl)) (av_cons (ev_ix (ev_nm (i := 1) rfl (.inl lk_shows_sums_thing) nd_thing ncd_thing) ec_int (fun _ _ => rfl)) av_nil (star_cons rfl)) (star_cons rfl)) nd_are_sets rfl) (fun _ => rfl))) (tv_or1 (tv_cmp hr.units (ev_bi .len rfl lk_shows_sums_len T.b_len bb_len (av_cons (ev_ix (ev_nm (i := 1) rfl (.inl lk_shows_sums_thing) nd_thing ncd_thing) ec_int (fun _ _ => rfl)) av_nil (star_cons rfl)) nn_len nd_len rfl) (ev_bin (ev_bi .len rfl lk_shows_sums_len T.b_len bb_len (av_cons (ev_nm (i := 0) rfl (.inl lk_shows_sums_sums) nd_sums ncd_sums) av_nil (star_cons rfl)) nn_len nd_len rfl) ec_int) rfl)))))
 (st_cons (st_ret ec_bl)
 st_nil)
 st_nil)
 (st_cons (st_ret (ev_cmp hr.units (ev_cl [false, false] h_counts_by hr (by decide) lk_shows_sums_counts_by (av_cons (ev_ix (ev_nm (i := 0) rfl (.inl lk_shows_sums_sums) nd_sums ncd_sums) ec_int (fun _ _ => rfl)) (av_cons (ev_ix (ev_nm (i := 1) rfl (.inl lk_shows_sums_thing) nd_thing ncd_thing) ec_int (fun _ _ => rfl)) av_nil (star_cons rfl)) (star_cons rfl)) nd_counts_by rfl) (ev_cl [false] h_counts_in hr (by decide) lk_shows_sums_counts_in (av_cons (ev_nm (i := 0) rfl (.inl lk_shows_sums_sums) nd_sums ncd_sums) av_nil (star_cons rfl)) nd_counts_in rfl) rfl))
 st_nil))))
end G
set_option maxHeartbeats 4000000
namespace G
open PySem PySem.Spec PyProof.Rows L2 RF
variable {P : Program} {w : World} {K : PySem.W.Frag} {mg : Str → Option Value} {base : Heap}
theorem sc_is_sums_paper : FnScope N_is_sums_paper P_is_sums_paper (C8.fnScope s_is_sums_paper) := C8.fnScope_by (by decide +kernel)
theorem lk_is_sums_paper_need_sums : (C8.fnScope s_is_sums_paper).names.lookup ("need_sums" : Str) = some .globalImplicit := by decide +kernel
theorem lk_is_sums_paper_need_things : (C8.fnScope s_is_sums_paper).names.lookup ("need_things" : Str) = some .globalImplicit := by decide +kernel
theorem lk_is_sums_paper_shows_sums : (C8.fnScope s_is_sums_paper).names.lookup ("shows_sums" : Str) = some .globalImplicit := by decide +kernel
theorem lk_is_sums_paper_sums : (C8.fnScope s_is_sums_paper).names.lookup ("sums" : Str) = some .local := by decide +kernel
theorem lk_is_sums_paper_value : (C8.fnScope s_is_sums_paper).names.lookup ("value" : Str) = some .local := by decide +kernel
theorem ok_is_sums_paper {f : Addr} {fd : FuncData} (T : Tx mg) (TK : Tk K mg) (D : C8.Def K mg "is_sums_paper" s_is_sums_paper f fd) (b : L2.Binds K fd P_is_sums_paper [])
    (h_need_things : ClX P w K mg base 3 "need_things" 1 c_need_things)
    (h_need_sums : ClX P w K mg base 2 "need_sums" 1 c_need_sums)
    (h_shows_sums : Cl P w K mg base 3 "shows_sums" 2 c_shows_sums) : ClX P w K mg base 4 "is_sums_paper" 2 c_is_sums_paper :=
  clx_rf F_is_sums_paper D b sc_is_sums_paper rfl rfl fun W cdv A outer s H E tk hr =>
 (sx_cons (sx_drop (ex_call [false] h_need_sums tk hr (by decide) lk_is_sums_paper_need_sums (av_cons (ev_nm (i := 0) rfl (.inl lk_is_sums_paper_sums) nd_sums ncd_sums) av_nil (star_cons rfl)) nd_need_sums rfl) rfl)
 (sx_cons (sx_drop (ex_call [false] h_need_things tk hr (by decide) lk_is_sums_paper_need_things (av_cons (ev_ix (ev_nm (i := 0) rfl (.inl lk_is_sums_paper_sums) nd_sums ncd_sums) ec_int (fun _ _ => rfl)) av_nil (star_cons rfl)) nd_need_things rfl) rfl)
 (sx_cons (sx_up (st_ret (ev_cl [false, false] h_shows_sums hr (by decide) lk_is_sums_paper_shows_sums (av_cons (ev_nm (i := 0) rfl (.inl lk_is_sums_paper_sums) nd_sums ncd_sums) (av_cons (ev_nm (i := 1) rfl (.inl lk_is_sums_paper_value) nd_value ncd_value) av_nil (star_cons rfl)) (star_cons rfl)) nd_shows_sums rfl)))
 (sx_ups st_nil))))
end G
set_option maxHeartbeats 4000000
namespace G
open PySem PySem.Spec PyProof.Rows L2 RF
variable {P : Program} {w : World} {K : PySem.W.Frag} {mg : Str → Option Value} {base : Heap}
theorem sc__law_right : FnScope N__law_right P__law_right (C8.fnScope s__law_right) := C8.fnScope_by (by decide +kernel)
theorem lk__law_right__law_met : (C8.fnScope s__law_right).names.lookup ("_law_met" : Str) = some .globalImplicit := by decide +kernel
theorem lk__law_right__law_pick_of : (C8.fnScope s__law_right).names.lookup ("_law_pick_of" : Str) = some .globalImplicit := by decide +kernel
theorem lk__law_right_at_least : (C8.fnScope s__law_right).names.lookup ("at_least" : Str) = some .globalImplicit := by decide +kernel
theorem lk__law_right_call : (C8.fnScope s__law_right).names.lookup ("call" : Str) = some .cell := by decide +kernel
theorem lk__law_right_counts_of : (C8.fnScope s__law_right).names.lookup ("counts_of" : Str) = some .globalImplicit := by decide +kernel
theorem lk__law_right_crock : (C8.fnScope s__law_right).names.lookup ("crock" : Str) = some .local := by decide +kernel
theorem lk__law_right_due : (C8.fnScope s__law_right).names.lookup ("due" : Str) = some .local := by decide +kernel
theorem lk__law_right_ended : (C8.fnScope s__law_right).names.lookup ("ended" : Str) = some .globalImplicit := by decide +kernel
theorem lk__law_right_greatest_paper : (C8.fnScope s__law_right).names.lookup ("greatest_paper" : Str) = some .globalImplicit := by decide +kernel
theorem lk__law_right_greatest_total : (C8.fnScope s__law_right).names.lookup ("greatest_total" : Str) = some .globalImplicit := by decide +kernel
theorem lk__law_right_is_greatest_paper : (C8.fnScope s__law_right).names.lookup ("is_greatest_paper" : Str) = some .globalImplicit := by decide +kernel
theorem lk__law_right_is_least_paper : (C8.fnScope s__law_right).names.lookup ("is_least_paper" : Str) = some .globalImplicit := by decide +kernel
theorem lk__law_right_is_sums_paper : (C8.fnScope s__law_right).names.lookup ("is_sums_paper" : Str) = some .globalImplicit := by decide +kernel
theorem lk__law_right_just_counts : (C8.fnScope s__law_right).names.lookup ("just_counts" : Str) = some .globalImplicit := by decide +kernel
theorem lk__law_right_least_paper : (C8.fnScope s__law_right).names.lookup ("least_paper" : Str) = some .globalImplicit := by decide +kernel
theorem lk__law_right_least_total : (C8.fnScope s__law_right).names.lookup ("least_total" : Str) = some .globalImplicit := by decide +kernel
theorem lk__law_right_many : (C8.fnScope s__law_right).names.lookup ("many" : Str) = some .cell := by decide +kernel
theorem lk__law_right_meet_sums : (C8.fnScope s__law_right).names.lookup ("meet_sums" : Str) = some .globalImplicit := by decide +kernel
theorem lk__law_right_odd : (C8.fnScope s__law_right).names.lookup ("odd" : Str) = some .cell := by decide +kernel
theorem lk__law_right_repr : (C8.fnScope s__law_right).names.lookup ("repr" : Str) = some .globalImplicit := by decide +kernel
theorem lk__law_right_sets : (C8.fnScope s__law_right).names.lookup ("sets" : Str) = some .cell := by decide +kernel
theorem lk__law_right_sums : (C8.fnScope s__law_right).names.lookup ("sums" : Str) = some .cell := by decide +kernel
theorem lk__law_right_sums_of : (C8.fnScope s__law_right).names.lookup ("sums_of" : Str) = some .globalImplicit := by decide +kernel
theorem lk__law_right_sums_paper : (C8.fnScope s__law_right).names.lookup ("sums_paper" : Str) = some .globalImplicit := by decide +kernel
theorem lk__law_right_things : (C8.fnScope s__law_right).names.lookup ("things" : Str) = some .cell := by decide +kernel
theorem lk__law_right_told : (C8.fnScope s__law_right).names.lookup ("told" : Str) = some .local := by decide +kernel
theorem lk__law_right_value : (C8.fnScope s__law_right).names.lookup ("value" : Str) = some .local := by decide +kernel
theorem lk__law_right_values : (C8.fnScope s__law_right).names.lookup ("values" : Str) = some .local := by decide +kernel
theorem ok__law_right {fd : FuncData} (T : Tx mg) (TK : Tk K mg) (D : FdP K "_law_right" s__law_right (He.fAd K ("_law_right", none)) fd) (hm : mg "_law_right" = some (.ref (He.fAd K ("_law_right", none)))) (TB : LamX.TabB base mg (He.codeOf K ("_law_right", none)) (He.tabOf K (He.codeOf K ("_law_right", none)))) (b : L2.Binds K fd P__law_right [])
    (h_meet_sums : ClX P w K mg base 5 "meet_sums" 2 c_meet_sums)
    (h__law_pick_of : Cl P w K mg base 2 "_law_pick_of" 2 c__law_pick_of)
    (h_just_counts : ClX P w K mg base 5 "just_counts" 2 c_just_counts)
    (h_counts_of : ClX P w K mg base 3 "counts_of" 1 c_counts_of)
    (h_sums_of : ClX P w K mg base 3 "sums_of" 1 c_sums_of)
    (h_sums_paper : ClX P w K mg base 4 "sums_paper" 1 c_sums_paper)
    (h_ended : ClX P w K mg base 3 "ended" 2 c_ended)
    (h_at_least : ClX P w K mg base 3 "at_least" 2 c_at_least)
    (h_least_total : ClX P w K mg base 5 "least_total" 3 c_least_total)
    (h_greatest_total : ClX P w K mg base 5 "greatest_total" 3 c_greatest_total)
    (h_least_paper : ClX P w K mg base 5 "least_paper" 3 c_least_paper)
    (h_greatest_paper : ClX P w K mg base 5 "greatest_paper" 3 c_greatest_paper)
    (h_is_least_paper : ClX P w K mg base 5 "is_least_paper" 4 c_is_least_paper)
    (h_is_greatest_paper : ClX P w K mg base 5 "is_greatest_paper" 4 c_is_greatest_paper)
    (h__law_met : HGClX P w K mg base (fun kl => kl + 1) "_law_met" 1 0 (fun g F caps led => c__law_met g F caps led))
    (h_is_sums_paper : ClX P w K mg base 4 "is_sums_paper" 2 c_is_sums_paper)
    (hm_at_least : mg "at_least" = some (.ref (He.ga K "at_least")))
    (hm_counts_of : mg "counts_of" = some (.ref (He.ga K "counts_of")))
    (hm_ended : mg "ended" = some (.ref (He.ga K "ended")))
    (hm_greatest_paper : mg "greatest_paper" = some (.ref (He.ga K "greatest_paper")))
    (hm_greatest_total : mg "greatest_total" = some (.ref (He.ga K "greatest_total")))
    (hm_is_greatest_paper : mg "is_greatest_paper" = some (.ref (He.ga K "is_greatest_paper")))
    (hm_is_least_paper : mg "is_least_paper" = some (.ref (He.ga K "is_least_paper")))
    (hm_just_counts : mg "just_counts" = some (.ref (He.ga K "just_counts")))
    (hm_least_paper : mg "least_paper" = some (.ref (He.ga K "least_paper")))
    (hm_least_total : mg "least_total" = some (.ref (He.ga K "least_total")))
    (hm_meet_sums : mg "meet_sums" = some (.ref (He.ga K "meet_sums")))
    (hm_sums_of : mg "sums_of" = some (.ref (He.ga K "sums_of")))
    (hm_sums_paper : mg "sums_paper" = some (.ref (He.ga K "sums_paper")))
    (callG4 : ∀ (y : Str) (cf : CFX), List.lookup y ([("is_least_paper", c_is_least_paper), ("is_greatest_paper", c_is_greatest_paper)] : List (Str × CFX)) = some cf → ClX P w K mg base 5 y 4 cf ∧ mg y = some (.ref (He.ga K y)))
    (callG3 : ∀ (y : Str) (cf : CFX), List.lookup y ([("least_total", c_least_total), ("greatest_total", c_greatest_total), ("least_paper", c_least_paper), ("greatest_paper", c_greatest_paper)] : List (Str × CFX)) = some cf → ClX P w K mg base 5 y 3 cf ∧ mg y = some (.ref (He.ga K y)))
    (callG2 : ∀ (y : Str) (cf : CFX), List.lookup y ([("meet_sums", c_meet_sums), ("just_counts", c_just_counts), ("ended", c_ended), ("at_least", c_at_least)] : List (Str × CFX)) = some cf → ClX P w K mg base 5 y 2 cf ∧ mg y = some (.ref (He.ga K y)))
    (callG1 : ∀ (y : Str) (cf : CFX), List.lookup y ([("counts_of", c_counts_of), ("sums_of", c_sums_of), ("sums_paper", c_sums_paper)] : List (Str × CFX)) = some cf → ClX P w K mg base 4 y 1 cf ∧ mg y = some (.ref (He.ga K y))) : GCl P w K mg base 9 "_law_right" 1 c__law_right :=
  gcl_rfC F__law_right D hm b sc__law_right rfl rfl fun A outer s H E hg hr =>
 (st_cons (st_set (i := 1) sc__law_right.nd rfl (.inr lk__law_right_things) (ev_cl [true, false] h__law_pick_of hr (by decide) lk__law_right__law_pick_of (av_cons (ev_nm (i := 0) rfl (.inl lk__law_right_crock) nd_crock ncd_crock) (av_cons (ev_lst (av_cons ec_non (av_cons ec_int (av_cons (ev_neg ec_int) (av_cons ec_bl (av_cons ec_str (av_cons (ev_tup (av_cons ec_int av_nil (star_cons rfl))) (av_cons (ev_lst av_nil) (av_cons (ev_bin ec_int ec_int) av_nil (star_cons rfl)) (star_cons rfl)) (star_cons rfl)) (star_cons rfl)) (star_cons rfl)) (star_cons rfl)) (star_cons rfl)) (star_cons rfl))) av_nil (star_cons rfl)) (star_cons rfl)) nd__law_pick_of rfl) rfl rfl (.inl rfl))
 (st_cons (st_set (i := 2) sc__law_right.nd rfl (.inr lk__law_right_sets) (ev_lst (av_cons ec_non (av_cons (ev_tup av_nil) (av_cons ec_int (av_cons (ev_tup (av_cons (ev_tup (av_cons ec_int av_nil (star_cons rfl))) av_nil (star_cons rfl))) (av_cons (ev_tup (av_cons (ev_tup (av_cons (ev_neg ec_int) av_nil (star_cons rfl))) av_nil (star_cons rfl))) (av_cons (ev_tup (av_cons (ev_tup (av_cons ec_int (av_cons ec_int av_nil (star_cons rfl)) (star_cons rfl))) av_nil (star_cons rfl))) (av_cons (ev_tup (av_cons (ev_tup (av_cons ec_int (av_cons ec_int av_nil (star_cons rfl)) (star_cons rfl))) av_nil (star_cons rfl))) (av_cons (ev_tup (av_cons (ev_lst (av_cons ec_int av_nil (star_cons rfl))) av_nil (star_cons rfl))) (av_cons (ev_lst (av_cons (ev_tup (av_cons ec_int av_nil (star_cons rfl))) av_nil (star_cons rfl))) (av_cons (ev_tup (av_cons (ev_tup (av_cons ec_bl av_nil (star_cons rfl))) av_nil (star_cons rfl))) (av_cons (ev_tup (av_cons (ev_tup (av_cons ec_str av_nil (star_cons rfl))) av_nil (star_cons rfl))) av_nil (star_cons rfl)) (star_cons rfl)) (star_cons rfl)) (star_cons rfl)) (star_cons rfl)) (star_cons rfl)) (star_cons rfl)) (star_cons rfl)) (star_cons rfl)) (star_cons rfl)) (star_cons rfl))) rfl rfl (.inl rfl))
 (st_cons (st_set (i := 2) sc__law_right.nd rfl (.inr lk__law_right_sets) (ev_bin (ev_nm (i := 2) rfl (.inr (.inl lk__law_right_sets)) nd_sets ncd_sets) (ev_lst (av_cons (ev_bin (ev_tup (av_cons (ev_tup av_nil) av_nil (star_cons rfl))) ec_int) (av_cons ev_dictE (av_cons ec_str av_nil (star_cons rfl)) (star_cons rfl)) (star_cons rfl)))) rfl rfl (.inl rfl))
 (st_cons (st_set (i := 2) sc__law_right.nd rfl (.inr lk__law_right_sets) (ev_cl [true, false] h__law_pick_of hr (by decide) lk__law_right__law_pick_of (av_cons (ev_nm (i := 0) rfl (.inl lk__law_right_crock) nd_crock ncd_crock) (av_cons (ev_nm (i := 2) rfl (.inr (.inl lk__law_right_sets)) nd_sets ncd_sets) av_nil (star_cons rfl)) (star_cons rfl)) nd__law_pick_of rfl) rfl rfl (.inl rfl))
 (st_cons (st_set (i := 3) sc__law_right.nd rfl (.inr lk__law_right_sums) (ev_lst (av_cons ec_non (av_cons (ev_tup av_nil) (av_cons (ev_tup (av_cons ec_int av_nil (star_cons rfl))) (av_cons ec_int (av_cons (ev_bin (ev_tup (av_cons ec_int av_nil (star_cons rfl))) ec_int) (av_cons (ev_lst (av_cons ec_int (av_cons ec_int av_nil (star_cons rfl)) (star_cons rfl))) (av_cons (ev_tup (av_cons ec_bl (av_cons ec_int av_nil (star_cons rfl)) (star_cons rfl))) (av_cons (ev_tup (av_cons ec_int (av_cons ec_non av_nil (star_cons rfl)) (star_cons rfl))) (av_cons ec_str (av_cons ev_dictE (av_cons (ev_tup (av_cons (ev_bin ec_int ec_int) (av_cons ec_int av_nil (star_cons rfl)) (star_cons rfl))) (av_cons (ev_tup (av_cons ec_int (av_cons ec_str av_nil (star_cons rfl)) (star_cons rfl))) av_nil (star_cons rfl)) (star_cons rfl)) (star_cons rfl)) (star_cons rfl)) (star_cons rfl)) (star_cons rfl)) (star_cons rfl)) (star_cons rfl)) (star_cons rfl)) (star_cons rfl)) (star_cons rfl)) (star_cons rfl))) rfl rfl (.inl rfl))
 (st_cons (st_set (i := 3) sc__law_right.nd rfl (.inr lk__law_right_sums) (ev_cl [true, false] h__law_pick_of hr (by decide) lk__law_right__law_pick_of (av_cons (ev_nm (i := 0) rfl (.inl lk__law_right_crock) nd_crock ncd_crock) (av_cons (ev_nm (i := 3) rfl (.inr (.inl lk__law_right_sums)) nd_sums ncd_sums) av_nil (star_cons rfl)) (star_cons rfl)) nd__law_pick_of rfl) rfl rfl (.inl rfl))
 (st_cons (st_set (i := 4) sc__law_right.nd rfl (.inr lk__law_right_many) (ev_cl [true, false] h__law_pick_of hr (by decide) lk__law_right__law_pick_of (av_cons (ev_nm (i := 0) rfl (.inl lk__law_right_crock) nd_crock ncd_crock) (av_cons (ev_lst (av_cons ec_non (av_cons ec_int (av_cons ec_int (av_cons (ev_neg ec_int) (av_cons ec_bl (av_cons ec_str (av_cons (ev_tup (av_cons ec_int av_nil (star_cons rfl))) (av_cons (ev_lst av_nil) av_nil (star_cons rfl)) (star_cons rfl)) (star_cons rfl)) (star_cons rfl)) (star_cons rfl)) (star_cons rfl)) (star_cons rfl)) (star_cons rfl))) av_nil (star_cons rfl)) (star_cons rfl)) nd__law_pick_of rfl) rfl rfl (.inl rfl))
 (st_cons (st_set (i := 5) sc__law_right.nd rfl (.inr lk__law_right_odd) (ev_cl [true, false] h__law_pick_of hr (by decide) lk__law_right__law_pick_of (av_cons (ev_nm (i := 0) rfl (.inl lk__law_right_crock) nd_crock ncd_crock) (av_cons (ev_lst (av_cons ec_non (av_cons (ev_neg ec_int) (av_cons ec_bl (av_cons ec_str (av_cons (ev_tup (av_cons ec_int av_nil (star_cons rfl))) (av_cons (ev_lst av_nil) (av_cons (ev_bin ec_int ec_int) av_nil (star_cons rfl)) (star_cons rfl)) (star_cons rfl)) (star_cons rfl)) (star_cons rfl)) (star_cons rfl)) (star_cons rfl))) av_nil (star_cons rfl)) (star_cons rfl)) nd__law_pick_of rfl) rfl rfl (.inl rfl))
 (st_cons (st_par (i := 6) (j := 7) rfl sc__law_right.nd rfl rfl (by decide) lk__law_right_told lk__law_right_due (ev_lst av_nil) (ev_lst av_nil) rfl rfl (by rfl) rfl)
 (st_cons (st_for PassesOwn.never rfl rfl (sv_seq (ev_tup (av_cons (ev_glo lk__law_right_meet_sums hm_meet_sums nd_meet_sums) (av_cons (ev_glo lk__law_right_just_counts hm_just_counts nd_just_counts) av_nil (star_cons rfl)) (star_cons rfl)))) (pg_name (i := 8) sc__law_right.nd rfl (.inr lk__law_right_call) (.inl rfl))
 (st_cons (st_drop (ev_append (pe_var (i := 6) rfl (.inl lk__law_right_told) nd_told ncd_told) rfl (av_cons (ev_lam1G hg (N := ["call", "things", "sets"]) (ps := []) (fr := ["call", "things", "sets"]) (js := [8, 1, 2]) (k := 5) h__law_met ⟨TB, rfl, mem_tbC (q := "_law_right") (by decide +kernel), un_tbC (q := "_law_right") (by decide +kernel), rfl, NdefX.nscope_by (by decide +kernel), NdefX.ndef_free (sc := C8.fnScope s__law_right) (fr := ["call", "things", "sets"]) (by decide +kernel), NdefX.ndef_fr (sc := C8.fnScope s__law_right) (by decide +kernel), rfl, fun _ => rfl, fun _ _ _ _ _ us hl => match us, hl with | [], _ => rfl⟩ ⟨rfl, rfl, rfl⟩ (fun W cl c' ws g A outer s H E tk hr => (ex_callG (k := 5) (i := 0) (tbl := [("meet_sums", c_meet_sums), ("just_counts", c_just_counts), ("ended", c_ended), ("at_least", c_at_least)]) [false, false] callG2 tk hr (by decide) rfl (lam_fre (by decide +kernel)) (av_cons (ev_nm (i := 1) rfl (lam_fre (by decide +kernel)) nd_things ncd_things) (av_cons (ev_nm (i := 2) rfl (lam_fre (by decide +kernel)) nd_sets ncd_sets) av_nil (star_cons rfl)) (star_cons rfl)) nd_call ncd_call rfl)) hr (by decide) lk__law_right__law_met nd__law_met) av_nil (star_cons rfl)) rfl) rfl)
 (st_cons (st_drop (ev_append (pe_var (i := 6) rfl (.inl lk__law_right_told) nd_told ncd_told) rfl (av_cons (ev_lam1G hg (N := ["call", "sets"]) (ps := []) (fr := ["call", "sets"]) (js := [8, 2]) (k := 5) h__law_met ⟨TB, rfl, mem_tbC (q := "_law_right") (by decide +kernel), un_tbC (q := "_law_right") (by decide +kernel), rfl, NdefX.nscope_by (by decide +kernel), NdefX.ndef_free (sc := C8.fnScope s__law_right) (fr := ["call", "sets"]) (by decide +kernel), NdefX.ndef_fr (sc := C8.fnScope s__law_right) (by decide +kernel), rfl, fun _ => rfl, fun _ _ _ _ _ us hl => match us, hl with | [], _ => rfl⟩ ⟨rfl, rfl, rfl⟩ (fun W cl c' ws g A outer s H E tk hr => (ex_callG (k := 5) (i := 0) (tbl := [("meet_sums", c_meet_sums), ("just_counts", c_just_counts), ("ended", c_ended), ("at_least", c_at_least)]) [false, false] callG2 tk hr (by decide) rfl (lam_fre (by decide +kernel)) (av_cons ec_int (av_cons (ev_nm (i := 1) rfl (lam_fre (by decide +kernel)) nd_sets ncd_sets) av_nil (star_cons rfl)) (star_cons rfl)) nd_call ncd_call rfl)) hr (by decide) lk__law_right__law_met nd__law_met) av_nil (star_cons rfl)) rfl) rfl)
 (st_cons (st_set (i := 7) sc__law_right.nd rfl (.inl lk__law_right_due) (ev_bin (ev_nm (i := 7) rfl (.inl lk__law_right_due) nd_due ncd_due) (ev_lst (av_cons (ev_bin ec_str (ev_repr hg hr.units lk__law_right_repr T.b_repr (ev_nm (i := 1) rfl (.inr (.inl lk__law_right_things)) nd_things ncd_things) rfl)) (av_cons ec_str av_nil (star_cons rfl)) (star_cons rfl)))) rfl rfl (.inl rfl))
 st_nil))))
 (st_cons (st_for PassesOwn.never rfl rfl (sv_seq (ev_tup (av_cons (ev_glo lk__law_right_counts_of hm_counts_of nd_counts_of) (av_cons (ev_glo lk__law_right_sums_of hm_sums_of nd_sums_of) (av_cons (ev_glo lk__law_right_sums_paper hm_sums_paper nd_sums_paper) av_nil (star_cons rfl)) (star_cons rfl)) (star_cons rfl)))) (pg_name (i := 8) sc__law_right.nd rfl (.inr lk__law_right_call) (.inl rfl))
 (st_cons (st_drop (ev_append (pe_var (i := 6) rfl (.inl lk__law_right_told) nd_told ncd_told) rfl (av_cons (ev_lam1G hg (N := ["call", "sums"]) (ps := []) (fr := ["call", "sums"]) (js := [8, 3]) (k := 4) h__law_met ⟨TB, rfl, mem_tbC (q := "_law_right") (by decide +kernel), un_tbC (q := "_law_right") (by decide +kernel), rfl, NdefX.nscope_by (by decide +kernel), NdefX.ndef_free (sc := C8.fnScope s__law_right) (fr := ["call", "sums"]) (by decide +kernel), NdefX.ndef_fr (sc := C8.fnScope s__law_right) (by decide +kernel), rfl, fun _ => rfl, fun _ _ _ _ _ us hl => match us, hl with | [], _ => rfl⟩ ⟨rfl, rfl, rfl⟩ (fun W cl c' ws g A outer s H E tk hr => (ex_callG (k := 4) (i := 0) (tbl := [("counts_of", c_counts_of), ("sums_of", c_sums_of), ("sums_paper", c_sums_paper)]) [false] callG1 tk hr (by decide) rfl (lam_fre (by decide +kernel)) (av_cons (ev_nm (i := 1) rfl (lam_fre (by decide +kernel)) nd_sums ncd_sums) av_nil (star_cons rfl)) nd_call ncd_call rfl)) hr (by decide) lk__law_right__law_met nd__law_met) av_nil (star_cons rfl)) rfl) rfl)
 (st_cons (st_drop (ev_append (pe_var (i := 7) rfl (.inl lk__law_right_due) nd_due ncd_due) rfl (av_cons ec_str av_nil (star_cons rfl)) rfl) rfl)
 st_nil)))
 (st_cons (st_drop (ev_append (pe_var (i := 6) rfl (.inl lk__law_right_told) nd_told ncd_told) rfl (av_cons (ev_lam1G hg (N := ["sums"]) (ps := []) (fr := ["sums"]) (js := [3]) (k := 4) h__law_met ⟨TB, rfl, mem_tbC (q := "_law_right") (by decide +kernel), un_tbC (q := "_law_right") (by decide +kernel), rfl, NdefX.nscope_by (by decide +kernel), NdefX.ndef_free (sc := C8.fnScope s__law_right) (fr := ["sums"]) (by decide +kernel), NdefX.ndef_fr (sc := C8.fnScope s__law_right) (by decide +kernel), rfl, fun _ => rfl, fun _ _ _ _ _ us hl => match us, hl with | [], _ => rfl⟩ ⟨rfl, rfl, rfl⟩ (fun W cl c' ws g A outer s H E tk hr => (ex_call [false, false] h_is_sums_paper tk hr (by decide) (lam_gl (by decide +kernel)) (av_cons (ev_nm (i := 0) rfl (lam_fre (by decide +kernel)) nd_sums ncd_sums) (av_cons ec_non av_nil (star_cons rfl)) (star_cons rfl)) nd_is_sums_paper rfl)) hr (by decide) lk__law_right__law_met nd__law_met) av_nil (star_cons rfl)) rfl) rfl)
 (st_cons (st_drop (ev_append (pe_var (i := 6) rfl (.inl lk__law_right_told) nd_told ncd_told) rfl (av_cons (ev_lam1G hg (N := []) (ps := []) (fr := []) (js := []) (k := 4) h__law_met ⟨TB, rfl, mem_tbC (q := "_law_right") (by decide +kernel), un_tbC (q := "_law_right") (by decide +kernel), rfl, NdefX.nscope_by (by decide +kernel), NdefX.ndef_free (sc := C8.fnScope s__law_right) (fr := []) (by decide +kernel), NdefX.ndef_fr (sc := C8.fnScope s__law_right) (by decide +kernel), rfl, fun _ => rfl, fun _ _ _ _ _ us hl => match us, hl with | [], _ => rfl⟩ ⟨rfl, rfl, rfl⟩ (fun W cl c' ws g A outer s H E tk hr => (ex_call [false] h_sums_paper tk hr (by decide) (lam_gl (by decide +kernel)) (av_cons (ev_tup (av_cons ec_int (av_cons ec_int av_nil (star_cons rfl)) (star_cons rfl))) av_nil (star_cons rfl)) nd_sums_paper rfl)) hr (by decide) lk__law_right__law_met nd__law_met) av_nil (star_cons rfl)) rfl) rfl)
 (st_cons (st_drop (ev_append (pe_var (i := 6) rfl (.inl lk__law_right_told) nd_told ncd_told) rfl (av_cons (ev_lam1G hg (N := []) (ps := []) (fr := []) (js := []) (k := 4) h__law_met ⟨TB, rfl, mem_tbC (q := "_law_right") (by decide +kernel), un_tbC (q := "_law_right") (by decide +kernel), rfl, NdefX.nscope_by (by decide +kernel), NdefX.ndef_free (sc := C8.fnScope s__law_right) (fr := []) (by decide +kernel), NdefX.ndef_fr (sc := C8.fnScope s__law_right) (by decide +kernel), rfl, fun _ => rfl, fun _ _ _ _ _ us hl => match us, hl with | [], _ => rfl⟩ ⟨rfl, rfl, rfl⟩ (fun W cl c' ws g A outer s H E tk hr => (ex_call [false] h_sums_paper tk hr (by decide) (lam_gl (by decide +kernel)) (av_cons (ev_tup (av_cons (ev_neg ec_int) (av_cons ec_int av_nil (star_cons rfl)) (star_cons rfl))) av_nil (star_cons rfl)) nd_sums_paper rfl)) hr (by decide) lk__law_right__law_met nd__law_met) av_nil (star_cons rfl)) rfl) rfl)
 (st_cons (st_drop (ev_append (pe_var (i := 6) rfl (.inl lk__law_right_told) nd_told ncd_told) rfl (av_cons (ev_lam1G hg (N := []) (ps := []) (fr := []) (js := []) (k := 4) h__law_met ⟨TB, rfl, mem_tbC (q := "_law_right") (by decide +kernel), un_tbC (q := "_law_right") (by decide +kernel), rfl, NdefX.nscope_by (by decide +kernel), NdefX.ndef_free (sc := C8.fnScope s__law_right) (fr := []) (by decide +kernel), NdefX.ndef_fr (sc := C8.fnScope s__law_right) (by decide +kernel), rfl, fun _ => rfl, fun _ _ _ _ _ us hl => match us, hl with | [], _ => rfl⟩ ⟨rfl, rfl, rfl⟩ (fun W cl c' ws g A outer s H E tk hr => (ex_call [false, false] h_is_sums_paper tk hr (by decide) (lam_gl (by decide +kernel)) (av_cons (ev_tup (av_cons ec_int (av_cons ec_int av_nil (star_cons rfl)) (star_cons rfl))) (av_cons ec_non av_nil (star_cons rfl)) (star_cons rfl)) nd_is_sums_paper rfl)) hr (by decide) lk__law_right__law_met nd__law_met) av_nil (star_cons rfl)) rfl) rfl)
 (st_cons (st_set (i := 7) sc__law_right.nd rfl (.inl lk__law_right_due) (ev_bin (ev_nm (i := 7) rfl (.inl lk__law_right_due) nd_due ncd_due) (ev_lst (av_cons ec_str (av_cons ec_str (av_cons ec_str (av_cons ec_str av_nil (star_cons rfl)) (star_cons rfl)) (star_cons rfl)) (star_cons rfl)))) rfl rfl (.inl rfl))
 (st_cons (st_for PassesOwn.never rfl rfl (sv_seq (ev_tup (av_cons (ev_glo lk__law_right_ended hm_ended nd_ended) (av_cons (ev_glo lk__law_right_at_least hm_at_least nd_at_least) av_nil (star_cons rfl)) (star_cons rfl)))) (pg_name (i := 8) sc__law_right.nd rfl (.inr lk__law_right_call) (.inl rfl))
 (st_cons (st_drop (ev_append (pe_var (i := 6) rfl (.inl lk__law_right_told) nd_told ncd_told) rfl (av_cons (ev_lam1G hg (N := ["call", "sums", "many"]) (ps := []) (fr := ["call", "sums", "many"]) (js := [8, 3, 4]) (k := 5) h__law_met ⟨TB, rfl, mem_tbC (q := "_law_right") (by decide +kernel), un_tbC (q := "_law_right") (by decide +kernel), rfl, NdefX.nscope_by (by decide +kernel), NdefX.ndef_free (sc := C8.fnScope s__law_right) (fr := ["call", "sums", "many"]) (by decide +kernel), NdefX.ndef_fr (sc := C8.fnScope s__law_right) (by decide +kernel), rfl, fun _ => rfl, fun _ _ _ _ _ us hl => match us, hl with | [], _ => rfl⟩ ⟨rfl, rfl, rfl⟩ (fun W cl c' ws g A outer s H E tk hr => (ex_callG (k := 5) (i := 0) (tbl := [("meet_sums", c_meet_sums), ("just_counts", c_just_counts), ("ended", c_ended), ("at_least", c_at_least)]) [false, false] callG2 tk hr (by decide) rfl (lam_fre (by decide +kernel)) (av_cons (ev_nm (i := 1) rfl (lam_fre (by decide +kernel)) nd_sums ncd_sums) (av_cons (ev_nm (i := 2) rfl (lam_fre (by decide +kernel)) nd_many ncd_many) av_nil (star_cons rfl)) (star_cons rfl)) nd_call ncd_call rfl)) hr (by decide) lk__law_right__law_met nd__law_met) av_nil (star_cons rfl)) rfl) rfl)
 (st_cons (st_drop (ev_append (pe_var (i := 6) rfl (.inl lk__law_right_told) nd_told ncd_told) rfl (av_cons (ev_lam1G hg (N := ["call", "many"]) (ps := []) (fr := ["call", "many"]) (js := [8, 4]) (k := 5) h__law_met ⟨TB, rfl, mem_tbC (q := "_law_right") (by decide +kernel), un_tbC (q := "_law_right") (by decide +kernel), rfl, NdefX.nscope_by (by decide +kernel), NdefX.ndef_free (sc := C8.fnScope s__law_right) (fr := ["call", "many"]) (by decide +kernel), NdefX.ndef_fr (sc := C8.fnScope s__law_right) (by decide +kernel), rfl, fun _ => rfl, fun _ _ _ _ _ us hl => match us, hl with | [], _ => rfl⟩ ⟨rfl, rfl, rfl⟩ (fun W cl c' ws g A outer s H E tk hr => (ex_callG (k := 5) (i := 0) (tbl := [("meet_sums", c_meet_sums), ("just_counts", c_just_counts), ("ended", c_ended), ("at_least", c_at_least)]) [false, false] callG2 tk hr (by decide) rfl (lam_fre (by decide +kernel)) (av_cons (ev_tup (av_cons ec_int (av_cons ec_int (av_cons ec_int (av_cons ec_int av_nil (star_cons rfl)) (star_cons rfl)) (star_cons rfl)) (star_cons rfl))) (av_cons (ev_nm (i := 1) rfl (lam_fre (by decide +kernel)) nd_many ncd_many) av_nil (star_cons rfl)) (star_cons rfl)) nd_call ncd_call rfl)) hr (by decide) lk__law_right__law_met nd__law_met) av_nil (star_cons rfl)) rfl) rfl)
 (st_cons (st_drop (ev_append (pe_var (i := 6) rfl (.inl lk__law_right_told) nd_told ncd_told) rfl (av_cons (ev_lam1G hg (N := ["call"]) (ps := []) (fr := ["call"]) (js := [8]) (k := 5) h__law_met ⟨TB, rfl, mem_tbC (q := "_law_right") (by decide +kernel), un_tbC (q := "_law_right") (by decide +kernel), rfl, NdefX.nscope_by (by decide +kernel), NdefX.ndef_free (sc := C8.fnScope s__law_right) (fr := ["call"]) (by decide +kernel), NdefX.ndef_fr (sc := C8.fnScope s__law_right) (by decide +kernel), rfl, fun _ => rfl, fun _ _ _ _ _ us hl => match us, hl with | [], _ => rfl⟩ ⟨rfl, rfl, rfl⟩ (fun W cl c' ws g A outer s H E tk hr => (ex_callG (k := 5) (i := 0) (tbl := [("meet_sums", c_meet_sums), ("just_counts", c_just_counts), ("ended", c_ended), ("at_least", c_at_least)]) [false, false] callG2 tk hr (by decide) rfl (lam_fre (by decide +kernel)) (av_cons (ev_tup (av_cons ec_int (av_cons ec_int (av_cons ec_int (av_cons ec_int av_nil (star_cons rfl)) (star_cons rfl)) (star_cons rfl)) (star_cons rfl))) (av_cons ec_int av_nil (star_cons rfl)) (star_cons rfl)) nd_call ncd_call rfl)) hr (by decide) lk__law_right__law_met nd__law_met) av_nil (star_cons rfl)) rfl) rfl)
 (st_cons (st_set (i := 7) sc__law_right.nd rfl (.inl lk__law_right_due) (ev_bin (ev_nm (i := 7) rfl (.inl lk__law_right_due) nd_due ncd_due) (ev_lst (av_cons ec_str (av_cons (ev_bin ec_str (ev_repr hg hr.units lk__law_right_repr T.b_repr (ev_nm (i := 4) rfl (.inr (.inl lk__law_right_many)) nd_many ncd_many) rfl)) (av_cons ec_str av_nil (star_cons rfl)) (star_cons rfl)) (star_cons rfl)))) rfl rfl (.inl rfl))
 st_nil)))))
 (st_cons (st_for PassesOwn.never rfl rfl (sv_seq (ev_tup (av_cons (ev_glo lk__law_right_least_total hm_least_total nd_least_total) (av_cons (ev_glo lk__law_right_greatest_total hm_greatest_total nd_greatest_total) (av_cons (ev_glo lk__law_right_least_paper hm_least_paper nd_least_paper) (av_cons (ev_glo lk__law_right_greatest_paper hm_greatest_paper nd_greatest_paper) av_nil (star_cons rfl)) (star_cons rfl)) (star_cons rfl)) (star_cons rfl)))) (pg_name (i := 8) sc__law_right.nd rfl (.inr lk__law_right_call) (.inl rfl))
 (st_cons (st_drop (ev_append (pe_var (i := 6) rfl (.inl lk__law_right_told) nd_told ncd_told) rfl (av_cons (ev_lam1G hg (N := ["call", "many", "odd"]) (ps := []) (fr := ["call", "many", "odd"]) (js := [8, 4, 5]) (k := 5) h__law_met ⟨TB, rfl, mem_tbC (q := "_law_right") (by decide +kernel), un_tbC (q := "_law_right") (by decide +kernel), rfl, NdefX.nscope_by (by decide +kernel), NdefX.ndef_free (sc := C8.fnScope s__law_right) (fr := ["call", "many", "odd"]) (by decide +kernel), NdefX.ndef_fr (sc := C8.fnScope s__law_right) (by decide +kernel), rfl, fun _ => rfl, fun _ _ _ _ _ us hl => match us, hl with | [], _ => rfl⟩ ⟨rfl, rfl, rfl⟩ (fun W cl c' ws g A outer s H E tk hr => (ex_callG (k := 5) (i := 0) (tbl := [("least_total", c_least_total), ("greatest_total", c_greatest_total), ("least_paper", c_least_paper), ("greatest_paper", c_greatest_paper)]) [false, false, false] callG3 tk hr (by decide) rfl (lam_fre (by decide +kernel)) (av_cons (ev_nm (i := 1) rfl (lam_fre (by decide +kernel)) nd_many ncd_many) (av_cons (ev_nm (i := 2) rfl (lam_fre (by decide +kernel)) nd_odd ncd_odd) (av_cons (ev_nm (i := 2) rfl (lam_fre (by decide +kernel)) nd_odd ncd_odd) av_nil (star_cons rfl)) (star_cons rfl)) (star_cons rfl)) nd_call ncd_call rfl)) hr (by decide) lk__law_right__law_met nd__law_met) av_nil (star_cons rfl)) rfl) rfl)
 (st_cons (st_drop (ev_append (pe_var (i := 6) rfl (.inl lk__law_right_told) nd_told ncd_told) rfl (av_cons (ev_lam1G hg (N := ["call", "odd"]) (ps := []) (fr := ["call", "odd"]) (js := [8, 5]) (k := 5) h__law_met ⟨TB, rfl, mem_tbC (q := "_law_right") (by decide +kernel), un_tbC (q := "_law_right") (by decide +kernel), rfl, NdefX.nscope_by (by decide +kernel), NdefX.ndef_free (sc := C8.fnScope s__law_right) (fr := ["call", "odd"]) (by decide +kernel), NdefX.ndef_fr (sc := C8.fnScope s__law_right) (by decide +kernel), rfl, fun _ => rfl, fun _ _ _ _ _ us hl => match us, hl with | [], _ => rfl⟩ ⟨rfl, rfl, rfl⟩ (fun W cl c' ws g A outer s H E tk hr => (ex_callG (k := 5) (i := 0) (tbl := [("least_total", c_least_total), ("greatest_total", c_greatest_total), ("least_paper", c_least_paper), ("greatest_paper", c_greatest_paper)]) [false, false, false] callG3 tk hr (by decide) rfl (lam_fre (by decide +kernel)) (av_cons ec_int (av_cons (ev_nm (i := 1) rfl (lam_fre (by decide +kernel)) nd_odd ncd_odd) (av_cons (ev_nm (i := 1) rfl (lam_fre (by decide +kernel)) nd_odd ncd_odd) av_nil (star_cons rfl)) (star_cons rfl)) (star_cons rfl)) nd_call ncd_call rfl)) hr (by decide) lk__law_right__law_met nd__law_met) av_nil (star_cons rfl)) rfl) rfl)
 (st_cons (st_drop (ev_append (pe_var (i := 6) rfl (.inl lk__law_right_told) nd_told ncd_told) rfl (av_cons (ev_lam1G hg (N := ["call", "odd"]) (ps := []) (fr := ["call", "odd"]) (js := [8, 5]) (k := 5) h__law_met ⟨TB, rfl, mem_tbC (q := "_law_right") (by decide +kernel), un_tbC (q := "_law_right") (by decide +kernel), rfl, NdefX.nscope_by (by decide +kernel), NdefX.ndef_free (sc := C8.fnScope s__law_right) (fr := ["call", "odd"]) (by decide +kernel), NdefX.ndef_fr (sc := C8.fnScope s__law_right) (by decide +kernel), rfl, fun _ => rfl, fun _ _ _ _ _ us hl => match us, hl with | [], _ => rfl⟩ ⟨rfl, rfl, rfl⟩ (fun W cl c' ws g A outer s H E tk hr => (ex_callG (k := 5) (i := 0) (tbl := [("least_total", c_least_total), ("greatest_total", c_greatest_total), ("least_paper", c_least_paper), ("greatest_paper", c_greatest_paper)]) [false, false, false] callG3 tk hr (by decide) rfl (lam_fre (by decide +kernel)) (av_cons ec_int (av_cons ec_int (av_cons (ev_nm (i := 1) rfl (lam_fre (by decide +kernel)) nd_odd ncd_odd) av_nil (star_cons rfl)) (star_cons rfl)) (star_cons rfl)) nd_call ncd_call rfl)) hr (by decide) lk__law_right__law_met nd__law_met) av_nil (star_cons rfl)) rfl) rfl)
 (st_cons (st_drop (ev_append (pe_var (i := 6) rfl (.inl lk__law_right_told) nd_told ncd_told) rfl (av_cons (ev_lam1G hg (N := ["call"]) (ps := []) (fr := ["call"]) (js := [8]) (k := 5) h__law_met ⟨TB, rfl, mem_tbC (q := "_law_right") (by decide +kernel), un_tbC (q := "_law_right") (by decide +kernel), rfl, NdefX.nscope_by (by decide +kernel), NdefX.ndef_free (sc := C8.fnScope s__law_right) (fr := ["call"]) (by decide +kernel), NdefX.ndef_fr (sc := C8.fnScope s__law_right) (by decide +kernel), rfl, fun _ => rfl, fun _ _ _ _ _ us hl => match us, hl with | [], _ => rfl⟩ ⟨rfl, rfl, rfl⟩ (fun W cl c' ws g A outer s H E tk hr => (ex_callG (k := 5) (i := 0) (tbl := [("least_total", c_least_total), ("greatest_total", c_greatest_total), ("least_paper", c_least_paper), ("greatest_paper", c_greatest_paper)]) [false, false, false] callG3 tk hr (by decide) rfl (lam_fre (by decide +kernel)) (av_cons ec_int (av_cons ec_int (av_cons ec_int av_nil (star_cons rfl)) (star_cons rfl)) (star_cons rfl)) nd_call ncd_call rfl)) hr (by decide) lk__law_right__law_met nd__law_met) av_nil (star_cons rfl)) rfl) rfl)
 (st_cons (st_set (i := 7) sc__law_right.nd rfl (.inl lk__law_right_due) (ev_bin (ev_nm (i := 7) rfl (.inl lk__law_right_due) nd_due ncd_due) (ev_lst (av_cons (ev_bin ec_str (ev_repr hg hr.units lk__law_right_repr T.b_repr (ev_nm (i := 4) rfl (.inr (.inl lk__law_right_many)) nd_many ncd_many) rfl)) (av_cons (ev_bin ec_str (ev_repr hg hr.units lk__law_right_repr T.b_repr (ev_nm (i := 5) rfl (.inr (.inl lk__law_right_odd)) nd_odd ncd_odd) rfl)) (av_cons (ev_bin ec_str (ev_repr hg hr.units lk__law_right_repr T.b_repr (ev_nm (i := 5) rfl (.inr (.inl lk__law_right_odd)) nd_odd ncd_odd) rfl)) (av_cons ec_str av_nil (star_cons rfl)) (star_cons rfl)) (star_cons rfl)) (star_cons rfl)))) rfl rfl (.inl rfl))
 st_nil))))))
 (st_cons (st_for PassesOwn.never rfl rfl (sv_seq (ev_tup (av_cons (ev_glo lk__law_right_is_least_paper hm_is_least_paper nd_is_least_paper) (av_cons (ev_glo lk__law_right_is_greatest_paper hm_is_greatest_paper nd_is_greatest_paper) av_nil (star_cons rfl)) (star_cons rfl)))) (pg_name (i := 8) sc__law_right.nd rfl (.inr lk__law_right_call) (.inl rfl))
 (st_cons (st_drop (ev_append (pe_var (i := 6) rfl (.inl lk__law_right_told) nd_told ncd_told) rfl (av_cons (ev_lam1G hg (N := ["call", "many", "odd"]) (ps := []) (fr := ["call", "many", "odd"]) (js := [8, 4, 5]) (k := 5) h__law_met ⟨TB, rfl, mem_tbC (q := "_law_right") (by decide +kernel), un_tbC (q := "_law_right") (by decide +kernel), rfl, NdefX.nscope_by (by decide +kernel), NdefX.ndef_free (sc := C8.fnScope s__law_right) (fr := ["call", "many", "odd"]) (by decide +kernel), NdefX.ndef_fr (sc := C8.fnScope s__law_right) (by decide +kernel), rfl, fun _ => rfl, fun _ _ _ _ _ us hl => match us, hl with | [], _ => rfl⟩ ⟨rfl, rfl, rfl⟩ (fun W cl c' ws g A outer s H E tk hr => (ex_callG (k := 5) (i := 0) (tbl := [("is_least_paper", c_is_least_paper), ("is_greatest_paper", c_is_greatest_paper)]) [false, false, false, false] callG4 tk hr (by decide) rfl (lam_fre (by decide +kernel)) (av_cons (ev_nm (i := 1) rfl (lam_fre (by decide +kernel)) nd_many ncd_many) (av_cons (ev_nm (i := 2) rfl (lam_fre (by decide +kernel)) nd_odd ncd_odd) (av_cons (ev_nm (i := 2) rfl (lam_fre (by decide +kernel)) nd_odd ncd_odd) (av_cons ec_non av_nil (star_cons rfl)) (star_cons rfl)) (star_cons rfl)) (star_cons rfl)) nd_call ncd_call rfl)) hr (by decide) lk__law_right__law_met nd__law_met) av_nil (star_cons rfl)) rfl) rfl)
 (st_cons (st_drop (ev_append (pe_var (i := 6) rfl (.inl lk__law_right_told) nd_told ncd_told) rfl (av_cons (ev_lam1G hg (N := ["call", "odd"]) (ps := []) (fr := ["call", "odd"]) (js := [8, 5]) (k := 5) h__law_met ⟨TB, rfl, mem_tbC (q := "_law_right") (by decide +kernel), un_tbC (q := "_law_right") (by decide +kernel), rfl, NdefX.nscope_by (by decide +kernel), NdefX.ndef_free (sc := C8.fnScope s__law_right) (fr := ["call", "odd"]) (by decide +kernel), NdefX.ndef_fr (sc := C8.fnScope s__law_right) (by decide +kernel), rfl, fun _ => rfl, fun _ _ _ _ _ us hl => match us, hl with | [], _ => rfl⟩ ⟨rfl, rfl, rfl⟩ (fun W cl c' ws g A outer s H E tk hr => (ex_callG (k := 5) (i := 0) (tbl := [("is_least_paper", c_is_least_paper), ("is_greatest_paper", c_is_greatest_paper)]) [false, false, false, false] callG4 tk hr (by decide) rfl (lam_fre (by decide +kernel)) (av_cons ec_int (av_cons (ev_nm (i := 1) rfl (lam_fre (by decide +kernel)) nd_odd ncd_odd) (av_cons ec_int (av_cons ec_non av_nil (star_cons rfl)) (star_cons rfl)) (star_cons rfl)) (star_cons rfl)) nd_call ncd_call rfl)) hr (by decide) lk__law_right__law_met nd__law_met) av_nil (star_cons rfl)) rfl) rfl)
 (st_cons (st_drop (ev_append (pe_var (i := 6) rfl (.inl lk__law_right_told) nd_told ncd_told) rfl (av_cons (ev_lam1G hg (N := ["call", "odd"]) (ps := []) (fr := ["call", "odd"]) (js := [8, 5]) (k := 5) h__law_met ⟨TB, rfl, mem_tbC (q := "_law_right") (by decide +kernel), un_tbC (q := "_law_right") (by decide +kernel), rfl, NdefX.nscope_by (by decide +kernel), NdefX.ndef_free (sc := C8.fnScope s__law_right) (fr := ["call", "odd"]) (by decide +kernel), NdefX.ndef_fr (sc := C8.fnScope s__law_right) (by decide +kernel), rfl, fun _ => rfl, fun _ _ _ _ _ us hl => match us, hl with | [], _ => rfl⟩ ⟨rfl, rfl, rfl⟩ (fun W cl c' ws g A outer s H E tk hr => (ex_callG (k := 5) (i := 0) (tbl := [("is_least_paper", c_is_least_paper), ("is_greatest_paper", c_is_greatest_paper)]) [false, false, false, false] callG4 tk hr (by decide) rfl (lam_fre (by decide +kernel)) (av_cons ec_int (av_cons ec_int (av_cons (ev_nm (i := 1) rfl (lam_fre (by decide +kernel)) nd_odd ncd_odd) (av_cons ec_non av_nil (star_cons rfl)) (star_cons rfl)) (star_cons rfl)) (star_cons rfl)) nd_call ncd_call rfl)) hr (by decide) lk__law_right__law_met nd__law_met) av_nil (star_cons rfl)) rfl) rfl)
 (st_cons (st_set (i := 7) sc__law_right.nd rfl (.inl lk__law_right_due) (ev_bin (ev_nm (i := 7) rfl (.inl lk__law_right_due) nd_due ncd_due) (ev_lst (av_cons (ev_bin ec_str (ev_repr hg hr.units lk__law_right_repr T.b_repr (ev_nm (i := 4) rfl (.inr (.inl lk__law_right_many)) nd_many ncd_many) rfl)) (av_cons (ev_bin ec_str (ev_repr hg hr.units lk__law_right_repr T.b_repr (ev_nm (i := 5) rfl (.inr (.inl lk__law_right_odd)) nd_odd ncd_odd) rfl)) (av_cons (ev_bin ec_str (ev_repr hg hr.units lk__law_right_repr T.b_repr (ev_nm (i := 5) rfl (.inr (.inl lk__law_right_odd)) nd_odd ncd_odd) rfl)) av_nil (star_cons rfl)) (star_cons rfl)) (star_cons rfl)))) rfl rfl (.inl rfl))
 st_nil)))))
 (st_cons (st_if (tv_cmp hr.units (ev_nm (i := 6) rfl (.inl lk__law_right_told) nd_told ncd_told) (ev_lc [("one", 11)] rfl sc__law_right.nd (sv_seq (ev_nm (i := 7) rfl (.inl lk__law_right_due) nd_due ncd_due)) (blkOk_by (N := N__law_right) (sc := C8.fnScope s__law_right) (by decide +kernel)) (fun _ _ _ _ _ => (pg_name (i := 11) sc__law_right.nd rfl (.inl (bl_loc (by decide +kernel))) (.inr (bl_loc (by decide +kernel))))) (fun _ _ _ _ _ => tvs_nil) (fun _ _ _ _ _ => (ev_tup (av_cons ec_str (av_cons (ev_nm (i := 11) rfl (bl_vis (by decide +kernel)) nd_one ncd_one) av_nil (star_cons rfl)) (star_cons rfl)))) rfl) rfl)
 (st_cons (st_ret ec_bl)
 st_nil)
 st_nil)
 (st_cons (st_set (i := 9) sc__law_right.nd rfl (.inl lk__law_right_values) (ev_lst (av_cons (ev_nm (i := 1) rfl (.inr (.inl lk__law_right_things)) nd_things ncd_things) (av_cons (ev_nm (i := 2) rfl (.inr (.inl lk__law_right_sets)) nd_sets ncd_sets) (av_cons (ev_nm (i := 3) rfl (.inr (.inl lk__law_right_sums)) nd_sums ncd_sums) (av_cons (ev_nm (i := 4) rfl (.inr (.inl lk__law_right_many)) nd_many ncd_many) (av_cons (ev_nm (i := 5) rfl (.inr (.inl lk__law_right_odd)) nd_odd ncd_odd) (av_cons ev_dictE (av_cons (ev_lst (av_cons (ev_lst av_nil) av_nil (star_cons rfl))) (av_cons (ev_tup (av_cons ec_str (av_cons ev_dictE av_nil (star_cons rfl)) (star_cons rfl))) (av_cons (ev_tup (av_cons ec_str (av_cons ev_dictE av_nil (star_cons rfl)) (star_cons rfl))) (av_cons (ev_tup (av_cons ec_str (av_cons (ev_tup (av_cons ev_dictE av_nil (star_cons rfl))) av_nil (star_cons rfl)) (star_cons rfl))) (av_cons (ev_tup (av_cons ev_dictE (av_cons ec_int av_nil (star_cons rfl)) (star_cons rfl))) av_nil (star_cons rfl)) (star_cons rfl)) (star_cons rfl)) (star_cons rfl)) (star_cons rfl)) (star_cons rfl)) (star_cons rfl)) (star_cons rfl)) (star_cons rfl)) (star_cons rfl)) (star_cons rfl))) rfl rfl (.inl rfl))
 (st_cons (st_set (i := 9) sc__law_right.nd rfl (.inl lk__law_right_values) (ev_bin (ev_nm (i := 9) rfl (.inl lk__law_right_values) nd_values ncd_values) (ev_lst (av_cons (ev_tup (av_cons ec_str (av_cons (ev_tup (av_cons (ev_tup (av_cons ec_non av_nil (star_cons rfl))) av_nil (star_cons rfl))) av_nil (star_cons rfl)) (star_cons rfl))) av_nil (star_cons rfl)))) rfl rfl (.inl rfl))
 (st_cons (st_for PassesOwn.never rfl rfl (sv_seq (ev_bin (ev_nm (i := 9) rfl (.inl lk__law_right_values) nd_values ncd_values) (ev_lst (av_cons (ev_tup (av_cons ec_str (av_cons ev_dictE (av_cons ev_dictE av_nil (star_cons rfl)) (star_cons rfl)) (star_cons rfl))) (av_cons (ev_tup (av_cons ec_str (av_cons (ev_tup (av_cons ev_dictE (av_cons ec_int (av_cons ec_int av_nil (star_cons rfl)) (star_cons rfl)) (star_cons rfl))) (av_cons (ev_tup (av_cons (ev_tup (av_cons ec_int (av_cons ec_int av_nil (star_cons rfl)) (star_cons rfl))) (av_cons (ev_tup (av_cons ec_int (av_cons ec_int av_nil (star_cons rfl)) (star_cons rfl))) av_nil (star_cons rfl)) (star_cons rfl))) av_nil (star_cons rfl)) (star_cons rfl)) (star_cons rfl))) (av_cons (ev_tup (av_cons ec_str (av_cons (ev_tup av_nil) (av_cons (ev_tup (av_cons (ev_tup (av_cons ec_int (av_cons ec_int av_nil (star_cons rfl)) (star_cons rfl))) av_nil (star_cons rfl))) av_nil (star_cons rfl)) (star_cons rfl)) (star_cons rfl))) av_nil (star_cons rfl)) (star_cons rfl)) (star_cons rfl))))) (pg_name (i := 10) sc__law_right.nd rfl (.inl lk__law_right_value) (.inl rfl))
 (st_cons (st_if (PW.pt (tv_or (tv_cmp hr.units (ev_tame [false, false] h_is_sums_paper hr (by decide) lk__law_right_is_sums_paper (av_cons (ev_tup (av_cons ec_int (av_cons ec_int av_nil (star_cons rfl)) (star_cons rfl))) (av_cons (ev_nm (i := 10) rfl (.inl lk__law_right_value) nd_value ncd_value) av_nil (star_cons rfl)) (star_cons rfl)) nd_is_sums_paper rfl) ec_bl rfl) (tv_or1 (tv_cmp hr.units (ev_tame [false, false, false, false] h_is_least_paper hr (by decide) lk__law_right_is_least_paper (av_cons ec_int (av_cons ec_int (av_cons ec_int (av_cons (ev_nm (i := 10) rfl (.inl lk__law_right_value) nd_value ncd_value) av_nil (star_cons rfl)) (star_cons rfl)) (star_cons rfl)) (star_cons rfl)) nd_is_least_paper rfl) ec_bl rfl))))
 (st_cons (st_ret ec_bl)
 st_nil)
 st_nil)
 (st_cons (st_if (tv_cmp hr.units (ev_tame [false, false, false, false] h_is_greatest_paper hr (by decide) lk__law_right_is_greatest_paper (av_cons ec_int (av_cons ec_int (av_cons ec_int (av_cons (ev_nm (i := 10) rfl (.inl lk__law_right_value) nd_value ncd_value) av_nil (star_cons rfl)) (star_cons rfl)) (star_cons rfl)) (star_cons rfl)) nd_is_greatest_paper rfl) ec_bl rfl)
 (st_cons (st_ret ec_bl)
 st_nil)
 st_nil)
 st_nil)))
 (st_cons (st_ret ec_bl)
 st_nil))))))))))))))))))))))))
end G
set_option maxHeartbeats 4000000
namespace G
open PySem PySem.Spec PyProof.Rows L2 RF
variable {P : Program} {w : World} {K : PySem.W.Frag} {mg : Str → Option Value} {base : Heap}
theorem sc_law : FnScope N_law P_law (C8.fnScope s_law) := C8.fnScope_by (by decide +kernel)
theorem lk_law__law_crock : (C8.fnScope s_law).names.lookup ("_law_crock" : Str) = some .globalImplicit := by decide +kernel
theorem lk_law__law_right : (C8.fnScope s_law).names.lookup ("_law_right" : Str) = some .globalImplicit := by decide +kernel
theorem lk_law_crock : (C8.fnScope s_law).names.lookup ("crock" : Str) = some .local := by decide +kernel
theorem lk_law_len : (C8.fnScope s_law).names.lookup ("len" : Str) = some .globalImplicit := by decide +kernel
theorem lk_law_max : (C8.fnScope s_law).names.lookup ("max" : Str) = some .globalImplicit := by decide +kernel
theorem lk_law_meet_sums : (C8.fnScope s_law).names.lookup ("meet_sums" : Str) = some .globalImplicit := by decide +kernel
theorem lk_law_min : (C8.fnScope s_law).names.lookup ("min" : Str) = some .globalImplicit := by decide +kernel
theorem lk_law_range : (C8.fnScope s_law).names.lookup ("range" : Str) = some .globalImplicit := by decide +kernel
theorem lk_law_script : (C8.fnScope s_law).names.lookup ("script" : Str) = some .local := by decide +kernel
theorem lk_law_spot : (C8.fnScope s_law).names.lookup ("spot" : Str) = some .local := by decide +kernel
theorem lk_law_tuple : (C8.fnScope s_law).names.lookup ("tuple" : Str) = some .globalImplicit := by decide +kernel
theorem ok_law {f : Addr} {fd : FuncData} (T : Tx mg) (TK : Tk K mg) (D : C8.Def K mg "law" s_law f fd) (b : L2.Binds K fd P_law [])
    (h__law_crock : Cl P w K mg base 1 "_law_crock" 2 c__law_crock)
    (h_meet_sums : ClX P w K mg base 5 "meet_sums" 2 c_meet_sums)
    (h__law_right : GCl P w K mg base 9 "_law_right" 1 c__law_right) : GCl P w K mg base 10 "law" 1 c_law :=
  gcl_rf F_law D b sc_law rfl rfl fun cdv A outer s H E hg hr =>
 (st_cons (st_for PassesOwn.never rfl rfl (sv_rng1 lk_law_range T.b_range (ev_bi .max2 rfl lk_law_max T.b_max bb_max (av_cons ec_int (av_cons (ev_bi .min2 rfl lk_law_min T.b_min bb_min (av_cons ec_int (av_cons (ev_bi .len rfl lk_law_len T.b_len bb_len (av_cons (ev_nm (i := 0) rfl (.inl lk_law_script) nd_script ncd_script) av_nil (star_cons rfl)) nn_len nd_len rfl) av_nil (star_cons rfl)) (star_cons rfl)) nn_min nd_min rfl) av_nil (star_cons rfl)) (star_cons rfl)) nn_max nd_max rfl) rfl) (pg_name (i := 1) sc_law.nd rfl (.inl lk_law_spot) (.inl rfl))
 (st_cons (st_set (i := 2) sc_law.nd rfl (.inl lk_law_crock) (ev_cl [false, false] h__law_crock hr (by decide) lk_law__law_crock (av_cons (ev_nm (i := 0) rfl (.inl lk_law_script) nd_script ncd_script) (av_cons (ev_nm (i := 1) rfl (.inl lk_law_spot) nd_spot ncd_spot) av_nil (star_cons rfl)) (star_cons rfl)) nd__law_crock rfl) rfl rfl (.inl rfl))
 (st_cons (st_if (PW.pt (tv_or (tv_not (tv_val (ev_gcl [true] hg h__law_right hr (by decide) lk_law__law_right (av_cons (ev_nm (i := 2) rfl (.inl lk_law_crock) nd_crock ncd_crock) av_nil (star_cons rfl)) nd__law_right rfl) (fun _ => rfl))) (tv_or1 (tv_not (tv_val (ev_gcl [true] hg h__law_right hr (by decide) lk_law__law_right (av_cons (ev_nm (i := 2) rfl (.inl lk_law_crock) nd_crock ncd_crock) av_nil (star_cons rfl)) nd__law_right rfl) (fun _ => rfl))))))
 (st_cons (st_ret ec_bl)
 st_nil)
 st_nil)
 st_nil)))
 (st_cons (st_ret (ev_cmp hr.units (ev_tame [false, false] h_meet_sums hr (by decide) lk_law_meet_sums (av_cons ec_int (av_cons (ev_tup (av_cons (ev_bi .tuple rfl lk_law_tuple T.b_tuple bb_tuple (av_cons (ev_lc [("thing", 3)] rfl sc_law.nd (sv_rng1 lk_law_range T.b_range ec_int rfl) (blkOk_by (N := N_law) (sc := C8.fnScope s_law) (by decide +kernel)) (fun _ _ _ _ _ => (pg_name (i := 3) sc_law.nd rfl (.inl (bl_loc (by decide +kernel))) (.inr (bl_loc (by decide +kernel))))) (fun _ _ _ _ _ => tvs_nil) (fun _ _ _ _ _ => (ev_nm (i := 3) rfl (bl_vis (by decide +kernel)) nd_thing ncd_thing)) rfl) av_nil (star_cons rfl)) nn_tuple nd_tuple rfl) av_nil (star_cons rfl))) av_nil (star_cons rfl)) (star_cons rfl)) nd_meet_sums rfl) (ev_tup (av_cons ec_int (av_cons ec_int av_nil (star_cons rfl)) (star_cons rfl))) rfl))
 st_nil))
end G
set_option maxHeartbeats 4000000
namespace G
open PySem PySem.Spec PyProof.Rows L2 RF
variable {P : Program} {w : World} {K : PySem.W.Frag} {mg : Str → Option Value} {base : Heap}
theorem sc_NoNumber_init : FnScope P_NoNumber_init P_NoNumber_init (C8.fnScope s_NoNumber_init) := C8.fnScope_by (by decide +kernel)
theorem lk_NoNumber_init_self : (C8.fnScope s_NoNumber_init).names.lookup ("self" : Str) = some .local := by decide +kernel
theorem lk_NoNumber_init_number : (C8.fnScope s_NoNumber_init).names.lookup ("number" : Str) = some .local := by decide +kernel
theorem lk_NoNumber_init_LackError : (C8.fnScope s_NoNumber_init).names.lookup ("LackError" : Str) = some .globalImplicit := by decide +kernel
theorem ok_NoNumber_init {fd : FuncData} (TK : Tk K mg) (D : FunD K "__init__" "NoNumber.__init__" (C8.fnArgs s_NoNumber_init) (C8.fnBody s_NoNumber_init) (C8.fnScope s_NoNumber_init) [] [] (He.fAd K ("NoNumber", some "__init__")) fd) : FnOk P w K mg base (L2.CX P w) 1 (He.fAd K ("NoNumber", some "__init__")) fd P_NoNumber_init (spI K "number") :=
  fn_ini (z := "no such number") D sc_NoNumber_init rfl fun cdv A outer s H E => pss_cons (ps_expr (pe_lki lk_NoNumber_init_LackError TK.gb_NoNumber TK.lb_NoNumber nd_LackError (pa_cons (pe_var (i := 0) rfl (.inl lk_NoNumber_init_self) nd_self ncd_self) (pa_cons pe_str pa_nil)))) (pss_cons (ps_lks (pe_var (i := 0) rfl (.inl lk_NoNumber_init_self) nd_self ncd_self) (pe_var (i := 1) rfl (.inl lk_NoNumber_init_number) nd_number ncd_number)) pss_nil)
end G
set_option maxHeartbeats 2000000
namespace G
open PySem RF
local macro_rules | `(tactic| infer_instance) => `(tactic| with_reducible apply r_tor)
local macro_rules | `(tactic| infer_instance) => `(tactic| with_reducible apply r_tand)
local macro_rules | `(tactic| infer_instance) => `(tactic| with_reducible apply r_or)
local macro_rules | `(tactic| infer_instance) => `(tactic| with_reducible apply r_and)
local macro_rules | `(tactic| infer_instance) => `(tactic| with_reducible apply l_item)
local macro_rules | `(tactic| infer_instance) => `(tactic| with_reducible apply r_aug)
local macro_rules | `(tactic| infer_instance) => `(tactic| with_reducible apply r_extL)
local macro_rules | `(tactic| infer_instance) => `(tactic| with_reducible apply r_appL)
local macro_rules | `(tactic| infer_instance) => `(tactic| with_reducible apply r_popL)
local macro_rules | `(tactic| infer_instance) => `(tactic| with_reducible apply v_zip)
local macro_rules | `(tactic| infer_instance) => `(tactic| with_reducible apply r_rng2)
local macro_rules | `(tactic| infer_instance) => `(tactic| with_reducible apply r_rng1)
local macro_rules | `(tactic| infer_instance) => `(tactic| with_reducible apply r_svSeq)
local macro_rules | `(tactic| infer_instance) => `(tactic| with_reducible apply r_lc)
local macro_rules | `(tactic| infer_instance) => `(tactic| with_reducible apply s_s)
local macro_rules | `(tactic| infer_instance) => `(tactic| with_reducible apply s_z)
local macro_rules | `(tactic| infer_instance) => `(tactic| with_reducible apply ValsR.fr)
local macro_rules | `(tactic| infer_instance) => `(tactic| with_reducible apply ValsR.cons)
local macro_rules | `(tactic| infer_instance) => `(tactic| with_reducible exact ValsR.nil)
local macro_rules | `(tactic| infer_instance) => `(tactic| with_reducible apply d_cons)
local macro_rules | `(tactic| infer_instance) => `(tactic| with_reducible exact d_nil)
local macro_rules | `(tactic| infer_instance) => `(tactic| with_reducible apply r_df)
local macro_rules | `(tactic| infer_instance) => `(tactic| with_reducible apply r_ite)
local macro_rules | `(tactic| infer_instance) => `(tactic| with_reducible apply r_bi)
local macro_rules | `(tactic| infer_instance) => `(tactic| with_reducible apply v_lst)
local macro_rules | `(tactic| infer_instance) => `(tactic| with_reducible apply v_tup)
local macro_rules | `(tactic| infer_instance) => `(tactic| with_reducible apply r_sl)
local macro_rules | `(tactic| infer_instance) => `(tactic| with_reducible apply r_ovs)
local macro_rules | `(tactic| infer_instance) => `(tactic| with_reducible apply r_tnot)
local macro_rules | `(tactic| infer_instance) => `(tactic| with_reducible apply r_of)
local macro_rules | `(tactic| infer_instance) => `(tactic| with_reducible apply r_cmp)
local macro_rules | `(tactic| infer_instance) => `(tactic| with_reducible apply r_bin)
local macro_rules | `(tactic| infer_instance) => `(tactic| with_reducible apply r_not)
local macro_rules | `(tactic| infer_instance) => `(tactic| with_reducible apply r_neg)
local macro_rules | `(tactic| infer_instance) => `(tactic| with_reducible apply r_ix)
local macro_rules | `(tactic| infer_instance) => `(tactic| with_reducible apply r_cons)
local macro_rules | `(tactic| infer_instance) => `(tactic| with_reducible apply v_callK)
local macro_rules | `(tactic| infer_instance) => `(tactic| with_reducible apply v_callD)
local macro_rules | `(tactic| infer_instance) => `(tactic| with_reducible apply l_call)
local macro_rules | `(tactic| infer_instance) => `(tactic| with_reducible apply v_call (hio := rfl))
local macro_rules | `(tactic| infer_instance) => `(tactic| with_reducible apply r_drop)
local macro_rules | `(tactic| infer_instance) => `(tactic| with_reducible apply r_ret)
local macro_rules | `(tactic| infer_instance) => `(tactic| with_reducible apply r_if)
local macro_rules | `(tactic| infer_instance) => `(tactic| with_reducible apply t_one)
local macro_rules | `(tactic| infer_instance) => `(tactic| with_reducible apply t_two)
local macro_rules | `(tactic| infer_instance) => `(tactic| with_reducible apply r_stup)
local macro_rules | `(tactic| infer_instance) => `(tactic| with_reducible apply a2_fv)
local macro_rules | `(tactic| infer_instance) => `(tactic| with_reducible apply a2_ff)
local macro_rules | `(tactic| infer_instance) => `(tactic| with_reducible apply a2_vv)
local macro_rules | `(tactic| infer_instance) => `(tactic| with_reducible apply r_par)
local macro_rules | `(tactic| infer_instance) => `(tactic| with_reducible apply a_fr)
local macro_rules | `(tactic| infer_instance) => `(tactic| with_reducible apply a_val)
local macro_rules | `(tactic| infer_instance) => `(tactic| with_reducible apply r_set)
local macro_rules | `(tactic| infer_instance) => `(tactic| with_reducible exact r_seqR)
local macro_rules | `(tactic| infer_instance) => `(tactic| with_reducible apply r_seqN)
local macro_rules | `(tactic| infer_instance) => `(tactic| with_reducible apply r_seq)
local macro_rules | `(tactic| infer_instance) => `(tactic| with_reducible exact r_snil)
local macro_rules | `(tactic| infer_instance) => `(tactic| with_reducible exact r_ovn)
local macro_rules | `(tactic| infer_instance) => `(tactic| with_reducible exact r_nil)
local macro_rules | `(tactic| infer_instance) => `(tactic| with_reducible exact r_cst)
/-- small numbers -/
def Sm (i : Int) : Prop := i.natAbs < 2 ^ 200
theorem sm_mul {i j : Int} (h : Sm i) (h' : Sm j) : i.natAbs.log2 + j.natAbs.log2 < 1000000 := by
  have h1 := log2_small (k := 199) h
  have h2 := log2_small (k := 199) h'
  omega
theorem sm_of {i : Int} {n : Nat} (h : i.natAbs ≤ n) (hn : n < 2 ^ 200) : Sm i := Nat.lt_of_le_of_lt h hn
/-! ### draws -/
def BagOk (c : Nat) (ds : List D) : Prop := ∃ b0 b1 b2 : Int, ds = [.int b0, .int b1, .int b2] ∧ 0 ≤ b1 ∧ b1 < 2 ^ 100 ∧ 0 ≤ b2 ∧ b2 ≤ (c : Int)
theorem BagOk.mono {c c' : Nat} {ds : List D} (h : BagOk c ds) (hc : c ≤ c') : BagOk c' ds := by
  obtain ⟨b0, b1, b2, e, h1, h2, h3, h4⟩ := h
  exact ⟨b0, b1, b2, e, h1, h2, h3, by omega⟩
def greatOf (cell : Int) : Int := (if cell < 0 then -cell else cell) % (10 ^ 58) ^ 5
def bagOf (cell : Int) (spot : Nat) : List D := [.int (if greatOf cell - 10 ^ 17 > 0 then greatOf cell - 10 ^ 17 else 0), .int (greatOf cell % 2305843009213693907 * 101 + 1171 * spot + 43 * (if decide (cell < 0) then 1 else 0) + 19), .int 0]
theorem bagOf_ok {cell : Int} {spot : Nat} (hs : spot < 10) : BagOk 0 (bagOf cell spot) := by
  have q1 : 0 ≤ greatOf cell % 2305843009213693907 := Int.emod_nonneg _ (by decide)
  have q2 : greatOf cell % 2305843009213693907 < 2305843009213693907 := Int.emod_lt_of_pos _ (by decide)
  refine ⟨_, _, 0, rfl, ?_, ?_, by omega, by omega⟩
  · split <;> omega
  · split <;> omega
def cellOf (ns : List Int) (spot : Nat) : Int := match ns[spot]? with
  | some k => k
  | none => 967 * spot + 83
theorem bag_ok {ns : List Int} {spot : Nat} (hs : spot < 10) : c__law_crock [.val (.scr ns), .val (.int spot)] = some (.fresh (bagOf (cellOf ns spot) spot), [.emp, .emp]) := by
  have p1 : binD .Pow (.int 10) (.int 58) = some (.val (.int (10 ^ 58))) := b_pow (by decide)
  have p2 : binD .Pow (.int (10 ^ 58)) (.int 5) = some (.val (.int ((10 ^ 58) ^ 5))) := b_pow (by decide)
  have p3 : binD .Pow (.int 10) (.int 17) = some (.val (.int (10 ^ 17))) := b_pow (by decide)
  have p7 : binD .Mult (.int 1171) (.int (spot : Int)) = some (.val (.int (1171 * (spot : Int)))) := b_mul (sm_mul (sm_of (n := 1171) (by decide) (by decide)) (sm_of (n := 10) (by omega) (by decide)))
  have p9 : binD .Mult (.int 967) (.int (spot : Int)) = some (.val (.int (967 * (spot : Int)))) := b_mul (sm_mul (sm_of (n := 967) (by decide) (by decide)) (sm_of (n := 10) (by omega) (by decide)))
  have q1 : ∀ g : Int, 0 ≤ g % 2305843009213693907 := fun g => Int.emod_nonneg _ (by decide)
  have q2 : ∀ g : Int, g % 2305843009213693907 < 2305843009213693907 := fun g => Int.emod_lt_of_pos _ (by decide)
  have p4 : ∀ cell, binD .Mod (.int (if cell < 0 then -cell else cell)) (.int ((10 ^ 58) ^ 5)) = some (.val (.int (greatOf cell))) := fun cell => b_mod (by decide)
  have p5 : ∀ g : Int, binD .Mod (.int g) (.int 2305843009213693907) = some (.val (.int (g % 2305843009213693907))) := fun g => b_mod (by decide)
  have p6 : ∀ g : Int, binD .Mult (.int (g % 2305843009213693907)) (.int 101) = some (.val (.int (g % 2305843009213693907 * 101))) := fun g => b_mul (sm_mul (sm_of (n := 2305843009213693907) (by have := q1 g; have := q2 g; omega) (by decide)) (sm_of (n := 101) (by decide) (by decide)))
  have p8 : ∀ cell : Int, binD .Mult (.int 43) (.int (if decide (cell < 0) then 1 else 0)) = some (.val (.int (43 * (if decide (cell < 0) then 1 else 0)))) := fun cell => b_mul (sm_mul (sm_of (n := 43) (by decide) (by decide)) (sm_of (n := 1) (by split <;> decide) (by decide)))
  unfold c__law_crock F__law_crock
  by_cases h : spot < ns.length
  · have e1 : cmpD .Lt (.int (spot : Int)) (.int (ns.length : Nat)) = some true := by
      show some (decide ((spot : Int) < (ns.length : Nat))) = some true
      rw [decide_eq_true (by omega)]
    have e2 : ixD (.scr ns) (.int (spot : Int)) = some (.int (cellOf ns spot)) := by
      have q : ns[spot]? = some ns[spot] := List.getElem?_eq_getElem h
      show (L2.atI ns (spot : Int)).map D.int = _
      rw [L2.atI_nat q, cellOf, q]
      rfl
    generalize cellOf ns spot = cell at e2 ⊢
    apply r_cfR (ρ0 := [.val (.scr ns), .val (.int spot), .emp, .emp]) rfl
    repeat' (first
    | infer_instance
    | ((with_reducible apply i_pos); · first | rfl | assumption | decide)
    | ((with_reducible apply i_neg); · first | rfl | assumption | decide)
    | exact e1
    | exact e2
    | exact p1
    | exact p2
    | exact p3
    | exact p4 _
    | exact p5 _
    | exact p6 _
    | exact p7
    | exact p8 _
    | exact p9
    | (intro _ z; cases z; done)
    | exact Nat.le_of_ble_eq_true rfl
    | rfl)
  · have e1 : cmpD .Lt (.int (spot : Int)) (.int (ns.length : Nat)) = some false := by
      show some (decide ((spot : Int) < (ns.length : Nat))) = some false
      rw [decide_eq_false (by omega)]
    have e2 : cellOf ns spot = 967 * spot + 83 := by
      rw [cellOf, List.getElem?_eq_none (by omega)]
    rw [e2]
    apply r_cfR (ρ0 := [.val (.scr ns), .val (.int spot), .emp, .emp]) rfl
    repeat' (first
    | infer_instance
    | ((with_reducible apply i_pos); · first | rfl | assumption | decide)
    | ((with_reducible apply i_neg); · first | rfl | assumption | decide)
    | exact e1
    | exact p1
    | exact p2
    | exact p3
    | exact p4 _
    | exact p5 _
    | exact p6 _
    | exact p7
    | exact p8 _
    | exact p9
    | (intro _ z; cases z; done)
    | exact Nat.le_of_ble_eq_true rfl
    | rfl)
/-! draws out of a bag -/
theorem mul_ok {i j : Int} {n m : Nat} (h : i.natAbs ≤ n) (h' : j.natAbs ≤ m) (hn : n < 2 ^ 200) (hm : m < 2 ^ 200) : binD .Mult (.int i) (.int j) = some (.val (.int (i * j))) := b_mul (sm_mul (sm_of h hn) (sm_of h' hm))
theorem pull_ok {c : Nat} {bag : List D} {t : Int} (hb : BagOk c bag) (hc : c ≤ 1000000) (ht : 0 < t ∧ t ≤ 1000000000000000000000000000000) : ∃ (r : Int) (bag' : List D), c__law_ladle [.own true bag, .val (.int t)] = some (.val (.int r), [.own true bag', .emp]) ∧ 0 ≤ r ∧ r < t ∧ BagOk (c + 1) bag' := by
  obtain ⟨b0, b1, b2, rfl, h1, h2, h3, h4⟩ := hb
  by_cases h0 : 0 < b0
  · have e1 : cmpD .Gt (.int b0) (.int 0) = some true := by
      show some (decide (0 < b0)) = some true
      rw [decide_eq_true h0]
    have e2 : binD .Mod (.int b0) (.int t) = some (.val (.int (b0 % t))) := b_mod ht.1
    have e3 : binD .FloorDiv (.int b0) (.int t) = some (.val (.int (b0 / t))) := b_fdiv ⟨ht.1, Nat.lt_of_lt_of_le (log2_small (k := 199) (sm_of (n := 1000000000000000000000000000000) (by omega) (by decide) : Sm t)) (by decide)⟩
    refine ⟨b0 % t, [.int (b0 / t), .int b1, .int b2], ?_, Int.emod_nonneg _ (by omega), Int.emod_lt_of_pos _ ht.1, ⟨b0 / t, b1, b2, rfl, h1, h2, h3, by omega⟩⟩
    unfold c__law_ladle F__law_ladle
    apply r_cfR (ρ0 := [.own true [.int b0, .int b1, .int b2], .val (.int t), .emp, .emp, .emp]) rfl
    repeat' (first
    | infer_instance
    | ((with_reducible apply i_pos); · first | rfl | assumption | decide)
    | ((with_reducible apply i_neg); · first | rfl | assumption | decide)
    | exact e1
    | exact e2
    | exact e3
    | (intro _ z; cases z; done)
    | exact Nat.le_of_ble_eq_true rfl
    | rfl)
  · have e1 : cmpD .Gt (.int b0) (.int 0) = some false := by
      show some (decide (0 < b0)) = some false
      rw [decide_eq_false h0]
    have m1 : binD .Mult (.int 86028121) (.int (b2 + 1)) = some (.val (.int (86028121 * (b2 + 1)))) := mul_ok (n := 86028121) (m := 1000001) (by decide) (by omega) (by decide) (by decide)
    have m2 : binD .Mod (.int (b1 + 86028121 * (b2 + 1))) (.int 2305843009213693951) = some (.val (.int ((b1 + 86028121 * (b2 + 1)) % 2305843009213693951))) := b_mod (by decide)
    generalize hone : (b1 + 86028121 * (b2 + 1)) % 2305843009213693951 = one at m2
    have o1 : 0 ≤ one := by rw [← hone]; exact Int.emod_nonneg _ (by decide)
    have o2 : one < 2305843009213693951 := by rw [← hone]; exact Int.emod_lt_of_pos _ (by decide)
    have m3 : binD .Mult (.int one) (.int one) = some (.val (.int (one * one))) := mul_ok (n := 2305843009213693951) (m := 2305843009213693951) (by omega) (by omega) (by decide) (by decide)
    have m4 : binD .Mult (.int 271) (.int (b2 + 1)) = some (.val (.int (271 * (b2 + 1)))) := mul_ok (n := 271) (m := 1000001) (by decide) (by omega) (by decide) (by decide)
    have m5 : binD .Mod (.int (one * one + 271 * (b2 + 1))) (.int 2305843009213693921) = some (.val (.int ((one * one + 271 * (b2 + 1)) % 2305843009213693921))) := b_mod (by decide)
    generalize htwo : (one * one + 271 * (b2 + 1)) % 2305843009213693921 = two at m5
    have t1 : 0 ≤ two := by rw [← htwo]; exact Int.emod_nonneg _ (by decide)
    have t2 : two < 2305843009213693921 := by rw [← htwo]; exact Int.emod_lt_of_pos _ (by decide)
    have m6 : binD .Mult (.int two) (.int 5915587277) = some (.val (.int (two * 5915587277))) := mul_ok (n := 2305843009213693951) (m := 5915587277) (by omega) (by decide) (by decide) (by decide)
    have m7 : binD .FloorDiv (.int (two * 5915587277 + one)) (.int 65543) = some (.val (.int ((two * 5915587277 + one) / 65543))) := b_fdiv ⟨by decide, Nat.lt_of_lt_of_le (log2_small (k := 199) (sm_of (n := 65543) (by decide) (by decide) : Sm 65543)) (by decide)⟩
    have m8 : binD .Mod (.int ((two * 5915587277 + one) / 65543)) (.int t) = some (.val (.int ((two * 5915587277 + one) / 65543 % t))) := b_mod ht.1
    refine ⟨(two * 5915587277 + one) / 65543 % t, [.int b0, .int b1, .int (b2 + 1)], ?_, Int.emod_nonneg _ (by omega), Int.emod_lt_of_pos _ ht.1, ⟨b0, b1, b2 + 1, rfl, h1, h2, by omega, by omega⟩⟩
    unfold c__law_ladle F__law_ladle
    apply r_cfR (ρ0 := [.own true [.int b0, .int b1, .int b2], .val (.int t), .emp, .emp, .emp]) rfl
    repeat' (first
    | infer_instance
    | ((with_reducible apply i_pos); · first | rfl | assumption | decide)
    | ((with_reducible apply i_neg); · first | rfl | assumption | decide)
    | exact e1
    | exact m1
    | exact m2
    | exact m3
    | exact m4
    | exact m5
    | exact m6
    | exact m7
    | exact m8
    | (intro _ z; cases z; done)
    | exact Nat.le_of_ble_eq_true rfl
    | rfl)
theorem choose_ok {c : Nat} {bag items : List D} (hb : BagOk c bag) (hc : c ≤ 1000000) (h0 : 0 < items.length) (hi : items.length ≤ 1000) : ∃ (d : D) (bag' : List D), d ∈ items ∧ c__law_pick_of [.own true bag, .val (.lst items)] = some (.val d, [.own true bag', .emp]) ∧ BagOk (c + 1) bag' := by
  obtain ⟨r, bag', e, r0, r1, hb'⟩ := pull_ok (t := (items.length : Nat)) hb hc ⟨by omega, by omega⟩
  have hr : r.toNat < items.length := by omega
  have q : items[r.toNat]? = some items[r.toNat] := List.getElem?_eq_getElem hr
  have e2 : ixD (.lst items) (.int r) = some items[r.toNat] := by
    have er : ((r.toNat : Nat) : Int) = r := by omega
    have e3 := L2.atI_nat q
    rw [er] at e3
    exact e3
  refine ⟨items[r.toNat], bag', List.getElem_mem hr, ?_, hb'⟩
  unfold c__law_pick_of F__law_pick_of
  generalize c__law_ladle = cp at e ⊢
  apply r_cfR (ρ0 := [.own true bag, .val (.lst items)]) rfl
  repeat' (first
    | infer_instance
    | ((with_reducible apply i_pos); · first | rfl | assumption | decide)
    | ((with_reducible apply i_neg); · first | rfl | assumption | decide)
    | exact e
    | exact e2
    | (intro _ z; cases z; done)
    | exact Nat.le_of_ble_eq_true rfl
    | rfl)
end G
set_option maxHeartbeats 4000000
namespace G
open PySem RF
/-! ### what is drawn, and what is told of it -/
abbrev e_ : D := .tup []
abbrev m0 : D := .dct [] []
def ths : List D := [.non, .int 31, .int (-1), .bl true, .str "3", .tup [.int 3], .lst [], .int 100000000000000000000]
def sts1 : List D := [.non, .tup [], .int 0, .tup [.tup [.int 3]], .tup [.tup [.int (-1)]], .tup [.tup [.int 1, .int 0]], .tup [.tup [.int 0, .int 0]], .tup [.lst [.int 0]], .lst [.tup [.int 0]], .tup [.tup [.bl true]], .tup [.tup [.str "0"]]]
def sts2 : List D := [.tup [e_, e_, e_, e_, e_, e_, e_], m0, .str "0"]
def sts : List D := sts1 ++ sts2
def sms : List D := [.non, .tup [], .tup [.int 1], .int 0, .tup [.int 1, .int 1, .int 1, .int 1, .int 1, .int 1, .int 1, .int 1], .lst [.int 1, .int 1], .tup [.bl true, .int 1], .tup [.int 1, .non], .str "11", m0, .tup [.int 1000000000000000000000000000000, .int 1], .tup [.int 1, .str "1"]]
def mns : List D := [.non, .int 0, .int 13, .int (-1), .bl true, .str "3", .tup [.int 3], .lst []]
def ods : List D := [.non, .int (-1), .bl true, .str "0", .tup [.int 0], .lst [], .int 1000000000000000000000000000000]
def fix1 : List D := [m0, .lst [.lst []], .tup [.str "sets", m0], .tup [.str "lack", m0], .tup [.str "sets", .tup [m0]], .tup [m0, .int 0]]
def fix2 : List D := [.tup [.str "sets", .tup [.tup [.non]]]]
def fix3 : List D := [.tup [.str "least", m0, m0], .tup [.str "least", .tup [m0, .int 1, .int 2], .tup [.tup [.int 0, .int 1], .tup [.int 0, .int 1]]], .tup [.str "greatest", .tup [], .tup [.tup [.int 0, .int 1]]]]
def fix : List D := fix1 ++ fix2 ++ fix3
abbrev s31 : D := .tup [.int 31, .int 1]
abbrev sm1 : D := .tup [.int (-1), .int 1]
abbrev s68 : D := .tup [.int 6, .int 8, .int 4, .int 1]
abbrev s32 : D := .tup [.int 3, .int 2]
abbrev NT : Xc := ⟨"NoTable", none⟩
abbrev NN (d : D) : Xc := ⟨"NoNumber", some ("number", d)⟩
theorem k_meet_sums : ∀ d ∈ ths, ∀ s : D, c_meet_sums [.val d, .val s] = some (.inr (NN d), [.emp, .emp]) := by
  intro d m
  simp only [ths, List.mem_cons, List.not_mem_nil, or_false] at m
  rcases m with rfl | rfl | rfl | rfl | rfl | rfl | rfl | rfl <;> (intros; kernel_rfl)
theorem k_meet_sums3 : ∀ d ∈ sts, c_meet_sums [.val (.int 3), .val d] = some (.inr NT, [.emp, .emp]) := by
  intro d m
  simp only [sts, sts1, sts2, List.cons_append, List.nil_append, List.mem_cons, List.not_mem_nil, or_false] at m
  rcases m with rfl | rfl | rfl | rfl | rfl | rfl | rfl | rfl | rfl | rfl | rfl | rfl | rfl | rfl <;> kernel_rfl
theorem k_just_counts : ∀ d ∈ ths, ∀ s : D, c_just_counts [.val d, .val s] = some (.inr (NN d), [.emp, .emp]) := by
  intro d m
  simp only [ths, List.mem_cons, List.not_mem_nil, or_false] at m
  rcases m with rfl | rfl | rfl | rfl | rfl | rfl | rfl | rfl <;> (intros; kernel_rfl)
theorem k_just_counts3 : ∀ d ∈ sts, c_just_counts [.val (.int 3), .val d] = some (.inr NT, [.emp, .emp]) := by
  intro d m
  simp only [sts, sts1, sts2, List.cons_append, List.nil_append, List.mem_cons, List.not_mem_nil, or_false] at m
  rcases m with rfl | rfl | rfl | rfl | rfl | rfl | rfl | rfl | rfl | rfl | rfl | rfl | rfl | rfl <;> kernel_rfl
theorem k_counts_of : ∀ d ∈ sms, c_counts_of [.val d] = some (.inr NT, [.emp]) := by
  intro d m
  simp only [sms, List.mem_cons, List.not_mem_nil, or_false] at m
  rcases m with rfl | rfl | rfl | rfl | rfl | rfl | rfl | rfl | rfl | rfl | rfl | rfl <;> kernel_rfl
theorem k_sums_of : ∀ d ∈ sms, c_sums_of [.val d] = some (.inr NT, [.emp]) := by
  intro d m
  simp only [sms, List.mem_cons, List.not_mem_nil, or_false] at m
  rcases m with rfl | rfl | rfl | rfl | rfl | rfl | rfl | rfl | rfl | rfl | rfl | rfl <;> kernel_rfl
theorem k_sums_paper : ∀ d ∈ sms, c_sums_paper [.val d] = some (.inr NT, [.emp]) := by
  intro d m
  simp only [sms, List.mem_cons, List.not_mem_nil, or_false] at m
  rcases m with rfl | rfl | rfl | rfl | rfl | rfl | rfl | rfl | rfl | rfl | rfl | rfl <;> kernel_rfl
theorem k_isp : ∀ d ∈ sms, c_is_sums_paper [.val d, .val .non] = some (.inr NT, [.emp, .emp]) := by
  intro d m
  simp only [sms, List.mem_cons, List.not_mem_nil, or_false] at m
  rcases m with rfl | rfl | rfl | rfl | rfl | rfl | rfl | rfl | rfl | rfl | rfl | rfl <;> kernel_rfl
theorem k_sp31 : c_sums_paper [.val s31] = some (.inr (NN (.int 31)), [.emp]) := by kernel_rfl
theorem k_spm1 : c_sums_paper [.val sm1] = some (.inr (NN (.int (-1))), [.emp]) := by kernel_rfl
theorem k_isp31 : c_is_sums_paper [.val s31, .val .non] = some (.inr (NN (.int 31)), [.emp, .emp]) := by kernel_rfl
theorem k_ended : ∀ d ∈ sms, ∀ s : D, c_ended [.val d, .val s] = some (.inr NT, [.emp, .emp]) := by
  intro d m
  simp only [sms, List.mem_cons, List.not_mem_nil, or_false] at m
  rcases m with rfl | rfl | rfl | rfl | rfl | rfl | rfl | rfl | rfl | rfl | rfl | rfl <;> (intros; kernel_rfl)
theorem k_endedm : ∀ d ∈ mns, c_ended [.val s68, .val d] = some (.inr (NN d), [.emp, .emp]) := by
  intro d m
  simp only [mns, List.mem_cons, List.not_mem_nil, or_false] at m
  rcases m with rfl | rfl | rfl | rfl | rfl | rfl | rfl | rfl <;> kernel_rfl
theorem k_ended4 : c_ended [.val s68, .val (.int 4)] = some (.inr (NN (.int 4)), [.emp, .emp]) := by kernel_rfl
theorem k_at_least : ∀ d ∈ sms, ∀ s : D, c_at_least [.val d, .val s] = some (.inr NT, [.emp, .emp]) := by
  intro d m
  simp only [sms, List.mem_cons, List.not_mem_nil, or_false] at m
  rcases m with rfl | rfl | rfl | rfl | rfl | rfl | rfl | rfl | rfl | rfl | rfl | rfl <;> (intros; kernel_rfl)
theorem k_at_leastm : ∀ d ∈ mns, c_at_least [.val s68, .val d] = some (.inr (NN d), [.emp, .emp]) := by
  intro d m
  simp only [mns, List.mem_cons, List.not_mem_nil, or_false] at m
  rcases m with rfl | rfl | rfl | rfl | rfl | rfl | rfl | rfl <;> kernel_rfl
theorem k_at_least4 : c_at_least [.val s68, .val (.int 4)] = some (.inr (NN (.int 4)), [.emp, .emp]) := by kernel_rfl
theorem k_least_total : ∀ d ∈ mns, ∀ s : D, c_least_total [.val d, .val s, .val s] = some (.inr (NN d), [.emp, .emp, .emp]) := by
  intro d m
  simp only [mns, List.mem_cons, List.not_mem_nil, or_false] at m
  rcases m with rfl | rfl | rfl | rfl | rfl | rfl | rfl | rfl <;> (intros; kernel_rfl)
theorem k_least_totalo : ∀ d ∈ ods, c_least_total [.val (.int 3), .val d, .val d] = some (.inr (NN d), [.emp, .emp, .emp]) := by
  intro d m
  simp only [ods, List.mem_cons, List.not_mem_nil, or_false] at m
  rcases m with rfl | rfl | rfl | rfl | rfl | rfl | rfl <;> kernel_rfl
theorem k_least_total1 : ∀ d ∈ ods, c_least_total [.val (.int 3), .val (.int 1), .val d] = some (.inr (NN d), [.emp, .emp, .emp]) := by
  intro d m
  simp only [ods, List.mem_cons, List.not_mem_nil, or_false] at m
  rcases m with rfl | rfl | rfl | rfl | rfl | rfl | rfl <;> kernel_rfl
theorem k_least_total2 : c_least_total [.val (.int 3), .val (.int 1), .val (.int 2)] = some (.inr NT, [.emp, .emp, .emp]) := by kernel_rfl
theorem k_greatest_total : ∀ d ∈ mns, ∀ s : D, c_greatest_total [.val d, .val s, .val s] = some (.inr (NN d), [.emp, .emp, .emp]) := by
  intro d m
  simp only [mns, List.mem_cons, List.not_mem_nil, or_false] at m
  rcases m with rfl | rfl | rfl | rfl | rfl | rfl | rfl | rfl <;> (intros; kernel_rfl)
theorem k_greatest_totalo : ∀ d ∈ ods, c_greatest_total [.val (.int 3), .val d, .val d] = some (.inr (NN d), [.emp, .emp, .emp]) := by
  intro d m
  simp only [ods, List.mem_cons, List.not_mem_nil, or_false] at m
  rcases m with rfl | rfl | rfl | rfl | rfl | rfl | rfl <;> kernel_rfl
theorem k_greatest_total1 : ∀ d ∈ ods, c_greatest_total [.val (.int 3), .val (.int 1), .val d] = some (.inr (NN d), [.emp, .emp, .emp]) := by
  intro d m
  simp only [ods, List.mem_cons, List.not_mem_nil, or_false] at m
  rcases m with rfl | rfl | rfl | rfl | rfl | rfl | rfl <;> kernel_rfl
theorem k_greatest_total2 : c_greatest_total [.val (.int 3), .val (.int 1), .val (.int 2)] = some (.inr NT, [.emp, .emp, .emp]) := by kernel_rfl
theorem k_least_paper : ∀ d ∈ mns, ∀ s : D, c_least_paper [.val d, .val s, .val s] = some (.inr (NN d), [.emp, .emp, .emp]) := by
  intro d m
  simp only [mns, List.mem_cons, List.not_mem_nil, or_false] at m
  rcases m with rfl | rfl | rfl | rfl | rfl | rfl | rfl | rfl <;> (intros; kernel_rfl)
theorem k_least_papero : ∀ d ∈ ods, c_least_paper [.val (.int 3), .val d, .val d] = some (.inr (NN d), [.emp, .emp, .emp]) := by
  intro d m
  simp only [ods, List.mem_cons, List.not_mem_nil, or_false] at m
  rcases m with rfl | rfl | rfl | rfl | rfl | rfl | rfl <;> kernel_rfl
theorem k_least_paper1 : ∀ d ∈ ods, c_least_paper [.val (.int 3), .val (.int 1), .val d] = some (.inr (NN d), [.emp, .emp, .emp]) := by
  intro d m
  simp only [ods, List.mem_cons, List.not_mem_nil, or_false] at m
  rcases m with rfl | rfl | rfl | rfl | rfl | rfl | rfl <;> kernel_rfl
theorem k_least_paper2 : c_least_paper [.val (.int 3), .val (.int 1), .val (.int 2)] = some (.inr NT, [.emp, .emp, .emp]) := by kernel_rfl
theorem k_greatest_paper : ∀ d ∈ mns, ∀ s : D, c_greatest_paper [.val d, .val s, .val s] = some (.inr (NN d), [.emp, .emp, .emp]) := by
  intro d m
  simp only [mns, List.mem_cons, List.not_mem_nil, or_false] at m
  rcases m with rfl | rfl | rfl | rfl | rfl | rfl | rfl | rfl <;> (intros; kernel_rfl)
theorem k_greatest_papero : ∀ d ∈ ods, c_greatest_paper [.val (.int 3), .val d, .val d] = some (.inr (NN d), [.emp, .emp, .emp]) := by
  intro d m
  simp only [ods, List.mem_cons, List.not_mem_nil, or_false] at m
  rcases m with rfl | rfl | rfl | rfl | rfl | rfl | rfl <;> kernel_rfl
theorem k_greatest_paper1 : ∀ d ∈ ods, c_greatest_paper [.val (.int 3), .val (.int 1), .val d] = some (.inr (NN d), [.emp, .emp, .emp]) := by
  intro d m
  simp only [ods, List.mem_cons, List.not_mem_nil, or_false] at m
  rcases m with rfl | rfl | rfl | rfl | rfl | rfl | rfl <;> kernel_rfl
theorem k_greatest_paper2 : c_greatest_paper [.val (.int 3), .val (.int 1), .val (.int 2)] = some (.inr NT, [.emp, .emp, .emp]) := by kernel_rfl
theorem k_is_least_paper : ∀ d ∈ mns, ∀ s : D, c_is_least_paper [.val d, .val s, .val s, .val .non] = some (.inr (NN d), [.emp, .emp, .emp, .emp]) := by
  intro d m
  simp only [mns, List.mem_cons, List.not_mem_nil, or_false] at m
  rcases m with rfl | rfl | rfl | rfl | rfl | rfl | rfl | rfl <;> (intros; kernel_rfl)
theorem k_is_least_papero : ∀ d ∈ ods, c_is_least_paper [.val (.int 3), .val d, .val (.int 1), .val .non] = some (.inr (NN d), [.emp, .emp, .emp, .emp]) := by
  intro d m
  simp only [ods, List.mem_cons, List.not_mem_nil, or_false] at m
  rcases m with rfl | rfl | rfl | rfl | rfl | rfl | rfl <;> kernel_rfl
theorem k_is_least_paper1 : ∀ d ∈ ods, c_is_least_paper [.val (.int 3), .val (.int 1), .val d, .val .non] = some (.inr (NN d), [.emp, .emp, .emp, .emp]) := by
  intro d m
  simp only [ods, List.mem_cons, List.not_mem_nil, or_false] at m
  rcases m with rfl | rfl | rfl | rfl | rfl | rfl | rfl <;> kernel_rfl
theorem k_is_greatest_paper : ∀ d ∈ mns, ∀ s : D, c_is_greatest_paper [.val d, .val s, .val s, .val .non] = some (.inr (NN d), [.emp, .emp, .emp, .emp]) := by
  intro d m
  simp only [mns, List.mem_cons, List.not_mem_nil, or_false] at m
  rcases m with rfl | rfl | rfl | rfl | rfl | rfl | rfl | rfl <;> (intros; kernel_rfl)
theorem k_is_greatest_papero : ∀ d ∈ ods, c_is_greatest_paper [.val (.int 3), .val d, .val (.int 1), .val .non] = some (.inr (NN d), [.emp, .emp, .emp, .emp]) := by
  intro d m
  simp only [ods, List.mem_cons, List.not_mem_nil, or_false] at m
  rcases m with rfl | rfl | rfl | rfl | rfl | rfl | rfl <;> kernel_rfl
theorem k_is_greatest_paper1 : ∀ d ∈ ods, c_is_greatest_paper [.val (.int 3), .val (.int 1), .val d, .val .non] = some (.inr (NN d), [.emp, .emp, .emp, .emp]) := by
  intro d m
  simp only [ods, List.mem_cons, List.not_mem_nil, or_false] at m
  rcases m with rfl | rfl | rfl | rfl | rfl | rfl | rfl <;> kernel_rfl
theorem j1_ths : ∀ d ∈ ths, tame c_is_sums_paper [.val s32, .val d] = some (.val (.bl false), [.emp, .emp]) := by
  intro d m
  simp only [ths, List.mem_cons, List.not_mem_nil, or_false] at m
  rcases m with rfl | rfl | rfl | rfl | rfl | rfl | rfl | rfl <;> kernel_rfl
theorem j2_ths : ∀ d ∈ ths, tame c_is_least_paper [.val (.int 3), .val (.int 1), .val (.int 2), .val d] = some (.val (.bl false), [.emp, .emp, .emp, .emp]) := by
  intro d m
  simp only [ths, List.mem_cons, List.not_mem_nil, or_false] at m
  rcases m with rfl | rfl | rfl | rfl | rfl | rfl | rfl | rfl <;> kernel_rfl
theorem j3_ths : ∀ d ∈ ths, tame c_is_greatest_paper [.val (.int 3), .val (.int 8), .val (.int 4), .val d] = some (.val (.bl false), [.emp, .emp, .emp, .emp]) := by
  intro d m
  simp only [ths, List.mem_cons, List.not_mem_nil, or_false] at m
  rcases m with rfl | rfl | rfl | rfl | rfl | rfl | rfl | rfl <;> kernel_rfl
theorem j1_sts : ∀ d ∈ sts, tame c_is_sums_paper [.val s32, .val d] = some (.val (.bl false), [.emp, .emp]) := by
  intro d m
  simp only [sts, sts1, sts2, List.cons_append, List.nil_append, List.mem_cons, List.not_mem_nil, or_false] at m
  rcases m with rfl | rfl | rfl | rfl | rfl | rfl | rfl | rfl | rfl | rfl | rfl | rfl | rfl | rfl <;> kernel_rfl
theorem j2_sts : ∀ d ∈ sts, tame c_is_least_paper [.val (.int 3), .val (.int 1), .val (.int 2), .val d] = some (.val (.bl false), [.emp, .emp, .emp, .emp]) := by
  intro d m
  simp only [sts, sts1, sts2, List.cons_append, List.nil_append, List.mem_cons, List.not_mem_nil, or_false] at m
  rcases m with rfl | rfl | rfl | rfl | rfl | rfl | rfl | rfl | rfl | rfl | rfl | rfl | rfl | rfl <;> kernel_rfl
theorem j3_sts : ∀ d ∈ sts, tame c_is_greatest_paper [.val (.int 3), .val (.int 8), .val (.int 4), .val d] = some (.val (.bl false), [.emp, .emp, .emp, .emp]) := by
  intro d m
  simp only [sts, sts1, sts2, List.cons_append, List.nil_append, List.mem_cons, List.not_mem_nil, or_false] at m
  rcases m with rfl | rfl | rfl | rfl | rfl | rfl | rfl | rfl | rfl | rfl | rfl | rfl | rfl | rfl <;> kernel_rfl
theorem j1_sms : ∀ d ∈ sms, tame c_is_sums_paper [.val s32, .val d] = some (.val (.bl false), [.emp, .emp]) := by
  intro d m
  simp only [sms, List.mem_cons, List.not_mem_nil, or_false] at m
  rcases m with rfl | rfl | rfl | rfl | rfl | rfl | rfl | rfl | rfl | rfl | rfl | rfl <;> kernel_rfl
theorem j2_sms : ∀ d ∈ sms, tame c_is_least_paper [.val (.int 3), .val (.int 1), .val (.int 2), .val d] = some (.val (.bl false), [.emp, .emp, .emp, .emp]) := by
  intro d m
  simp only [sms, List.mem_cons, List.not_mem_nil, or_false] at m
  rcases m with rfl | rfl | rfl | rfl | rfl | rfl | rfl | rfl | rfl | rfl | rfl | rfl <;> kernel_rfl
theorem j3_sms : ∀ d ∈ sms, tame c_is_greatest_paper [.val (.int 3), .val (.int 8), .val (.int 4), .val d] = some (.val (.bl false), [.emp, .emp, .emp, .emp]) := by
  intro d m
  simp only [sms, List.mem_cons, List.not_mem_nil, or_false] at m
  rcases m with rfl | rfl | rfl | rfl | rfl | rfl | rfl | rfl | rfl | rfl | rfl | rfl <;> kernel_rfl
theorem j1_mns : ∀ d ∈ mns, tame c_is_sums_paper [.val s32, .val d] = some (.val (.bl false), [.emp, .emp]) := by
  intro d m
  simp only [mns, List.mem_cons, List.not_mem_nil, or_false] at m
  rcases m with rfl | rfl | rfl | rfl | rfl | rfl | rfl | rfl <;> kernel_rfl
theorem j2_mns : ∀ d ∈ mns, tame c_is_least_paper [.val (.int 3), .val (.int 1), .val (.int 2), .val d] = some (.val (.bl false), [.emp, .emp, .emp, .emp]) := by
  intro d m
  simp only [mns, List.mem_cons, List.not_mem_nil, or_false] at m
  rcases m with rfl | rfl | rfl | rfl | rfl | rfl | rfl | rfl <;> kernel_rfl
theorem j3_mns : ∀ d ∈ mns, tame c_is_greatest_paper [.val (.int 3), .val (.int 8), .val (.int 4), .val d] = some (.val (.bl false), [.emp, .emp, .emp, .emp]) := by
  intro d m
  simp only [mns, List.mem_cons, List.not_mem_nil, or_false] at m
  rcases m with rfl | rfl | rfl | rfl | rfl | rfl | rfl | rfl <;> kernel_rfl
theorem j1_ods : ∀ d ∈ ods, tame c_is_sums_paper [.val s32, .val d] = some (.val (.bl false), [.emp, .emp]) := by
  intro d m
  simp only [ods, List.mem_cons, List.not_mem_nil, or_false] at m
  rcases m with rfl | rfl | rfl | rfl | rfl | rfl | rfl <;> kernel_rfl
theorem j2_ods : ∀ d ∈ ods, tame c_is_least_paper [.val (.int 3), .val (.int 1), .val (.int 2), .val d] = some (.val (.bl false), [.emp, .emp, .emp, .emp]) := by
  intro d m
  simp only [ods, List.mem_cons, List.not_mem_nil, or_false] at m
  rcases m with rfl | rfl | rfl | rfl | rfl | rfl | rfl <;> kernel_rfl
theorem j3_ods : ∀ d ∈ ods, tame c_is_greatest_paper [.val (.int 3), .val (.int 8), .val (.int 4), .val d] = some (.val (.bl false), [.emp, .emp, .emp, .emp]) := by
  intro d m
  simp only [ods, List.mem_cons, List.not_mem_nil, or_false] at m
  rcases m with rfl | rfl | rfl | rfl | rfl | rfl | rfl <;> kernel_rfl
theorem j1_fix : ∀ d ∈ fix, tame c_is_sums_paper [.val s32, .val d] = some (.val (.bl false), [.emp, .emp]) := by
  intro d m
  simp only [fix, fix1, fix2, fix3, List.cons_append, List.nil_append, List.mem_cons, List.not_mem_nil, or_false] at m
  rcases m with rfl | rfl | rfl | rfl | rfl | rfl | rfl | rfl | rfl | rfl <;> kernel_rfl
theorem j2_fix : ∀ d ∈ fix, tame c_is_least_paper [.val (.int 3), .val (.int 1), .val (.int 2), .val d] = some (.val (.bl false), [.emp, .emp, .emp, .emp]) := by
  intro d m
  simp only [fix, fix1, fix2, fix3, List.cons_append, List.nil_append, List.mem_cons, List.not_mem_nil, or_false] at m
  rcases m with rfl | rfl | rfl | rfl | rfl | rfl | rfl | rfl | rfl | rfl <;> kernel_rfl
theorem j3_fix : ∀ d ∈ fix, tame c_is_greatest_paper [.val (.int 3), .val (.int 8), .val (.int 4), .val d] = some (.val (.bl false), [.emp, .emp, .emp, .emp]) := by
  intro d m
  simp only [fix, fix1, fix2, fix3, List.cons_append, List.nil_append, List.mem_cons, List.not_mem_nil, or_false] at m
  rcases m with rfl | rfl | rfl | rfl | rfl | rfl | rfl | rfl | rfl | rfl <;> kernel_rfl
def r30 : List D := [.int 0, .int 1, .int 2, .int 3, .int 4, .int 5, .int 6, .int 7, .int 8, .int 9, .int 10, .int 11, .int 12, .int 13, .int 14, .int 15, .int 16, .int 17, .int 18, .int 19, .int 20, .int 21, .int 22, .int 23, .int 24, .int 25, .int 26, .int 27, .int 28, .int 29]
theorem k_end : tame c_meet_sums [.val (.int 30), .val (.tup [.tup r30])] = some (.val (.tup [.int 30, .int 30]), [.emp, .emp]) := by kernel_rfl
/-! texts -/
def Rok (d : D) : Prop := okR (toPy d) = true ∧ ("number " : Str).length + (toPy d).shown.length ≤ 100
theorem rok_ths : ∀ d ∈ ths, Rok d := by
  intro d m
  simp only [ths, List.mem_cons, List.not_mem_nil, or_false] at m
  rcases m with rfl | rfl | rfl | rfl | rfl | rfl | rfl | rfl <;> exact ⟨by kernel_rfl, Nat.le_of_ble_eq_true (by kernel_rfl)⟩
theorem rok_mns : ∀ d ∈ mns, Rok d := by
  intro d m
  simp only [mns, List.mem_cons, List.not_mem_nil, or_false] at m
  rcases m with rfl | rfl | rfl | rfl | rfl | rfl | rfl | rfl <;> exact ⟨by kernel_rfl, Nat.le_of_ble_eq_true (by kernel_rfl)⟩
theorem rok_ods : ∀ d ∈ ods, Rok d := by
  intro d m
  simp only [ods, List.mem_cons, List.not_mem_nil, or_false] at m
  rcases m with rfl | rfl | rfl | rfl | rfl | rfl | rfl <;> exact ⟨by kernel_rfl, Nat.le_of_ble_eq_true (by kernel_rfl)⟩
theorem rok_31 : Rok (.int (31)) := ⟨by kernel_rfl, Nat.le_of_ble_eq_true (by kernel_rfl)⟩
theorem sh_31 : ("number " : Str) ++ (toPy (.int (31))).shown = ("number 31" : Str) := by kernel_rfl
theorem rok_m1 : Rok (.int (-1)) := ⟨by kernel_rfl, Nat.le_of_ble_eq_true (by kernel_rfl)⟩
theorem sh_m1 : ("number " : Str) ++ (toPy (.int (-1))).shown = ("number -1" : Str) := by kernel_rfl
theorem rok_4 : Rok (.int (4)) := ⟨by kernel_rfl, Nat.le_of_ble_eq_true (by kernel_rfl)⟩
theorem sh_4 : ("number " : Str) ++ (toPy (.int (4))).shown = ("number 4" : Str) := by kernel_rfl
end G
set_option maxHeartbeats 4000000
namespace G
open PySem RF
/-! ### what _law_met tells -/
abbrev Rf (z : Str) : D := .tup [.str "refused", .str z]
def nz (d : D) : Str := ("number " : Str) ++ (toPy d).shown
theorem met_table {g : Addr} {F : LF} {caps : List D} {led : CFX} (h : led [] = some (.inr NT, [])) : c__law_met g F caps led [.val (.fn g F caps)] = some (.val (Rf "table"), [.emp]) := by
  unfold c__law_met F__law_met
  have e2 : sxSeq (sxRet (evTold 0 g F caps led "told")) (upS sfNil) [.val (.fn g F caps), .emp] = some (.inr NT, [.val (.fn g F caps), .emp]) := x_seqX (x_retX (r_told rfl h))
  refine r_cfR (ρ0 := [.val (.fn g F caps), .emp]) (ρ1 := [.val (.fn g F caps), .emp]) (r := .val (Rf "table")) rfl ?_ rfl rfl
  refine r_seq (o := .rt (.val (Rf "table"))) (ρ1 := [.val (.fn g F caps), .emp]) ?_ r_seqR
  unfold sfTry2
  rw [e2]
  rfl
theorem lim_of {n : Nat} (h : n ≤ 100) : n ≤ lim := Nat.le_trans h (by decide)
theorem met_num {g : Addr} {F : LF} {caps : List D} {led : CFX} {d : D} (h : led [] = some (.inr (NN d), [])) (hr : Rok d) : c__law_met g F caps led [.val (.fn g F caps)] = some (.val (Rf (nz d)), [.emp]) := by
  unfold c__law_met F__law_met
  have e2 : sxSeq (sxRet (evTold 0 g F caps led "told")) (upS sfNil) [.val (.fn g F caps), .emp] = some (.inr (NN d), [.val (.fn g F caps), .emp]) := x_seqX (x_retX (r_told rfl h))
  have e3 : hPayR "NoNumber" "number" "refused" "number " (NN d) [.val (.fn g F caps), .emp] = some (.rt (.val (Rf (nz d))), [.val (.fn g F caps), .emp]) := by
    unfold hPayR
    rw [if_pos rfl]
    exact if_pos ⟨rfl, hr.1, lim_of hr.2⟩
  refine r_cfR (ρ0 := [.val (.fn g F caps), .emp]) (ρ1 := [.val (.fn g F caps), .emp]) (r := .val (Rf (nz d))) rfl ?_ rfl rfl
  refine r_seq (o := .rt (.val (Rf (nz d)))) (ρ1 := [.val (.fn g F caps), .emp]) ?_ r_seqR
  generalize hPayR "NoNumber" "number" "refused" "number " = hp at e3 ⊢
  unfold sfTry2
  rw [e2]
  simp only [Option.bind_some]
  rw [if_neg (by decide +kernel)]
  simp only [if_true, e3]
  rfl
/-! ### the statements -/
theorem app_lam {ρ : Lo} {js : List Nat} {lam : List D → CFX} {caps : List D} {Z : List Str} {z : Str} (h0 : ρ[6]? = some (.own false (Z.map Rf))) (h1 : capsOf ρ js = some caps) (h2 : ∀ g F, c__law_met g F caps (lam caps) [.val (.fn g F caps)] = some (.val (Rf z), [.emp])) (hl : Z.length < 1000) :
    sfDrop (evAppend 6 (avCons (evLam1X (fun g F caps led => c__law_met g F caps led) js lam) avNil)) ρ = some (.nx, ρ.set 6 (.own false ((Z ++ [z]).map Rf))) := by
  have e : (Z ++ [z]).map Rf = Z.map Rf ++ [Rf z] := List.map_append
  rw [e]
  exact r_drop (r_appL h0 (r_cons (r_lam1X h1 h2) rfl) (.cons .nil) h0 (Nat.lt_trans (by rw [List.length_map]; exact hl) (by decide)) rfl)
theorem num_ev {ρ : Lo} {i : Nat} {d : D} (h : evVar i ρ = some (.val d, ρ)) (hr : Rok d) : evBin .Add (evCst (.str "number ")) (evRepr (evVar i)) ρ = some (.val (.str (nz d)), ρ) :=
  r_bin rfl (r_repr h rfl hr.1) rfl rfl (if_pos (lim_of hr.2))
theorem due_ev {ρ : Lo} {av : AvF} {Z Y : List Str} (h0 : evVar 7 ρ = some (.ali 7, ρ)) (h1 : ρ[7]? = some (.own false (Z.map .str))) (h2 : evLst av ρ = some (.fresh (Y.map .str), ρ)) (hl : Z.length + Y.length ≤ 1000) :
    sfSet 7 (evBin .Add (evVar 7) (evLst av)) ρ = some (.nx, ρ.set 7 (.own false ((Z ++ Y).map .str))) := by
  have e : (Z ++ Y).map D.str = Z.map .str ++ Y.map .str := List.map_append
  rw [e]
  have e5 : binD .Add (.lst (Z.map .str)) (.lst (Y.map .str)) = some (.fresh (Z.map .str ++ Y.map .str)) := if_pos (Nat.le_trans (m := 1000) (by simpa using hl) (by decide))
  refine r_set (r_bin h0 h2 ?_ rfl e5) (a_fr ?_ rfl)
  · simp only [deref, h1]
  · rw [h1]; rfl
/-! ### the lists told and due are alike -/
theorem canL : ∀ zs : List Str, (∀ z ∈ zs, PyData.strOk z = true) → PyData.canLayAll0 (toPys (zs.map Rf)) = true
  | [], _ => rfl
  | z :: zs, h => by
    have h1 := h z List.mem_cons_self
    have h2 := canL zs fun y m => h y (List.mem_cons_of_mem _ m)
    have h3 : PyData.strOk "refused" = true := by decide +kernel
    simp only [List.map_cons, toPys, toPy, PyData.canLayAll0, PyData.canLay0, h1, h2, h3, Bool.and_true]
theorem depL : ∀ zs : List Str, PyData.depthAll (toPys (zs.map Rf)) ≤ 1
  | [] => Nat.zero_le _
  | z :: zs => by
    have h := depL zs
    simp only [List.map_cons, toPys, toPy, PyData.depthAll, PyData.depth]
    omega
theorem eqvL : ∀ zs : List Str, PyData.eqvAll (toPys (zs.map Rf)) (toPys (zs.map Rf)) = true
  | [] => by simp only [List.map_nil, toPys, PyData.eqvAll]
  | z :: zs => by
    have h := eqvL zs
    simp only [List.map_cons, toPys, toPy, PyData.eqvAll, PyData.eqv, h, beq_self_eq_true, Bool.and_true]
theorem ne_lst {zs : List Str} (h0 : zs ≠ []) (h : ∀ z ∈ zs, PyData.strOk z = true) : cmpD .NotEq (.lst (zs.map Rf)) (.lst (zs.map Rf)) = some false := by
  have sh : SeqAt.shaped (toPy (.lst (zs.map Rf))) = true := by
    unfold SeqAt.shaped
    simp only [toPy, PyData.canLay0, PyData.depth, canL zs h, Bool.true_and, decide_eq_true_eq]
    have := depL zs
    omega
  have ev : PyData.eqv (toPy (.lst (zs.map Rf))) (toPy (.lst (zs.map Rf))) = true := by
    simp only [toPy, PyData.eqv, eqvL]
  show (eqD (.lst (zs.map Rf)) (.lst (zs.map Rf))).map (!·) = some false
  have : eqD (.lst (zs.map Rf)) (.lst (zs.map Rf)) = some true := by
    simp only [eqD]
    rw [if_neg (by simp), if_neg (by cases zs with | nil => exact absurd rfl h0 | cons _ _ => simp)]
    unfold eqGen
    rw [sh, ev]
    rfl
  rw [this]
  rfl
end G
set_option maxHeartbeats 4000000
namespace G
open PySem RF
abbrev Q12 (bag : List D) (t s u m o : D) (Z Y : List Str) (ca : Sl) : Lo := [.own true bag, .val t, .val s, .val u, .val m, .val o, .own false (Z.map Rf), .own false (Y.map D.str), ca, .emp, .emp, .emp]
theorem due_app {ρ : Lo} {Z : List Str} {z : Str} (h1 : ρ[7]? = some (.own false (Z.map .str))) (hl : Z.length < 1000) : sfDrop (evAppend 7 (avCons (evCst (.str z)) avNil)) ρ = some (.nx, ρ.set 7 (.own false ((Z ++ [z]).map .str))) := by
  have e : (Z ++ [z]).map D.str = Z.map .str ++ [.str z] := List.map_append
  rw [e]
  exact r_drop (r_appL h1 (r_cons rfl rfl) (.cons .nil) h1 (Nat.lt_trans (by rw [List.length_map]; exact hl) (by decide)) rfl)
theorem t68 (ρ : Lo) : evTup (avCons (evCst (.int 6)) (avCons (evCst (.int 8)) (avCons (evCst (.int 4)) (avCons (evCst (.int 1)) avNil)))) ρ = some (.val s68, ρ) := v_tup (r_cons rfl (r_cons rfl (r_cons rfl (r_cons rfl rfl)))) (.cons (.cons (.cons (.cons .nil)))) (Nat.le_of_ble_eq_true rfl)
theorem t31 (ρ : Lo) : evTup (avCons (evCst (.int 31)) (avCons (evCst (.int 1)) avNil)) ρ = some (.val s31, ρ) := v_tup (r_cons rfl (r_cons rfl rfl)) (.cons (.cons .nil)) (Nat.le_of_ble_eq_true rfl)
theorem tm1 (ρ : Lo) : evTup (avCons (evNeg (evCst (.int 1))) (avCons (evCst (.int 1)) avNil)) ρ = some (.val sm1, ρ) := v_tup (r_cons (r_neg rfl rfl) (r_cons rfl rfl)) (.cons (.cons .nil)) (Nat.le_of_ble_eq_true rfl)
abbrev zT : Str := "table"
abbrev z4 : Str := "number 4"
abbrev z31 : Str := "number 31"
abbrev zm1 : Str := "number -1"
theorem n31 : nz (.int 31) = z31 := sh_31
theorem nm1 : nz (.int (-1)) = zm1 := sh_m1
theorem n4 : nz (.int 4) = z4 := sh_4
variable {bag : List D} {t s u m o : D} {Z : List Str} {x : Str} {cf : CFX}
theorem b6_ok (hl : List.lookup x tbl__law_right_call2 = some cf) (a1 : cf [.val t, .val s] = some (.inr (NN t), [.emp, .emp])) (a2 : cf [.val (.int 3), .val s] = some (.inr NT, [.emp, .emp])) (rt : Rok t) (hZ : Z.length < 900) : b__law_right_6 (Q12 bag t s u m o (Z) (Z) (.val (.gl x))) = some (.nx, Q12 bag t s u m o (Z ++ [nz t, zT]) (Z ++ [nz t, zT]) (.val (.gl x))) := by
  have e' : Z ++ [nz t] ++ [zT] = Z ++ [nz t, zT] := by simp [n4]
  suffices H : b__law_right_6 (Q12 bag t s u m o (Z) (Z) (.val (.gl x))) = some (.nx, Q12 bag t s u m o (Z ++ [nz t] ++ [zT]) (Z ++ [nz t, zT]) (.val (.gl x))) by rw [H, e']
  unfold b__law_right_6
  refine r_seq (o := .nx) (ρ1 := Q12 bag t s u m o (Z ++ [nz t]) (Z) (.val (.gl x))) (app_lam (caps := [.gl x, t, s]) rfl rfl (fun _ _ => met_num (r_lamFX rfl (v_callGX rfl hl (v_callX (r_cons rfl (r_cons rfl rfl)) (.cons (.cons .nil)) rfl rfl a1 rfl))) rt) (by first | omega | (simp; omega))) (r_seqN ?_)
  refine r_seq (o := .nx) (ρ1 := Q12 bag t s u m o (Z ++ [nz t] ++ [zT]) (Z) (.val (.gl x))) (app_lam (caps := [.gl x, s]) rfl rfl (fun _ _ => met_table (r_lamFX rfl (v_callGX rfl hl (v_callX (r_cons rfl (r_cons rfl rfl)) (.cons (.cons .nil)) rfl rfl a2 rfl)))) (by first | omega | (simp; omega))) (r_seqN ?_)
  exact r_seq (o := .nx) (ρ1 := Q12 bag t s u m o (Z ++ [nz t] ++ [zT]) (Z ++ [nz t, zT]) (.val (.gl x))) (due_ev (Y := [nz t, zT]) rfl rfl (v_lst (r_cons (num_ev (i := 1) rfl rt) (r_cons rfl rfl)) (.cons (.cons .nil)) (Nat.le_of_ble_eq_true rfl)) (by first | omega | (simp; omega))) rfl
theorem b5_ok (hl : List.lookup x tbl__law_right_call1 = some cf) (a1 : cf [.val u] = some (.inr NT, [.emp])) (hZ : Z.length < 900) : b__law_right_5 (Q12 bag t s u m o (Z) (Z) (.val (.gl x))) = some (.nx, Q12 bag t s u m o (Z ++ [zT]) (Z ++ [zT]) (.val (.gl x))) := by
  unfold b__law_right_5
  refine r_seq (o := .nx) (ρ1 := Q12 bag t s u m o (Z ++ [zT]) (Z) (.val (.gl x))) (app_lam (caps := [.gl x, u]) rfl rfl (fun _ _ => met_table (r_lamFX rfl (v_callGX rfl hl (v_callX (r_cons rfl rfl) (.cons .nil) rfl rfl a1 rfl)))) (by first | omega | (simp; omega))) (r_seqN ?_)
  exact r_seq (o := .nx) (ρ1 := Q12 bag t s u m o (Z ++ [zT]) (Z ++ [zT]) (.val (.gl x))) (due_app rfl (by omega)) rfl
theorem b4_ok (hl : List.lookup x tbl__law_right_call2 = some cf) (a1 : cf [.val u, .val m] = some (.inr NT, [.emp, .emp])) (a2 : cf [.val s68, .val m] = some (.inr (NN m), [.emp, .emp])) (a3 : cf [.val s68, .val (.int 4)] = some (.inr (NN (.int 4)), [.emp, .emp])) (rm : Rok m) (hZ : Z.length < 900) : b__law_right_4 (Q12 bag t s u m o (Z) (Z) (.val (.gl x))) = some (.nx, Q12 bag t s u m o (Z ++ [zT, nz m, z4]) (Z ++ [zT, nz m, z4]) (.val (.gl x))) := by
  have e' : Z ++ [zT] ++ [nz m] ++ [nz (.int 4)] = Z ++ [zT, nz m, z4] := by simp [n4]
  suffices H : b__law_right_4 (Q12 bag t s u m o (Z) (Z) (.val (.gl x))) = some (.nx, Q12 bag t s u m o (Z ++ [zT] ++ [nz m] ++ [nz (.int 4)]) (Z ++ [zT, nz m, z4]) (.val (.gl x))) by rw [H, e']
  unfold b__law_right_4
  refine r_seq (o := .nx) (ρ1 := Q12 bag t s u m o (Z ++ [zT]) (Z) (.val (.gl x))) (app_lam (caps := [.gl x, u, m]) rfl rfl (fun _ _ => met_table (r_lamFX rfl (v_callGX rfl hl (v_callX (r_cons rfl (r_cons rfl rfl)) (.cons (.cons .nil)) rfl rfl a1 rfl)))) (by first | omega | (simp; omega))) (r_seqN ?_)
  refine r_seq (o := .nx) (ρ1 := Q12 bag t s u m o (Z ++ [zT] ++ [nz m]) (Z) (.val (.gl x))) (app_lam (caps := [.gl x, m]) rfl rfl (fun _ _ => met_num (r_lamFX rfl (v_callGX rfl hl (v_callX (r_cons (t68 _) (r_cons rfl rfl)) (.cons (.cons .nil)) rfl rfl a2 rfl))) rm) (by first | omega | (simp; omega))) (r_seqN ?_)
  refine r_seq (o := .nx) (ρ1 := Q12 bag t s u m o (Z ++ [zT] ++ [nz m] ++ [nz (.int 4)]) (Z) (.val (.gl x))) (app_lam (caps := [.gl x]) rfl rfl (fun _ _ => met_num (r_lamFX rfl (v_callGX rfl hl (v_callX (r_cons (t68 _) (r_cons rfl rfl)) (.cons (.cons .nil)) rfl rfl a3 rfl))) rok_4) (by first | omega | (simp; omega))) (r_seqN ?_)
  exact r_seq (o := .nx) (ρ1 := Q12 bag t s u m o (Z ++ [zT] ++ [nz m] ++ [nz (.int 4)]) (Z ++ [zT, nz m, z4]) (.val (.gl x))) (due_ev (Y := [zT, nz m, z4]) rfl rfl (v_lst (r_cons rfl (r_cons (num_ev (i := 4) rfl rm) (r_cons rfl rfl))) (.cons (.cons (.cons .nil))) (Nat.le_of_ble_eq_true rfl)) (by first | omega | (simp; omega))) rfl
theorem b3_ok (hl : List.lookup x tbl__law_right_call3 = some cf) (a1 : cf [.val m, .val o, .val o] = some (.inr (NN m), [.emp, .emp, .emp])) (a2 : cf [.val (.int 3), .val o, .val o] = some (.inr (NN o), [.emp, .emp, .emp])) (a3 : cf [.val (.int 3), .val (.int 1), .val o] = some (.inr (NN o), [.emp, .emp, .emp])) (a4 : cf [.val (.int 3), .val (.int 1), .val (.int 2)] = some (.inr NT, [.emp, .emp, .emp])) (rm : Rok m) (ro : Rok o) (hZ : Z.length < 900) : b__law_right_3 (Q12 bag t s u m o (Z) (Z) (.val (.gl x))) = some (.nx, Q12 bag t s u m o (Z ++ [nz m, nz o, nz o, zT]) (Z ++ [nz m, nz o, nz o, zT]) (.val (.gl x))) := by
  have e' : Z ++ [nz m] ++ [nz o] ++ [nz o] ++ [zT] = Z ++ [nz m, nz o, nz o, zT] := by simp [n4]
  suffices H : b__law_right_3 (Q12 bag t s u m o (Z) (Z) (.val (.gl x))) = some (.nx, Q12 bag t s u m o (Z ++ [nz m] ++ [nz o] ++ [nz o] ++ [zT]) (Z ++ [nz m, nz o, nz o, zT]) (.val (.gl x))) by rw [H, e']
  unfold b__law_right_3
  refine r_seq (o := .nx) (ρ1 := Q12 bag t s u m o (Z ++ [nz m]) (Z) (.val (.gl x))) (app_lam (caps := [.gl x, m, o]) rfl rfl (fun _ _ => met_num (r_lamFX rfl (v_callGX rfl hl (v_callX (r_cons rfl (r_cons rfl (r_cons rfl rfl))) (.cons (.cons (.cons .nil))) rfl rfl a1 rfl))) rm) (by first | omega | (simp; omega))) (r_seqN ?_)
  refine r_seq (o := .nx) (ρ1 := Q12 bag t s u m o (Z ++ [nz m] ++ [nz o]) (Z) (.val (.gl x))) (app_lam (caps := [.gl x, o]) rfl rfl (fun _ _ => met_num (r_lamFX rfl (v_callGX rfl hl (v_callX (r_cons rfl (r_cons rfl (r_cons rfl rfl))) (.cons (.cons (.cons .nil))) rfl rfl a2 rfl))) ro) (by first | omega | (simp; omega))) (r_seqN ?_)
  refine r_seq (o := .nx) (ρ1 := Q12 bag t s u m o (Z ++ [nz m] ++ [nz o] ++ [nz o]) (Z) (.val (.gl x))) (app_lam (caps := [.gl x, o]) rfl rfl (fun _ _ => met_num (r_lamFX rfl (v_callGX rfl hl (v_callX (r_cons rfl (r_cons rfl (r_cons rfl rfl))) (.cons (.cons (.cons .nil))) rfl rfl a3 rfl))) ro) (by first | omega | (simp; omega))) (r_seqN ?_)
  refine r_seq (o := .nx) (ρ1 := Q12 bag t s u m o (Z ++ [nz m] ++ [nz o] ++ [nz o] ++ [zT]) (Z) (.val (.gl x))) (app_lam (caps := [.gl x]) rfl rfl (fun _ _ => met_table (r_lamFX rfl (v_callGX rfl hl (v_callX (r_cons rfl (r_cons rfl (r_cons rfl rfl))) (.cons (.cons (.cons .nil))) rfl rfl a4 rfl)))) (by first | omega | (simp; omega))) (r_seqN ?_)
  exact r_seq (o := .nx) (ρ1 := Q12 bag t s u m o (Z ++ [nz m] ++ [nz o] ++ [nz o] ++ [zT]) (Z ++ [nz m, nz o, nz o, zT]) (.val (.gl x))) (due_ev (Y := [nz m, nz o, nz o, zT]) rfl rfl (v_lst (r_cons (num_ev (i := 4) rfl rm) (r_cons (num_ev (i := 5) rfl ro) (r_cons (num_ev (i := 5) rfl ro) (r_cons rfl rfl)))) (.cons (.cons (.cons (.cons .nil)))) (Nat.le_of_ble_eq_true rfl)) (by first | omega | (simp; omega))) rfl
theorem b2_ok (hl : List.lookup x tbl__law_right_call4 = some cf) (a1 : cf [.val m, .val o, .val o, .val .non] = some (.inr (NN m), [.emp, .emp, .emp, .emp])) (a2 : cf [.val (.int 3), .val o, .val (.int 1), .val .non] = some (.inr (NN o), [.emp, .emp, .emp, .emp])) (a3 : cf [.val (.int 3), .val (.int 1), .val o, .val .non] = some (.inr (NN o), [.emp, .emp, .emp, .emp])) (rm : Rok m) (ro : Rok o) (hZ : Z.length < 900) : b__law_right_2 (Q12 bag t s u m o (Z) (Z) (.val (.gl x))) = some (.nx, Q12 bag t s u m o (Z ++ [nz m, nz o, nz o]) (Z ++ [nz m, nz o, nz o]) (.val (.gl x))) := by
  have e' : Z ++ [nz m] ++ [nz o] ++ [nz o] = Z ++ [nz m, nz o, nz o] := by simp [n4]
  suffices H : b__law_right_2 (Q12 bag t s u m o (Z) (Z) (.val (.gl x))) = some (.nx, Q12 bag t s u m o (Z ++ [nz m] ++ [nz o] ++ [nz o]) (Z ++ [nz m, nz o, nz o]) (.val (.gl x))) by rw [H, e']
  unfold b__law_right_2
  refine r_seq (o := .nx) (ρ1 := Q12 bag t s u m o (Z ++ [nz m]) (Z) (.val (.gl x))) (app_lam (caps := [.gl x, m, o]) rfl rfl (fun _ _ => met_num (r_lamFX rfl (v_callGX rfl hl (v_callX (r_cons rfl (r_cons rfl (r_cons rfl (r_cons rfl rfl)))) (.cons (.cons (.cons (.cons .nil)))) rfl rfl a1 rfl))) rm) (by first | omega | (simp; omega))) (r_seqN ?_)
  refine r_seq (o := .nx) (ρ1 := Q12 bag t s u m o (Z ++ [nz m] ++ [nz o]) (Z) (.val (.gl x))) (app_lam (caps := [.gl x, o]) rfl rfl (fun _ _ => met_num (r_lamFX rfl (v_callGX rfl hl (v_callX (r_cons rfl (r_cons rfl (r_cons rfl (r_cons rfl rfl)))) (.cons (.cons (.cons (.cons .nil)))) rfl rfl a2 rfl))) ro) (by first | omega | (simp; omega))) (r_seqN ?_)
  refine r_seq (o := .nx) (ρ1 := Q12 bag t s u m o (Z ++ [nz m] ++ [nz o] ++ [nz o]) (Z) (.val (.gl x))) (app_lam (caps := [.gl x, o]) rfl rfl (fun _ _ => met_num (r_lamFX rfl (v_callGX rfl hl (v_callX (r_cons rfl (r_cons rfl (r_cons rfl (r_cons rfl rfl)))) (.cons (.cons (.cons (.cons .nil)))) rfl rfl a3 rfl))) ro) (by first | omega | (simp; omega))) (r_seqN ?_)
  exact r_seq (o := .nx) (ρ1 := Q12 bag t s u m o (Z ++ [nz m] ++ [nz o] ++ [nz o]) (Z ++ [nz m, nz o, nz o]) (.val (.gl x))) (due_ev (Y := [nz m, nz o, nz o]) rfl rfl (v_lst (r_cons (num_ev (i := 4) rfl rm) (r_cons (num_ev (i := 5) rfl ro) (r_cons (num_ev (i := 5) rfl ro) rfl))) (.cons (.cons (.cons .nil))) (Nat.le_of_ble_eq_true rfl)) (by first | omega | (simp; omega))) rfl
end G
set_option maxHeartbeats 4000000
namespace G
open PySem RF
local macro_rules | `(tactic| infer_instance) => `(tactic| with_reducible apply r_tor)
local macro_rules | `(tactic| infer_instance) => `(tactic| with_reducible apply r_tand)
local macro_rules | `(tactic| infer_instance) => `(tactic| with_reducible apply r_or)
local macro_rules | `(tactic| infer_instance) => `(tactic| with_reducible apply r_and)
local macro_rules | `(tactic| infer_instance) => `(tactic| with_reducible apply l_item)
local macro_rules | `(tactic| infer_instance) => `(tactic| with_reducible apply r_aug)
local macro_rules | `(tactic| infer_instance) => `(tactic| with_reducible apply r_extL)
local macro_rules | `(tactic| infer_instance) => `(tactic| with_reducible apply r_appL)
local macro_rules | `(tactic| infer_instance) => `(tactic| with_reducible apply r_popL)
local macro_rules | `(tactic| infer_instance) => `(tactic| with_reducible apply v_zip)
local macro_rules | `(tactic| infer_instance) => `(tactic| with_reducible apply r_rng2)
local macro_rules | `(tactic| infer_instance) => `(tactic| with_reducible apply r_rng1)
local macro_rules | `(tactic| infer_instance) => `(tactic| with_reducible apply r_svSeq)
local macro_rules | `(tactic| infer_instance) => `(tactic| with_reducible apply r_lc)
local macro_rules | `(tactic| infer_instance) => `(tactic| with_reducible apply s_s)
local macro_rules | `(tactic| infer_instance) => `(tactic| with_reducible apply s_z)
local macro_rules | `(tactic| infer_instance) => `(tactic| with_reducible apply ValsR.fr)
local macro_rules | `(tactic| infer_instance) => `(tactic| with_reducible apply ValsR.cons)
local macro_rules | `(tactic| infer_instance) => `(tactic| with_reducible exact ValsR.nil)
local macro_rules | `(tactic| infer_instance) => `(tactic| with_reducible apply d_cons)
local macro_rules | `(tactic| infer_instance) => `(tactic| with_reducible exact d_nil)
local macro_rules | `(tactic| infer_instance) => `(tactic| with_reducible apply r_df)
local macro_rules | `(tactic| infer_instance) => `(tactic| with_reducible apply r_ite)
local macro_rules | `(tactic| infer_instance) => `(tactic| with_reducible apply r_bi)
local macro_rules | `(tactic| infer_instance) => `(tactic| with_reducible apply v_lst)
local macro_rules | `(tactic| infer_instance) => `(tactic| with_reducible apply v_tup)
local macro_rules | `(tactic| infer_instance) => `(tactic| with_reducible apply r_sl)
local macro_rules | `(tactic| infer_instance) => `(tactic| with_reducible apply r_ovs)
local macro_rules | `(tactic| infer_instance) => `(tactic| with_reducible apply r_tnot)
local macro_rules | `(tactic| infer_instance) => `(tactic| with_reducible apply r_of)
local macro_rules | `(tactic| infer_instance) => `(tactic| with_reducible apply r_cmp)
local macro_rules | `(tactic| infer_instance) => `(tactic| with_reducible apply r_bin)
local macro_rules | `(tactic| infer_instance) => `(tactic| with_reducible apply r_not)
local macro_rules | `(tactic| infer_instance) => `(tactic| with_reducible apply r_neg)
local macro_rules | `(tactic| infer_instance) => `(tactic| with_reducible apply r_ix)
local macro_rules | `(tactic| infer_instance) => `(tactic| with_reducible apply r_cons)
local macro_rules | `(tactic| infer_instance) => `(tactic| with_reducible apply v_callK)
local macro_rules | `(tactic| infer_instance) => `(tactic| with_reducible apply v_callD)
local macro_rules | `(tactic| infer_instance) => `(tactic| with_reducible apply l_call)
local macro_rules | `(tactic| infer_instance) => `(tactic| with_reducible apply v_call (hio := rfl))
local macro_rules | `(tactic| infer_instance) => `(tactic| with_reducible apply r_drop)
local macro_rules | `(tactic| infer_instance) => `(tactic| with_reducible apply r_ret)
local macro_rules | `(tactic| infer_instance) => `(tactic| with_reducible apply r_if)
local macro_rules | `(tactic| infer_instance) => `(tactic| with_reducible apply t_one)
local macro_rules | `(tactic| infer_instance) => `(tactic| with_reducible apply t_two)
local macro_rules | `(tactic| infer_instance) => `(tactic| with_reducible apply r_stup)
local macro_rules | `(tactic| infer_instance) => `(tactic| with_reducible apply a2_fv)
local macro_rules | `(tactic| infer_instance) => `(tactic| with_reducible apply a2_ff)
local macro_rules | `(tactic| infer_instance) => `(tactic| with_reducible apply a2_vv)
local macro_rules | `(tactic| infer_instance) => `(tactic| with_reducible apply r_par)
local macro_rules | `(tactic| infer_instance) => `(tactic| with_reducible apply a_fr)
local macro_rules | `(tactic| infer_instance) => `(tactic| with_reducible apply a_val)
local macro_rules | `(tactic| infer_instance) => `(tactic| with_reducible apply r_set)
local macro_rules | `(tactic| infer_instance) => `(tactic| with_reducible exact r_seqR)
local macro_rules | `(tactic| infer_instance) => `(tactic| with_reducible apply r_seqN)
local macro_rules | `(tactic| infer_instance) => `(tactic| with_reducible apply r_seq)
local macro_rules | `(tactic| infer_instance) => `(tactic| with_reducible exact r_snil)
local macro_rules | `(tactic| infer_instance) => `(tactic| with_reducible exact r_ovn)
local macro_rules | `(tactic| infer_instance) => `(tactic| with_reducible exact r_nil)
local macro_rules | `(tactic| infer_instance) => `(tactic| with_reducible exact r_cst)
theorem fo_nx {tg : Tg} {b : SF} {d : D} {ds : List D} {ρ ρ1 ρ2 : Lo} {x : Option (Fl × Lo)} (h1 : tgSet tg d ρ = some ρ1) (h2 : b ρ1 = some (.nx, ρ2)) (h3 : forF tg b ds ρ2 = x) : forF tg b (d :: ds) ρ = x := by
  simp only [forF, h1, h2, Option.bind_some]
  exact h3
variable {bag : List D} {t s u m o : D} {Z : List Str} {ca : Sl}
theorem l6_ok (ht : t ∈ ths) (hs : s ∈ sts) (hZ : Z.length < 800) (hca : notLent (some ca) = true) : forF (.one 8) b__law_right_6 [.gl "meet_sums", .gl "just_counts"] (Q12 bag t s u m o Z Z ca) =
    some (.nx, Q12 bag t s u m o (Z ++ [nz t, zT] ++ [nz t, zT]) (Z ++ [nz t, zT] ++ [nz t, zT]) (.val (.gl "just_counts"))) :=
  fo_nx (t_one hca rfl) (b6_ok rfl (k_meet_sums t ht s) (k_meet_sums3 s hs) (rok_ths t ht) (by omega)) (fo_nx (t_one rfl rfl) (b6_ok rfl (k_just_counts t ht s) (k_just_counts3 s hs) (rok_ths t ht) (by simp; omega)) rfl)
theorem l5_ok (hu : u ∈ sms) (hZ : Z.length < 800) (hca : notLent (some ca) = true) : forF (.one 8) b__law_right_5 [.gl "counts_of", .gl "sums_of", .gl "sums_paper"] (Q12 bag t s u m o Z Z ca) =
    some (.nx, Q12 bag t s u m o (Z ++ [zT] ++ [zT] ++ [zT]) (Z ++ [zT] ++ [zT] ++ [zT]) (.val (.gl "sums_paper"))) :=
  fo_nx (t_one hca rfl) (b5_ok rfl (k_counts_of u hu) (by omega)) (fo_nx (t_one rfl rfl) (b5_ok rfl (k_sums_of u hu) (by simp; omega)) (fo_nx (t_one rfl rfl) (b5_ok rfl (k_sums_paper u hu) (by simp; omega)) rfl))
theorem l4_ok (hu : u ∈ sms) (hm : m ∈ mns) (hZ : Z.length < 800) (hca : notLent (some ca) = true) : forF (.one 8) b__law_right_4 [.gl "ended", .gl "at_least"] (Q12 bag t s u m o Z Z ca) =
    some (.nx, Q12 bag t s u m o (Z ++ [zT, nz m, z4] ++ [zT, nz m, z4]) (Z ++ [zT, nz m, z4] ++ [zT, nz m, z4]) (.val (.gl "at_least"))) :=
  fo_nx (t_one hca rfl) (b4_ok rfl (k_ended u hu m) (k_endedm m hm) k_ended4 (rok_mns m hm) (by omega)) (fo_nx (t_one rfl rfl) (b4_ok rfl (k_at_least u hu m) (k_at_leastm m hm) k_at_least4 (rok_mns m hm) (by simp; omega)) rfl)
abbrev y3 (m o : D) : List Str := [nz m, nz o, nz o, zT]
abbrev y2 (m o : D) : List Str := [nz m, nz o, nz o]
theorem l3_ok (hm : m ∈ mns) (ho : o ∈ ods) (hZ : Z.length < 800) (hca : notLent (some ca) = true) : forF (.one 8) b__law_right_3 [.gl "least_total", .gl "greatest_total", .gl "least_paper", .gl "greatest_paper"] (Q12 bag t s u m o Z Z ca) =
    some (.nx, Q12 bag t s u m o (Z ++ y3 m o ++ y3 m o ++ y3 m o ++ y3 m o) (Z ++ y3 m o ++ y3 m o ++ y3 m o ++ y3 m o) (.val (.gl "greatest_paper"))) :=
  fo_nx (t_one hca rfl) (b3_ok rfl (k_least_total m hm o) (k_least_totalo o ho) (k_least_total1 o ho) k_least_total2 (rok_mns m hm) (rok_ods o ho) (by omega))
  (fo_nx (t_one rfl rfl) (b3_ok rfl (k_greatest_total m hm o) (k_greatest_totalo o ho) (k_greatest_total1 o ho) k_greatest_total2 (rok_mns m hm) (rok_ods o ho) (by simp; omega))
  (fo_nx (t_one rfl rfl) (b3_ok rfl (k_least_paper m hm o) (k_least_papero o ho) (k_least_paper1 o ho) k_least_paper2 (rok_mns m hm) (rok_ods o ho) (by simp; omega))
  (fo_nx (t_one rfl rfl) (b3_ok rfl (k_greatest_paper m hm o) (k_greatest_papero o ho) (k_greatest_paper1 o ho) k_greatest_paper2 (rok_mns m hm) (rok_ods o ho) (by simp; omega)) rfl)))
theorem l2_ok (hm : m ∈ mns) (ho : o ∈ ods) (hZ : Z.length < 800) (hca : notLent (some ca) = true) : forF (.one 8) b__law_right_2 [.gl "is_least_paper", .gl "is_greatest_paper"] (Q12 bag t s u m o Z Z ca) =
    some (.nx, Q12 bag t s u m o (Z ++ y2 m o ++ y2 m o) (Z ++ y2 m o ++ y2 m o) (.val (.gl "is_greatest_paper"))) :=
  fo_nx (t_one hca rfl) (b2_ok rfl (k_is_least_paper m hm o) (k_is_least_papero o ho) (k_is_least_paper1 o ho) (rok_mns m hm) (rok_ods o ho) (by omega))
  (fo_nx (t_one rfl rfl) (b2_ok rfl (k_is_greatest_paper m hm o) (k_is_greatest_papero o ho) (k_is_greatest_paper1 o ho) (rok_mns m hm) (rok_ods o ho) (by simp; omega)) rfl)
/-- the calls between the loops -/
theorem mid_ok (hu : u ∈ sms) (hZ : Z.length < 800) (k : SF) {y : Fl × Lo} (hk : k (Q12 bag t s u m o (Z ++ [zT, z31, zm1, z31]) (Z ++ [zT, z31, zm1, z31]) ca) = some y) :
    (sfSeq (sfDrop (evAppend 6 (avCons (evLam1X (fun g F caps led => c__law_met g F caps led) [3] (lamFX 1 (evCallNX 2 c_is_sums_paper [false, false] (avCons (evVar 0) (avCons (evCst .non) avNil))))) avNil)))
 (sfSeq (sfDrop (evAppend 6 (avCons (evLam1X (fun g F caps led => c__law_met g F caps led) [] (lamFX 0 (evCallNX 1 c_sums_paper [false] (avCons (evTup (avCons (evCst (.int 31)) (avCons (evCst (.int 1)) avNil))) avNil)))) avNil)))
 (sfSeq (sfDrop (evAppend 6 (avCons (evLam1X (fun g F caps led => c__law_met g F caps led) [] (lamFX 0 (evCallNX 1 c_sums_paper [false] (avCons (evTup (avCons (evNeg (evCst (.int 1))) (avCons (evCst (.int 1)) avNil))) avNil)))) avNil)))
 (sfSeq (sfDrop (evAppend 6 (avCons (evLam1X (fun g F caps led => c__law_met g F caps led) [] (lamFX 0 (evCallNX 2 c_is_sums_paper [false, false] (avCons (evTup (avCons (evCst (.int 31)) (avCons (evCst (.int 1)) avNil))) (avCons (evCst .non) avNil))))) avNil)))
 (sfSeq (sfSet 7 (evBin .Add (evVar 7) (evLst (avCons (evCst (.str "table")) (avCons (evCst (.str "number 31")) (avCons (evCst (.str "number -1")) (avCons (evCst (.str "number 31")) avNil)))))))
 k))))) (Q12 bag t s u m o Z Z ca) = some y := by
  have a1 := k_isp u hu
  have a2 := k_sp31
  have a3 := k_spm1
  have a4 := k_isp31
  have e' : Z ++ [zT] ++ [nz (.int 31)] ++ [nz (.int (-1))] ++ [nz (.int 31)] = Z ++ [zT, z31, zm1, z31] := by rw [n31, nm1]; simp
  rw [← e'] at hk
  refine r_seq (o := .nx) (ρ1 := Q12 bag t s u m o (Z ++ [zT]) Z ca) (app_lam (caps := [u]) rfl rfl (fun _ _ => met_table (r_lamFX rfl (v_callX (r_cons rfl (r_cons rfl rfl)) (.cons (.cons .nil)) rfl rfl a1 rfl))) (by omega)) (r_seqN ?_)
  refine r_seq (o := .nx) (ρ1 := Q12 bag t s u m o (Z ++ [zT] ++ [nz (.int 31)]) Z ca) (app_lam (caps := []) rfl rfl (fun _ _ => met_num (r_lamFX rfl (v_callX (r_cons (t31 _) rfl) (.cons .nil) rfl rfl a2 rfl)) rok_31) (by simp; omega)) (r_seqN ?_)
  refine r_seq (o := .nx) (ρ1 := Q12 bag t s u m o (Z ++ [zT] ++ [nz (.int 31)] ++ [nz (.int (-1))]) Z ca) (app_lam (caps := []) rfl rfl (fun _ _ => met_num (r_lamFX rfl (v_callX (r_cons (tm1 _) rfl) (.cons .nil) rfl rfl a3 rfl)) rok_m1) (by simp; omega)) (r_seqN ?_)
  refine r_seq (o := .nx) (ρ1 := Q12 bag t s u m o (Z ++ [zT] ++ [nz (.int 31)] ++ [nz (.int (-1))] ++ [nz (.int 31)]) Z ca) (app_lam (caps := []) rfl rfl (fun _ _ => met_num (r_lamFX rfl (v_callX (r_cons (t31 _) (r_cons rfl rfl)) (.cons (.cons .nil)) rfl rfl a4 rfl)) rok_31) (by simp; omega)) (r_seqN ?_)
  refine r_seq (o := .nx) (ρ1 := Q12 bag t s u m o (Z ++ [zT] ++ [nz (.int 31)] ++ [nz (.int (-1))] ++ [nz (.int 31)]) (Z ++ [zT, z31, zm1, z31]) ca) (due_ev (Y := [zT, z31, zm1, z31]) rfl rfl (v_lst (r_cons rfl (r_cons rfl (r_cons rfl (r_cons rfl rfl)))) (.cons (.cons (.cons (.cons .nil)))) (Nat.le_of_ble_eq_true rfl)) (by simp; omega)) (r_seqN ?_)
  rw [← e']
  exact hk
/-- told != [("refused", one) for one in due] -/
theorem due_same (h0 : Z ≠ []) (hs : ∀ z ∈ Z, PyData.strOk z = true) (hl : Z.length < 900) : evCmp .NotEq (evVar 6) (evLc (svSeq (evVar 7)) (.one 11) tvYes (evTup (avCons (evCst (.str "refused")) (avCons (evVar 11) avNil))) [11]) (Q12 bag t s u m o Z Z ca) =
    some (.val (.bl false), [.own true bag, .val t, .val s, .val u, .val m, .val o, .own false (Z.map Rf), .val (.lst (Z.map D.str)), ca, .emp, .emp, .emp]) := by
  have h4 : lcLoop (.one 11) tvYes (evTup (avCons (evCst (.str "refused")) (avCons (evVar 11) avNil))) [11] (Z.map D.str) [.own true bag, .val t, .val s, .val u, .val m, .val o, .own false (Z.map Rf), .val (.lst (Z.map D.str)), ca, .emp, .emp, .emp] =
      some ((Z.map D.str).map (fun d => D.tup [.str "refused", d]), [.own true bag, .val t, .val s, .val u, .val m, .val o, .own false (Z.map Rf), .val (.lst (Z.map D.str)), ca, .emp, .emp, .emp]) := by
    refine lcLoop_map fun d q => ?_
    exact ⟨_, .val (.tup [.str "refused", d]), _, _, rfl, v_tup (r_cons rfl (r_cons rfl rfl)) (.cons (.cons .nil)) (Nat.le_of_ble_eq_true rfl), rfl, rfl⟩
  have e : (Z.map D.str).map (fun d => D.tup [.str "refused", d]) = Z.map Rf := by rw [List.map_map]; rfl
  rw [e] at h4
  have h5 := r_lc (sv := svSeq (evVar 7)) (ρ := Q12 bag t s u m o Z Z ca) (ρ1 := [.own true bag, .val t, .val s, .val u, .val m, .val o, .own false (Z.map Rf), .val (.lst (Z.map D.str)), ca, .emp, .emp, .emp]) (r_svSeq rfl rfl rfl) rfl (Nat.lt_of_le_of_lt (by rw [List.length_map]; exact Nat.le_of_lt hl) (by decide)) h4
  exact r_cmp rfl h5 rfl rfl (ne_lst h0 hs)
/-! the values -/
def Jd (d : D) : Prop := tame c_is_sums_paper [.val s32, .val d] = some (.val (.bl false), [.emp, .emp]) ∧ tame c_is_least_paper [.val (.int 3), .val (.int 1), .val (.int 2), .val d] = some (.val (.bl false), [.emp, .emp, .emp, .emp]) ∧ tame c_is_greatest_paper [.val (.int 3), .val (.int 8), .val (.int 4), .val d] = some (.val (.bl false), [.emp, .emp, .emp, .emp])
theorem val_ok {s1 s2 s3 s4 s5 s6 s7 s8 s9 : Sl} {d : D} (j : Jd d) : b__law_right_1 [.own true bag, s1, s2, s3, s4, s5, s6, s7, s8, s9, .val d, .emp] = some (.nx, [.own true bag, s1, s2, s3, s4, s5, s6, s7, s8, s9, .val d, .emp]) := by
  obtain ⟨j1, j2, j3⟩ := j
  have i1 : cmpD .IsNot (.bl false) (.bl false) = some false := rfl
  unfold b__law_right_1
  generalize tame c_is_sums_paper = c1 at j1 ⊢
  generalize tame c_is_least_paper = c2 at j2 ⊢
  generalize tame c_is_greatest_paper = c3 at j3 ⊢
  repeat' (first
    | with_reducible exact i1
    | infer_instance
    | ((with_reducible apply i_pos); · first | rfl | assumption | decide)
    | ((with_reducible apply i_neg); · first | rfl | assumption | decide)
    | exact j1
    | exact j2
    | exact j3
    | (intro _ z; cases z; done)
    | exact Nat.le_of_ble_eq_true rfl
    | rfl)
theorem vals_ok {s1 s2 s3 s4 s5 s6 s7 s8 s9 : Sl} : ∀ (ds : List D) (v : Sl), (∀ d ∈ ds, Jd d) → notLent (some v) = true → ∃ v', forF (.one 10) b__law_right_1 ds [.own true bag, s1, s2, s3, s4, s5, s6, s7, s8, s9, v, .emp] = some (.nx, [.own true bag, s1, s2, s3, s4, s5, s6, s7, s8, s9, v', .emp])
  | [], v, _, _ => ⟨v, rfl⟩
  | d :: ds, v, h, hv => by
    obtain ⟨v', e⟩ := vals_ok ds (.val d) (fun x m => h x (List.mem_cons_of_mem _ m)) rfl
    exact ⟨v', fo_nx (t_one hv rfl) (val_ok (h d List.mem_cons_self)) e⟩
theorem so_ths : ∀ d ∈ ths, PyData.strOk (nz d) = true := by
  intro d q
  simp only [ths, List.mem_cons, List.not_mem_nil, or_false] at q
  rcases q with rfl | rfl | rfl | rfl | rfl | rfl | rfl | rfl <;> kernel_rfl
theorem so_mns : ∀ d ∈ mns, PyData.strOk (nz d) = true := by
  intro d q
  simp only [mns, List.mem_cons, List.not_mem_nil, or_false] at q
  rcases q with rfl | rfl | rfl | rfl | rfl | rfl | rfl | rfl <;> kernel_rfl
theorem so_ods : ∀ d ∈ ods, PyData.strOk (nz d) = true := by
  intro d q
  simp only [ods, List.mem_cons, List.not_mem_nil, or_false] at q
  rcases q with rfl | rfl | rfl | rfl | rfl | rfl | rfl <;> kernel_rfl
end G
set_option maxHeartbeats 4000000
namespace G
open PySem RF
local macro_rules | `(tactic| infer_instance) => `(tactic| with_reducible apply r_tor)
local macro_rules | `(tactic| infer_instance) => `(tactic| with_reducible apply r_tand)
local macro_rules | `(tactic| infer_instance) => `(tactic| with_reducible apply r_or)
local macro_rules | `(tactic| infer_instance) => `(tactic| with_reducible apply r_and)
local macro_rules | `(tactic| infer_instance) => `(tactic| with_reducible apply l_item)
local macro_rules | `(tactic| infer_instance) => `(tactic| with_reducible apply r_aug)
local macro_rules | `(tactic| infer_instance) => `(tactic| with_reducible apply r_extL)
local macro_rules | `(tactic| infer_instance) => `(tactic| with_reducible apply r_appL)
local macro_rules | `(tactic| infer_instance) => `(tactic| with_reducible apply r_popL)
local macro_rules | `(tactic| infer_instance) => `(tactic| with_reducible apply v_zip)
local macro_rules | `(tactic| infer_instance) => `(tactic| with_reducible apply r_rng2)
local macro_rules | `(tactic| infer_instance) => `(tactic| with_reducible apply r_rng1)
local macro_rules | `(tactic| infer_instance) => `(tactic| with_reducible apply r_svSeq)
local macro_rules | `(tactic| infer_instance) => `(tactic| with_reducible apply r_lc)
local macro_rules | `(tactic| infer_instance) => `(tactic| with_reducible apply s_s)
local macro_rules | `(tactic| infer_instance) => `(tactic| with_reducible apply s_z)
local macro_rules | `(tactic| infer_instance) => `(tactic| with_reducible apply ValsR.fr)
local macro_rules | `(tactic| infer_instance) => `(tactic| with_reducible apply ValsR.cons)
local macro_rules | `(tactic| infer_instance) => `(tactic| with_reducible exact ValsR.nil)
local macro_rules | `(tactic| infer_instance) => `(tactic| with_reducible apply d_cons)
local macro_rules | `(tactic| infer_instance) => `(tactic| with_reducible exact d_nil)
local macro_rules | `(tactic| infer_instance) => `(tactic| with_reducible apply r_df)
local macro_rules | `(tactic| infer_instance) => `(tactic| with_reducible apply r_ite)
local macro_rules | `(tactic| infer_instance) => `(tactic| with_reducible apply r_bi)
local macro_rules | `(tactic| infer_instance) => `(tactic| with_reducible apply v_lst)
local macro_rules | `(tactic| infer_instance) => `(tactic| with_reducible apply v_tup)
local macro_rules | `(tactic| infer_instance) => `(tactic| with_reducible apply r_sl)
local macro_rules | `(tactic| infer_instance) => `(tactic| with_reducible apply r_ovs)
local macro_rules | `(tactic| infer_instance) => `(tactic| with_reducible apply r_tnot)
local macro_rules | `(tactic| infer_instance) => `(tactic| with_reducible apply r_of)
local macro_rules | `(tactic| infer_instance) => `(tactic| with_reducible apply r_cmp)
local macro_rules | `(tactic| infer_instance) => `(tactic| with_reducible apply r_bin)
local macro_rules | `(tactic| infer_instance) => `(tactic| with_reducible apply r_not)
local macro_rules | `(tactic| infer_instance) => `(tactic| with_reducible apply r_neg)
local macro_rules | `(tactic| infer_instance) => `(tactic| with_reducible apply r_ix)
local macro_rules | `(tactic| infer_instance) => `(tactic| with_reducible apply r_cons)
local macro_rules | `(tactic| infer_instance) => `(tactic| with_reducible apply v_callK)
local macro_rules | `(tactic| infer_instance) => `(tactic| with_reducible apply v_callD)
local macro_rules | `(tactic| infer_instance) => `(tactic| with_reducible apply l_call)
local macro_rules | `(tactic| infer_instance) => `(tactic| with_reducible apply v_call (hio := rfl))
local macro_rules | `(tactic| infer_instance) => `(tactic| with_reducible apply r_drop)
local macro_rules | `(tactic| infer_instance) => `(tactic| with_reducible apply r_ret)
local macro_rules | `(tactic| infer_instance) => `(tactic| with_reducible apply r_if)
local macro_rules | `(tactic| infer_instance) => `(tactic| with_reducible apply t_one)
local macro_rules | `(tactic| infer_instance) => `(tactic| with_reducible apply t_two)
local macro_rules | `(tactic| infer_instance) => `(tactic| with_reducible apply r_stup)
local macro_rules | `(tactic| infer_instance) => `(tactic| with_reducible apply a2_fv)
local macro_rules | `(tactic| infer_instance) => `(tactic| with_reducible apply a2_ff)
local macro_rules | `(tactic| infer_instance) => `(tactic| with_reducible apply a2_vv)
local macro_rules | `(tactic| infer_instance) => `(tactic| with_reducible apply r_par)
local macro_rules | `(tactic| infer_instance) => `(tactic| with_reducible apply a_fr)
local macro_rules | `(tactic| infer_instance) => `(tactic| with_reducible apply a_val)
local macro_rules | `(tactic| infer_instance) => `(tactic| with_reducible apply r_set)
local macro_rules | `(tactic| infer_instance) => `(tactic| with_reducible exact r_seqR)
local macro_rules | `(tactic| infer_instance) => `(tactic| with_reducible apply r_seqN)
local macro_rules | `(tactic| infer_instance) => `(tactic| with_reducible apply r_seq)
local macro_rules | `(tactic| infer_instance) => `(tactic| with_reducible exact r_snil)
local macro_rules | `(tactic| infer_instance) => `(tactic| with_reducible exact r_ovn)
local macro_rules | `(tactic| infer_instance) => `(tactic| with_reducible exact r_nil)
local macro_rules | `(tactic| infer_instance) => `(tactic| with_reducible exact r_cst)
abbrev S12 (bag : List D) (s1 s2 s3 s4 s5 s6 s7 s8 s9 s10 : Sl) : Lo := [.own true bag, s1, s2, s3, s4, s5, s6, s7, s8, s9, s10, .emp]
def zA (t : D) : List Str := [] ++ [nz t, zT] ++ [nz t, zT]
def zB (t : D) : List Str := zA t ++ [zT] ++ [zT] ++ [zT]
def zC (t : D) : List Str := zB t ++ [zT, z31, zm1, z31]
def zD (t m : D) : List Str := zC t ++ [zT, nz m, z4] ++ [zT, nz m, z4]
def zE (t m o : D) : List Str := zD t m ++ y3 m o ++ y3 m o ++ y3 m o ++ y3 m o
def zF (t m o : D) : List Str := zE t m o ++ y2 m o ++ y2 m o
theorem zF_ok {t m o : D} (h1 : PyData.strOk (nz t) = true) (h2 : PyData.strOk (nz m) = true) (h3 : PyData.strOk (nz o) = true) : ∀ z ∈ zF t m o, PyData.strOk z = true := by
  have q1 : PyData.strOk zT = true := by kernel_rfl
  have q2 : PyData.strOk z31 = true := by kernel_rfl
  have q3 : PyData.strOk zm1 = true := by kernel_rfl
  have q4 : PyData.strOk z4 = true := by kernel_rfl
  unfold zF zE zD zC zB zA y3 y2
  generalize zT = a1 at *
  generalize z31 = a2 at *
  generalize zm1 = a3 at *
  generalize z4 = a4 at *
  generalize nz t = a5 at *
  generalize nz m = a6 at *
  generalize nz o = a7 at *
  intro z hz
  simp only [List.mem_append, List.mem_cons, List.not_mem_nil, or_false, false_or] at hz
  have : z = a1 ∨ z = a2 ∨ z = a3 ∨ z = a4 ∨ z = a5 ∨ z = a6 ∨ z = a7 := by grind
  rcases this with rfl | rfl | rfl | rfl | rfl | rfl | rfl <;> assumption
theorem jd_all {t s u m o : D} (ht : t ∈ ths) (hs : s ∈ sts) (hu : u ∈ sms) (hm : m ∈ mns) (ho : o ∈ ods) : ∀ d ∈ ([t, s, u, m, o] ++ fix1 ++ fix2) ++ fix3, Jd d := by
  intro d hd
  have hf : ∀ d ∈ fix, Jd d := fun d q => ⟨j1_fix d q, j2_fix d q, j3_fix d q⟩
  have : d ∈ [t, s, u, m, o] ∨ d ∈ fix := by
    unfold fix
    simp only [List.mem_append] at hd ⊢
    rcases hd with ((q | q) | q) | q
    · exact .inl q
    · exact .inr (.inl (.inl q))
    · exact .inr (.inl (.inr q))
    · exact .inr (.inr q)
  rcases this with q | q
  · simp only [List.mem_cons, List.not_mem_nil, or_false] at q
    rcases q with rfl | rfl | rfl | rfl | rfl
    · exact ⟨j1_ths d ht, j2_ths d ht, j3_ths d ht⟩
    · exact ⟨j1_sts d hs, j2_sts d hs, j3_sts d hs⟩
    · exact ⟨j1_sms d hu, j2_sms d hu, j3_sms d hu⟩
    · exact ⟨j1_mns d hm, j2_mns d hm, j3_mns d hm⟩
    · exact ⟨j1_ods d ho, j2_ods d ho, j3_ods d ho⟩
  · exact hf d q
theorem b_catl {xs ys : List D} (h : xs.length + ys.length ≤ lim) : binD .Add (.lst xs) (.lst ys) = some (.fresh (xs ++ ys)) := if_pos h
theorem right_ok {c : Nat} {bag : List D} (hb : BagOk c bag) (hc : c ≤ 5000) : ∃ bag', c__law_right [.own true bag] = some (.val (.bl true), [.own true bag']) ∧ BagOk (c + 10) bag' := by
  obtain ⟨t, b1, ht, e1, k1⟩ := choose_ok (items := ths) hb (by omega) (by decide) (by decide)
  obtain ⟨s, b2, hs, e2, k2⟩ := choose_ok (items := sts) k1 (by omega) (by decide) (by decide)
  obtain ⟨u, b3, hu, e3, k3⟩ := choose_ok (items := sms) k2 (by omega) (by decide) (by decide)
  obtain ⟨m, b4, hm, e4, k4⟩ := choose_ok (items := mns) k3 (by omega) (by decide) (by decide)
  obtain ⟨o, b5, ho, e5, k5⟩ := choose_ok (items := ods) k4 (by omega) (by decide) (by decide)
  have p30 : binD .Pow (.int 10) (.int 30) = some (.val (.int 1000000000000000000000000000000)) := b_pow (by decide)
  have p20 : binD .Pow (.int 10) (.int 20) = some (.val (.int 100000000000000000000)) := b_pow (by decide)
  have m7 : binD .Mult (.tup [e_]) (.int 7) = some (.val (.tup [e_, e_, e_, e_, e_, e_, e_])) := by
    simp only [binD]
    rw [if_neg (by decide), if_pos ⟨by simp, by decide, by decide, by decide⟩]
    rfl
  have m8 : binD .Mult (.tup [.int 1]) (.int 8) = some (.val (.tup [.int 1, .int 1, .int 1, .int 1, .int 1, .int 1, .int 1, .int 1])) := by
    simp only [binD]
    rw [if_neg (by decide), if_pos ⟨by simp, by decide, by decide, by decide⟩]
    rfl
  have ad : binD .Add (.lst sts1) (.lst sts2) = some (.fresh sts) := b_catl (xs := sts1) (ys := sts2) (Nat.le_of_ble_eq_true rfl)
  have jall := jd_all ht hs hu hm ho
  have zok := zF_ok (so_ths t ht) (so_mns m hm) (so_ods o ho)
  have zne : zF t m o ≠ [] := by simp [zF]
  have zln : (zF t m o).length < 900 := by simp [zF, zE, zD, zC, zB, zA]
  obtain ⟨vv, hv⟩ := vals_ok (bag := b5) (s1 := .val t) (s2 := .val s) (s3 := .val u) (s4 := .val m) (s5 := .val o) (s6 := .own false ((zF t m o).map Rf)) (s7 := .val (.lst ((zF t m o).map D.str))) (s8 := .val (.gl "is_greatest_paper")) (s9 := .own false ([t, s, u, m, o] ++ fix1 ++ fix2)) (([t, s, u, m, o] ++ fix1 ++ fix2) ++ fix3) .emp jall rfl
  refine ⟨b5, ?_, k5.mono (by omega)⟩
  unfold c__law_right F__law_right
  refine r_cfR (ρ0 := S12 bag .emp .emp .emp .emp .emp .emp .emp .emp .emp .emp) (ρ1 := S12 b5 (.val t) (.val s) (.val u) (.val m) (.val o) (.own false ((zF t m o).map Rf)) (.val (.lst ((zF t m o).map D.str))) (.val (.gl "is_greatest_paper")) (.own false ([t, s, u, m, o] ++ fix1 ++ fix2)) vv) (r := .val (.bl true)) rfl ?_ rfl rfl
  refine r_seq (o := .nx) (ρ1 := S12 b1 (.val t) .emp .emp .emp .emp .emp .emp .emp .emp .emp) ?_ (r_seqN ?_)
  · clear e2 e3 e4 e5 jall zok zne zln hv m7 m8 ad
    unfold ths at e1
    generalize c__law_pick_of = cc at e1 ⊢
    repeat' (first
    | with_reducible exact p20
    | infer_instance
    | ((with_reducible apply i_pos); · first | rfl | assumption | decide)
    | ((with_reducible apply i_neg); · first | rfl | assumption | decide)
    | exact e1
    | (intro _ z; cases z; done)
    | exact Nat.le_of_ble_eq_true rfl
    | rfl)
  refine r_seq (o := .nx) (ρ1 := S12 b1 (.val t) (.own false sts1) .emp .emp .emp .emp .emp .emp .emp .emp) ?_ (r_seqN ?_)
  · clear e1 e2 e3 e4 e5 jall zok zne zln hv m7 m8 ad
    unfold sts1
    repeat' (first
    | infer_instance
    | ((with_reducible apply i_pos); · first | rfl | assumption | decide)
    | ((with_reducible apply i_neg); · first | rfl | assumption | decide)
    | (intro _ z; cases z; done)
    | exact Nat.le_of_ble_eq_true rfl
    | rfl)
  refine r_seq (o := .nx) (ρ1 := S12 b1 (.val t) (.own false sts) .emp .emp .emp .emp .emp .emp .emp .emp) ?_ (r_seqN ?_)
  · clear e1 e2 e3 e4 e5 jall zok zne zln hv m8
    unfold sts2 at ad
    generalize sts1 = fs1 at ad ⊢
    generalize sts = fs at *
    repeat' (first
    | with_reducible exact m7
    | with_reducible exact ad
    | infer_instance
    | ((with_reducible apply i_pos); · first | rfl | assumption | decide)
    | ((with_reducible apply i_neg); · first | rfl | assumption | decide)
    | (intro _ z; cases z; done)
    | exact Nat.le_of_ble_eq_true rfl
    | rfl)
  refine r_seq (o := .nx) (ρ1 := S12 b2 (.val t) (.val s) .emp .emp .emp .emp .emp .emp .emp .emp) ?_ (r_seqN ?_)
  · clear e1 e3 e4 e5 jall zok zne zln hv m7 m8 ad
    generalize c__law_pick_of = cc at e2 ⊢
    generalize sts = fs at *
    repeat' (first
    | infer_instance
    | ((with_reducible apply i_pos); · first | rfl | assumption | decide)
    | ((with_reducible apply i_neg); · first | rfl | assumption | decide)
    | exact e2
    | (intro _ z; cases z; done)
    | exact Nat.le_of_ble_eq_true rfl
    | rfl)
  refine r_seq (o := .nx) (ρ1 := S12 b2 (.val t) (.val s) (.own false sms) .emp .emp .emp .emp .emp .emp .emp) ?_ (r_seqN ?_)
  · clear e1 e2 e3 e4 e5 jall zok zne zln hv m7 ad
    unfold sms
    repeat' (first
    | with_reducible exact m8
    | with_reducible exact p30
    | infer_instance
    | ((with_reducible apply i_pos); · first | rfl | assumption | decide)
    | ((with_reducible apply i_neg); · first | rfl | assumption | decide)
    | (intro _ z; cases z; done)
    | exact Nat.le_of_ble_eq_true rfl
    | rfl)
  refine r_seq (o := .nx) (ρ1 := S12 b3 (.val t) (.val s) (.val u) .emp .emp .emp .emp .emp .emp .emp) ?_ (r_seqN ?_)
  · clear e1 e2 e4 e5 jall zok zne zln hv m7 m8 ad
    generalize c__law_pick_of = cc at e3 ⊢
    generalize sms = fs at *
    repeat' (first
    | infer_instance
    | ((with_reducible apply i_pos); · first | rfl | assumption | decide)
    | ((with_reducible apply i_neg); · first | rfl | assumption | decide)
    | exact e3
    | (intro _ z; cases z; done)
    | exact Nat.le_of_ble_eq_true rfl
    | rfl)
  refine r_seq (o := .nx) (ρ1 := S12 b4 (.val t) (.val s) (.val u) (.val m) .emp .emp .emp .emp .emp .emp) ?_ (r_seqN ?_)
  · clear e1 e2 e3 e5 jall zok zne zln hv m7 m8 ad
    unfold mns at e4
    generalize c__law_pick_of = cc at e4 ⊢
    repeat' (first
    | infer_instance
    | ((with_reducible apply i_pos); · first | rfl | assumption | decide)
    | ((with_reducible apply i_neg); · first | rfl | assumption | decide)
    | exact e4
    | (intro _ z; cases z; done)
    | exact Nat.le_of_ble_eq_true rfl
    | rfl)
  refine r_seq (o := .nx) (ρ1 := S12 b5 (.val t) (.val s) (.val u) (.val m) (.val o) .emp .emp .emp .emp .emp) ?_ (r_seqN ?_)
  · clear e1 e2 e3 e4 jall zok zne zln hv m7 m8 ad
    unfold ods at e5
    generalize c__law_pick_of = cc at e5 ⊢
    repeat' (first
    | with_reducible exact p30
    | infer_instance
    | ((with_reducible apply i_pos); · first | rfl | assumption | decide)
    | ((with_reducible apply i_neg); · first | rfl | assumption | decide)
    | exact e5
    | (intro _ z; cases z; done)
    | exact Nat.le_of_ble_eq_true rfl
    | rfl)
  clear e1 e2 e3 e4 e5
  refine r_seq (o := .nx) (ρ1 := Q12 b5 t s u m o [] [] .emp) ?_ (r_seqN ?_)
  · clear jall zok zne zln hv m7 m8 ad
    repeat' (first
    | infer_instance
    | ((with_reducible apply i_pos); · first | rfl | assumption | decide)
    | ((with_reducible apply i_neg); · first | rfl | assumption | decide)
    | (intro _ z; cases z; done)
    | exact Nat.le_of_ble_eq_true rfl
    | rfl)
  refine r_seq (o := .nx) (ρ1 := Q12 b5 t s u m o (zA t) (zA t) (.val (.gl "just_counts"))) ?_ (r_seqN ?_)
  · exact r_for (v_seq (v_tup (r_cons rfl (r_cons rfl rfl)) (.cons (.cons .nil)) (Nat.le_of_ble_eq_true rfl)) rfl) (l6_ok ht hs (by decide) rfl)
  refine r_seq (o := .nx) (ρ1 := Q12 b5 t s u m o (zB t) (zB t) (.val (.gl "sums_paper"))) ?_ (r_seqN ?_)
  · exact r_for (v_seq (v_tup (r_cons rfl (r_cons rfl (r_cons rfl rfl))) (.cons (.cons (.cons .nil))) (Nat.le_of_ble_eq_true rfl)) rfl) (l5_ok hu (by simp [zA]) rfl)
  refine mid_ok hu (by simp [zB, zA]) _ ?_
  refine r_seq (o := .nx) (ρ1 := Q12 b5 t s u m o (zD t m) (zD t m) (.val (.gl "at_least"))) ?_ (r_seqN ?_)
  · exact r_for (v_seq (v_tup (r_cons rfl (r_cons rfl rfl)) (.cons (.cons .nil)) (Nat.le_of_ble_eq_true rfl)) rfl) (l4_ok (Z := zC t) hu hm (by simp [zC, zB, zA]) rfl)
  refine r_seq (o := .nx) (ρ1 := Q12 b5 t s u m o (zE t m o) (zE t m o) (.val (.gl "greatest_paper"))) ?_ (r_seqN ?_)
  · exact r_for (v_seq (v_tup (r_cons rfl (r_cons rfl (r_cons rfl (r_cons rfl rfl)))) (.cons (.cons (.cons (.cons .nil)))) (Nat.le_of_ble_eq_true rfl)) rfl) (l3_ok (Z := zD t m) hm ho (by simp [zD, zC, zB, zA]) rfl)
  refine r_seq (o := .nx) (ρ1 := Q12 b5 t s u m o (zF t m o) (zF t m o) (.val (.gl "is_greatest_paper"))) ?_ (r_seqN ?_)
  · exact r_for (v_seq (v_tup (r_cons rfl (r_cons rfl rfl)) (.cons (.cons .nil)) (Nat.le_of_ble_eq_true rfl)) rfl) (l2_ok (Z := zE t m o) hm ho (by simp [zE, zD, zC, zB, zA]) rfl)
  refine r_seq (o := .nx) (ρ1 := S12 b5 (.val t) (.val s) (.val u) (.val m) (.val o) (.own false ((zF t m o).map Rf)) (.val (.lst ((zF t m o).map D.str))) (.val (.gl "is_greatest_paper")) .emp .emp) ?_ (r_seqN ?_)
  · exact r_if (b := false) (r_of (due_same zne zok zln) rfl rfl) (i_neg rfl r_snil)
  generalize (zF t m o).map Rf = tt at hv ⊢
  generalize (zF t m o).map D.str = dd at hv ⊢
  refine r_seq (o := .nx) (ρ1 := S12 b5 (.val t) (.val s) (.val u) (.val m) (.val o) (.own false tt) (.val (.lst dd)) (.val (.gl "is_greatest_paper")) (.own false ([t, s, u, m, o] ++ fix1)) .emp) ?_ (r_seqN ?_)
  · clear jall zok zne zln hv m7 m8 ad
    show _ = some (Fl.nx, S12 b5 (.val t) (.val s) (.val u) (.val m) (.val o) (.own false tt) (.val (.lst dd)) (.val (.gl "is_greatest_paper")) (.own false [t, s, u, m, o, m0, .lst [.lst []], .tup [.str "sets", m0], .tup [.str "lack", m0], .tup [.str "sets", .tup [m0]], .tup [m0, .int 0]]) .emp)
    repeat' (first
    | infer_instance
    | ((with_reducible apply i_pos); · first | rfl | assumption | decide)
    | ((with_reducible apply i_neg); · first | rfl | assumption | decide)
    | (intro _ z; cases z; done)
    | exact Nat.le_of_ble_eq_true rfl
    | rfl)
  refine r_seq (o := .nx) (ρ1 := S12 b5 (.val t) (.val s) (.val u) (.val m) (.val o) (.own false tt) (.val (.lst dd)) (.val (.gl "is_greatest_paper")) (.own false ([t, s, u, m, o] ++ fix1 ++ fix2)) .emp) ?_ (r_seqN ?_)
  · have e : binD .Add (.lst ([t, s, u, m, o] ++ fix1)) (.lst fix2) = some (.fresh ([t, s, u, m, o] ++ fix1 ++ fix2)) := b_catl (Nat.le_trans (m := 1000) (by simp [fix1, fix2]) (by decide))
    clear jall zok zne zln hv m7 m8 ad
    generalize [t, s, u, m, o] ++ fix1 ++ fix2 = l2 at e ⊢
    generalize [t, s, u, m, o] ++ fix1 = l1 at e ⊢
    unfold fix2 at e
    repeat' (first
    | with_reducible exact e
    | infer_instance
    | ((with_reducible apply i_pos); · first | rfl | assumption | decide)
    | ((with_reducible apply i_neg); · first | rfl | assumption | decide)
    | (intro _ z; cases z; done)
    | exact Nat.le_of_ble_eq_true rfl
    | rfl)
  refine r_seq (o := .nx) (ρ1 := S12 b5 (.val t) (.val s) (.val u) (.val m) (.val o) (.own false tt) (.val (.lst dd)) (.val (.gl "is_greatest_paper")) (.own false ([t, s, u, m, o] ++ fix1 ++ fix2)) vv) ?_ (r_seqN ?_)
  · have e : binD .Add (.lst ([t, s, u, m, o] ++ fix1 ++ fix2)) (.lst fix3) = some (.fresh ([t, s, u, m, o] ++ fix1 ++ fix2 ++ fix3)) := b_catl (Nat.le_trans (m := 1000) (by simp [fix1, fix2, fix3]) (by decide))
    clear jall zok zne zln m7 m8 ad
    refine r_for (ds := [t, s, u, m, o] ++ fix1 ++ fix2 ++ fix3) (ρ1 := S12 b5 (.val t) (.val s) (.val u) (.val m) (.val o) (.own false tt) (.val (.lst dd)) (.val (.gl "is_greatest_paper")) (.own false ([t, s, u, m, o] ++ fix1 ++ fix2)) .emp) (v_seqF ?_) hv
    clear hv
    generalize [t, s, u, m, o] ++ fix1 ++ fix2 ++ fix3 = l3 at e ⊢
    generalize [t, s, u, m, o] ++ fix1 ++ fix2 = l2 at e ⊢
    unfold fix3 at e
    repeat' (first
    | with_reducible exact e
    | infer_instance
    | ((with_reducible apply i_pos); · first | rfl | assumption | decide)
    | ((with_reducible apply i_neg); · first | rfl | assumption | decide)
    | (intro _ z; cases z; done)
    | exact Nat.le_of_ble_eq_true rfl
    | rfl)
  exact r_seq (o := .rt (.val (.bl true))) (r_ret rfl) r_seqR
end G
set_option maxHeartbeats 4000000
namespace G
open PySem RF
local macro_rules | `(tactic| infer_instance) => `(tactic| with_reducible apply r_tor)
local macro_rules | `(tactic| infer_instance) => `(tactic| with_reducible apply r_tand)
local macro_rules | `(tactic| infer_instance) => `(tactic| with_reducible apply r_or)
local macro_rules | `(tactic| infer_instance) => `(tactic| with_reducible apply r_and)
local macro_rules | `(tactic| infer_instance) => `(tactic| with_reducible apply l_item)
local macro_rules | `(tactic| infer_instance) => `(tactic| with_reducible apply r_aug)
local macro_rules | `(tactic| infer_instance) => `(tactic| with_reducible apply r_extL)
local macro_rules | `(tactic| infer_instance) => `(tactic| with_reducible apply r_appL)
local macro_rules | `(tactic| infer_instance) => `(tactic| with_reducible apply r_popL)
local macro_rules | `(tactic| infer_instance) => `(tactic| with_reducible apply v_zip)
local macro_rules | `(tactic| infer_instance) => `(tactic| with_reducible apply r_rng2)
local macro_rules | `(tactic| infer_instance) => `(tactic| with_reducible apply r_rng1)
local macro_rules | `(tactic| infer_instance) => `(tactic| with_reducible apply r_svSeq)
local macro_rules | `(tactic| infer_instance) => `(tactic| with_reducible apply r_lc)
local macro_rules | `(tactic| infer_instance) => `(tactic| with_reducible apply s_s)
local macro_rules | `(tactic| infer_instance) => `(tactic| with_reducible apply s_z)
local macro_rules | `(tactic| infer_instance) => `(tactic| with_reducible apply ValsR.fr)
local macro_rules | `(tactic| infer_instance) => `(tactic| with_reducible apply ValsR.cons)
local macro_rules | `(tactic| infer_instance) => `(tactic| with_reducible exact ValsR.nil)
local macro_rules | `(tactic| infer_instance) => `(tactic| with_reducible apply d_cons)
local macro_rules | `(tactic| infer_instance) => `(tactic| with_reducible exact d_nil)
local macro_rules | `(tactic| infer_instance) => `(tactic| with_reducible apply r_df)
local macro_rules | `(tactic| infer_instance) => `(tactic| with_reducible apply r_ite)
local macro_rules | `(tactic| infer_instance) => `(tactic| with_reducible apply r_bi)
local macro_rules | `(tactic| infer_instance) => `(tactic| with_reducible apply v_lst)
local macro_rules | `(tactic| infer_instance) => `(tactic| with_reducible apply v_tup)
local macro_rules | `(tactic| infer_instance) => `(tactic| with_reducible apply r_sl)
local macro_rules | `(tactic| infer_instance) => `(tactic| with_reducible apply r_ovs)
local macro_rules | `(tactic| infer_instance) => `(tactic| with_reducible apply r_tnot)
local macro_rules | `(tactic| infer_instance) => `(tactic| with_reducible apply r_of)
local macro_rules | `(tactic| infer_instance) => `(tactic| with_reducible apply r_cmp)
local macro_rules | `(tactic| infer_instance) => `(tactic| with_reducible apply r_bin)
local macro_rules | `(tactic| infer_instance) => `(tactic| with_reducible apply r_not)
local macro_rules | `(tactic| infer_instance) => `(tactic| with_reducible apply r_neg)
local macro_rules | `(tactic| infer_instance) => `(tactic| with_reducible apply r_ix)
local macro_rules | `(tactic| infer_instance) => `(tactic| with_reducible apply r_cons)
local macro_rules | `(tactic| infer_instance) => `(tactic| with_reducible apply v_callK)
local macro_rules | `(tactic| infer_instance) => `(tactic| with_reducible apply v_callD)
local macro_rules | `(tactic| infer_instance) => `(tactic| with_reducible apply l_call)
local macro_rules | `(tactic| infer_instance) => `(tactic| with_reducible apply v_call (hio := rfl))
local macro_rules | `(tactic| infer_instance) => `(tactic| with_reducible apply r_drop)
local macro_rules | `(tactic| infer_instance) => `(tactic| with_reducible apply r_ret)
local macro_rules | `(tactic| infer_instance) => `(tactic| with_reducible apply r_if)
local macro_rules | `(tactic| infer_instance) => `(tactic| with_reducible apply t_one)
local macro_rules | `(tactic| infer_instance) => `(tactic| with_reducible apply t_two)
local macro_rules | `(tactic| infer_instance) => `(tactic| with_reducible apply r_stup)
local macro_rules | `(tactic| infer_instance) => `(tactic| with_reducible apply a2_fv)
local macro_rules | `(tactic| infer_instance) => `(tactic| with_reducible apply a2_ff)
local macro_rules | `(tactic| infer_instance) => `(tactic| with_reducible apply a2_vv)
local macro_rules | `(tactic| infer_instance) => `(tactic| with_reducible apply r_par)
local macro_rules | `(tactic| infer_instance) => `(tactic| with_reducible apply a_fr)
local macro_rules | `(tactic| infer_instance) => `(tactic| with_reducible apply a_val)
local macro_rules | `(tactic| infer_instance) => `(tactic| with_reducible apply r_set)
local macro_rules | `(tactic| infer_instance) => `(tactic| with_reducible exact r_seqR)
local macro_rules | `(tactic| infer_instance) => `(tactic| with_reducible apply r_seqN)
local macro_rules | `(tactic| infer_instance) => `(tactic| with_reducible apply r_seq)
local macro_rules | `(tactic| infer_instance) => `(tactic| with_reducible exact r_snil)
local macro_rules | `(tactic| infer_instance) => `(tactic| with_reducible exact r_ovn)
local macro_rules | `(tactic| infer_instance) => `(tactic| with_reducible exact r_nil)
local macro_rules | `(tactic| infer_instance) => `(tactic| with_reducible exact r_cst)
abbrev L3 (ns : List Int) (s1 s2 : Sl) : Lo := [.val (.scr ns), s1, s2, .emp]
theorem law_spot {ns : List Int} {s2 : Sl} {spot : Nat} (hs : spot < 10) (h2 : notLent (some s2) = true) : ∃ bag', b_law_1 (L3 ns (.val (.int spot)) s2) = some (.nx, L3 ns (.val (.int spot)) (.own false bag')) := by
  have e1 := bag_ok (ns := ns) hs
  have hb := bagOf_ok (cell := cellOf ns spot) hs
  generalize bagOf (cellOf ns spot) spot = bag at *
  obtain ⟨b1, t1, k1⟩ := right_ok hb (by decide)
  obtain ⟨b2, t2, k2⟩ := right_ok k1 (by decide)
  refine ⟨b2, ?_⟩
  unfold b_law_1
  generalize c__law_crock = cb at e1 ⊢
  generalize c__law_right = cr at t1 t2 ⊢
  refine r_seq (o := .nx) (ρ1 := L3 ns (.val (.int spot)) (.own false bag)) ?_ (r_seqN ?_)
  · repeat' (first
    | infer_instance
    | ((with_reducible apply i_pos); · first | rfl | assumption | decide)
    | ((with_reducible apply i_neg); · first | rfl | assumption | decide)
    | exact e1
    | exact h2
    | (intro _ z; cases z; done)
    | exact Nat.le_of_ble_eq_true rfl
    | rfl)
  · repeat' (first
    | infer_instance
    | ((with_reducible apply i_pos); · first | rfl | assumption | decide)
    | ((with_reducible apply i_neg); · first | rfl | assumption | decide)
    | exact t1
    | exact t2
    | (intro _ z; cases z; done)
    | exact Nat.le_of_ble_eq_true rfl
    | rfl)
theorem law_spots {ns : List Int} (es : List Nat) (hes : ∀ k ∈ es, k < 10) : ∀ (s1 s2 : Sl), notLent (some s1) = true → notLent (some s2) = true →
    ∃ s1' s2', forF (.one 1) b_law_1 (es.map fun (k : Nat) => D.int (k : Int)) (L3 ns s1 s2) = some (.nx, L3 ns s1' s2') := by
  induction es with
  | nil => intro s1 s2 _ _; exact ⟨s1, s2, rfl⟩
  | cons k es ih =>
    intro s1 s2 h1 h2
    obtain ⟨bag, e⟩ := law_spot (ns := ns) (hes k List.mem_cons_self) h2
    obtain ⟨x1, x2, e2⟩ := ih (fun j m => hes j (List.mem_cons_of_mem _ m)) (.val (.int k)) (.own false bag) rfl rfl
    exact ⟨x1, x2, fo_nx (t_one h1 rfl) e e2⟩
theorem law_ok {ns : List Int} : c_law [.val (.scr ns)] = some (.val (.bl true), [.emp]) := by
  have t2 := k_end
  have hn : ∃ n : Nat, biD .max2 [.int 1, .int (if (ns.length : Int) < 4 then ns.length else 4)] = some (.val (.int (n : Int))) ∧ n ≤ 4 := by
    refine ⟨(if (if (ns.length : Int) < 4 then (ns.length : Int) else 4) > 1 then (if (ns.length : Int) < 4 then (ns.length : Int) else 4) else 1).toNat, ?_, ?_⟩
    · refine congrArg some (congrArg R.val (congrArg D.int ?_))
      split <;> omega
    · omega
  obtain ⟨n, en, hn3⟩ := hn
  obtain ⟨s1, s2, ef⟩ := law_spots (ns := ns) (List.range n) (fun k m => by have := List.mem_range.mp m; omega) .emp .emp rfl rfl
  have er : rngD 0 ((n : Int)).toNat = (List.range n).map fun (k : Nat) => D.int (k : Int) := by
    rw [Int.toNat_natCast]; simp [rngD]
  rw [← er] at ef
  have r3 : -(2 ^ 62) ≤ (n : Int) ∧ (n : Int) < 2 ^ 62 := by omega
  have fin : F_law (L3 ns .emp .emp) = some (.rt (.val (.bl true)), L3 ns s1 s2) := by
    unfold F_law
    refine r_seq (o := .nx) (ρ1 := L3 ns s1 s2) ?g1 (r_seqN
      (r_seq (o := .rt (.val (.bl true))) (ρ1 := L3 ns s1 s2) ?g2 r_seqR))
    case g1 =>
      generalize b_law_1 = bl at ef ⊢
      clear t2
      have q0 : evBi .max2 (avCons (evCst (.int 1)) (avCons (evBi .min2 (avCons (evCst (.int 4)) (avCons (evBi .len (avCons (evVar 0) avNil)) avNil))) avNil)) (L3 ns .emp .emp) = some (.val (.int (n : Int)), L3 ns .emp .emp) := by
        repeat' (first
    | infer_instance
    | ((with_reducible apply i_pos); · first | rfl | assumption | decide)
    | ((with_reducible apply i_neg); · first | rfl | assumption | decide)
    | exact en
    | (intro _ z; cases z; done)
    | exact Nat.le_of_ble_eq_true rfl
    | rfl)
      exact r_for (r_rng1 (k := (n : Int)) q0 rfl r3) ef
    case g2 =>
      have h4 : lcLoop (.one 3) tvYes (evVar 3) [3] (rngD 0 30) (L3 ns s1 s2) = some ((rngD 0 30).map fun d => d, L3 ns s1 s2) := by
        refine lcLoop_map fun d q => ?_
        obtain ⟨k, _, rfl⟩ : ∃ k : Int, True ∧ d = .int k := by
          simp only [rngD, List.mem_map] at q
          obtain ⟨i, _, rfl⟩ := q
          exact ⟨_, trivial, rfl⟩
        exact ⟨[.val (.scr ns), s1, s2, .val (.int k)], .val (.int k), [.val (.scr ns), s1, s2, .val (.int k)], [.val (.scr ns), s1, s2, .val (.int k)], rfl, rfl, rfl, rfl⟩
      have e30 : ((rngD 0 30).map fun d => d) = r30 := by kernel_rfl
      rw [e30] at h4
      have h5 := r_lc (sv := svRng1 (evCst (.int 30))) (ρ := L3 ns s1 s2) (ρ1 := L3 ns s1 s2) (r_rng1 (k := 30) rfl rfl (by decide)) rfl (by decide) h4
      have h6 : biD .tuple [.lst r30] = some (.val (.tup r30)) := by first | rfl | kernel_rfl
      have q : cmpD .Eq (.tup [.int 30, .int 30]) (.tup [.int 30, .int 30]) = some true := by first | (decide +kernel) | kernel_rfl
      generalize tame c_meet_sums = c2 at t2 ⊢
      generalize r30 = r at *
      repeat' (first
    | with_reducible exact h5
    | with_reducible exact h6
    | with_reducible exact q
    | infer_instance
    | ((with_reducible apply i_pos); · first | rfl | assumption | decide)
    | ((with_reducible apply i_neg); · first | rfl | assumption | decide)
    | exact t2
    | (intro _ z; cases z; done)
    | exact Nat.le_of_ble_eq_true rfl
    | rfl)
  unfold c_law
  exact r_cfR rfl fin rfl rfl
end G
set_option maxHeartbeats 4000000
namespace G
open PySem PySem.Spec PyProof.Rows L2 RF
theorem clx_up {P : Program} {w : World} {K : PySem.W.Frag} {mg : Str → Option Value} {base : Heap} {k k' n : Nat} {x : Str} {cf : CFX} (c : ClX P w K mg base k x n cf) (h : k ≤ k') : ClX P w K mg base k' x n cf := by
  obtain ⟨f, fd, ps, hl, F, r⟩ := c.ex
  exact ⟨f, fd, ps, hl, F.mono h, r⟩
theorem facts {P : Program} {w : World} {K : PySem.W.Frag} {h : Heap} {mg : Str → Option Value} (X : K.In h) (G : h.Ns mainGlobals mg) (c : He.SaysD faL fnL K) (ex : exL K = true) :
    ∀ base : Heap, K.In base → base.Ns mainGlobals mg → (∀ p ∈ tfL.map (He.cT K), LamX.TabB base mg p.1 p.2) → GCl P w K mg base 10 "law" 1 c_law := by
  have m__law_crock : mg "_law_crock" = some (.ref (He.ga K "_law_crock")) := He.glo_ok X G (c.fact 0 (f := .glo "_law_crock") rfl)
  obtain ⟨fd__law_crock, F__law_crock⟩ := c.def_ 0 (d := d__law_crock) rfl
  have m_is_whole : mg "is_whole" = some (.ref (He.ga K "is_whole")) := He.glo_ok X G (c.fact 1 (f := .glo "is_whole") rfl)
  obtain ⟨fd_is_whole, F_is_whole⟩ := c.def_ 1 (d := d_is_whole) rfl
  have m_need_things : mg "need_things" = some (.ref (He.ga K "need_things")) := He.glo_ok X G (c.fact 2 (f := .glo "need_things") rfl)
  obtain ⟨fd_need_things, F_need_things⟩ := c.def_ 2 (d := d_need_things) rfl
  have m_are_sets : mg "are_sets" = some (.ref (He.ga K "are_sets")) := He.glo_ok X G (c.fact 3 (f := .glo "are_sets") rfl)
  obtain ⟨fd_are_sets, F_are_sets⟩ := c.def_ 3 (d := d_are_sets) rfl
  have m_need_sets : mg "need_sets" = some (.ref (He.ga K "need_sets")) := He.glo_ok X G (c.fact 4 (f := .glo "need_sets") rfl)
  obtain ⟨fd_need_sets, F_need_sets⟩ := c.def_ 4 (d := d_need_sets) rfl
  have m_out_of : mg "out_of" = some (.ref (He.ga K "out_of")) := He.glo_ok X G (c.fact 5 (f := .glo "out_of") rfl)
  obtain ⟨fd_out_of, F_out_of⟩ := c.def_ 5 (d := d_out_of) rfl
  have m_sums_in : mg "sums_in" = some (.ref (He.ga K "sums_in")) := He.glo_ok X G (c.fact 6 (f := .glo "sums_in") rfl)
  obtain ⟨fd_sums_in, F_sums_in⟩ := c.def_ 6 (d := d_sums_in) rfl
  have m_counts_by : mg "counts_by" = some (.ref (He.ga K "counts_by")) := He.glo_ok X G (c.fact 7 (f := .glo "counts_by") rfl)
  obtain ⟨fd_counts_by, F_counts_by⟩ := c.def_ 7 (d := d_counts_by) rfl
  have m_meet_sums : mg "meet_sums" = some (.ref (He.ga K "meet_sums")) := He.glo_ok X G (c.fact 8 (f := .glo "meet_sums") rfl)
  obtain ⟨fd_meet_sums, F_meet_sums⟩ := c.def_ 8 (d := d_meet_sums) rfl
  have m__law_ladle : mg "_law_ladle" = some (.ref (He.ga K "_law_ladle")) := He.glo_ok X G (c.fact 9 (f := .glo "_law_ladle") rfl)
  obtain ⟨fd__law_ladle, F__law_ladle⟩ := c.def_ 9 (d := d__law_ladle) rfl
  have m__law_pick_of : mg "_law_pick_of" = some (.ref (He.ga K "_law_pick_of")) := He.glo_ok X G (c.fact 10 (f := .glo "_law_pick_of") rfl)
  obtain ⟨fd__law_pick_of, F__law_pick_of⟩ := c.def_ 10 (d := d__law_pick_of) rfl
  have m_just_counts : mg "just_counts" = some (.ref (He.ga K "just_counts")) := He.glo_ok X G (c.fact 11 (f := .glo "just_counts") rfl)
  obtain ⟨fd_just_counts, F_just_counts⟩ := c.def_ 11 (d := d_just_counts) rfl
  have m_need_sums : mg "need_sums" = some (.ref (He.ga K "need_sums")) := He.glo_ok X G (c.fact 12 (f := .glo "need_sums") rfl)
  obtain ⟨fd_need_sums, F_need_sums⟩ := c.def_ 12 (d := d_need_sums) rfl
  have m_counts_in : mg "counts_in" = some (.ref (He.ga K "counts_in")) := He.glo_ok X G (c.fact 13 (f := .glo "counts_in") rfl)
  obtain ⟨fd_counts_in, F_counts_in⟩ := c.def_ 13 (d := d_counts_in) rfl
  have m_counts_of : mg "counts_of" = some (.ref (He.ga K "counts_of")) := He.glo_ok X G (c.fact 14 (f := .glo "counts_of") rfl)
  obtain ⟨fd_counts_of, F_counts_of⟩ := c.def_ 14 (d := d_counts_of) rfl
  have m_sums_of : mg "sums_of" = some (.ref (He.ga K "sums_of")) := He.glo_ok X G (c.fact 15 (f := .glo "sums_of") rfl)
  obtain ⟨fd_sums_of, F_sums_of⟩ := c.def_ 15 (d := d_sums_of) rfl
  have m_sums_told : mg "sums_told" = some (.ref (He.ga K "sums_told")) := He.glo_ok X G (c.fact 16 (f := .glo "sums_told") rfl)
  obtain ⟨fd_sums_told, F_sums_told⟩ := c.def_ 16 (d := d_sums_told) rfl
  have m_sums_paper : mg "sums_paper" = some (.ref (He.ga K "sums_paper")) := He.glo_ok X G (c.fact 17 (f := .glo "sums_paper") rfl)
  obtain ⟨fd_sums_paper, F_sums_paper⟩ := c.def_ 17 (d := d_sums_paper) rfl
  have m_sign_of : mg "sign_of" = some (.ref (He.ga K "sign_of")) := He.glo_ok X G (c.fact 18 (f := .glo "sign_of") rfl)
  obtain ⟨fd_sign_of, F_sign_of⟩ := c.def_ 18 (d := d_sign_of) rfl
  have m_ended : mg "ended" = some (.ref (He.ga K "ended")) := He.glo_ok X G (c.fact 19 (f := .glo "ended") rfl)
  obtain ⟨fd_ended, F_ended⟩ := c.def_ 19 (d := d_ended) rfl
  have m_at_least : mg "at_least" = some (.ref (He.ga K "at_least")) := He.glo_ok X G (c.fact 20 (f := .glo "at_least") rfl)
  obtain ⟨fd_at_least, F_at_least⟩ := c.def_ 20 (d := d_at_least) rfl
  have m_need_numbers : mg "need_numbers" = some (.ref (He.ga K "need_numbers")) := He.glo_ok X G (c.fact 21 (f := .glo "need_numbers") rfl)
  obtain ⟨fd_need_numbers, F_need_numbers⟩ := c.def_ 21 (d := d_need_numbers) rfl
  have m_need_weights : mg "need_weights" = some (.ref (He.ga K "need_weights")) := He.glo_ok X G (c.fact 22 (f := .glo "need_weights") rfl)
  obtain ⟨fd_need_weights, F_need_weights⟩ := c.def_ 22 (d := d_need_weights) rfl
  have m_together : mg "together" = some (.ref (He.ga K "together")) := He.glo_ok X G (c.fact 23 (f := .glo "together") rfl)
  obtain ⟨fd_together, F_together⟩ := c.def_ 23 (d := d_together) rfl
  have m_least_in : mg "least_in" = some (.ref (He.ga K "least_in")) := He.glo_ok X G (c.fact 24 (f := .glo "least_in") rfl)
  obtain ⟨fd_least_in, F_least_in⟩ := c.def_ 24 (d := d_least_in) rfl
  have m_least_total : mg "least_total" = some (.ref (He.ga K "least_total")) := He.glo_ok X G (c.fact 25 (f := .glo "least_total") rfl)
  obtain ⟨fd_least_total, F_least_total⟩ := c.def_ 25 (d := d_least_total) rfl
  have m_greatest_in : mg "greatest_in" = some (.ref (He.ga K "greatest_in")) := He.glo_ok X G (c.fact 26 (f := .glo "greatest_in") rfl)
  obtain ⟨fd_greatest_in, F_greatest_in⟩ := c.def_ 26 (d := d_greatest_in) rfl
  have m_greatest_total : mg "greatest_total" = some (.ref (He.ga K "greatest_total")) := He.glo_ok X G (c.fact 27 (f := .glo "greatest_total") rfl)
  obtain ⟨fd_greatest_total, F_greatest_total⟩ := c.def_ 27 (d := d_greatest_total) rfl
  have m_least_paper : mg "least_paper" = some (.ref (He.ga K "least_paper")) := He.glo_ok X G (c.fact 28 (f := .glo "least_paper") rfl)
  obtain ⟨fd_least_paper, F_least_paper⟩ := c.def_ 28 (d := d_least_paper) rfl
  have m_greatest_paper : mg "greatest_paper" = some (.ref (He.ga K "greatest_paper")) := He.glo_ok X G (c.fact 29 (f := .glo "greatest_paper") rfl)
  obtain ⟨fd_greatest_paper, F_greatest_paper⟩ := c.def_ 29 (d := d_greatest_paper) rfl
  have m_plus : mg "plus" = some (.ref (He.ga K "plus")) := He.glo_ok X G (c.fact 30 (f := .glo "plus") rfl)
  obtain ⟨fd_plus, F_plus⟩ := c.def_ 30 (d := d_plus) rfl
  have m_times : mg "times" = some (.ref (He.ga K "times")) := He.glo_ok X G (c.fact 31 (f := .glo "times") rfl)
  obtain ⟨fd_times, F_times⟩ := c.def_ 31 (d := d_times) rfl
  have m_lowest : mg "lowest" = some (.ref (He.ga K "lowest")) := He.glo_ok X G (c.fact 32 (f := .glo "lowest") rfl)
  obtain ⟨fd_lowest, F_lowest⟩ := c.def_ 32 (d := d_lowest) rfl
  have m_is_fraction : mg "is_fraction" = some (.ref (He.ga K "is_fraction")) := He.glo_ok X G (c.fact 33 (f := .glo "is_fraction") rfl)
  obtain ⟨fd_is_fraction, F_is_fraction⟩ := c.def_ 33 (d := d_is_fraction) rfl
  have m_pairs_of : mg "pairs_of" = some (.ref (He.ga K "pairs_of")) := He.glo_ok X G (c.fact 34 (f := .glo "pairs_of") rfl)
  obtain ⟨fd_pairs_of, F_pairs_of⟩ := c.def_ 34 (d := d_pairs_of) rfl
  have m_are_weights : mg "are_weights" = some (.ref (He.ga K "are_weights")) := He.glo_ok X G (c.fact 35 (f := .glo "are_weights") rfl)
  obtain ⟨fd_are_weights, F_are_weights⟩ := c.def_ 35 (d := d_are_weights) rfl
  have m_is_under : mg "is_under" = some (.ref (He.ga K "is_under")) := He.glo_ok X G (c.fact 36 (f := .glo "is_under") rfl)
  obtain ⟨fd_is_under, F_is_under⟩ := c.def_ 36 (d := d_is_under) rfl
  have m_shows_total : mg "shows_total" = some (.ref (He.ga K "shows_total")) := He.glo_ok X G (c.fact 37 (f := .glo "shows_total") rfl)
  obtain ⟨fd_shows_total, F_shows_total⟩ := c.def_ 37 (d := d_shows_total) rfl
  have m_is_least_paper : mg "is_least_paper" = some (.ref (He.ga K "is_least_paper")) := He.glo_ok X G (c.fact 38 (f := .glo "is_least_paper") rfl)
  obtain ⟨fd_is_least_paper, F_is_least_paper⟩ := c.def_ 38 (d := d_is_least_paper) rfl
  have m_is_greatest_paper : mg "is_greatest_paper" = some (.ref (He.ga K "is_greatest_paper")) := He.glo_ok X G (c.fact 39 (f := .glo "is_greatest_paper") rfl)
  obtain ⟨fd_is_greatest_paper, F_is_greatest_paper⟩ := c.def_ 39 (d := d_is_greatest_paper) rfl
  have m__law_met : mg "_law_met" = some (.ref (He.ga K "_law_met")) := He.glo_ok X G (c.fact 40 (f := .glo "_law_met") rfl)
  obtain ⟨fd__law_met, F__law_met⟩ := c.def_ 40 (d := d__law_met) rfl
  have m_shows_sums : mg "shows_sums" = some (.ref (He.ga K "shows_sums")) := He.glo_ok X G (c.fact 41 (f := .glo "shows_sums") rfl)
  obtain ⟨fd_shows_sums, F_shows_sums⟩ := c.def_ 41 (d := d_shows_sums) rfl
  have m_is_sums_paper : mg "is_sums_paper" = some (.ref (He.ga K "is_sums_paper")) := He.glo_ok X G (c.fact 42 (f := .glo "is_sums_paper") rfl)
  obtain ⟨fd_is_sums_paper, F_is_sums_paper⟩ := c.def_ 42 (d := d_is_sums_paper) rfl
  have m__law_right : mg "_law_right" = some (.ref (He.ga K "_law_right")) := He.glo_ok X G (c.fact 43 (f := .glo "_law_right") rfl)
  obtain ⟨fd__law_right, F__law_right⟩ := c.def_ 43 (d := d__law_right) rfl
  have m_law : mg "law" = some (.ref (He.ga K "law")) := He.glo_ok X G (c.fact 44 (f := .glo "law") rfl)
  obtain ⟨fd_law, F_law⟩ := c.def_ 44 (d := d_law) rfl
  have T : Tx mg := ⟨He.free_ok X G (c.fact 45 (f := .free "abs") rfl),
    He.free_ok X G (c.fact 46 (f := .free "all") rfl),
    He.free_ok X G (c.fact 47 (f := .free "bool") rfl),
    He.free_ok X G (c.fact 48 (f := .free "enumerate") rfl),
    He.free_ok X G (c.fact 49 (f := .free "int") rfl),
    He.free_ok X G (c.fact 50 (f := .free "isinstance") rfl),
    He.free_ok X G (c.fact 51 (f := .free "len") rfl),
    He.free_ok X G (c.fact 52 (f := .free "list") rfl),
    He.free_ok X G (c.fact 53 (f := .free "max") rfl),
    He.free_ok X G (c.fact 54 (f := .free "min") rfl),
    He.free_ok X G (c.fact 55 (f := .free "range") rfl),
    He.free_ok X G (c.fact 56 (f := .free "repr") rfl),
    He.free_ok X G (c.fact 57 (f := .free "str") rfl),
    He.free_ok X G (c.fact 58 (f := .free "sum") rfl),
    He.free_ok X G (c.fact 59 (f := .free "tuple") rfl),
    He.free_ok X G (c.fact 60 (f := .free "zip") rfl),
    He.str_ok X G (c.fact 61 (f := .str "GREATEST" "greatest") rfl),
    He.str_ok X G (c.fact 62 (f := .str "LACK" "lack") rfl),
    He.str_ok X G (c.fact 63 (f := .str "LEAST" "least") rfl),
    He.int_ok X G (c.fact 64 (f := .int "LONGEST" 1000000000000000000000000000000) rfl),
    He.int_ok X G (c.fact 65 (f := .int "MOST_MANY" 12) rfl),
    He.int_ok X G (c.fact 66 (f := .int "MOST_SETS" 6) rfl),
    He.int_ok X G (c.fact 67 (f := .int "MOST_THINGS" 30) rfl),
    He.int_ok X G (c.fact 68 (f := .int "PAPER_SIZE" 3) rfl),
    He.str_ok X G (c.fact 69 (f := .str "SETS" "sets") rfl)⟩
  have kp_NoNumber : RF.KpF K "NoNumber" "number" "LackError" := RF.kpB_ok ex
  have TK : Tk K mg := ⟨He.glo_ok X G (c.fact 70 (f := .glo "NoTable") rfl),
    He.glo_ok X G (c.fact 71 (f := .glo "NoNumber") rfl),
    He.glo_ok X G (c.fact 72 (f := .glo "TooMany") rfl),
    He.exc_ok (c.fact 73 (f := .exc "NoTable") rfl),
    He.exm_ok (c.fact 74 (f := .exm "NoTable" "NoTable" true) rfl),
    kp_NoNumber.ck,
    kp_NoNumber.tk,
    kp_NoNumber.xf,
    kp_NoNumber.no,
    kp_NoNumber.lb,
    He.glo_ok X G (c.fact 75 (f := .glo "LackError") rfl),
    kp_NoNumber.ini,
    kp_NoNumber.ti,
    He.exm_ok (c.fact 76 (f := .exm "NoNumber" "NoNumber" true) rfl),
    He.exm_ok (c.fact 77 (f := .exm "NoNumber" "NoTable" false) rfl)⟩
  intro base _ _ tbs
  obtain ⟨fd_NoNumber, F_NoNumber⟩ := c.def_ 45 (d := d_NoNumber_init) rfl
  have b_NoNumber : L2.Binds K fd_NoNumber P_NoNumber_init [] := FunD.bindsN F_NoNumber fun _ _ _ _ _ _ us hl => match us, hl with | [_, _], _ => rfl
  have kc_NoNumber : KeepC P w K mg base "NoNumber" "number" := ⟨TK.ck_NoNumber, TK.tk_NoNumber, TK.gx_NoNumber, ⟨_, fd_NoNumber, P_NoNumber_init, TK.in_NoNumber, TK.ti_NoNumber, ok_NoNumber_init TK F_NoNumber, b_NoNumber⟩⟩
  have TB__law_right := tbs (He.cT K ("_law_right", none)) (List.mem_map.mpr ⟨("_law_right", none), by simp [tfL], rfl⟩)
  have b__law_crock : L2.Binds K fd__law_crock P__law_crock [] := FunD.bindsN F__law_crock fun _ _ _ _ _ _ us hl => match us, hl with | [_, _], _ => rfl
  have h__law_crock : Cl P w K mg base 1 "_law_crock" 2 c__law_crock := ok__law_crock T (def_of F__law_crock m__law_crock) b__law_crock
  have h_is_whole : IsW P w K mg base := ok_is_whole T F_is_whole m_is_whole
  have b_need_things : L2.Binds K fd_need_things P_need_things [] := FunD.bindsN F_need_things fun _ _ _ _ _ _ us hl => match us, hl with | [_], _ => rfl
  have h_need_things : ClX P w K mg base 3 "need_things" 1 c_need_things := ok_need_things T TK (def_of F_need_things m_need_things) b_need_things h_is_whole kc_NoNumber
  have b_are_sets : L2.Binds K fd_are_sets P_are_sets [] := FunD.bindsN F_are_sets fun _ _ _ _ _ _ us hl => match us, hl with | [_, _], _ => rfl
  have h_are_sets : Cl P w K mg base 2 "are_sets" 2 c_are_sets := ok_are_sets T (def_of F_are_sets m_are_sets) b_are_sets h_is_whole
  have b_need_sets : L2.Binds K fd_need_sets P_need_sets [] := FunD.bindsN F_need_sets fun _ _ _ _ _ _ us hl => match us, hl with | [_, _], _ => rfl
  have h_need_sets : ClX P w K mg base 4 "need_sets" 2 c_need_sets := ok_need_sets T TK (def_of F_need_sets m_need_sets) b_need_sets h_need_things h_are_sets
  have b_out_of : L2.Binds K fd_out_of P_out_of [] := FunD.bindsN F_out_of fun _ _ _ _ _ _ us hl => match us, hl with | [_, _], _ => rfl
  have h_out_of : Cl P w K mg base 1 "out_of" 2 c_out_of := ok_out_of T (def_of F_out_of m_out_of) b_out_of
  have b_sums_in : L2.Binds K fd_sums_in P_sums_in [] := FunD.bindsN F_sums_in fun _ _ _ _ _ _ us hl => match us, hl with | [_], _ => rfl
  have h_sums_in : Cl P w K mg base 2 "sums_in" 1 c_sums_in := ok_sums_in T (def_of F_sums_in m_sums_in) b_sums_in h_out_of
  have b_counts_by : L2.Binds K fd_counts_by P_counts_by [] := FunD.bindsN F_counts_by fun _ _ _ _ _ _ us hl => match us, hl with | [_, _], _ => rfl
  have h_counts_by : Cl P w K mg base 1 "counts_by" 2 c_counts_by := ok_counts_by T (def_of F_counts_by m_counts_by) b_counts_by
  have b_meet_sums : L2.Binds K fd_meet_sums P_meet_sums [] := FunD.bindsN F_meet_sums fun _ _ _ _ _ _ us hl => match us, hl with | [_, _], _ => rfl
  have h_meet_sums : ClX P w K mg base 5 "meet_sums" 2 c_meet_sums := ok_meet_sums T TK (def_of F_meet_sums m_meet_sums) b_meet_sums h_need_sets h_sums_in h_counts_by
  have b__law_ladle : L2.Binds K fd__law_ladle P__law_ladle [] := FunD.bindsN F__law_ladle fun _ _ _ _ _ _ us hl => match us, hl with | [_, _], _ => rfl
  have h__law_ladle : Cl P w K mg base 1 "_law_ladle" 2 c__law_ladle := ok__law_ladle T (def_of F__law_ladle m__law_ladle) b__law_ladle
  have b__law_pick_of : L2.Binds K fd__law_pick_of P__law_pick_of [] := FunD.bindsN F__law_pick_of fun _ _ _ _ _ _ us hl => match us, hl with | [_, _], _ => rfl
  have h__law_pick_of : Cl P w K mg base 2 "_law_pick_of" 2 c__law_pick_of := ok__law_pick_of T (def_of F__law_pick_of m__law_pick_of) b__law_pick_of h__law_ladle
  have b_just_counts : L2.Binds K fd_just_counts P_just_counts [] := FunD.bindsN F_just_counts fun _ _ _ _ _ _ us hl => match us, hl with | [_, _], _ => rfl
  have h_just_counts : ClX P w K mg base 5 "just_counts" 2 c_just_counts := ok_just_counts T TK (def_of F_just_counts m_just_counts) b_just_counts h_need_sets h_counts_by
  have b_need_sums : L2.Binds K fd_need_sums P_need_sums [] := FunD.bindsN F_need_sums fun _ _ _ _ _ _ us hl => match us, hl with | [_], _ => rfl
  have h_need_sums : ClX P w K mg base 2 "need_sums" 1 c_need_sums := ok_need_sums T TK (def_of F_need_sums m_need_sums) b_need_sums h_is_whole
  have b_counts_in : L2.Binds K fd_counts_in P_counts_in [] := FunD.bindsN F_counts_in fun _ _ _ _ _ _ us hl => match us, hl with | [_], _ => rfl
  have h_counts_in : Cl P w K mg base 1 "counts_in" 1 c_counts_in := ok_counts_in T (def_of F_counts_in m_counts_in) b_counts_in
  have b_counts_of : L2.Binds K fd_counts_of P_counts_of [] := FunD.bindsN F_counts_of fun _ _ _ _ _ _ us hl => match us, hl with | [_], _ => rfl
  have h_counts_of : ClX P w K mg base 3 "counts_of" 1 c_counts_of := ok_counts_of T TK (def_of F_counts_of m_counts_of) b_counts_of h_need_sums h_counts_in
  have b_sums_of : L2.Binds K fd_sums_of P_sums_of [] := FunD.bindsN F_sums_of fun _ _ _ _ _ _ us hl => match us, hl with | [_], _ => rfl
  have h_sums_of : ClX P w K mg base 3 "sums_of" 1 c_sums_of := ok_sums_of T TK (def_of F_sums_of m_sums_of) b_sums_of h_sums_in h_need_sums
  have b_sums_told : L2.Binds K fd_sums_told P_sums_told [] := FunD.bindsN F_sums_told fun _ _ _ _ _ _ us hl => match us, hl with | [_], _ => rfl
  have h_sums_told : Cl P w K mg base 1 "sums_told" 1 c_sums_told := ok_sums_told T (def_of F_sums_told m_sums_told) b_sums_told
  have b_sums_paper : L2.Binds K fd_sums_paper P_sums_paper [] := FunD.bindsN F_sums_paper fun _ _ _ _ _ _ us hl => match us, hl with | [_], _ => rfl
  have h_sums_paper : ClX P w K mg base 4 "sums_paper" 1 c_sums_paper := ok_sums_paper T TK (def_of F_sums_paper m_sums_paper) b_sums_paper h_need_things h_need_sums h_sums_told
  have b_sign_of : L2.Binds K fd_sign_of P_sign_of [] := FunD.bindsN F_sign_of fun _ _ _ _ _ _ us hl => match us, hl with | [_], _ => rfl
  have h_sign_of : Cl P w K mg base 1 "sign_of" 1 c_sign_of := ok_sign_of T (def_of F_sign_of m_sign_of) b_sign_of
  have b_ended : L2.Binds K fd_ended P_ended [] := FunD.bindsN F_ended fun _ _ _ _ _ _ us hl => match us, hl with | [_, _], _ => rfl
  have h_ended : ClX P w K mg base 3 "ended" 2 c_ended := ok_ended T TK (def_of F_ended m_ended) b_ended h_is_whole h_need_sums h_sign_of kc_NoNumber
  have b_at_least : L2.Binds K fd_at_least P_at_least [] := FunD.bindsN F_at_least fun _ _ _ _ _ _ us hl => match us, hl with | [_, _], _ => rfl
  have h_at_least : ClX P w K mg base 3 "at_least" 2 c_at_least := ok_at_least T TK (def_of F_at_least m_at_least) b_at_least h_is_whole h_out_of h_need_sums h_sign_of kc_NoNumber
  have b_need_numbers : L2.Binds K fd_need_numbers P_need_numbers [] := FunD.bindsN F_need_numbers fun _ _ _ _ _ _ us hl => match us, hl with | [_, _, _], _ => rfl
  have h_need_numbers : ClX P w K mg base 3 "need_numbers" 3 c_need_numbers := ok_need_numbers T TK (def_of F_need_numbers m_need_numbers) b_need_numbers h_is_whole kc_NoNumber
  have b_need_weights : L2.Binds K fd_need_weights P_need_weights [] := FunD.bindsN F_need_weights fun _ _ _ _ _ _ us hl => match us, hl with | [_, _, _], _ => rfl
  have h_need_weights : ClX P w K mg base 4 "need_weights" 3 c_need_weights := ok_need_weights T TK (def_of F_need_weights m_need_weights) b_need_weights h_need_numbers
  have b_together : L2.Binds K fd_together P_together [] := FunD.bindsN F_together fun _ _ _ _ _ _ us hl => match us, hl with | [_], _ => rfl
  have h_together : Cl P w K mg base 1 "together" 1 c_together := ok_together T (def_of F_together m_together) b_together
  have b_least_in : L2.Binds K fd_least_in P_least_in [] := FunD.bindsN F_least_in fun _ _ _ _ _ _ us hl => match us, hl with | [_, _, _], _ => rfl
  have h_least_in : Cl P w K mg base 1 "least_in" 3 c_least_in := ok_least_in T (def_of F_least_in m_least_in) b_least_in
  have b_least_total : L2.Binds K fd_least_total P_least_total [] := FunD.bindsN F_least_total fun _ _ _ _ _ _ us hl => match us, hl with | [_, _, _], _ => rfl
  have h_least_total : ClX P w K mg base 5 "least_total" 3 c_least_total := ok_least_total T TK (def_of F_least_total m_least_total) b_least_total h_need_weights h_together h_least_in
  have b_greatest_in : L2.Binds K fd_greatest_in P_greatest_in [] := FunD.bindsN F_greatest_in fun _ _ _ _ _ _ us hl => match us, hl with | [_, _, _], _ => rfl
  have h_greatest_in : Cl P w K mg base 1 "greatest_in" 3 c_greatest_in := ok_greatest_in T (def_of F_greatest_in m_greatest_in) b_greatest_in
  have b_greatest_total : L2.Binds K fd_greatest_total P_greatest_total [] := FunD.bindsN F_greatest_total fun _ _ _ _ _ _ us hl => match us, hl with | [_, _, _], _ => rfl
  have h_greatest_total : ClX P w K mg base 5 "greatest_total" 3 c_greatest_total := ok_greatest_total T TK (def_of F_greatest_total m_greatest_total) b_greatest_total h_need_weights h_together h_greatest_in
  have b_least_paper : L2.Binds K fd_least_paper P_least_paper [] := FunD.bindsN F_least_paper fun _ _ _ _ _ _ us hl => match us, hl with | [_, _, _], _ => rfl
  have h_least_paper : ClX P w K mg base 5 "least_paper" 3 c_least_paper := ok_least_paper T TK (def_of F_least_paper m_least_paper) b_least_paper h_need_weights h_least_in
  have b_greatest_paper : L2.Binds K fd_greatest_paper P_greatest_paper [] := FunD.bindsN F_greatest_paper fun _ _ _ _ _ _ us hl => match us, hl with | [_, _, _], _ => rfl
  have h_greatest_paper : ClX P w K mg base 5 "greatest_paper" 3 c_greatest_paper := ok_greatest_paper T TK (def_of F_greatest_paper m_greatest_paper) b_greatest_paper h_need_weights h_greatest_in
  have b_plus : L2.Binds K fd_plus P_plus [] := FunD.bindsN F_plus fun _ _ _ _ _ _ us hl => match us, hl with | [_, _], _ => rfl
  have h_plus : Cl P w K mg base 1 "plus" 2 c_plus := ok_plus T (def_of F_plus m_plus) b_plus
  have b_times : L2.Binds K fd_times P_times [] := FunD.bindsN F_times fun _ _ _ _ _ _ us hl => match us, hl with | [_, _], _ => rfl
  have h_times : Cl P w K mg base 1 "times" 2 c_times := ok_times T (def_of F_times m_times) b_times
  have b_lowest : L2.Binds K fd_lowest P_lowest [] := FunD.bindsN F_lowest fun _ _ _ _ _ _ us hl => match us, hl with | [_, _], _ => rfl
  have h_lowest : Cl P w K mg base 1 "lowest" 2 c_lowest := ok_lowest T (def_of F_lowest m_lowest) b_lowest
  have b_is_fraction : L2.Binds K fd_is_fraction P_is_fraction [] := FunD.bindsN F_is_fraction fun _ _ _ _ _ _ us hl => match us, hl with | [_], _ => rfl
  have h_is_fraction : Cl P w K mg base 2 "is_fraction" 1 c_is_fraction := ok_is_fraction T (def_of F_is_fraction m_is_fraction) b_is_fraction h_is_whole h_lowest
  have b_pairs_of : L2.Binds K fd_pairs_of P_pairs_of [] := FunD.bindsN F_pairs_of fun _ _ _ _ _ _ us hl => match us, hl with | [_], _ => rfl
  have h_pairs_of : Cl P w K mg base 1 "pairs_of" 1 c_pairs_of := ok_pairs_of T (def_of F_pairs_of m_pairs_of) b_pairs_of
  have b_are_weights : L2.Binds K fd_are_weights P_are_weights [] := FunD.bindsN F_are_weights fun _ _ _ _ _ _ us hl => match us, hl with | [_, _, _, _], _ => rfl
  have h_are_weights : Cl P w K mg base 3 "are_weights" 4 c_are_weights := ok_are_weights T (def_of F_are_weights m_are_weights) b_are_weights h_together h_times h_is_fraction h_pairs_of
  have b_is_under : L2.Binds K fd_is_under P_is_under [] := FunD.bindsN F_is_under fun _ _ _ _ _ _ us hl => match us, hl with | [_, _], _ => rfl
  have h_is_under : Cl P w K mg base 1 "is_under" 2 c_is_under := ok_is_under T (def_of F_is_under m_is_under) b_is_under
  have b_shows_total : L2.Binds K fd_shows_total P_shows_total [] := FunD.bindsN F_shows_total fun _ _ _ _ _ _ us hl => match us, hl with | [_, _, _, _, _], _ => rfl
  have h_shows_total : Cl P w K mg base 4 "shows_total" 5 c_shows_total := ok_shows_total T (def_of F_shows_total m_shows_total) b_shows_total h_together h_plus h_times h_is_fraction h_pairs_of h_are_weights h_is_under
  have b_is_least_paper : L2.Binds K fd_is_least_paper P_is_least_paper [] := FunD.bindsN F_is_least_paper fun _ _ _ _ _ _ us hl => match us, hl with | [_, _, _, _], _ => rfl
  have h_is_least_paper : ClX P w K mg base 5 "is_least_paper" 4 c_is_least_paper := ok_is_least_paper T TK (def_of F_is_least_paper m_is_least_paper) b_is_least_paper h_need_numbers h_shows_total
  have b_is_greatest_paper : L2.Binds K fd_is_greatest_paper P_is_greatest_paper [] := FunD.bindsN F_is_greatest_paper fun _ _ _ _ _ _ us hl => match us, hl with | [_, _, _, _], _ => rfl
  have h_is_greatest_paper : ClX P w K mg base 5 "is_greatest_paper" 4 c_is_greatest_paper := ok_is_greatest_paper T TK (def_of F_is_greatest_paper m_is_greatest_paper) b_is_greatest_paper h_need_numbers h_shows_total
  have b__law_met : L2.Binds K fd__law_met P__law_met [] := FunD.bindsN F__law_met fun _ _ _ _ _ _ us hl => match us, hl with | [_], _ => rfl
  have h__law_met : HGClX P w K mg base (fun kl => kl + 1) "_law_met" 1 0 (fun g F caps led => c__law_met g F caps led) := ok__law_met T TK (def_of F__law_met m__law_met) b__law_met
  have b_shows_sums : L2.Binds K fd_shows_sums P_shows_sums [] := FunD.bindsN F_shows_sums fun _ _ _ _ _ _ us hl => match us, hl with | [_, _], _ => rfl
  have h_shows_sums : Cl P w K mg base 3 "shows_sums" 2 c_shows_sums := ok_shows_sums T (def_of F_shows_sums m_shows_sums) b_shows_sums h_is_whole h_are_sets h_counts_by h_counts_in
  have b_is_sums_paper : L2.Binds K fd_is_sums_paper P_is_sums_paper [] := FunD.bindsN F_is_sums_paper fun _ _ _ _ _ _ us hl => match us, hl with | [_, _], _ => rfl
  have h_is_sums_paper : ClX P w K mg base 4 "is_sums_paper" 2 c_is_sums_paper := ok_is_sums_paper T TK (def_of F_is_sums_paper m_is_sums_paper) b_is_sums_paper h_need_things h_need_sums h_shows_sums
  have b__law_right : L2.Binds K fd__law_right P__law_right [] := FunD.bindsN F__law_right fun _ _ _ _ _ _ us hl => match us, hl with | [_], _ => rfl
  have callG4 : ∀ (y : Str) (cf : CFX), List.lookup y tbl__law_right_call4 = some cf → ClX P w K mg base 5 y 4 cf ∧ mg y = some (.ref (He.ga K y)) := fun y cf hy => lookup_all [("is_least_paper", c_is_least_paper), ("is_greatest_paper", c_is_greatest_paper)] (fun p => ClX P w K mg base 5 p.1 4 p.2 ∧ mg p.1 = some (.ref (He.ga K p.1))) (fun p hp => by
    simp only [List.mem_cons, List.not_mem_nil, or_false] at hp
    rcases hp with rfl | rfl
    · exact ⟨clx_up h_is_least_paper (by decide), m_is_least_paper⟩
    · exact ⟨clx_up h_is_greatest_paper (by decide), m_is_greatest_paper⟩) hy
  have callG3 : ∀ (y : Str) (cf : CFX), List.lookup y tbl__law_right_call3 = some cf → ClX P w K mg base 5 y 3 cf ∧ mg y = some (.ref (He.ga K y)) := fun y cf hy => lookup_all [("least_total", c_least_total), ("greatest_total", c_greatest_total), ("least_paper", c_least_paper), ("greatest_paper", c_greatest_paper)] (fun p => ClX P w K mg base 5 p.1 3 p.2 ∧ mg p.1 = some (.ref (He.ga K p.1))) (fun p hp => by
    simp only [List.mem_cons, List.not_mem_nil, or_false] at hp
    rcases hp with rfl | rfl | rfl | rfl
    · exact ⟨clx_up h_least_total (by decide), m_least_total⟩
    · exact ⟨clx_up h_greatest_total (by decide), m_greatest_total⟩
    · exact ⟨clx_up h_least_paper (by decide), m_least_paper⟩
    · exact ⟨clx_up h_greatest_paper (by decide), m_greatest_paper⟩) hy
  have callG2 : ∀ (y : Str) (cf : CFX), List.lookup y tbl__law_right_call2 = some cf → ClX P w K mg base 5 y 2 cf ∧ mg y = some (.ref (He.ga K y)) := fun y cf hy => lookup_all [("meet_sums", c_meet_sums), ("just_counts", c_just_counts), ("ended", c_ended), ("at_least", c_at_least)] (fun p => ClX P w K mg base 5 p.1 2 p.2 ∧ mg p.1 = some (.ref (He.ga K p.1))) (fun p hp => by
    simp only [List.mem_cons, List.not_mem_nil, or_false] at hp
    rcases hp with rfl | rfl | rfl | rfl
    · exact ⟨clx_up h_meet_sums (by decide), m_meet_sums⟩
    · exact ⟨clx_up h_just_counts (by decide), m_just_counts⟩
    · exact ⟨clx_up h_ended (by decide), m_ended⟩
    · exact ⟨clx_up h_at_least (by decide), m_at_least⟩) hy
  have callG1 : ∀ (y : Str) (cf : CFX), List.lookup y tbl__law_right_call1 = some cf → ClX P w K mg base 4 y 1 cf ∧ mg y = some (.ref (He.ga K y)) := fun y cf hy => lookup_all [("counts_of", c_counts_of), ("sums_of", c_sums_of), ("sums_paper", c_sums_paper)] (fun p => ClX P w K mg base 4 p.1 1 p.2 ∧ mg p.1 = some (.ref (He.ga K p.1))) (fun p hp => by
    simp only [List.mem_cons, List.not_mem_nil, or_false] at hp
    rcases hp with rfl | rfl | rfl
    · exact ⟨clx_up h_counts_of (by decide), m_counts_of⟩
    · exact ⟨clx_up h_sums_of (by decide), m_sums_of⟩
    · exact ⟨clx_up h_sums_paper (by decide), m_sums_paper⟩) hy
  have h__law_right : GCl P w K mg base 9 "_law_right" 1 c__law_right := ok__law_right T TK F__law_right m__law_right TB__law_right b__law_right h_meet_sums h__law_pick_of h_just_counts h_counts_of h_sums_of h_sums_paper h_ended h_at_least h_least_total h_greatest_total h_least_paper h_greatest_paper h_is_least_paper h_is_greatest_paper h__law_met h_is_sums_paper m_at_least m_counts_of m_ended m_greatest_paper m_greatest_total m_is_greatest_paper m_is_least_paper m_just_counts m_least_paper m_least_total m_meet_sums m_sums_of m_sums_paper callG4 callG3 callG2 callG1
  have b_law : L2.Binds K fd_law P_law [] := FunD.bindsN F_law fun _ _ _ _ _ _ us hl => match us, hl with | [_], _ => rfl
  exact ok_law T TK (def_of F_law m_law) b_law h__law_crock h_meet_sums h__law_right
theorem lawF : LawF := fun w mg fa h K KX G0 hmg c ex base H s1 a ns hl k1 k2 k3 k4 k5 k6 => by
  obtain ⟨f, hm, _, run⟩ := (facts (P := (PySem.Challenge.rw_countwide_k81_refusals_of_bounds).prog) (w := w) KX G0 c ex base k1 k2 k3).ex
  have ef : f = fa := by
    rw [hmg] at hm
    exact (Value.ref.inj (Option.some.inj hm)).symm
  subst ef
  refine run callerA [] s1 H [.ref a] [.ref a] _ (fun _ _ _ => False) rfl ⟨rfl, by decide, by decide⟩ k6 (.cons rfl .nil) (sp_law (n := 63) (fun ns _ => law_ok) H a ns hl (fun p hp => ?_) k5)
  have hp' : p ∈ tfL.map fun q => ((He.cT K q).2, (q.1 ++ ".<locals>.<lambda>" : Str)) := hp
  obtain ⟨q, hq, e⟩ := List.mem_map.mp hp'
  rw [← e]
  exact LamX.TabS.nil (k4 (He.cT K q) (List.mem_map.mpr ⟨q, hq, rfl⟩))
end G
open PySem PySem.W PySem.Calls PyProof.Rows
theorem PySem.Challenge.cw_countwide_k81_refusals_of_bounds_holds : PySem.Challenge.rw_countwide_k81_refusals_of_bounds.Holds := by
  exact G.heldL G.lawF
