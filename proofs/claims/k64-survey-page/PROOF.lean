import PyProof.Rows.All
import Wide.All
import OpenK.AllK
import Wide.FinOn
import PyProof.ReprLen
import PyProof.ReprRoads
import PyProof.EqLayable
import HandS.ForMost
import HandS.Exc
import HandS.TryOnly
import HandS.ExcOwn
import HandS.WordsExc
import HandS.IsInst
import HandS.Walk
import HandS.Flow
import HandS.ExcInit
import HandS.ExcIs
import HandS.ExcField
import HandS.TryMany
import PyProof.ListStr
import KE.KExcIs
import HandS.TupAny
import KE.DataMinMax
import HandS.SortKw
import KE.KOpsOwn
import HandS.SlotsOwn
import PyProof.InstNe
import PyProof.LongRange
import HandS.TupLe
import HandS.ClsMeth
import HandS.More
import HandS.Defaults
import HandS.Star
import HandS.Iter
import HandS.SetKeys
import HandS.Conv
import HandS.Dict
import OpenK.KTop
import HandS.FStr
import KE.KxField
import PyProof.FString3
import KE.SortData
import KE.KSortAsk
import HandS.Flt
import PySem.Challenge.RW_textorlist_k64_survey_page
set_option Elab.async false
set_option linter.all false
set_option maxRecDepth 100000
set_option maxHeartbeats 4000000
/-! ## Data: what can be shown, how long it is then -/
namespace Tx
open PySem

mutual
/-- no dict, letters of a text below the last code point, iv of less than 1920 bits -/
def fine : PyData → Bool
  | .none | .bool _ => true
  | .int i => decide (i.natAbs.log2 < 1920)
  | .str x => x.cps.toList.all fun c => decide (c < 0x110000)
  | .list xs | .tuple xs => fineAll xs
  | .dict _ => false
def fineAll : List PyData → Bool
  | [] => true
  | x :: xs => fine x && fineAll xs
end
mutual
/-- a bound for the number of signs of its repr -/
def wt : PyData → Nat
  | .none | .bool _ => 5
  | .int _ => 2000
  | .str x => 10 * x.length + 2
  | .list xs | .tuple xs => wtAll xs + 3
  | .dict _ => 0
def wtAll : List PyData → Nat
  | [] => 0
  | x :: xs => wt x + 2 + wtAll xs
end
theorem fineAll_iff : ∀ {xs : List PyData}, fineAll xs = true ↔ ∀ d ∈ xs, fine d = true
  | [] => by simp [fineAll]
  | x :: xs => by simp [fineAll, fineAll_iff (xs := xs)]
theorem wtAll_append : ∀ (xs ys : List PyData), wtAll (xs ++ ys) = wtAll xs + wtAll ys
  | [], ys => by simp [wtAll]
  | x :: xs, ys => by simp only [List.cons_append, wtAll, wtAll_append xs ys]; omega
theorem wtAll_le {B : Nat} : ∀ {xs : List PyData}, (∀ d ∈ xs, wt d ≤ B) → wtAll xs ≤ (B + 2) * xs.length
  | [], _ => by simp [wtAll]
  | x :: xs, h => by
    have h1 := h x List.mem_cons_self
    have h2 := wtAll_le (B := B) (xs := xs) fun d hd => h d (List.mem_cons_of_mem _ hd)
    simp only [wtAll, List.length_cons, Nat.mul_add, Nat.mul_one]
    omega
theorem depthAll_le {n : Nat} : ∀ {xs : List PyData}, (∀ d ∈ xs, d.depth ≤ n) → PyData.depthAll xs ≤ n
  | [], _ => by simp [PyData.depthAll]
  | x :: xs, h => by
    have h1 := h x List.mem_cons_self
    have h2 := depthAll_le (n := n) (xs := xs) fun d hd => h d (List.mem_cons_of_mem _ hd)
    simp only [PyData.depthAll]
    omega
theorem depth_mem : ∀ {xs : List PyData} {d : PyData}, d ∈ xs → d.depth ≤ PyData.depthAll xs
  | [], d, h => by simp at h
  | x :: xs, d, h => by
    simp only [PyData.depthAll]
    cases h with
    | head => omega
    | tail _ h => have := depth_mem h; omega
theorem wt_mem : ∀ {xs : List PyData} {d : PyData}, d ∈ xs → wt d + 2 ≤ wtAll xs
  | [], d, h => by simp at h
  | x :: xs, d, h => by
    simp only [wtAll]
    cases h with
    | head => omega
    | tail _ h => have := wt_mem h; omega
mutual
theorem fine_showable : ∀ d : PyData, fine d = true → d.showable = true
  | .none, _ => rfl
  | .bool _, _ => rfl
  | .str _, _ => rfl
  | .int i, h => by simpa [fine, PyData.showable] using h
  | .list xs, h => by simp only [fine] at h; simp only [PyData.showable]; exact fineAll_showable xs h
  | .tuple xs, h => by simp only [fine] at h; simp only [PyData.showable]; exact fineAll_showable xs h
  | .dict _, h => by simp [fine] at h
theorem fineAll_showable : ∀ xs : List PyData, fineAll xs = true → PyData.showableAll xs = true
  | [], _ => rfl
  | x :: xs, h => by
    simp only [fineAll, Bool.and_eq_true] at h
    simp only [PyData.showableAll, fine_showable x h.1, fineAll_showable xs h.2, Bool.and_self]
end
mutual
theorem fine_lay : ∀ d : PyData, fine d = true → d.canLay0 = true
  | .none, _ => rfl
  | .bool _, _ => rfl
  | .int _, _ => rfl
  | .str x, h => by
    simp only [fine, List.all_eq_true, decide_eq_true_eq] at h
    simp only [PyData.canLay0]
    show x.cps.all (· < 0x110000) = true
    rw [Array.all_eq_true_iff_forall_mem]
    intro c hc
    exact decide_eq_true (h c (Array.mem_toList_iff.mpr hc))
  | .list xs, h => by simp only [fine] at h; simp only [PyData.canLay0]; exact fineAll_lay xs h
  | .tuple xs, h => by simp only [fine] at h; simp only [PyData.canLay0]; exact fineAll_lay xs h
  | .dict _, h => by simp [fine] at h
theorem fineAll_lay : ∀ xs : List PyData, fineAll xs = true → PyData.canLayAll0 xs = true
  | [], _ => rfl
  | x :: xs, h => by
    simp only [fineAll, Bool.and_eq_true] at h
    simp only [PyData.canLayAll0, fine_lay x h.1, fineAll_lay xs h.2, Bool.and_self]
end
mutual
theorem shown_wt : ∀ d : PyData, fine d = true → d.shown.length ≤ wt d
  | .none, _ => by decide
  | .bool b, _ => by cases b <;> decide
  | .int i, h => by
    have e := int_text_fits (a := i) (by simpa [fine] using h)
    have e2 := PyProof.Rows.int_text_len_1921 (i := i) (by simpa [fine] using h)
    simp only [PyData.shown, wt]
    omega
  | .str x, h => by
    simp only [fine, List.all_eq_true, decide_eq_true_eq] at h
    have e := StrLaws.reprText_len x fun c hc => by
      have := h c hc
      have e8 : (16 : Nat) ^ 8 = 4294967296 := by decide
      omega
    simpa only [PyData.shown, wt] using e
  | .list xs, h => by
    simp only [fine] at h
    have h1 := shownAll_wt xs h
    have h2 := listText_len_le (PyData.shownAll xs)
    simp only [PyData.shown, wt]
    omega
  | .tuple xs, h => by
    simp only [fine] at h
    have h1 := shownAll_wt xs h
    have h2 := tupleText_len_le (PyData.shownAll xs)
    simp only [PyData.shown, wt]
    omega
  | .dict _, h => by simp [fine] at h
theorem shownAll_wt : ∀ xs : List PyData, fineAll xs = true → ((PyData.shownAll xs).map (·.length)).sum + 2 * (PyData.shownAll xs).length ≤ wtAll xs
  | [], _ => by simp [PyData.shownAll, wtAll]
  | x :: xs, h => by
    simp only [fineAll, Bool.and_eq_true] at h
    have h1 := shown_wt x h.1
    have h2 := shownAll_wt xs h.2
    simp only [PyData.shownAll, wtAll, List.map_cons, List.sum_cons, List.length_cons]
    omega
end
/-- may be shown and compared -/
def Ok (d : PyData) : Prop := fine d = true ∧ d.depth ≤ 60 ∧ wt d ≤ 16000000
theorem Ok.fits {d : PyData} (h : Ok d) : d.shown.length ≤ sizeLine := by
  have := shown_wt d h.1
  have := h.2.2
  rw [sizeLine_eq]
  omega
theorem Ok.nodict {d : PyData} (h : Ok d) : d.hasDict = false := PyData.hasDict_of_canLay d (fine_lay d h.1)
theorem Ok.shaped {d : PyData} (h : Ok d) : SeqAt.shaped d = true := by
  unfold SeqAt.shaped
  rw [fine_lay d h.1, Bool.true_and]
  exact decide_eq_true (Nat.le_trans h.2.1 (by decide))
end Tx
/-! ## What the kit's hand layer lacks for these laws: a def that is run where no repr is under way (guards), repr of data of any depth -/
namespace Tx
open PySem PySem.Spec PyProof.Rows L2

/-- a def's promise, asked only where nothing is being shown -/
structure FnG (P : Program) (w : World) (K : PySem.W.Frag) (mg : Str → Option Value) (base : Heap) (CX : CXT) (k : Nat)
    (f : Addr) (fd : FuncData) (ps : List Str) (sp : Sp) : Prop where
  len : ∀ vs H Q E, sp vs H Q E → vs.length = ps.length
  run : ∀ (A : Around) (out : List Env) (s : Shared) (H : Hp) (ar : Args) (us : List Value) (vs : List V) (Q : VK) (E : XK),
    Room k A → A.guards = some [] → Env0 P w K mg base A out s H → BindsTo s fd ar (ps.zip us) → Vals vs us → sp vs H Q E →
      codeAny (model P w) A (.call (.ref f) ar) (CR CX out P w H s Q E) s

section
variable {P : Program} {w : World} {K : PySem.W.Frag} {mg : Str → Option Value} {base : Heap} {CX : CXT} {k : Nat} {f : Addr} {fd : FuncData}
  {ps N : List Str} {sp : Sp} {x qual : Str} {st : Stmt}
theorem FnG.of (F : FnOk P w K mg base CX k f fd ps sp) : FnG P w K mg base CX k f fd ps sp :=
  ⟨F.len, fun A out s H ar us vs Q E r _ e b v h => F.run A out s H ar us vs Q E r e b v h⟩
theorem FnG.mono {j : Nat} (F : FnG P w K mg base CX j f fd ps sp) (h : j ≤ k) : FnG P w K mg base CX k f fd ps sp :=
  ⟨F.len, fun A out s H ar us vs Q E r g e b v q => F.run A out s H ar us vs Q E (r.mono h) g e b v q⟩

/-- from the body's reading to the promise -/
theorem okG (F : Fun K x qual st f fd) (S : FnScope N ps (defScope st)) (len : ∀ vs H Q E, sp vs H Q E → vs.length = ps.length)
    (body : ∀ (cv : Value) (A : Around) (out : List Env) (s : Shared) (H : Hp) (vs : List V) (Q : VK) (E : XK),
      Room k (A.deeper (envOfC qual (defScope st) s.heap.objs.size f cv)) → A.guards = some [] → sp vs H Q E →
      ∃ t, PSs (cxOf CX P w K mg base N qual (defScope st) f cv A out s H E) (defBody st) t ∧
        t { nx := fun _ H' => Q .non H', rt := Q } (start N vs) H) :
    FnG P w K mg base CX (k + 1) f fd ps sp := by
  obtain ⟨_, _, _, _, _, _, cv, _, _, rfl, at_f, code⟩ := F.ex
  refine ⟨len, fun A out s H ar us vs Q E room gd e0 bd rel ask => ?_⟩
  have inH : K.In s.heap := e0.mod.kin.keeps fun b o z => (e0.bs b o z).1
  have free : s.heap.NoLimit := e0.mod.nolimit.keeps fun b o z => (e0.bs b o z).1
  refine codeAny_call_function room.depth (inH _ _ at_f) rfl S.co S.gen rfl (PySem.W.codeRec_of inH code) (bd _ _ _ _ ?_)
  refine wpAny_newFunctionEnv_cells S.kind ?kinds ?entered
  case kinds =>
    rintro ⟨nm, val⟩ hz
    cases S.par nm (List.of_mem_zip hz).1 with
    | inl q => exact .inl q
    | inr q => exact .inr ⟨q, PySem.W.cellsFrom_some _ _ _ (.inl q)⟩
  case entered =>
    rintro env rfl s1 ic
    obtain ⟨t, pss, rd⟩ := body cv A out s H vs Q E (room.deeper _) gd ask
    have I := inv_start (CX := CX) (E := E) S room.hd e0 (len _ _ _ _ ask) rel ic
    refine ⟨free.keeps ic.toInCall.keep, codeAny_func (wpAny_mono (pss.run [] s1 (start N vs) H _ I rd) ?_ fun _ _ z => z)⟩
    intro fl s2 got
    cases fl with
    | next => obtain ⟨_, H2, J, q⟩ := got; exact ⟨.non, H2, J.os, J.bare, J.base, J.hok, rfl, q⟩
    | ret u => obtain ⟨v, _, H2, J, r, q⟩ := got; exact ⟨v, H2, J.os, J.bare, J.base, J.hok, r, q⟩
    | brk => obtain ⟨_, _, _, q⟩ := got; exact False.elim q
    | cont => obtain ⟨_, _, _, q⟩ := got; exact False.elim q

end
section
variable {X : Cx} {CX : CXT} {k : Nat} {f : Addr} {fd : FuncData} {ps : List Str} {sp : Sp} {dvs : List V} {ds : List Value} {E : XK}
  {x : Str} {p pos : Pos} {e : Expr} {es : List Expr} {t : TA}
/-- f(e, ..) of such a def -/
theorem pe_callG (F : FnG X.prog X.w X.K X.mg X.base CX k f fd ps sp) (room : Room k X.A) (gd : X.A.guards = some []) (gl : Gl X x) (at_f : X.mg x = some (.ref f))
    (kp : PySem.W.keepIn X.K (.ref f) = true) (bd : Binds X.K fd ps ds) (dv : Vals dvs ds) (out : Passes CX X E) (args : PA X (e :: es) t)
    (nd : (x == ("__debug__" : Str)) = false := by decide)
    (plain : starEach (e :: es) X.env = (false, eval e X.env) :: starEach es X.env := by rfl)
    (bare : (backTo pos (starEach es X.env)).any (·.1) = false := by rfl) :
    PE X (.Call (.Name x p) (e :: es) [] pos) (tCall sp dvs E t) := by
  constructor
  intro pins s σ H Q I ask
  refine wpAny_Call_Name_kw (ld_glob I gl at_f ?_ nd)
  refine PySem.W.callWith_K (h₀ := X.base) I.ok.mod.kin kp (thn (args.run pos pins s σ H _ I ask) ?_) plain bare
  rintro us s1 ⟨vs, H1, J, rel, q⟩
  refine ⟨J.kIn, ?_⟩
  have both : Vals (vs ++ dvs) (us ++ ds) := rel.append dv
  have full : (us ++ ds).length = ps.length := both.length.symm.trans (F.len _ _ _ _ q)
  refine wpAny_call (codeAny_mono (F.run X.A X.stack s1 H1 ⟨us, []⟩ (us ++ ds) (vs ++ dvs) Q E room gd J.env0 (bd s1 us J.kIn full) both q) ?_)
  intro r s2 got
  match r, got with
  | .ok (.ret u), got => exact J.after got
  | .ok .next, got => exact False.elim got
  | .ok .brk, got => exact False.elim got
  | .ok .cont, got => exact False.elim got
  | .error er, got => exact out pins σ H1 s1 er s2 J got
end

/-! ### the end of a law row -/
section
/-- the abstract heap at the law's entry: the script alone, locked, unless it is an object of the module -/
def entryH (K : PySem.W.Frag) (a : Addr) (o : Obj) (xs : List V) : Hp := fun b => if b = a ∧ K.lookup a = none then some (.frz o (.lst xs)) else none
theorem entryH_some {K : PySem.W.Frag} {a b : Addr} {o : Obj} {xs : List V} {u : HO} (h : entryH K a o xs b = some u) : b = a ∧ K.lookup a = none ∧ u = .frz o (.lst xs) := by
  unfold entryH at h
  split at h
  · rename_i c; exact ⟨c.1, c.2, (Option.some.inj h).symm⟩
  · cases h
theorem lawG {P : Program} {w : World} {K : PySem.W.Frag} {mg mb : Str → Option Value} {k : Nat} {fa a : Addr} {x : Str} {sp : Sp} {s : Shared} {vs : List Value} {ns : List Int}
    (inK : K.In s.heap) (gl : s.heap.Ns mainGlobals mg) (bl : s.heap.Ns builtinsNs mb) (boot : ∀ y : Str, y ≠ "__name__" → mb y = bootBuiltins y) (lim : s.heap.NoLimit) (gens : s.gens = #[])
    (ob : s.heap.get? a = some { cls := .type "list", data := .seq vs.toArray }) (iv : IntsAre vs ns) (small : ns.length ≤ sizeLine) (room : Room k callerA)
    (F : ∀ base : Heap, K.In base → base.Ns mainGlobals mg → ∃ fd : FuncData, FnG P w K mg base CX0 k fa fd [x] sp ∧ Binds K fd [x] [])
    (ask : ∀ H : Hp, SqL K H a (ns.map V.int) → sp [.ref a] H (fun v _ => v = .bl true) fun _ _ _ => False) :
    codeAny (model P w) callerA (.call (.ref fa) ⟨[.ref a], []⟩) (fun r s' => r = .ok (.ret (.bool true)) ∧ OldK s.heap s'.heap ∧ s'.os = s.os ∧ AllBare s'.gens) s := by
  have rel := vals_ints iv
  have same := iv.length
  let o : Obj := { cls := .type "list", data := .seq vs.toArray }
  let H := entryH K a o (ns.map V.int)
  have sq : SqL K H a (ns.map V.int) := by
    cases hk : K.lookup a with
    | none => exact .inl (.inr ⟨o, if_pos ⟨rfl, hk⟩⟩)
    | some u =>
      have z := inK a u hk
      rw [ob] at z
      cases z
      exact .inr ⟨_, vs.toArray, _, hk, rfl, rfl, rfl, (by rw [List.size_toArray, same]; exact small), by simpa using rel⟩
  have hok : HOk P w H s.heap := by
    intro b u z
    obtain ⟨rfl, _, rfl⟩ := entryH_some z
    exact ⟨ob, by rw [List.length_map]; exact small, vs, _, rel, ob⟩
  have shown : ∀ {b : Addr} {u : Obj}, s.heap.get? b = some u → (b = a → K.lookup a ≠ none) → (hidT s.heap H).get? b = some u := by
    intro b u z n
    refine hidT_get z ?_
    show entryH K a o (ns.map V.int) b = none
    unfold entryH
    rw [if_neg]
    exact fun c => n c.1 c.2
  have names : ∀ {b : Addr} {m : Str → Option Value}, s.heap.Ns b m → (hidT s.heap H).Ns b m := by
    rintro b m ⟨u, es, ep, z, dt, more⟩
    refine ⟨u, es, ep, shown z ?_, dt, more⟩
    rintro rfl
    rw [ob] at z
    cases z
    cases dt
  have inB : K.In (hidT s.heap H) := fun b u z => shown (inK b u z) (by rintro rfl n; rw [z] at n; cases n)
  have md : Mod K mg (hidT s.heap H) := ⟨inB, names gl, ⟨mb, names bl, boot⟩, by obtain ⟨mc, z1, z2⟩ := lim; exact ⟨mc, names z1, z2⟩⟩
  have e0 : Env0 P w K mg (hidT s.heap H) callerA [] s H :=
    { frames := rfl, mod := md, bs := fun b u z => of_hidT z, bsz := Nat.le_of_eq (hidT_size _ _), funs := trivial, frf := fun b z => (nomatch z), hok := hok, bare := .of_eq gens }
  obtain ⟨fd, FF, bd⟩ := F _ inB (names gl)
  refine codeAny_mono (FF.run callerA [] s H ⟨[.ref a], []⟩ [.ref a] [.ref a] _ _ room rfl e0 (bd s [.ref a] inK rfl) (.cons rfl .nil) (ask H sq)) ?_
  intro r s' got
  match r, got with
  | .error er, got => exact False.elim got
  | .ok .next, got => exact False.elim got
  | .ok .brk, got => exact False.elim got
  | .ok .cont, got => exact False.elim got
  | .ok (.ret u), ⟨v, H', os, bare, un, hok', r', q⟩ =>
    have q' : v = .bl true := q
    subst q'
    obtain rfl : u = Value.bool true := r'
    refine ⟨rfl, OldK.of_keep fun b ou z => ?_, os, bare⟩
    cases hb : H b with
    | none => exact un.keep b ou z hb (fun y => nomatch y) (by simp)
    | some hu =>
      obtain ⟨rfl, _, rfl⟩ := entryH_some hb
      have z2 := hok' _ _ (un.frzs _ _ _ hb)
      rw [ob] at z
      cases z
      exact z2.1

/-- what k_head leaves, from the law's promise -/
theorem walkG {l : PySem.W.OpenLaw} {k : Nat} {q : Program} {loose : List Str} {XP : (Str → Option Value) → Heap → Prop} {YP : World → Heap → Prop} {d : DefRec} {K : Params → PySem.W.Frag} {sp : PySem.W.Frag → Sp} {x : Str}
    (most : l.most = some 63) (df : d.params.defaults = []) (room : Room k callerA) (inY : ∀ (w : World) (h : Heap), YP w h → (K w.params).In h)
    (F : ∀ (w : World) (mg : Str → Option Value) (fa : Addr) (h : Heap), (K w.params).In h → h.Ns mainGlobals mg → mg d.name = some (.ref fa) →
        ∀ base : Heap, (K w.params).In base → base.Ns mainGlobals mg → ∃ fd : FuncData, FnG l.prog w (K w.params) mg base CX0 k fa fd [x] (sp (K w.params)) ∧ Binds (K w.params) fd [x] [])
    (ask : ∀ (K : PySem.W.Frag) (H : Hp) (a : Addr) (ns : List Int), ns.length ≤ 63 → SqL K H a (ns.map V.int) → sp K [.ref a] H (fun v _ => v = .bl true) fun _ _ _ => False) :
    PySem.W.WalkO q loose XP YP l.row.toRowW d [] (fun f vs => PySem.call f vs) := by
  refine Att.attach_call most df ?_
  intro w s0 s mg mb fa o pm cd doc a vs ns G Y ho hd hcd hmg ob iv hlen gens
  exact lawG (inY w _ Y) G.T.g G.T.b G.T.builtins G.T.nolimit gens ob iv (Nat.le_trans hlen (by decide)) room (F w mg fa _ (inY w _ Y) G.T.g hmg) fun H hS => ask _ H a ns hlen hS
end

/-! ### repr of data, isinstance of data -/
section
variable {K : PySem.W.Frag} {H H' : Hp}
theorem Same.sqT {a : Addr} {xs : List V} (e : Same H H') (h : SqT K H a xs) : SqT K H' a xs := by
  rcases h with (h | ⟨o, h⟩) | h
  · exact .inl (.inl (e _ _ h))
  · exact .inl (.inr ⟨o, e _ _ h⟩)
  · exact .inr h
mutual
theorem dp_mono (e : Same H H') : ∀ (d : PyData) (v : V), Dp K H v d → Dp K H' v d
  | .none, _, h => by cases h; exact .non
  | .bool b, _, h => by cases h; exact .bl b
  | .int i, _, h => by cases h; exact .int i
  | .str x, _, h => by cases h; exact .str x
  | .list ds, _, h => by
    cases h with
    | lst hs ha => exact .lst (e.seq hs) (dpAll_mono e ds _ ha)
  | .tuple ds, _, h => by
    cases h with
    | tup hs ha => exact .tup (Same.sqT e hs) (dpAll_mono e ds _ ha)
  | .dict _, _, h => by cases h
theorem dpAll_mono (e : Same H H') : ∀ (ds : List PyData) (vs : List V), DpAll K H vs ds → DpAll K H' vs ds
  | [], _, h => by cases h; exact .nil
  | d :: ds, _, h => by
    cases h with
    | cons h1 h2 => exact .cons (dp_mono e d _ h1) (dpAll_mono e ds _ h2)
end
theorem DpAll.length : ∀ {ds : List PyData} {vs : List V}, DpAll K H vs ds → vs.length = ds.length
  | _, _, .nil => rfl
  | _, _, .cons _ t => by rw [List.length_cons, List.length_cons, DpAll.length t]
theorem DpAll.get : ∀ {ds : List PyData} {vs : List V} {i : Nat} {v : V}, DpAll K H vs ds → vs[i]? = some v → ∃ d, ds[i]? = some d ∧ Dp K H v d
  | _, _, _, _, .nil, e => by simp at e
  | _, _, 0, _, .cons h _, e => by simp at e; subst e; exact ⟨_, rfl, h⟩
  | _, _, i + 1, v, .cons _ t, e => by
    obtain ⟨d, h1, h2⟩ := DpAll.get (i := i) (v := v) t (by simpa using e)
    exact ⟨d, by simpa using h1, h2⟩
theorem DpAll.append : ∀ {ds es : List PyData} {vs ws : List V}, DpAll K H vs ds → DpAll K H ws es → DpAll K H (vs ++ ws) (ds ++ es)
  | _, _, _, _, .nil, h => h
  | _, _, _, _, .cons h t, g => .cons h (DpAll.append t g)
theorem DpAll.one {v : V} {d : PyData} (h : Dp K H v d) : DpAll K H [v] [d] := .cons h .nil
theorem DpAll.take : ∀ {ds : List PyData} {vs : List V} (n : Nat), DpAll K H vs ds → DpAll K H (vs.take n) (ds.take n)
  | _, _, 0, _ => by simpa using DpAll.nil
  | _, _, _ + 1, .nil => .nil
  | _, _, n + 1, .cons h t => .cons h (DpAll.take n t)
theorem DpAll.drop : ∀ {ds : List PyData} {vs : List V} (n : Nat), DpAll K H vs ds → DpAll K H (vs.drop n) (ds.drop n)
  | _, _, 0, h => by simpa using h
  | _, _, _ + 1, .nil => .nil
  | _, _, n + 1, .cons _ t => DpAll.drop n t
/-- the name of its class -/
def tyN : PyData → String
  | .none => "NoneType"
  | .bool _ => "bool"
  | .int _ => "int"
  | .str _ => "str"
  | .list _ => "list"
  | .tuple _ => "tuple"
  | .dict _ => "dict"
theorem tyx_of {v : V} {d : PyData} (h : Dp K H v d) : TyX K H v (.type (tyN d)) := by
  cases h with
  | non => exact .base .non
  | bl b => exact .base (.bl b)
  | int i => exact .base (.int i)
  | str x => exact .base (.str x)
  | lst hs _ =>
    rcases hs with (h | ⟨o, h⟩) | ⟨o, its, n, h, hc, _⟩
    · exact .base (.lst h)
    · exact .base (.frz h)
    · exact .kList h hc
  | tup hs _ =>
    rcases hs with (h | ⟨o, h⟩) | ⟨o, its, n, h, hc, _⟩
    · exact .base (.tup h)
    · exact .fTuple h
    · exact .kTuple h hc
end
section
variable {X : Cx}
/-- repr(v), v data -/
def rRepr (K : PySem.W.Frag) : List V → Hp → VK → Prop := fun xs H Q => ∃ (v : V) (d : PyData), xs = [v] ∧ Dp K H v d ∧ Ok d ∧ Q (.str d.shown) H
theorem call_repr (gd : X.A.guards = some []) (hu : X.A.units + 64 < cLine) : CallR X (.builtin "repr") (rRepr X.K) := by
  intro pins s σ H xs us Q I rel ask
  obtain ⟨v, d, rfl, hd, ok, q⟩ := ask
  cases rel with
  | @cons _ u _ _ r1 r2 =>
    cases r2
    obtain ⟨as, rd⟩ := Dp.reads I d v u hd r1
    have big : ∀ a, u = Value.ref a → wpAny (model X.prog X.w) X.A (call (.builtin "repr") [u]) (EP X pins σ Q) X.xe s := by
      rintro a rfl
      refine repr_of_reads' rd (fine_showable d ok.1) (PyData.noDict_hsm ok.nodict) gd (by have := ok.2.1; omega) (fun _ _ z => z) (fun h' t tk hk => ?_) ok.fits
      exact ⟨.str d.shown, H, I.kept (t' := tk) hk, ⟨t, rfl⟩, q⟩
    cases hd with
    | non =>
      obtain rfl : u = Value.none := r1
      exact PySem.P.repr_of_none ⟨.str _, H, I.tok _, ⟨_, rfl⟩, q⟩
    | bl b =>
      obtain rfl : u = Value.bool b := r1
      refine PySem.P.repr_of_bool ⟨.str _, H, I.tok _, ⟨s.toks, ?_⟩, q⟩
      cases b <;> rfl
    | int i =>
      obtain ⟨t, rfl⟩ := r1
      exact PySem.P.repr_of_int (by simpa [fine] using ok.1) ⟨.str _, H, I.tok _, ⟨_, rfl⟩, q⟩
    | str x =>
      obtain ⟨t, rfl⟩ := r1
      exact PySem.P.repr_of_str ⟨.str _, H, I.tok _, ⟨_, rfl⟩, q⟩ ok.fits
    | lst _ _ => exact big _ r1
    | tup _ _ => exact big _ r1
end
section
variable {X : Cx}
/-- isinstance(v, T), v data, T a built-in class -/
def rIsD (K : PySem.W.Frag) (T : String) : List V → Hp → VK → Prop := fun xs H Q => ∃ (v : V) (d : PyData) (b : Bool), xs = [v, .ty T] ∧ Dp K H v d ∧ kitB (tyN d) T = some b ∧ Q (.bl b) H
theorem call_isD {T : String} : CallR X (.builtin "isinstance") (rIsD X.K T) := by
  intro pins s σ H xs us Q I rel ask
  obtain ⟨v, d, b, rfl, hd, e, q⟩ := ask
  exact call_isi pins s σ H _ us Q I rel ⟨v, .ty T, .type (tyN d), .type T, b, rfl, .ty T, tyx_of hd, kit_ty e, q⟩
end
def isL : PyData → Bool
  | .list _ => true
  | _ => false
def isS : PyData → Bool
  | .str _ => true
  | _ => false
def isI : PyData → Bool
  | .int _ => true
  | .bool _ => true
  | _ => false
def isB : PyData → Bool
  | .bool _ => true
  | _ => false
def isT : PyData → Bool
  | .tuple _ => true
  | _ => false
theorem kit_list : ∀ d : PyData, kitB (tyN d) "list" = some (isL d)
  | .none => (by decide +kernel : kitB "NoneType" "list" = some false)
  | .bool _ => (by decide +kernel : kitB "bool" "list" = some false)
  | .int _ => (by decide +kernel : kitB "int" "list" = some false)
  | .str _ => (by decide +kernel : kitB "str" "list" = some false)
  | .list _ => (by decide +kernel : kitB "list" "list" = some true)
  | .tuple _ => (by decide +kernel : kitB "tuple" "list" = some false)
  | .dict _ => (by decide +kernel : kitB "dict" "list" = some false)
theorem kit_str : ∀ d : PyData, kitB (tyN d) "str" = some (isS d)
  | .none => (by decide +kernel : kitB "NoneType" "str" = some false)
  | .bool _ => (by decide +kernel : kitB "bool" "str" = some false)
  | .int _ => (by decide +kernel : kitB "int" "str" = some false)
  | .str _ => (by decide +kernel : kitB "str" "str" = some true)
  | .list _ => (by decide +kernel : kitB "list" "str" = some false)
  | .tuple _ => (by decide +kernel : kitB "tuple" "str" = some false)
  | .dict _ => (by decide +kernel : kitB "dict" "str" = some false)
theorem kit_int : ∀ d : PyData, kitB (tyN d) "int" = some (isI d)
  | .none => (by decide +kernel : kitB "NoneType" "int" = some false)
  | .bool _ => (by decide +kernel : kitB "bool" "int" = some true)
  | .int _ => (by decide +kernel : kitB "int" "int" = some true)
  | .str _ => (by decide +kernel : kitB "str" "int" = some false)
  | .list _ => (by decide +kernel : kitB "list" "int" = some false)
  | .tuple _ => (by decide +kernel : kitB "tuple" "int" = some false)
  | .dict _ => (by decide +kernel : kitB "dict" "int" = some false)
theorem kit_bool : ∀ d : PyData, kitB (tyN d) "bool" = some (isB d)
  | .none => (by decide +kernel : kitB "NoneType" "bool" = some false)
  | .bool _ => (by decide +kernel : kitB "bool" "bool" = some true)
  | .int _ => (by decide +kernel : kitB "int" "bool" = some false)
  | .str _ => (by decide +kernel : kitB "str" "bool" = some false)
  | .list _ => (by decide +kernel : kitB "list" "bool" = some false)
  | .tuple _ => (by decide +kernel : kitB "tuple" "bool" = some false)
  | .dict _ => (by decide +kernel : kitB "dict" "bool" = some false)
theorem kit_tuple : ∀ d : PyData, kitB (tyN d) "tuple" = some (isT d)
  | .none => (by decide +kernel : kitB "NoneType" "tuple" = some false)
  | .bool _ => (by decide +kernel : kitB "bool" "tuple" = some false)
  | .int _ => (by decide +kernel : kitB "int" "tuple" = some false)
  | .str _ => (by decide +kernel : kitB "str" "tuple" = some false)
  | .list _ => (by decide +kernel : kitB "list" "tuple" = some false)
  | .tuple _ => (by decide +kernel : kitB "tuple" "tuple" = some true)
  | .dict _ => (by decide +kernel : kitB "dict" "tuple" = some false)
end Tx

/-! ## The text's names; what a call needs -/
namespace Tx
open PySem PySem.Spec PyProof.Rows L2

/-- the built-in names that the texts use are not the module's -/
structure Bi (mg : Str → Option Value) : Prop where
  len : mg "len" = none
  int : mg "int" = none
  abs : mg "abs" = none
  range : mg "range" = none
  enumerate : mg "enumerate" = none
  min : mg "min" = none
  max : mg "max" = none
  isinstance : mg "isinstance" = none
  repr : mg "repr" = none
  sum : mg "sum" = none
  all : mg "all" = none
  any : mg "any" = none
  list : mg "list" = none
  str : mg "str" = none
  tuple : mg "tuple" = none
  bool : mg "bool" = none
  sorted : mg "sorted" = none
  ValueError : mg "ValueError" = none
  zip : mg "zip" = none
  set : mg "set" = none
theorem bi_of {K : PySem.W.Frag} {mg : Str → Option Value} {h : Heap} (X : K.In h) (G : h.Ns mainGlobals mg)
    (z0 : PySem.W.nsIn K mainGlobals "len" = some none)
    (z1 : PySem.W.nsIn K mainGlobals "int" = some none)
    (z2 : PySem.W.nsIn K mainGlobals "abs" = some none)
    (z3 : PySem.W.nsIn K mainGlobals "range" = some none)
    (z4 : PySem.W.nsIn K mainGlobals "enumerate" = some none)
    (z5 : PySem.W.nsIn K mainGlobals "min" = some none)
    (z6 : PySem.W.nsIn K mainGlobals "max" = some none)
    (z7 : PySem.W.nsIn K mainGlobals "isinstance" = some none)
    (z8 : PySem.W.nsIn K mainGlobals "repr" = some none)
    (z9 : PySem.W.nsIn K mainGlobals "sum" = some none)
    (z10 : PySem.W.nsIn K mainGlobals "all" = some none)
    (z11 : PySem.W.nsIn K mainGlobals "any" = some none)
    (z12 : PySem.W.nsIn K mainGlobals "list" = some none)
    (z13 : PySem.W.nsIn K mainGlobals "str" = some none)
    (z14 : PySem.W.nsIn K mainGlobals "tuple" = some none)
    (z15 : PySem.W.nsIn K mainGlobals "bool" = some none)
    (z16 : PySem.W.nsIn K mainGlobals "sorted" = some none)
    (z17 : PySem.W.nsIn K mainGlobals "ValueError" = some none)
    (z18 : PySem.W.nsIn K mainGlobals "zip" = some none)
    (z19 : PySem.W.nsIn K mainGlobals "set" = some none) : Bi mg :=
  ⟨PySem.W.mg_none_of X G z0, PySem.W.mg_none_of X G z1, PySem.W.mg_none_of X G z2, PySem.W.mg_none_of X G z3, PySem.W.mg_none_of X G z4, PySem.W.mg_none_of X G z5, PySem.W.mg_none_of X G z6, PySem.W.mg_none_of X G z7, PySem.W.mg_none_of X G z8, PySem.W.mg_none_of X G z9, PySem.W.mg_none_of X G z10, PySem.W.mg_none_of X G z11, PySem.W.mg_none_of X G z12, PySem.W.mg_none_of X G z13, PySem.W.mg_none_of X G z14, PySem.W.mg_none_of X G z15, PySem.W.mg_none_of X G z16, PySem.W.mg_none_of X G z17, PySem.W.mg_none_of X G z18, PySem.W.mg_none_of X G z19⟩
/-- what a body's context gives to its calls -/
structure Ct (mg : Str → Option Value) (A : Around) (k : Nat) : Prop where
  b : Bi mg
  r : Room k A
  g : A.guards = some []
theorem Ct.mono {mg : Str → Option Value} {A : Around} {j k : Nat} (c : Ct mg A k) (h : j ≤ k) : Ct mg A j := ⟨c.b, c.r.mono h, c.g⟩
/-- a def of the module -/
def Has (K : PySem.W.Frag) (mg : Str → Option Value) (x : Str) (st : Stmt) : Prop := ∃ (f : Addr) (fd : FuncData), Fun K x x st f fd ∧ mg x = some (.ref f)
theorem has_of {K : PySem.W.Frag} {mg : Str → Option Value} {h : Heap} {x : Str} {st : Stmt} {f : Addr} {oc kV dc pm cd ct : Value} {od an : Option Addr} {sl : Array (Option Value)} (X : K.In h) (G : h.Ns mainGlobals mg)
    (a : PySem.W.nsIn K mainGlobals x = some (some (.ref f)))
    (l : K.lookup f = some ⟨oc, od, .func (PySem.W.fnOf x x (defArgs st) (defBody st) (defScope st) .none kV dc pm an cd ct), sl⟩)
    (c : PySem.W.codeIn K cd x = true) (k : PySem.W.keepIn K (.ref f) = true) : Has K mg x st :=
  ⟨f, _, fun_mk l c k, PySem.W.mg_of X G a⟩
/-- a def of the module and its promise -/
def Dfn (P : Program) (w : World) (K : PySem.W.Frag) (mg : Str → Option Value) (base : Heap) (CX : CXT) (k : Nat) (x : Str) (ps : List Str) (sp : Sp) : Prop :=
  ∃ (f : Addr) (fd : FuncData), FnG P w K mg base CX k f fd ps sp ∧ mg x = some (.ref f) ∧ PySem.W.keepIn K (.ref f) = true ∧ Binds K fd ps []
section
variable {P : Program} {w : World} {K : PySem.W.Frag} {mg : Str → Option Value} {base : Heap} {CX : CXT} {k : Nat} {x : Str} {ps N : List Str} {sp : Sp} {st : Stmt}
theorem Dfn.mono {j : Nat} (D : Dfn P w K mg base CX j x ps sp) (h : j ≤ k) : Dfn P w K mg base CX k x ps sp := by
  obtain ⟨f, fd, F, r⟩ := D
  exact ⟨f, fd, F.mono h, r⟩
/-- how the arguments bind: one pattern a number of parameters -/
def BindsBy (x : Str) (st : Stmt) (ps : List Str) : Prop := ∀ (kV doc pm : Value) (an : Option Addr) (cdv ct : Value) (us : List Value), us.length = ps.length →
  bindArgs (PySem.W.fnOf x x (defArgs st) (defBody st) (defScope st) .none kV doc pm an cdv ct) ⟨us, []⟩ = pure (ps.zip us)
/-- a def that lets nothing out, by its body -/
theorem dfn0 (h : Has K mg x st) (B : Bi mg) (S : FnScope N ps (defScope st)) (bd : BindsBy x st ps) (len : ∀ vs H Q E, sp vs H Q E → vs.length = ps.length)
    (body : ∀ (f : Addr) (cv : Value) (A : Around) (out : List Env) (s : Shared) (H : Hp) (vs : List V) (Q : VK) (E : XK),
      Ct mg (A.deeper (envOfC x (defScope st) s.heap.objs.size f cv)) k → sp vs H Q E →
      ∃ t, PSs (cxOf CX0 P w K mg base N x (defScope st) f cv A out s H E).nox (defBody st) t ∧
        t { nx := fun _ H' => Q .non H', rt := Q } (start N vs) H) :
    Dfn P w K mg base CX0 (k + 1) x ps sp := by
  obtain ⟨f, fd, F, m⟩ := h
  refine ⟨f, fd, okG F S len ?_, m, F.kp, F.binds bd⟩
  intro cv A out s H vs Q E room gd ask
  obtain ⟨t, p, q⟩ := body f cv A out s H vs Q E ⟨B, room, gd⟩ ask
  exact ⟨t, p.nox, q⟩
/-- a def that may raise -/
theorem dfnX (h : Has K mg x st) (B : Bi mg) (S : FnScope N ps (defScope st)) (bd : BindsBy x st ps) (len : ∀ vs H Q E, sp vs H Q E → vs.length = ps.length)
    (body : ∀ (f : Addr) (cv : Value) (A : Around) (out : List Env) (s : Shared) (H : Hp) (vs : List V) (Q : VK) (E : XK),
      Ct mg (A.deeper (envOfC x (defScope st) s.heap.objs.size f cv)) k → sp vs H Q E →
      ∃ t, PSs (cxOf (L2.CX P w) P w K mg base N x (defScope st) f cv A out s H E) (defBody st) t ∧
        t { nx := fun _ H' => Q .non H', rt := Q } (start N vs) H) :
    Dfn P w K mg base (L2.CX P w) (k + 1) x ps sp := by
  obtain ⟨f, fd, F, m⟩ := h
  refine ⟨f, fd, okG F S len ?_, m, F.kp, F.binds bd⟩
  intro cv A out s H vs Q E room gd ask
  exact body f cv A out s H vs Q E ⟨B, room, gd⟩ ask
/-- nothing is promised -/
theorem dfn_none (h : Has K mg x st) (bd : BindsBy x st ps) (no : ∀ vs H Q E, ¬ sp vs H Q E) : Dfn P w K mg base CX0 0 x ps sp := by
  obtain ⟨f, fd, F, m⟩ := h
  exact ⟨f, fd, ⟨fun vs H Q E z => absurd z (no vs H Q E), fun A out s H ar us vs Q E _ _ _ _ _ z => absurd z (no vs H Q E)⟩, m, F.kp, F.binds bd⟩
end
section
variable {X : Cx} {CX : CXT} {j k : Nat} {ps : List Str} {sp : Sp} {E : XK} {x : Str} {p pos : Pos} {e : Expr} {es : List Expr} {t : TA}
/-- f(e, ..), f a def of the module -/
theorem pe_d (D : Dfn X.prog X.w X.K X.mg X.base CX0 j x ps sp) (c : Ct X.mg X.A k) (h : j ≤ k) (gl : Gl X x) (args : PA X (e :: es) t)
    (nd : (x == ("__debug__" : Str)) = false := by decide)
    (plain : starEach (e :: es) X.env = (false, eval e X.env) :: starEach es X.env := by rfl)
    (bare : (backTo pos (starEach es X.env)).any (·.1) = false := by rfl) :
    PE X (.Call (.Name x p) (e :: es) [] pos) (tCall sp [] E0 t) := by
  obtain ⟨f, fd, F, m, kp, bd⟩ := D
  exact pe_callG F (c.r.mono h) c.g gl m kp bd .nil pass0 args nd plain bare
end
/-- the law's own def, for the end -/
theorem to_law {P : Program} {w : World} {K : PySem.W.Frag} {mg : Str → Option Value} {base : Heap} {k : Nat} {x y : Str} {sp : Sp} {fa : Addr} (m : mg x = some (.ref fa)) (D : Dfn P w K mg base CX0 k x [y] sp) :
    ∃ fd : FuncData, FnG P w K mg base CX0 k fa fd [y] sp ∧ Binds K fd [y] [] := by
  obtain ⟨f, fd, F, m2, _, bd⟩ := D
  rw [m] at m2
  cases m2
  exact ⟨fd, F, bd⟩
/-! ### heaps -/
/-- of all addresses but b, what stood stands -/
def SameBut (b : Addr) (H H' : Hp) : Prop := ∀ a o, a ≠ b → H a = some o → H' a = some o
theorem SameBut.refl {b : Addr} {H : Hp} : SameBut b H H := fun _ _ _ h => h
theorem SameBut.trans {b : Addr} {H H1 H2 : Hp} (h : SameBut b H H1) (g : SameBut b H1 H2) : SameBut b H H2 := fun a o n e => g a o n (h a o n e)
theorem SameBut.of {b : Addr} {H H' : Hp} (h : Same H H') : SameBut b H H' := fun a o _ e => h a o e
theorem same_new {H : Hp} {p : Addr} (h : H p = none) (o : HO) : Same H (upd H p o) := fun b u q => by rw [upd_ne (ne_of_none q h)]; exact q
theorem sameBut_upd {H : Hp} {b : Addr} {o : HO} : SameBut b H (upd H b o) := fun a u n e => by rw [upd_ne n]; exact e
end Tx

/-! ## The law's draws: any number below the bound; the bag, a list of two numbers at b, changes -/
namespace Tx
open PySem PySem.Spec PyProof.Rows L2
def top (i : Nat) : Stmt := PySem.Challenge.pw_textorlist_k64_survey_page.main.body.getD i (.Pass ⟨0, 0, 0, 0⟩)
theorem cutV_get {xs : List V} {lo hi : Option Int} {i : Nat} {v : V} (h : (cutV xs lo hi)[i]? = some v) : ∃ j : Nat, xs[j]? = some v := by
  unfold cutV at h
  rw [List.getElem?_take] at h
  split at h
  · rw [List.getElem?_drop] at h
    exact ⟨_, h⟩
  · cases h
theorem atI_of {α : Type} {xs : List α} {i : Int} (h0 : 0 ≤ i) (h1 : i < (xs.length : Int)) : ∃ v, atI xs i = some v ∧ xs[i.toNat]? = some v := by
  obtain ⟨n, rfl⟩ := Int.eq_ofNat_of_zero_le h0
  have hn : n < xs.length := by omega
  have e : xs[n]? = some xs[n] := List.getElem?_eq_getElem hn
  exact ⟨_, atI_nat e, e⟩
theorem int_of_get {ns : List Int} {j : Nat} {v : V} (h : (ns.map V.int)[j]? = some v) : ∃ z, v = V.int z := by
  rw [List.getElem?_map] at h
  cases e : ns[j]? with
  | none => rw [e] at h; cases h
  | some z => rw [e] at h; exact ⟨z, (Option.some.inj h).symm⟩
/-- the bag stands at b -/
def Bag (H : Hp) (b : Addr) : Prop := ∃ c m : Int, H b = some (.lst [.int c, .int m])
/-- from H to H' the bag at b may have changed, and there may be new things -/
structure Stp (b : Addr) (H H' : Hp) : Prop where
  bag : Bag H' b
  keep : SameBut b H H'
theorem Stp.trans {b : Addr} {H H1 H2 : Hp} (x : Stp b H H1) (y : Stp b H1 H2) : Stp b H H2 := ⟨y.bag, x.keep.trans y.keep⟩
theorem Stp.new {b p : Addr} {H H1 : Hp} (x : Stp b H H1) (h : H1 p = none) (o : HO) : Stp b H (upd H1 p o) := by
  obtain ⟨c, m, e⟩ := x.bag
  exact ⟨⟨c, m, by rw [upd_ne (ne_of_none e h)]; exact e⟩, x.keep.trans (SameBut.of (same_new h o))⟩
theorem Stp.refl {b : Addr} {H : Hp} (h : Bag H b) : Stp b H H := ⟨h, SameBut.refl⟩
theorem Stp.same {b : Addr} {H H1 H2 : Hp} (x : Stp b H H1) (y : Same H1 H2) : Stp b H H2 := by
  obtain ⟨c, m, e⟩ := x.bag
  exact ⟨⟨c, m, y _ _ e⟩, x.keep.trans (SameBut.of y)⟩
end Tx

/-! ## Values: nothing, texts, lists; their sizes -/
namespace Tx
open PySem PySem.Spec PyProof.Rows L2
/-- letters a to z alone -/
def ltr (x : Str) : Bool := x.cps.toList.all fun c => decide (97 ≤ c ∧ c ≤ 122)
mutual
def isVal : PyData → Bool
  | .none => true
  | .str x => ltr x
  | .list xs => isValAll xs
  | _ => false
def isValAll : List PyData → Bool
  | [] => true
  | x :: xs => isVal x && isValAll xs
end
mutual
def szD : PyData → Nat
  | .str x => 1 + x.length
  | .list xs => 1 + szAll xs
  | _ => 1
def szAll : List PyData → Nat
  | [] => 0
  | x :: xs => szD x + szAll xs
end
theorem isValAll_iff : ∀ {xs : List PyData}, isValAll xs = true ↔ ∀ d ∈ xs, isVal d = true
  | [] => by simp [isValAll]
  | x :: xs => by simp [isValAll, isValAll_iff (xs := xs)]
theorem szAll_append : ∀ (xs ys : List PyData), szAll (xs ++ ys) = szAll xs + szAll ys
  | [], ys => by simp [szAll]
  | x :: xs, ys => by simp only [List.cons_append, szAll, szAll_append xs ys]; omega
theorem szAll_eq : ∀ xs : List PyData, szAll xs = (xs.map szD).sum
  | [] => rfl
  | x :: xs => by simp only [szAll, List.map_cons, List.sum_cons, szAll_eq xs]
theorem szD_pos : ∀ d : PyData, 1 ≤ szD d
  | .none => by simp [szD]
  | .bool _ => by simp [szD]
  | .int _ => by simp [szD]
  | .str _ => by simp [szD]
  | .list _ => by simp [szD]
  | .tuple _ => by simp [szD]
  | .dict _ => by simp [szD]
theorem len_le_szAll : ∀ xs : List PyData, xs.length ≤ szAll xs
  | [] => by simp [szAll]
  | x :: xs => by
    have := len_le_szAll xs
    have := szD_pos x
    simp only [szAll, List.length_cons]
    omega
theorem szD_mem : ∀ {xs : List PyData} {d : PyData}, d ∈ xs → szD d ≤ szAll xs
  | [], d, h => by simp at h
  | x :: xs, d, h => by
    simp only [szAll]
    cases h with
    | head => omega
    | tail _ h => have := szD_mem h; omega
theorem szAll_le {B : Nat} : ∀ {xs : List PyData}, (∀ d ∈ xs, szD d ≤ B) → szAll xs ≤ B * xs.length
  | [], _ => by simp [szAll]
  | x :: xs, h => by
    have h1 := h x List.mem_cons_self
    have h2 := szAll_le (B := B) (xs := xs) fun d hd => h d (List.mem_cons_of_mem _ hd)
    simp only [szAll, List.length_cons, Nat.mul_add, Nat.mul_one]
    omega
mutual
theorem val_fine : ∀ d : PyData, isVal d = true → fine d = true
  | .none, _ => rfl
  | .str x, h => by
    simp only [isVal, ltr, List.all_eq_true, decide_eq_true_eq] at h
    simp only [fine, List.all_eq_true, decide_eq_true_eq]
    intro c hc
    have := h c hc
    omega
  | .list xs, h => by simp only [isVal] at h; simp only [fine]; exact valAll_fine xs h
  | .bool _, h => by simp [isVal] at h
  | .int _, h => by simp [isVal] at h
  | .tuple _, h => by simp [isVal] at h
  | .dict _, h => by simp [isVal] at h
theorem valAll_fine : ∀ xs : List PyData, isValAll xs = true → fineAll xs = true
  | [], _ => rfl
  | x :: xs, h => by
    simp only [isValAll, Bool.and_eq_true] at h
    simp only [fineAll, val_fine x h.1, valAll_fine xs h.2, Bool.and_self]
end
mutual
theorem val_wt : ∀ d : PyData, isVal d = true → wt d + 2 ≤ 12 * szD d
  | .none, _ => by simp [wt, szD]
  | .str x, _ => by simp only [wt, szD]; omega
  | .list xs, h => by
    simp only [isVal] at h
    have := valAll_wt xs h
    simp only [wt, szD]
    omega
  | .bool _, h => by simp [isVal] at h
  | .int _, h => by simp [isVal] at h
  | .tuple _, h => by simp [isVal] at h
  | .dict _, h => by simp [isVal] at h
theorem valAll_wt : ∀ xs : List PyData, isValAll xs = true → wtAll xs ≤ 12 * szAll xs
  | [], _ => by simp [wtAll, szAll]
  | x :: xs, h => by
    simp only [isValAll, Bool.and_eq_true] at h
    have h1 := val_wt x h.1
    have h2 := valAll_wt xs h.2
    simp only [wtAll, szAll]
    omega
end
/-- a value of at most such a depth and size -/
structure Val (n m : Nat) (d : PyData) : Prop where
  val : isVal d = true
  deep : d.depth ≤ n
  size : szD d ≤ m
theorem Val.mono {n m n' m' : Nat} {d : PyData} (h : Val n m d) (h1 : n ≤ n') (h2 : m ≤ m') : Val n' m' d := ⟨h.val, Nat.le_trans h.deep h1, Nat.le_trans h.size h2⟩
theorem Val.ok {n m : Nat} {d : PyData} (h : Val n m d) (hn : n ≤ 60) (hm : m ≤ 1000000) : Ok d := by
  have h1 := val_wt d h.val
  have h2 := h.size
  exact ⟨val_fine d h.val, Nat.le_trans h.deep hn, by omega⟩
theorem Val.item {n m : Nat} {ds : List PyData} (h : Val n m (.list ds)) {d : PyData} (hd : d ∈ ds) : Val (n - 1) (m - 1) d := by
  have hv := h.val
  have hn := h.deep
  have hm := h.size
  simp only [isVal] at hv
  simp only [PyData.depth] at hn
  simp only [szD] at hm
  have := depth_mem hd
  have := szD_mem hd
  exact ⟨isValAll_iff.mp hv d hd, by omega, by omega⟩
/-- what is at hand can be read in J; the bag at b is none of it; from H to H' the bag may have changed, J has grown to J' by new things -/
structure Gro (b : Addr) (J H J' H' : Hp) : Prop where
  st : Stp b H H'
  jj : Same J J'
  jh : Same J' H'
  fr : ∀ a, H a ≠ none → J a = none → J' a = none
section
variable {b : Addr} {J J1 J2 H H1 H2 : Hp}
theorem Stp.gro (h : Stp b H H1) (hb : J b = none) (s : Same J H) : Gro b J H J H1 :=
  ⟨h, Same.refl _, fun a o e => h.keep a o (fun z => by rw [z, hb] at e; cases e) (s a o e), fun _ _ n => n⟩
theorem Gro.refl (h : Bag H b) (s : Same J H) : Gro b J H J H := ⟨Stp.refl h, Same.refl _, s, fun _ _ n => n⟩
theorem Gro.noBag (g : Gro b J H J1 H1) (hB : Bag H b) (hb : J b = none) : J1 b = none := by
  obtain ⟨c, m, e⟩ := hB
  exact g.fr b (by rw [e]; simp) hb
theorem Stp.there (h : Stp b H H1) (hB : Bag H b) {a : Addr} (n : H a ≠ none) : H1 a ≠ none := by
  by_cases e : a = b
  · subst e
    obtain ⟨c, m, e⟩ := h.bag
    rw [e]; simp
  · cases q : H a with
    | none => exact absurd q n
    | some o => rw [h.keep a o e q]; simp
theorem Gro.trans (g : Gro b J H J1 H1) (k : Gro b J1 H1 J2 H2) (hB : Bag H b) : Gro b J H J2 H2 :=
  ⟨g.st.trans k.st, g.jj.trans k.jj, k.jh, fun a n e => k.fr a (g.st.there hB n) (g.fr a n e)⟩
/-- a further step that leaves what is at hand -/
theorem Gro.step (g : Gro b J H J1 H1) (h : Stp b H1 H2) (hB : Bag H b) (hb : J b = none) : Gro b J H J1 H2 := g.trans (h.gro (g.noBag hB hb) g.jh) hB
/-- a new thing -/
theorem Gro.new (g : Gro b J H J1 H1) {p : Addr} (hp : H1 p = none) (o : HO) : Gro b J H J1 (upd H1 p o) :=
  ⟨g.st.new hp o, g.jj, g.jh.trans (same_new hp o), g.fr⟩
/-- a new thing that is at hand -/
theorem Gro.add (g : Gro b J H J1 H1) (hB : Bag H b) {p : Addr} (hp : H1 p = none) (o : HO) : Gro b J H (upd J1 p o) (upd H1 p o) := by
  have hj : J1 p = none := g.jh.free hp
  refine ⟨g.st.new hp o, g.jj.trans (same_new hj o), fun a u e => ?_, fun a n e => ?_⟩
  · by_cases z : a = p
    · subst z; rw [upd_same] at e ⊢; exact e
    · rw [upd_ne z] at e ⊢; exact g.jh a u e
  · have z : a ≠ p := fun z => g.st.there hB n (by rw [z]; exact hp)
    rw [upd_ne z]
    exact g.fr a n e
/-- a thing of one's own, new since H, comes to hand -/
theorem Gro.own (g : Gro b J H J1 H1) {p : Addr} {o : HO} (hp : H1 p = some o) (hn : H p = none) (hj : J1 p = none) : Gro b J H (upd J1 p o) H1 := by
  refine ⟨g.st, g.jj.trans (same_new hj o), fun a u e => ?_, fun a n e => ?_⟩
  · by_cases z : a = p
    · subst z; rw [upd_same] at e; rw [← e]; exact hp
    · rw [upd_ne z] at e; exact g.jh a u e
  · have z : a ≠ p := fun z => n (by rw [z]; exact hn)
    rw [upd_ne z]
    exact g.fr a n e
theorem Stp.free (h : Stp b H H1) (hB : Bag H b) {r : Addr} (n : H1 r = none) : H r = none := by
  cases q : H r with
  | none => rfl
  | some o => exact absurd n (h.there hB (by rw [q]; simp))
theorem Stp.ne (h : Stp b H H1) {r : Addr} (n : H1 r = none) : r ≠ b := fun z => by
  obtain ⟨_, _, e⟩ := h.bag
  rw [← z, n] at e
  cases e
theorem same_upd {J H : Hp} {r : Addr} {o : HO} (s : Same J H) (n : J r = none) : Same J (upd H r o) := fun a u e => by
  rw [upd_ne (ne_of_none e n)]
  exact s a u e
/-- a thing of one's own is changed -/
theorem Gro.mut (g : Gro b J H J1 H1) {r : Addr} (hr : H r = none) (hj : J1 r = none) (rb : r ≠ b) (o : HO) : Gro b J H J1 (upd H1 r o) := by
  obtain ⟨c, m, e⟩ := g.st.bag
  exact ⟨⟨⟨c, m, by rw [upd_ne (Ne.symm rb)]; exact e⟩, fun a u n z => by rw [upd_ne (ne_of_none z hr)]; exact g.st.keep a u n z⟩, g.jj, same_upd g.jh hj, g.fr⟩
theorem Gro.same (g : Gro b J H J1 H1) (s : Same H1 H2) : Gro b J H J1 H2 := ⟨g.st.same s, g.jj, g.jh.trans s, g.fr⟩
end
end Tx

namespace Tx
open PySem PySem.Spec PyProof.Rows L2
/-! ## Further rules: list(text); errors with a field of their own -/
theorem vals_of : ∀ (xs : List V) (us : List Value), xs.length = us.length → (∀ (j : Nat) (x : V) (u : Value), xs[j]? = some x → us[j]? = some u → RelV x u) → Vals xs us
  | [], [], _, _ => .nil
  | [], _ :: _, e, _ => by simp at e
  | _ :: _, [], e, _ => by simp at e
  | x :: xs, u :: us, e, h => .cons (h 0 x u rfl rfl) (vals_of xs us (by simpa using e) fun j y w h1 h2 => h (j + 1) y w (by simpa using h1) (by simpa using h2))
/-- the letters of a text, as texts -/
def sgn (z : Str) : List V := z.cps.toList.map fun c => V.str ⟨#[c]⟩
theorem call_listS {X : Cx} (hc : X.calm = true) : CallR X (.type "list") (fun xs H Q => ∃ z : Str, xs = [.str z] ∧ z.length ≤ sizeLine ∧ ∀ l, H l = none → Q (.ref l) (upd H l (.lst (sgn z)))) := by
  intro pins s σ H xs us Q I rel ask
  obtain ⟨z, rfl, hz, q⟩ := ask
  obtain ⟨u, rfl, r1⟩ := vals1 rel
  obtain ⟨t, rfl⟩ := r1
  refine call_list_str (I.ok.hd hc) z t (hn := hz) fun h' tk acc n keep new its => ?_
  have hl : acc.toList.length = z.cps.toList.length := by rw [Array.length_toList, Array.length_toList]; exact its.1
  refine ⟨.ref s.heap.objs.size, _, I.laid (t' := tk) (o := .lst (sgn z)) keep (Nat.le_refl _) ⟨?_, acc.toList, n, vals_of _ _ ?_ ?_, ?_⟩, rfl, q _ (I.hok.fresh (Nat.le_refl _))⟩
  · rw [sgn, List.length_map, Array.length_toList]; exact hz
  · rw [sgn, List.length_map, hl]
  · intro j x u hx hu
    obtain ⟨c, w, hc, rfl⟩ := its.2 j u (by simpa using hu)
    rw [sgn, List.getElem?_map, Array.getElem?_toList, hc] at hx
    cases hx
    exact ⟨w, rfl⟩
  · simpa using new
/-- isinstance(e, c), e the error that the suite holds, with or without fields -/
def rIsX (K : PySem.W.Frag) (D a : Addr) (cls : Value) (d : Option Addr) : List V → Hp → VK → Prop := fun xs H Q => ∃ (c : V) (cv : Value) (b : Bool), xs = [.ref a, c] ∧ cls = .ref D ∧ ClsV c cv ∧
  PySem.W.kitOne K (.ref D) cv = some b ∧ (∀ dd, d = some dd → ∃ fs, H dd = some (.xd fs)) ∧ Q (.bl b) H
def rIsXT (K : PySem.W.Frag) (D a : Addr) (cls : Value) (d : Option Addr) : List V → Hp → VK → Prop := fun xs H Q => ∃ (tp : Addr) (cs : List V) (us : List Value) (b : Bool), xs = [.ref a, .ref tp] ∧ cls = .ref D ∧ H tp = some (.tup cs) ∧
  Paired ClsV cs us ∧ PySem.W.kitAny K (.ref D) us = some b ∧ (∀ dd, d = some dd → ∃ fs, H dd = some (.xd fs)) ∧ Q (.bl b) H
section
variable {X : Cx} {a D : Addr} {oe : Obj} {cls : Value} {d : Option Addr} {pn : List (Addr × Obj)}
theorem inst_of {pins : List (Addr × Obj)} {σ : L2.St} {H : Hp} {s : Shared} (hz : Zc cls d oe) (hf : ∃ vs, oe.data = .fields vs) (I : Inv (X.suite a ((a, oe) :: pn)) pins σ H s) (ec : cls = .ref D)
    (hd : ∀ dd, d = some dd → ∃ fs, H dd = some (.xd fs)) : ∃ od, PySem.W.InstAt s.heap a oe D od := by
  obtain ⟨hg, _⟩ := I.pin (a, oe) (List.mem_append.mpr (.inl List.mem_cons_self))
  obtain ⟨vs, hv⟩ := hf
  have no : PySem.W.notCls oe = true := by unfold PySem.W.notCls; rw [hv] <;> rfl
  cases d with
  | none => exact ⟨none, ⟨hg, hz.1.trans ec, no, by rw [hz.2]; trivial⟩⟩
  | some dd =>
    obtain ⟨fs, e⟩ := hd dd rfl
    have ok : ObjOk X.prog X.w H s.heap dd (.xd fs) := I.hok dd _ e
    obtain ⟨mA, ⟨o, es, ep, ho, _⟩, _⟩ := ok
    exact ⟨some o, ⟨hg, hz.1.trans ec, no, by rw [hz.2]; exact ho⟩⟩
theorem kit_exc (C : ExcC X.K D) {od : Option Obj} : PySem.W.KitX X.K (.ref a) (.ref D) (fun h => PySem.W.InstAt h a oe D od) := by
  have hc : (PySem.W.clsIn X.K D).isSome = true := by
    obtain ⟨cd, e, _⟩ := PySem.W.any_some C.hd
    rw [e]; rfl
  exact PySem.W.kitx_exc hc C.hg C.hk C.hs C.ha C.hn C.ht C.hm
theorem call_isX (C : ExcC X.K D) (hz : Zc cls d oe) (hf : ∃ vs, oe.data = .fields vs) : CallR (X.suite a ((a, oe) :: pn)) (.builtin "isinstance") (rIsX X.K D a cls d) := by
  intro pins s σ H xs us Q I rel ask
  obtain ⟨c, cv, b, rfl, ec, kc, e, hd, q⟩ := ask
  obtain ⟨u1, u2, rfl, r1, r2⟩ := vals2 rel
  cases r1
  have e2 := kc.eq r2
  subst e2
  obtain ⟨od, J⟩ := inst_of hz hf I ec hd
  exact PySem.W.kia_one (kit_exc C) I.kIn J e (fun z => nomatch z) fun tk => ⟨.bl b, H, I.tok tk, rfl, q⟩
theorem call_isXT (C : ExcC X.K D) (hz : Zc cls d oe) (hf : ∃ vs, oe.data = .fields vs) : CallR (X.suite a ((a, oe) :: pn)) (.builtin "isinstance") (rIsXT X.K D a cls d) := by
  intro pins s σ H xs us Q I rel ask
  obtain ⟨tp, cs, ws, b, rfl, ec, hT, kc, e, hd, q⟩ := ask
  obtain ⟨u1, u2, rfl, r1, r2⟩ := vals2 rel
  cases r1
  cases (show u2 = Value.ref tp from r2)
  obtain ⟨_, its, rv, o, h1, h2, n, h3⟩ := (show ObjOk X.prog X.w H s.heap tp (.tup cs) from I.hok tp _ hT)
  have e3 := ClsV.all kc rv
  subst e3
  obtain ⟨oc, od, dt, sl⟩ := o
  simp only at h2 h3
  subst h2 h3
  obtain ⟨od, J⟩ := inst_of hz hf I ec hd
  exact PySem.W.kia_tup (kit_exc C) I.kIn J h1 e (fun z => nomatch z) fun tk => ⟨.bl b, H, I.tok tk, rfl, q⟩
end
/-- self.f = f, of a new error of the class at C -/
def spInit1 (C : Addr) (f : Str) : Sp := fun vs H Q _ => ∃ (a : Addr) (v : V), vs = [.ref a, v] ∧ H a = some (exo a C none) ∧
  ∀ dx, H dx = none → dx ≠ a → Q .non (upd (upd H dx (exd dx [(f, v)])) a (exo a C (some dx)))
/-- an error class with one field f: what the written part says of it -/
structure Err1 (P : Program) (w : World) (K : PySem.W.Frag) (mg : Str → Option Value) (base : Heap) (x f : Str) (C : Addr) : Prop where
  oex : OexC K C
  exc : ExcC K C
  gC : mg x = some (.ref C)
  noF : PySem.W.findIn K (.ref C) f = some none
  self : PySem.W.exmOne K (.ref C) (.ref C) = some true
  ini : ∃ (fI : Addr) (fd : FuncData), PySem.W.findIn K (.ref C) "__init__" = some (some (.ref fI)) ∧ PySem.W.typeIn K (.ref fI) = some (.type "function") ∧
    FnOk P w K mg base CX0 1 fI fd ["self", f] (spInit1 C f) ∧ Binds K fd ["self", f] []
theorem Err1.xf {P : Program} {w : World} {K : PySem.W.Frag} {mg : Str → Option Value} {base : Heap} {x f : Str} {C : Addr} (T : Err1 P w K mg base x f C) : XfC K C := ⟨T.exc.hg, T.exc.hk, T.exc.hs, T.exc.hd⟩
section
variable {X : Cx} {x f : Str} {C : Addr} {k : Nat} {W : WX} {e : Expr} {ta : TA} {p pos pos2 : Pos}
/-- raise x(e) -/
def tErr1 (C : Addr) (f : Str) (W : WX) (ta : TA) : TS := fun _ σ H => tMkO C (spInit1 C f) [] ta σ H fun cls d H' => W cls d σ H'
theorem ps_err1 (T : Err1 X.prog X.w X.K X.mg X.base x f C) (calm : X.calm = true) (room : Room (k + 2) X.A) (tk : Takes X W) (args : PA X [e] ta) (gl : Gl X x)
    (nd : (x == ("__debug__" : Str)) = false := by decide) (plain : starEach (e :: []) X.env = (false, eval e X.env) :: starEach [] X.env := by rfl) (bare : (backTo pos (starEach [] X.env)).any (·.1) = false := by rfl) :
    PS X (.Raise (some (.Call (.Name x p) [e] [] pos)) none pos2) (tErr1 C f W ta) := by
  obtain ⟨fI, fd, iC, tI, F, bd⟩ := T.ini
  exact ps_raise calm tk (pmk_oex T.oex iC tI F (room.mono (by omega)) bd .nil (fun _ _ _ _ _ _ _ h => False.elim h) gl T.gC args nd plain bare)
/-- what is left to show once the field is known -/
theorem err1 {v : V} {H : Hp} {Q : XK} (h : ∀ d, H d = none → Q (.ref C) (some d) (upd H d (.xd [(f, v)]))) : ([v] : List V).length ≤ 1000 ∧ ∀ a, H a = none → spInit1 C f (.ref a :: ([v] ++ [])) (upd H a (exo a C none))
    (fun u H2 => u = .non ∧ ∃ (d : Addr) (fs : List (Str × V)), H2 a = some (exo a C (some d)) ∧ H2 d = some (exd d fs) ∧ H d = none ∧ Q (.ref C) (some d) (upd (del H2 a) d (.xd fs))) (fun _ _ _ => False) := by
  refine ⟨(by show 1 ≤ 1000; decide), fun a ha => ⟨a, v, rfl, upd_same, fun dx hx ne => ⟨rfl, dx, [(f, v)], upd_same, ?_, ?_, ?_⟩⟩⟩
  · rw [upd_ne ne, upd_same]
  · rw [upd_ne ne] at hx
    exact hx
  · rw [upd_ne ne] at hx
    have e : upd (del (upd (upd (upd H a (exo a C none)) dx (exd dx [(f, v)])) a (exo a C (some dx))) a) dx (.xd [(f, v)]) = upd H dx (.xd [(f, v)]) := by
      funext b
      by_cases h1 : b = dx
      · rw [h1, upd_same, upd_same]
      · rw [upd_ne h1, upd_ne h1]
        by_cases h2 : b = a
        · rw [h2, del_same, ha]
        · rw [del_ne h2, upd_ne h2, upd_ne h1, upd_ne h2]
    rw [e]
    exact h dx hx
/-- f(e, ..), f a def of the module that may raise, where W wishes of what is raised -/
theorem pe_dS {j : Nat} {ps : List Str} {sp : Sp} {E : L2.St → XK} {es : List Expr} {t : TA} (D : Dfn X.prog X.w X.K X.mg X.base (L2.CX X.prog X.w) j x ps sp) (c : Ct X.mg X.A k) (h : j ≤ k) (gl : Gl X x)
    (out : ∀ σ, PassesAt (L2.CX X.prog X.w) X σ (E σ)) (args : PA X (e :: es) t) (nd : (x == ("__debug__" : Str)) = false := by decide)
    (plain : starEach (e :: es) X.env = (false, eval e X.env) :: starEach es X.env := by rfl) (bare : (backTo pos (starEach es X.env)).any (·.1) = false := by rfl) :
    PE X (.Call (.Name x p) (e :: es) [] pos) (tCallS sp E t) := by
  obtain ⟨f, fd, F, m, kp, bd⟩ := D
  constructor
  intro pins s σ H Q I ask
  refine wpAny_Call_Name_kw (ld_glob I gl m ?_ nd)
  refine PySem.W.callWith_K (h₀ := X.base) I.ok.mod.kin kp (thn (args.run pos pins s σ H _ I ask) ?_) plain bare
  rintro us s1 ⟨vs, H1, J, rel, q⟩
  refine ⟨J.kIn, ?_⟩
  have full : (us ++ []).length = ps.length := by rw [List.append_nil, ← rel.length]; exact F.len _ _ _ _ q
  have b2 := bd s1 us J.kIn full
  rw [List.append_nil] at b2
  refine wpAny_call (codeAny_mono (F.run X.A X.stack s1 H1 ⟨us, []⟩ us vs Q (E σ) (c.r.mono h) c.g J.env0 b2 rel q) ?_)
  intro r s2 got
  match r, got with
  | .ok (.ret u), got => exact J.after got
  | .ok .next, got => exact False.elim got
  | .ok .brk, got => exact False.elim got
  | .ok .cont, got => exact False.elim got
  | .error er, got => exact out σ pins H1 s1 er s2 J got
end
/-- from what the top has written to an error class with a field -/
theorem err1_of {P : Program} {w : World} {K : PySem.W.Frag} {mg : Str → Option Value} {base h : Heap} {x f : Str} {C fI N : Addr} {fd : FuncData} {nm q : Str} {bs bm sub : List Value} {sn : List Str} {ab : Bool} {col : Option Bool} {dd : Option Addr} {m0 m1 m2 m3 m5 : Option Value}
    (X : K.In h) (G : h.Ns mainGlobals mg) (aC : PySem.W.nsIn K mainGlobals x = some (some (.ref C)))
    (xL : K.lookup C = some (excClassObj nm q C N bs bm true sn sub ab col dd m0 m1 m2 m3 m5 "ValueError.__new__")) (vb : PySem.HandSPX.refsVE bm = true)
    (sa : PySem.W.findIn K (.ref C) "__setattr__" = some (some (.builtin "object.__setattr__"))) (ga : PySem.W.findIn K (.ref C) "__getattribute__" = some (some (.builtin "BaseException.__getattribute__")))
    (gg : PySem.W.findIn K (.ref C) "__getattr__" = some none) (nf : PySem.W.findIn K (.ref C) f = some none) (ai : PySem.W.findIn K (.ref C) "__init__" = some (some (.ref fI))) (ti : PySem.W.typeIn K (.ref fI) = some (.type "function"))
    (kC : PySem.W.keepIn K (.ref C) = true) (eC : PySem.W.subIn K (.ref C) (.type "BaseException") = some true) (tC : PySem.W.typeIn K (.ref C) = some (.type "type")) (hC : PySem.W.hasDictIn K C = true)
    (cC : PySem.W.findIn K (.ref C) "__class__" = some (some (.builtin "object.__class__"))) (gC : PySem.W.specialIn K (.builtin "object.__class__") "__get__" = some (some (.builtin "getset_descriptor.__get__")))
    (uC : PySem.W.takesIn K (.builtin "object.__class__") = some true) (oC : PySem.W.mroIn K C (.type "object") = some true) (sC : PySem.W.subIn K (.ref C) (.ref C) = some true)
    (ini : OexC K C → FnOk P w K mg base CX0 1 fI fd ["self", f] (spInit1 C f) ∧ Binds K fd ["self", f] []) : Err1 P w K mg base x f C := by
  have oex : OexC K C := ⟨⟨nm, q, N, bs, bm, sn, sub, ab, col, dd, m0, m1, m2, m3, m5, xL, vb⟩, sa, eC, tC, kC⟩
  exact ⟨oex, ⟨ga, gg, eC, hC, cC, gC, uC, oC⟩, PySem.W.mg_of X G aC, nf, PySem.W.exm_ref eC hC tC sC, fI, fd, ai, ti, (ini oex).1, (ini oex).2⟩
/-- a class of the module -/
structure Cls0 (mg : Str → Option Value) (x : Str) (C : Addr) : Prop where
  gC : mg x = some (.ref C)
theorem cls0_of {K : PySem.W.Frag} {mg : Str → Option Value} {h : Heap} {x : Str} {C : Addr} (X : K.In h) (G : h.Ns mainGlobals mg) (a : PySem.W.nsIn K mainGlobals x = some (some (.ref C))) : Cls0 mg x C := ⟨PySem.W.mg_of X G a⟩
theorem const_of {K : PySem.W.Frag} {mg : Str → Option Value} {h : Heap} {x z : Str} {t : Tok} (X : K.In h) (G : h.Ns mainGlobals mg) (a : PySem.W.nsIn K mainGlobals x = some (some (.str z t))) : ∃ t, mg x = some (.str z t) := ⟨t, PySem.W.mg_of X G a⟩
theorem pe_gcl {X : Cx} {x : Str} {C : Addr} {pos : Pos} (h : X.mg x = some (.ref C)) (gl : Gl X x) (hd : (x == ("__debug__" : Str)) = false := by decide) : PE X (.Name x pos) (tC (.ref C)) := pe_glob gl h rfl hd
theorem pe_gs {X : Cx} {x z : Str} {pos : Pos} (h : ∃ t, X.mg x = some (.str z t)) (gl : Gl X x) (hd : (x == ("__debug__" : Str)) = false := by decide) : PE X (.Name x pos) (tC (.str z)) := by
  obtain ⟨t, e⟩ := h
  exact pe_glob gl e ⟨t, rfl⟩ hd
end Tx

namespace Tx
open PySem PySem.Spec PyProof.Rows L2
/-! ## The layer of data: lists and tuples that no one changes any more are data; what may still be changed is a cell of ω -/
/-- a cell, as data -/
abbrev refD (a : Addr) : PyData := .dict [(.int ((a : Nat) : Int), .none)]
/-- the script, as data -/
abbrev scrD (a : Addr) (ns : List Int) : PyData := .dict [(.int ((a : Nat) : Int), .list (ns.map PyData.int))]
/-- a list that stands at a and stays for a while, as data -/
abbrev pubD (a : Addr) (d : PyData) : PyData := .dict [(.int ((a : Nat) : Int), .tuple [d])]
/-- a key of a dict, as data -/
def keyD : Key → PyData
  | .inl i => .int i
  | .inr x => .str x
/-- a dict that stands at a and is not changed any more, as data -/
abbrev dicD (a : Addr) (ps : List (PyData × PyData)) : PyData := .dict [(.int ((a : Nat) : Int), .dict ps)]
/-- an instance of the class at C that stands at a and is not changed any more, as data -/
abbrev objD (a C : Addr) (ps : List (PyData × PyData)) : PyData := .dict [(.int ((a : Nat) : Int), .tuple [.int ((C : Nat) : Int), .dict ps])]
mutual
inductive Rp (K : PySem.W.Frag) (J : Hp) : V → PyData → Prop
  | non : Rp K J .non .none
  | bl (b : Bool) : Rp K J (.bl b) (.bool b)
  | int (i : Int) : Rp K J (.int i) (.int i)
  | str (x : Str) : Rp K J (.str x) (.str x)
  | lst {a : Addr} {vs : List V} {ds : List PyData} : J a = some (.lst vs) → RpAll K J vs ds → Rp K J (.ref a) (.list ds)
  | tup {a : Addr} {vs : List V} {ds : List PyData} : SqT K J a vs → RpAll K J vs ds → Rp K J (.ref a) (.tuple ds)
  | ref (a : Addr) : Rp K J (.ref a) (.dict [(.int ((a : Nat) : Int), .none)])
  | scr {a : Addr} {ns : List Int} : SqL K J a (ns.map V.int) → Rp K J (.ref a) (.dict [(.int ((a : Nat) : Int), .list (ns.map PyData.int))])
  | pub {a : Addr} {d : PyData} : Rp K J (.ref a) d → Rp K J (.ref a) (.dict [(.int ((a : Nat) : Int), .tuple [d])])
  | dic {a : Addr} {kvs : List (Key × V)} {ps : List (PyData × PyData)} : J a = some (.dK kvs) → RpP K J (kvs.map fun q => (kV q.1, q.2)) ps → Rp K J (.ref a) (.dict [(.int ((a : Nat) : Int), .dict ps)])
  | obj {a C dx : Addr} {gs : List (Str × V)} {ps : List (PyData × PyData)} : J a = some (.ins C dx gs) → RpP K J (gs.map fun q => (V.str q.1, q.2)) ps → Rp K J (.ref a) (.dict [(.int ((a : Nat) : Int), .tuple [.int ((C : Nat) : Int), .dict ps])])
inductive RpAll (K : PySem.W.Frag) (J : Hp) : List V → List PyData → Prop
  | nil : RpAll K J [] []
  | cons {v : V} {vs : List V} {d : PyData} {ds : List PyData} : Rp K J v d → RpAll K J vs ds → RpAll K J (v :: vs) (d :: ds)
inductive RpP (K : PySem.W.Frag) (J : Hp) : List (V × V) → List (PyData × PyData) → Prop
  | nil : RpP K J [] []
  | cons {k v : V} {vs : List (V × V)} {e d : PyData} {ds : List (PyData × PyData)} : Rp K J k e → Rp K J v d → RpP K J vs ds → RpP K J ((k, v) :: vs) ((e, d) :: ds)
end
section
variable {K : PySem.W.Frag} {J J' : Hp}
mutual
theorem rp_mono' (e : Same J J') : ∀ {v : V} {d : PyData}, Rp K J v d → Rp K J' v d
  | _, _, .non => .non
  | _, _, .bl b => .bl b
  | _, _, .int i => .int i
  | _, _, .str x => .str x
  | _, _, .lst hs ha => .lst (e _ _ hs) (rpAll_mono' e ha)
  | _, _, .tup hs ha => .tup (Same.sqT e hs) (rpAll_mono' e ha)
  | _, _, .ref a => .ref a
  | _, _, .scr hs => .scr (e.seq hs)
  | _, _, .pub h => .pub (rp_mono' e h)
  | _, _, .dic hs ha => .dic (e _ _ hs) (rpP_mono' e ha)
  | _, _, .obj hs ha => .obj (e _ _ hs) (rpP_mono' e ha)
theorem rpAll_mono' (e : Same J J') : ∀ {vs : List V} {ds : List PyData}, RpAll K J vs ds → RpAll K J' vs ds
  | _, _, .nil => .nil
  | _, _, .cons h1 h2 => .cons (rp_mono' e h1) (rpAll_mono' e h2)
theorem rpP_mono' (e : Same J J') : ∀ {vs : List (V × V)} {ds : List (PyData × PyData)}, RpP K J vs ds → RpP K J' vs ds
  | _, _, .nil => .nil
  | _, _, .cons h1 h2 h3 => .cons (rp_mono' e h1) (rp_mono' e h2) (rpP_mono' e h3)
end
theorem rp_mono (e : Same J J') (d : PyData) (v : V) (h : Rp K J v d) : Rp K J' v d := rp_mono' e h
theorem rpAll_mono (e : Same J J') (ds : List PyData) (vs : List V) (h : RpAll K J vs ds) : RpAll K J' vs ds := rpAll_mono' e h
mutual
theorem rp_dp : ∀ (d : PyData) (v : V), d.canLay0 = true → Rp K J v d → Dp K J v d
  | .none, _, _, h => by cases h; exact .non
  | .bool b, _, _, h => by cases h; exact .bl b
  | .int i, _, _, h => by cases h; exact .int i
  | .str x, _, _, h => by cases h; exact .str x
  | .list ds, _, z, h => by
    cases h with
    | lst hs ha => exact .lst (SqL.of hs) (rpAll_dp ds _ (by simpa only [PyData.canLay0] using z) ha)
  | .tuple ds, _, z, h => by
    cases h with
    | tup hs ha => exact .tup hs (rpAll_dp ds _ (by simpa only [PyData.canLay0] using z) ha)
  | .dict _, _, z, _ => by simp [PyData.canLay0] at z
theorem rpAll_dp : ∀ (ds : List PyData) (vs : List V), PyData.canLayAll0 ds = true → RpAll K J vs ds → DpAll K J vs ds
  | [], _, _, h => by cases h; exact .nil
  | d :: ds, _, z, h => by
    simp only [PyData.canLayAll0, Bool.and_eq_true] at z
    cases h with
    | cons h1 h2 => exact .cons (rp_dp d _ z.1 h1) (rpAll_dp ds _ z.2 h2)
end
theorem RpAll.length : ∀ {ds : List PyData} {vs : List V}, RpAll K J vs ds → vs.length = ds.length
  | _, _, .nil => rfl
  | _, _, .cons _ t => by rw [List.length_cons, List.length_cons, RpAll.length t]
theorem RpAll.get : ∀ {ds : List PyData} {vs : List V} {i : Nat} {v : V}, RpAll K J vs ds → vs[i]? = some v → ∃ d, ds[i]? = some d ∧ Rp K J v d
  | _, _, _, _, .nil, e => by simp at e
  | _, _, 0, _, .cons h _, e => by simp at e; subst e; exact ⟨_, rfl, h⟩
  | _, _, i + 1, v, .cons _ t, e => by
    obtain ⟨d, h1, h2⟩ := RpAll.get (i := i) (v := v) t (by simpa using e)
    exact ⟨d, by simpa using h1, h2⟩
theorem RpAll.getD : ∀ {ds : List PyData} {vs : List V} {i : Nat} {d : PyData}, RpAll K J vs ds → ds[i]? = some d → ∃ v, vs[i]? = some v ∧ Rp K J v d
  | _, _, _, _, .nil, e => by simp at e
  | _, _, 0, _, .cons h _, e => by simp at e; subst e; exact ⟨_, rfl, h⟩
  | _, _, i + 1, d, .cons _ t, e => by
    obtain ⟨v, h1, h2⟩ := RpAll.getD (i := i) (d := d) t (by simpa using e)
    exact ⟨v, by simpa using h1, h2⟩
theorem RpAll.append : ∀ {ds es : List PyData} {vs ws : List V}, RpAll K J vs ds → RpAll K J ws es → RpAll K J (vs ++ ws) (ds ++ es)
  | _, _, _, _, .nil, h => h
  | _, _, _, _, .cons h t, g => .cons h (RpAll.append t g)
theorem RpAll.one {v : V} {d : PyData} (h : Rp K J v d) : RpAll K J [v] [d] := .cons h .nil
theorem RpAll.take : ∀ {ds : List PyData} {vs : List V} (n : Nat), RpAll K J vs ds → RpAll K J (vs.take n) (ds.take n)
  | _, _, 0, _ => by simpa using RpAll.nil
  | _, _, _ + 1, .nil => .nil
  | _, _, n + 1, .cons h t => .cons h (RpAll.take n t)
theorem RpAll.drop : ∀ {ds : List PyData} {vs : List V} (n : Nat), RpAll K J vs ds → RpAll K J (vs.drop n) (ds.drop n)
  | _, _, 0, h => by simpa using h
  | _, _, _ + 1, .nil => .nil
  | _, _, n + 1, .cons _ t => RpAll.drop n t
theorem RpAll.set : ∀ {ds : List PyData} {vs : List V} {v : V} {d : PyData} (i : Nat), RpAll K J vs ds → Rp K J v d → RpAll K J (vs.set i v) (ds.set i d)
  | _, _, _, _, _, .nil, _ => .nil
  | _, _, _, _, 0, .cons _ t, h => .cons h t
  | _, _, _, _, i + 1, .cons g t, h => .cons g (RpAll.set i t h)
theorem RpAll.rep {vs : List V} {ds : List PyData} (h : RpAll K J vs ds) : ∀ n : Nat, RpAll K J (List.replicate n vs).flatten (List.replicate n ds).flatten
  | 0 => .nil
  | n + 1 => by
    rw [List.replicate_succ, List.replicate_succ, List.flatten_cons, List.flatten_cons]
    exact RpAll.append h (RpAll.rep h n)
theorem rpAll_sgn (z : Str) : RpAll K J (sgn z) (z.cps.toList.map fun c => PyData.str ⟨#[c]⟩) := by
  unfold sgn
  induction z.cps.toList with
  | nil => exact .nil
  | cons c l ih => exact .cons (.str _) ih
end
/-- what may still be changed -/
inductive MO where
  | lst (ds : List PyData)
  | bag
  | ins (C dx : Addr) (fs : List (Str × PyData))
  | xd (fs : List (Str × PyData))
  /-- a list whose lists, at any depth, stand in N and nowhere else -/
  | tmp (N : Hp) (d : PyData)
  /-- an instance whose only field f holds a list of its own, at p -/
  | ent (C dx p : Addr) (f : Str) (ds : List PyData)
  /-- a dict, its keys ints and texts, or tuples of these -/
  | dk (kvs : List (Key × PyData))
  | dt (kvs : List (List Key × PyData))
abbrev Wd := Addr → Option MO
def updW (ω : Wd) (a : Addr) (m : MO) : Wd := fun b => if b = a then some m else ω b
def delW (ω : Wd) (a : Addr) : Wd := fun b => if b = a then none else ω b
theorem updW_same {ω : Wd} {a : Addr} {m : MO} : updW ω a m a = some m := if_pos rfl
theorem updW_ne {ω : Wd} {a b : Addr} {m : MO} (h : b ≠ a) : updW ω a m b = ω b := if_neg h
theorem delW_same {ω : Wd} {a : Addr} : delW ω a a = none := if_pos rfl
theorem delW_ne {ω : Wd} {a b : Addr} (h : b ≠ a) : delW ω a b = ω b := if_neg h
theorem updW_updW {ω : Wd} {a : Addr} {m n : MO} : updW (updW ω a m) a n = updW ω a n := by
  funext b; unfold updW; split <;> rfl
theorem delW_updW {ω : Wd} {a : Addr} {m : MO} (h : ω a = none) : delW (updW ω a m) a = ω := by
  funext b; unfold delW updW; split
  · rename_i e; rw [e, h]
  · rfl
theorem delW_some {ω : Wd} {a b : Addr} {m : MO} (h : delW ω a b = some m) : ω b = some m ∧ b ≠ a := by
  unfold delW at h
  split at h
  · cases h
  · rename_i n; exact ⟨h, n⟩
/-- what belongs to a cell alone, beside its own address -/
def MO.priv : MO → Addr → Prop
  | .tmp N _, b => N b ≠ none
  | .ent _ _ p _ _, b => b = p
  | _, _ => False
/-- nothing does -/
def MO.bare : MO → Bool
  | .tmp _ _ => false
  | .ent _ _ _ _ _ => false
  | _ => true
theorem MO.bare_priv {m : MO} {b : Addr} (h : m.bare = true) : ¬ m.priv b := by
  cases m <;> first | exact id | cases h
/-- no cell, nor what belongs to one -/
def Fr (ω : Wd) (a : Addr) : Prop := ω a = none ∧ ∀ c m, ω c = some m → ¬ m.priv a
/-- fields -/
def RpF (K : PySem.W.Frag) (J : Hp) : List (Str × V) → List (Str × PyData) → Prop := Paired fun p q => p.1 = q.1 ∧ Rp K J p.2 q.2
/-- what a dict holds -/
def RpK {κ : Type} (K : PySem.W.Frag) (J : Hp) : List (κ × V) → List (κ × PyData) → Prop := Paired fun p q => p.1 = q.1 ∧ Rp K J p.2 q.2
def Cell (K : PySem.W.Frag) (J H : Hp) (a : Addr) : MO → Prop
  | .lst ds => ∃ vs, H a = some (.lst vs) ∧ RpAll K J vs ds
  | .bag => Bag H a
  | .ins C dx fs => ∃ gs, H a = some (.ins C dx gs) ∧ RpF K J gs fs
  | .xd fs => ∃ gs, H a = some (.xd gs) ∧ RpF K J gs fs
  | .tmp N d => Same N H ∧ Rp K N (.ref a) d ∧ N a ≠ none
  | .ent C dx p f ds => H a = some (.ins C dx [(f, .ref p)]) ∧ ∃ vs, H p = some (.lst vs) ∧ RpAll K J vs ds
  | .dk kvs => ∃ ws, H a = some (.dK ws) ∧ RpK K J ws kvs
  | .dt kvs => ∃ ws, H a = some (.dT ws) ∧ RpK K J ws kvs
/-- J: what stays as it is; ω: what may be changed -/
structure Rw (K : PySem.W.Frag) (J H : Hp) (ω : Wd) : Prop where
  jh : Same J H
  out : ∀ a m, ω a = some m → J a = none
  cell : ∀ a m, ω a = some m → Cell K J H a m
  tmp : ∀ a m, ω a = some m → ∀ b, m.priv b → J b = none ∧ (b ≠ a → ω b = none) ∧ ∀ c m', c ≠ a → ω c = some m' → ¬ m'.priv b
/-- a thing that is no tuple stands there (a tuple may become data later) -/
def Hd (H : Hp) (a : Addr) : Prop := ∃ o, H a = some o ∧ ∀ us, o ≠ .tup us
theorem Hd.ne {H : Hp} {a : Addr} (h : Hd H a) : H a ≠ none := by
  obtain ⟨o, e, _⟩ := h
  rw [e]
  simp
structure Grow (J H : Hp) (ω : Wd) (J' H' : Hp) (ω' : Wd) : Prop where
  jj : Same J J'
  dom : ∀ a, H a ≠ none → H' a ≠ none
  keep : ∀ a o, H a = some o → Fr ω a → H' a = some o
  frj : ∀ a, Hd H a → Fr ω a → J a = none → J' a = none
  frw : ∀ a, H a ≠ none → Fr ω a → Fr ω' a
section
variable {K : PySem.W.Frag} {J J1 J2 H H1 H2 : Hp} {ω ω1 ω2 : Wd} {a p : Addr} {m n : MO} {o : HO} {vs : List V} {ds : List PyData}
theorem RpF.mono (e : Same J J1) {gs : List (Str × V)} {fs : List (Str × PyData)} (h : RpF K J gs fs) : RpF K J1 gs fs := Paired.mapP h fun _ q z => ⟨z.1, rp_mono e q.2 _ z.2⟩
theorem RpK.mono {κ : Type} (e : Same J J1) {gs : List (κ × V)} {fs : List (κ × PyData)} (h : RpK K J gs fs) : RpK K J1 gs fs := Paired.mapP h fun _ q z => ⟨z.1, rp_mono e q.2 _ z.2⟩
/-- what a cell looks at -/
def Looks (a : Addr) (m : MO) (b : Addr) : Prop := b = a ∨ m.priv b
theorem same_there {N : Hp} {b : Addr} (s : Same N H) (n : N b ≠ none) : H b ≠ none := by
  cases q : N b with
  | none => exact absurd q n
  | some o => rw [s _ _ q]; simp
theorem Cell.looks {b : Addr} (h : Cell K J H a m) (l : Looks a m b) : H b ≠ none := by
  cases m with
  | lst ds => obtain ⟨vs, e, _⟩ := h; rcases l with rfl | l; rw [e]; simp; exact False.elim l
  | bag => obtain ⟨c, n, e⟩ := h; rcases l with rfl | l; rw [e]; simp; exact False.elim l
  | ins C dx fs => obtain ⟨vs, e, _⟩ := h; rcases l with rfl | l; rw [e]; simp; exact False.elim l
  | xd fs => obtain ⟨vs, e, _⟩ := h; rcases l with rfl | l; rw [e]; simp; exact False.elim l
  | tmp N d =>
    obtain ⟨s, _, n⟩ := h
    rcases l with rfl | l
    · exact same_there s n
    · exact same_there s l
  | ent C dx p f ds =>
    obtain ⟨e, vs, e2, _⟩ := h
    rcases l with rfl | l
    · rw [e]; simp
    · rw [show b = p from l, e2]; simp
  | dk kvs => obtain ⟨vs, e, _⟩ := h; rcases l with rfl | l; rw [e]; simp; exact False.elim l
  | dt kvs => obtain ⟨vs, e, _⟩ := h; rcases l with rfl | l; rw [e]; simp; exact False.elim l
theorem Cell.mono (h : Cell K J H a m) (e : Same J J1) (k : ∀ b o, Looks a m b → H b = some o → H1 b = some o) : Cell K J1 H1 a m := by
  cases m with
  | lst ds => obtain ⟨vs, z, r⟩ := h; exact ⟨vs, k _ _ (.inl rfl) z, rpAll_mono e _ _ r⟩
  | bag => obtain ⟨c, n, z⟩ := h; exact ⟨c, n, k _ _ (.inl rfl) z⟩
  | ins C dx fs => obtain ⟨vs, z, r⟩ := h; exact ⟨vs, k _ _ (.inl rfl) z, r.mono e⟩
  | xd fs => obtain ⟨vs, z, r⟩ := h; exact ⟨vs, k _ _ (.inl rfl) z, r.mono e⟩
  | tmp N d => obtain ⟨s, r, nn⟩ := h; exact ⟨fun b u q => k b u (.inr (show N b ≠ none by rw [q]; simp)) (s b u q), r, nn⟩
  | ent C dx p f ds => obtain ⟨z, vs, z2, r⟩ := h; exact ⟨k _ _ (.inl rfl) z, vs, k _ _ (.inr rfl) z2, rpAll_mono e _ _ r⟩
  | dk kvs => obtain ⟨vs, z, r⟩ := h; exact ⟨vs, k _ _ (.inl rfl) z, r.mono e⟩
  | dt kvs => obtain ⟨vs, z, r⟩ := h; exact ⟨vs, k _ _ (.inl rfl) z, r.mono e⟩
theorem Rw.there (w : Rw K J H ω) (h : ω a = some m) : H a ≠ none := (w.cell a m h).looks (.inl rfl)
theorem Rw.looks {b : Addr} (w : Rw K J H ω) (h : ω a = some m) (l : Looks a m b) : H b ≠ none := (w.cell a m h).looks l
theorem Rw.free (w : Rw K J H ω) (h : H p = none) : Fr ω p := by
  constructor
  · cases q : ω p with
    | none => rfl
    | some m => exact absurd h (w.there q)
  · exact fun c m e pr => w.looks e (.inr pr) h
theorem Grow.refl : Grow J H ω J H ω := ⟨Same.refl _, fun _ h => h, fun _ _ h _ => h, fun _ _ _ h => h, fun _ _ h => h⟩
theorem Grow.trans (g : Grow J H ω J1 H1 ω1) (k : Grow J1 H1 ω1 J2 H2 ω2) : Grow J H ω J2 H2 ω2 :=
  ⟨g.jj.trans k.jj, fun a h => k.dom a (g.dom a h), fun a o h z => k.keep a o (g.keep a o h z) (g.frw a (by rw [h]; simp) z),
    fun a h z j => k.frj a (h.elim fun o e => ⟨o, g.keep a o e.1 z, e.2⟩) (g.frw a h.ne z) (g.frj a h z j), fun a h z => k.frw a (g.dom a h) (g.frw a h z)⟩
theorem ne_new (h : H a ≠ none) (hp : H p = none) : a ≠ p := fun e => h (by rw [e]; exact hp)
/-- the next state: J has new things, each cell is as it was or is told anew -/
theorem Rw.step (w : Rw K J H ω) (jj : Same J J1) (jh : Same J1 H1) (fj : ∀ b, H b ≠ none → J b = none → J1 b = none)
    (h : ∀ a m, ω1 a = some m → (ω a = some m ∧ ∀ b o, Looks a m b → H b = some o → H1 b = some o) ∨
      (J1 a = none ∧ Cell K J1 H1 a m ∧ (∀ b, m.priv b → J1 b = none ∧ (b ≠ a → ω1 b = none)) ∧ ∀ c m', c ≠ a → ω1 c = some m' → ¬ m'.priv a ∧ ∀ b, m.priv b → ¬ m'.priv b)) : Rw K J1 H1 ω1 := by
  refine ⟨jh, fun a m e => ?_, fun a m e => ?_, fun a m e b pb => ?_⟩
  · rcases h a m e with z | z
    · exact fj a (w.there z.1) (w.out a m z.1)
    · exact z.1
  · rcases h a m e with z | z
    · exact (w.cell a m z.1).mono jj z.2
    · exact z.2.1
  · rcases h a m e with z | z
    · obtain ⟨t1, t2, t3⟩ := w.tmp a m z.1 b pb
      refine ⟨fj b (w.looks z.1 (.inr pb)) t1, fun ne => ?_, fun c m' nc ec => ?_⟩
      · cases q : ω1 b with
        | none => rfl
        | some m' =>
          rcases h b m' q with y | y
          · rw [t2 ne] at y; cases y.1
          · exact absurd pb (y.2.2.2 a m (Ne.symm ne) e).1
      · rcases h c m' ec with y | y
        · exact t3 c m' nc y.1
        · exact fun pc => (y.2.2.2 a m (Ne.symm nc) e).2 b pc pb
    · exact ⟨(z.2.2.1 b pb).1, (z.2.2.1 b pb).2, fun c m' nc ec => (z.2.2.2 c m' nc ec).2 b pb⟩
/-- a new thing that stays -/
theorem Grow.frz (w : Rw K J H ω) (hp : H p = none) (o : HO) : Grow J H ω (upd J p o) (upd H p o) ω := by
  have hj : J p = none := w.jh.free hp
  refine ⟨same_new hj o, fun a h => ?_, fun a u h _ => ?_, fun a h _ j => ?_, fun _ _ h => h⟩
  · rw [upd_ne (ne_new h hp)]; exact h
  · rw [upd_ne (ne_of_none h hp)]; exact h
  · rw [upd_ne (ne_new h.ne hp)]; exact j
theorem Rw.frz (w : Rw K J H ω) (hp : H p = none) (o : HO) : Rw K (upd J p o) (upd H p o) ω := by
  have hj : J p = none := w.jh.free hp
  refine w.step (same_new hj o) (fun a u e => ?_) (fun b h j => by rw [upd_ne (ne_new h hp)]; exact j) fun a m e => .inl ⟨e, fun b u _ z => by rw [upd_ne (ne_of_none z hp)]; exact z⟩
  by_cases z : a = p
  · rw [z, upd_same] at e ⊢; exact e
  · rw [upd_ne z] at e ⊢; exact w.jh a u e
/-- a new thing that no one looks at -/
theorem Grow.junk (hp : H p = none) (o : HO) : Grow J H ω J (upd H p o) ω :=
  ⟨Same.refl _, fun a h => by rw [upd_ne (ne_new h hp)]; exact h, fun a u h _ => by rw [upd_ne (ne_of_none h hp)]; exact h, fun _ _ _ j => j, fun _ _ h => h⟩
theorem Rw.junk (w : Rw K J H ω) (hp : H p = none) (o : HO) : Rw K J (upd H p o) ω :=
  w.step (Same.refl _) (w.jh.trans (same_new hp o)) (fun _ _ j => j) fun a m e => .inl ⟨e, fun b u _ z => by rw [upd_ne (ne_of_none z hp)]; exact z⟩
theorem fr_updP {b : Addr} (h : Fr ω b) (ne : b ≠ p) (np : ¬ m.priv b) : Fr (updW ω p m) b := by
  refine ⟨by rw [updW_ne ne]; exact h.1, fun c m' e => ?_⟩
  by_cases z : c = p
  · rw [z, updW_same] at e; cases e; exact np
  · rw [updW_ne z] at e; exact h.2 c m' e
theorem fr_upd {b : Addr} (ht : m.bare = true) (h : Fr ω b) (ne : b ≠ p) : Fr (updW ω p m) b := fr_updP h ne (MO.bare_priv ht)
/-- a new cell -/
theorem Grow.own (ht : m.bare = true) (hp : H p = none) (o : HO) : Grow J H ω J (upd H p o) (updW ω p m) :=
  ⟨Same.refl _, fun a h => by rw [upd_ne (ne_new h hp)]; exact h, fun a u h _ => by rw [upd_ne (ne_of_none h hp)]; exact h, fun _ _ _ j => j, fun a h z => fr_upd ht z (ne_new h hp)⟩
theorem Rw.own (w : Rw K J H ω) (ht : m.bare = true) (hp : H p = none) (c : Cell K J (upd H p o) p m) : Rw K J (upd H p o) (updW ω p m) := by
  have fp := w.free hp
  refine w.step (Same.refl _) (w.jh.trans (same_new hp o)) (fun _ _ j => j) fun a n e => ?_
  by_cases z : a = p
  · subst z
    rw [updW_same] at e
    cases e
    refine .inr ⟨w.jh.free hp, c, fun b pb => absurd pb (MO.bare_priv ht), fun c m' nc e => ?_⟩
    rw [updW_ne nc] at e
    exact ⟨fp.2 c m' e, fun b pb => absurd pb (MO.bare_priv ht)⟩
  · rw [updW_ne z] at e
    exact .inl ⟨e, fun b u _ y => by rw [upd_ne (ne_of_none y hp)]; exact y⟩
theorem fr_ne0 {b : Addr} (h : ω a = some m) (z : Fr ω b) : b ≠ a := fun e => by have := z.1; rw [e, h] at this; cases this
/-- a cell is changed -/
theorem Grow.set (h : ω a = some m) (ht : n.bare = true) (o : HO) : Grow J H ω J (upd H a o) (updW ω a n) := by
  refine ⟨Same.refl _, fun b hb => ?_, fun b u hb z => by rw [upd_ne (fr_ne0 h z)]; exact hb, fun _ _ _ j => j, fun b _ z => fr_upd ht z (fr_ne0 h z)⟩
  by_cases z : b = a
  · rw [z, upd_same]; simp
  · rw [upd_ne z]; exact hb
/-- a cell is in no other -/
theorem Rw.apart (w : Rw K J H ω) (h : ω a = some m) {c : Addr} {m' : MO} (nc : c ≠ a) (e : ω c = some m') : ¬ m'.priv a := fun pa => by
  obtain ⟨_, t2, _⟩ := w.tmp c m' e a pa
  rw [t2 (Ne.symm nc)] at h
  cases h
theorem Rw.set (w : Rw K J H ω) (h : ω a = some m) (ht : n.bare = true) (c : Cell K J (upd H a o) a n) : Rw K J (upd H a o) (updW ω a n) := by
  refine w.step (Same.refl _) (fun b u e => ?_) (fun _ _ j => j) fun b k e => ?_
  · rw [upd_ne fun z => by rw [z, w.out a m h] at e; cases e]; exact w.jh b u e
  · by_cases z : b = a
    · subst z
      rw [updW_same] at e
      cases e
      refine .inr ⟨w.out _ m h, c, fun b pb => absurd pb (MO.bare_priv ht), fun c m' nc e => ?_⟩
      rw [updW_ne nc] at e
      exact ⟨w.apart h nc e, fun b pb => absurd pb (MO.bare_priv ht)⟩
    · rw [updW_ne z] at e
      refine .inl ⟨e, fun b' u l y => ?_⟩
      rw [upd_ne]
      · exact y
      · rintro rfl
        rcases l with rfl | pb
        · exact z rfl
        · exact w.apart h z e pb
theorem fr_del {b : Addr} (h : Fr ω b) : Fr (delW ω a) b :=
  ⟨by unfold delW; split; rfl; exact h.1, fun c m e => h.2 c m (delW_some e).1⟩
/-- a list of one's own is not changed any more -/
theorem Grow.fix (w : Rw K J H ω) (h : ω a = some (.lst ds)) (e : H a = some (.lst vs)) : Grow J H ω (upd J a (.lst vs)) H (delW ω a) := by
  refine ⟨same_new (w.out a _ h) _, fun _ z => z, fun _ _ z _ => z, fun b _ z j => by rw [upd_ne (fr_ne0 h z)]; exact j, fun b _ z => fr_del z⟩
theorem Rw.fix (w : Rw K J H ω) (h : ω a = some (.lst ds)) (e : H a = some (.lst vs)) : Rw K (upd J a (.lst vs)) H (delW ω a) := by
  have hj := w.out a _ h
  refine ⟨fun b u z => ?_, fun b k z => ?_, fun b k z => ?_, fun b m' z b' nb => ?_⟩
  · by_cases y : b = a
    · rw [y, upd_same] at z; rw [y, ← z]; exact e
    · rw [upd_ne y] at z; exact w.jh b u z
  · obtain ⟨z, y⟩ := delW_some z
    rw [upd_ne y]; exact w.out b k z
  · obtain ⟨z, y⟩ := delW_some z
    exact (w.cell b k z).mono (same_new hj _) fun _ _ _ q => q
  · obtain ⟨z2, y⟩ := delW_some z
    obtain ⟨t1, t2, t3⟩ := w.tmp b m' z2 b' nb
    refine ⟨?_, fun ne => by unfold delW; split; rfl; exact t2 ne, fun c N' nc ec => t3 c N' nc (delW_some ec).1⟩
    rw [upd_ne]
    · exact t1
    · rintro rfl
      exact w.apart h y z2 nb
/-- cells that no one looks at any more -/
theorem Grow.drop : Grow J H ω J H (delW ω a) :=
  ⟨Same.refl _, fun _ z => z, fun _ _ z _ => z, fun _ _ _ j => j, fun b _ z => fr_del z⟩
theorem Rw.drop (w : Rw K J H ω) : Rw K J H (delW ω a) :=
  w.step (Same.refl _) w.jh (fun _ _ j => j) fun b m e => .inl ⟨(delW_some e).1, fun _ _ _ z => z⟩
/-- a new cell with new things of its own -/
theorem grow_tmp (g : Grow J H ω J H1 ω) (nn : ∀ b, m.priv b → H b = none) (na : H a = none) : Grow J H ω J H1 (updW ω a m) :=
  ⟨g.jj, g.dom, g.keep, g.frj, fun b h z => fr_updP z (ne_new h na) fun pb => h (nn b pb)⟩
theorem rw_new (w : Rw K J H ω) (w1 : Rw K J H1 ω) (nn : ∀ b, m.priv b → H b = none) (na : H a = none) (c : Cell K J H1 a m) : Rw K J H1 (updW ω a m) := by
  refine w1.step (Same.refl _) w1.jh (fun _ _ j => j) fun b k e => ?_
  by_cases y : b = a
  · subst y
    rw [updW_same] at e
    cases e
    refine .inr ⟨w.jh.free na, c, fun b' pb => ⟨w.jh.free (nn b' pb), fun ne => by rw [updW_ne ne]; exact (w.free (nn b' pb)).1⟩, fun c' m' nc e => ?_⟩
    rw [updW_ne nc] at e
    exact ⟨(w.free na).2 c' m' e, fun b' pb => (w.free (nn b' pb)).2 c' m' e⟩
  · rw [updW_ne y] at e
    exact .inl ⟨e, fun _ _ _ z => z⟩
theorem rw_tmp {N : Hp} {d : PyData} (w : Rw K J H ω) (w1 : Rw K J H1 ω) (nn : ∀ b, N b ≠ none → H b = none) (s : Same N H1) (r : Rp K N (.ref a) d) (na : N a ≠ none) : Rw K J H1 (updW ω a (.tmp N d)) :=
  rw_new w w1 nn (nn a na) ⟨s, r, na⟩
/-- J and a further piece -/
def join (J N : Hp) : Hp := fun a => match N a with
  | some o => some o
  | none => J a
theorem join_none {b : Addr} {N : Hp} (h : N b = none) : join J N b = J b := by unfold join; rw [h]
theorem join_some {b : Addr} {N : Hp} {o : HO} (h : N b = some o) : join J N b = some o := by unfold join; rw [h]
theorem same_join {N : Hp} (h : ∀ b, N b ≠ none → J b = none) : Same J (join J N) := fun b o e => by
  rw [join_none]
  · exact e
  · cases q : N b with
    | none => rfl
    | some u => rw [h b (by rw [q]; simp)] at e; cases e
theorem same_joinN {N : Hp} : Same N (join J N) := fun b o e => join_some e
theorem priv_none {N : Hp} {d : PyData} {b : Addr} (h : ¬ (MO.tmp N d).priv b) : N b = none := Classical.byContradiction h
/-- such a cell becomes data -/
theorem grow_thaw {N : Hp} {d : PyData} (w : Rw K J H ω) (h : ω a = some (.tmp N d)) : Grow J H ω (join J N) H (delW ω a) := by
  refine ⟨same_join fun b nb => (w.tmp a _ h b nb).1, fun _ z => z, fun _ _ z _ => z, fun b _ z j => ?_, fun b _ z => fr_del z⟩
  rw [join_none (priv_none (z.2 a _ h))]; exact j
theorem rw_thaw {N : Hp} {d : PyData} (w : Rw K J H ω) (h : ω a = some (.tmp N d)) : Rw K (join J N) H (delW ω a) := by
  have sj : Same J (join J N) := same_join fun b nb => (w.tmp a _ h b nb).1
  obtain ⟨sN, rN, nN⟩ := w.cell a _ h
  refine ⟨fun b u e => ?_, fun b m e => ?_, fun b m e => ?_, fun b m' e b' nb => ?_⟩
  · cases q : N b with
    | none => rw [join_none q] at e; exact w.jh b u e
    | some o => rw [join_some q] at e; cases e; exact sN b _ q
  · obtain ⟨e, y⟩ := delW_some e
    rw [join_none]
    · exact w.out b m e
    · exact priv_none fun pb => by rw [(w.tmp a _ h b pb).2.1 y] at e; cases e
  · obtain ⟨e, y⟩ := delW_some e
    exact (w.cell b m e).mono sj fun _ _ _ z => z
  · obtain ⟨e, y⟩ := delW_some e
    obtain ⟨t1, t2, t3⟩ := w.tmp b m' e b' nb
    refine ⟨by rw [join_none (priv_none (t3 a _ (Ne.symm y) h))]; exact t1, fun ne => by unfold delW; split; rfl; exact t2 ne, fun c m2 nc ec => t3 c m2 nc (delW_some ec).1⟩
end
/-! ### slots -/
abbrev DS := List (Option PyData)
def Sl (K : PySem.W.Frag) (J : Hp) (σ : L2.St) (ρ : DS) : Prop := σ.length = ρ.length ∧ ∀ (i : Nat) (d : PyData), ρ[i]? = some (some d) → ∃ v, σ[i]? = some (some v) ∧ Rp K J v d
section
variable {K : PySem.W.Frag} {J J1 : Hp} {σ : L2.St} {ρ : DS} {i : Nat} {v : V} {d : PyData}
theorem Sl.mono (h : Sl K J σ ρ) (e : Same J J1) : Sl K J1 σ ρ := ⟨h.1, fun i d z => by obtain ⟨v, h1, h2⟩ := h.2 i d z; exact ⟨v, h1, rp_mono e d v h2⟩⟩
theorem Sl.set (h : Sl K J σ ρ) (i : Nat) (r : Rp K J v d) : Sl K J (σ.set i (some v)) (ρ.set i (some d)) := by
  refine ⟨by rw [List.length_set, List.length_set]; exact h.1, fun j e z => ?_⟩
  by_cases y : i = j
  · subst y
    rw [List.getElem?_set] at z
    rw [if_pos rfl] at z
    split at z
    · rename_i hl
      cases z
      exact ⟨v, by rw [List.getElem?_set, if_pos rfl, if_pos (by rw [h.1]; exact hl)], r⟩
    · cases z
  · rw [List.getElem?_set_ne y] at z
    obtain ⟨u, h1, h2⟩ := h.2 j e z
    exact ⟨u, by rw [List.getElem?_set_ne y]; exact h1, h2⟩
theorem Sl.clear (h : Sl K J σ ρ) (i : Nat) (o : Option V) : Sl K J (σ.set i o) (ρ.set i none) := by
  refine ⟨by rw [List.length_set, List.length_set]; exact h.1, fun j e z => ?_⟩
  by_cases y : i = j
  · subst y
    rw [List.getElem?_set, if_pos rfl] at z
    split at z <;> cases z
  · rw [List.getElem?_set_ne y] at z
    obtain ⟨u, h1, h2⟩ := h.2 j e z
    exact ⟨u, by rw [List.getElem?_set_ne y]; exact h1, h2⟩
def wipeD (ρ : DS) : List Nat → DS
  | [] => ρ
  | v :: vs => (wipeD ρ vs).set v none
theorem Sl.wipe (h : Sl K J σ ρ) : ∀ vs : List Nat, Sl K J (wipe σ vs) (wipeD ρ vs)
  | [] => h
  | v :: vs => by unfold L2.wipe wipeD; exact (Sl.wipe h vs).clear v none
theorem wipe_set {o : Option V} : ∀ {vs : List Nat}, i ∈ vs → wipe (σ.set i o) vs = wipe σ vs
  | v :: vs, h => by
    unfold wipe
    by_cases y : i ∈ vs
    · rw [wipe_set y]
    · have e : i = v := by
        cases h with
        | head => rfl
        | tail _ h => exact absurd h y
      subst e
      have cm : ∀ (vs : List Nat) (σ : L2.St), i ∉ vs → wipe (σ.set i o) vs = (wipe σ vs).set i o := by
        intro vs
        induction vs with
        | nil => intro σ _; rfl
        | cons w ws ih =>
          intro σ hn
          unfold wipe
          rw [ih σ fun z => hn (List.mem_cons_of_mem _ z), List.set_comm]
          exact fun z => hn (by rw [z]; exact List.mem_cons_self)
      rw [cm vs σ y, List.set_set]
/-- the slots at a call's entry -/
def startD (N : List Str) (ts : List PyData) : DS := ts.map some ++ List.replicate (N.length - ts.length) none
theorem sl_start {N : List Str} {vs : List V} {ts : List PyData} (h : RpAll K J vs ts) : Sl K J (start N vs) (startD N ts) := by
  have hl := h.length
  refine ⟨by simp [L2.start, startD, hl], fun i d z => ?_⟩
  unfold startD at z
  unfold L2.start
  by_cases hi : i < ts.length
  · rw [List.getElem?_append_left (by simpa using hi), List.getElem?_map] at z
    obtain ⟨e, he, z⟩ := Option.map_eq_some_iff.mp z
    cases z
    obtain ⟨v, h1, h2⟩ := h.getD he
    exact ⟨v, by rw [List.getElem?_append_left (by simpa [hl] using hi), List.getElem?_map, h1]; rfl, h2⟩
  · rw [List.getElem?_append_right (by simpa using hi), List.getElem?_replicate] at z
    split at z <;> cases z
end
end Tx

namespace Tx
open PySem PySem.Spec PyProof.Rows L2
/-! ## Readings over data -/
abbrev DQ := PyData → Wd → Prop
abbrev DXK := Addr → List (Str × PyData) → Wd → Prop
abbrev DTE := DS → Wd → DQ → DXK → Prop
abbrev DTT := DS → Wd → (Bool → Wd → Prop) → DXK → Prop
abbrev DTA := DS → Wd → (List PyData → Wd → Prop) → DXK → Prop
structure DEnds where
  nx : DS → Wd → Prop
  rt : DQ
  bk : DS → Wd → Prop
  ct : DS → Wd → Prop
  xc : Addr → List (Str × PyData) → DS → Wd → Prop
abbrev DTS := DEnds → DS → Wd → Prop
/-- an error's own dict -/
def XdOk (K : PySem.W.Frag) (H0 J H : Hp) (ω : Wd) (d : Option Addr) (fs : List (Str × PyData)) : Prop :=
  match d with
  | none => fs = []
  | some dd => H0 dd = none ∧ J dd = none ∧ Fr ω dd ∧ ∃ gs, H dd = some (.xd gs) ∧ RpF K J gs fs
theorem XdOk.back {K : PySem.W.Frag} {H0 H1 J H : Hp} {ω : Wd} {d : Option Addr} {fs : List (Str × PyData)} (h : XdOk K H1 J H ω d fs) (k : ∀ a, H0 a ≠ none → H1 a ≠ none) : XdOk K H0 J H ω d fs := by
  cases d with
  | none => exact h
  | some dd =>
    refine ⟨?_, h.2⟩
    cases q : H0 dd with
    | none => rfl
    | some o => exact absurd h.1 (k dd (by rw [q]; simp))
section
variable (K : PySem.W.Frag) (J H : Hp) (ω : Wd)
def CovQ (q : DQ) (Q : VK) : Prop := ∀ r ω' v J' H', q r ω' → Grow J H ω J' H' ω' → Rw K J' H' ω' → Rp K J' v r → Q v H'
def CovT (q : Bool → Wd → Prop) (Q : Bool → Hp → Prop) : Prop := ∀ b ω' J' H', q b ω' → Grow J H ω J' H' ω' → Rw K J' H' ω' → Q b H'
def CovA (q : List PyData → Wd → Prop) (Q : List V → Hp → Prop) : Prop := ∀ rs ω' vs J' H', q rs ω' → Grow J H ω J' H' ω' → Rw K J' H' ω' → RpAll K J' vs rs → Q vs H'
def CovX (x : DXK) (E : XK) : Prop := ∀ C fs ω' d J' H', x C fs ω' → Grow J H ω J' H' ω' → Rw K J' H' ω' → XdOk K H J' H' ω' d fs → E (.ref C) d H'
structure CovS (W : WX) (DD : DEnds) (D : Ends) : Prop where
  nx : ∀ ρ' ω' σ' J' H', DD.nx ρ' ω' → Grow J H ω J' H' ω' → Rw K J' H' ω' → Sl K J' σ' ρ' → D.nx σ' H'
  bk : ∀ ρ' ω' σ' J' H', DD.bk ρ' ω' → Grow J H ω J' H' ω' → Rw K J' H' ω' → Sl K J' σ' ρ' → D.bk σ' H'
  ct : ∀ ρ' ω' σ' J' H', DD.ct ρ' ω' → Grow J H ω J' H' ω' → Rw K J' H' ω' → Sl K J' σ' ρ' → D.ct σ' H'
  rt : CovQ K J H ω DD.rt D.rt
  xc : ∀ C fs ρ' ω' d σ' J' H', DD.xc C fs ρ' ω' → Grow J H ω J' H' ω' → Rw K J' H' ω' → Sl K J' σ' ρ' → XdOk K H J' H' ω' d fs → W (.ref C) d σ' H'
end
section
variable {K : PySem.W.Frag} {J H J1 H1 : Hp} {ω ω1 : Wd}
theorem CovQ.step {q : DQ} {Q : VK} (c : CovQ K J H ω q Q) (g : Grow J H ω J1 H1 ω1) : CovQ K J1 H1 ω1 q Q := fun r ω' v J' H' z k w rp => c r ω' v J' H' z (g.trans k) w rp
theorem CovT.step {q : Bool → Wd → Prop} {Q : Bool → Hp → Prop} (c : CovT K J H ω q Q) (g : Grow J H ω J1 H1 ω1) : CovT K J1 H1 ω1 q Q := fun r ω' J' H' z k w => c r ω' J' H' z (g.trans k) w
theorem CovA.step {q : List PyData → Wd → Prop} {Q : List V → Hp → Prop} (c : CovA K J H ω q Q) (g : Grow J H ω J1 H1 ω1) : CovA K J1 H1 ω1 q Q := fun r ω' v J' H' z k w rp => c r ω' v J' H' z (g.trans k) w rp
theorem CovX.step {q : DXK} {E : XK} (c : CovX K J H ω q E) (g : Grow J H ω J1 H1 ω1) : CovX K J1 H1 ω1 q E := fun C fs ω' d J' H' z k w x => c C fs ω' d J' H' z (g.trans k) w (x.back g.dom)
theorem CovS.step {W : WX} {DD : DEnds} {D : Ends} (c : CovS K J H ω W DD D) (g : Grow J H ω J1 H1 ω1) : CovS K J1 H1 ω1 W DD D :=
  ⟨fun ρ' ω' σ' J' H' z k w s => c.nx ρ' ω' σ' J' H' z (g.trans k) w s, fun ρ' ω' σ' J' H' z k w s => c.bk ρ' ω' σ' J' H' z (g.trans k) w s, fun ρ' ω' σ' J' H' z k w s => c.ct ρ' ω' σ' J' H' z (g.trans k) w s, c.rt.step g,
    fun C fs ρ' ω' d σ' J' H' z k w s x => c.xc C fs ρ' ω' d σ' J' H' z (g.trans k) w s (x.back g.dom)⟩
theorem CovS.x {W : WX} {DD : DEnds} {D : Ends} (c : CovS K J H ω W DD D) {σ : L2.St} {ρ : DS} (s : Sl K J σ ρ) : CovX K J H ω (fun C fs ω' => DD.xc C fs ρ ω') (fun cl d H => W cl d σ H) :=
  fun C fs ω' d J' H' z k w x => c.xc C fs ρ ω' d σ J' H' z k w (s.mono k.jj) x
end
/-- an expression and its reading over data -/
structure DE (W : WX) (X : Cx) (K : PySem.W.Frag) (e : Expr) (td : DTE) : Prop where
  ex : ∃ t : TE, PE X e t ∧ ∀ σ H J ω ρ q x Q, Rw K J H ω → Sl K J σ ρ → CovQ K J H ω q Q → CovX K J H ω x (fun c d H => W c d σ H) → td ρ ω q x → t σ H Q
structure DT (W : WX) (X : Cx) (K : PySem.W.Frag) (e : Expr) (td : DTT) : Prop where
  ex : ∃ t : TT, PT X e t ∧ ∀ σ H J ω ρ q x Q, Rw K J H ω → Sl K J σ ρ → CovT K J H ω q Q → CovX K J H ω x (fun c d H => W c d σ H) → td ρ ω q x → t σ H Q
structure DW (W : WX) (X : Cx) (K : PySem.W.Frag) (e : Expr) (td : DTT) : Prop where
  ex : ∃ t : TT, PW X e t ∧ ∀ σ H J ω ρ q x Q, Rw K J H ω → Sl K J σ ρ → CovT K J H ω q Q → CovX K J H ω x (fun c d H => W c d σ H) → td ρ ω q x → t σ H Q
structure DAs (W : WX) (X : Cx) (K : PySem.W.Frag) (es : List Expr) (td : DTA) : Prop where
  ex : ∃ t : TA, PA X es t ∧ ∀ σ H J ω ρ q x Q, Rw K J H ω → Sl K J σ ρ → CovA K J H ω q Q → CovX K J H ω x (fun c d H => W c d σ H) → td ρ ω q x → t σ H Q
structure DSt (W : WX) (X : Cx) (K : PySem.W.Frag) (st : Stmt) (td : DTS) : Prop where
  ex : ∃ t : TS, PS X st t ∧ ∀ D DD σ H J ω ρ, Rw K J H ω → Sl K J σ ρ → CovS K J H ω W DD D → td DD ρ ω → t D σ H
structure DSs (W : WX) (X : Cx) (K : PySem.W.Frag) (st : List Stmt) (td : DTS) : Prop where
  ex : ∃ t : TS, PSs X st t ∧ ∀ D DD σ H J ω ρ, Rw K J H ω → Sl K J σ ρ → CovS K J H ω W DD D → td DD ρ ω → t D σ H
/-! ### what an operation does with data -/
/-- a list of one's own, read -/
def rsv (ω : Wd) : PyData → PyData
  | .dict [(.int i, .none)] => match ω i.toNat with
    | some (.lst ds) => .list ds
    | _ => .dict [(.int i, .none)]
  | d => d
/-- what is shown: cells at any depth of data -/
def cellD (ω : Wd) (a : Addr) : PyData := match ω a with
  | some (.lst ds) => .list ds
  | some (.tmp _ d) => d
  | _ => refD a
mutual
def full (ω : Wd) : PyData → PyData
  | .dict [(.int i, .none)] => cellD ω i.toNat
  | .list xs => .list (fullAll ω xs)
  | .tuple xs => .tuple (fullAll ω xs)
  | d => d
def fullAll (ω : Wd) : List PyData → List PyData
  | [] => []
  | x :: xs => full ω x :: fullAll ω xs
end
def Full (ω : Wd) (d e : PyData) : Prop := d = e ∨ full ω d = e
section
variable {K : PySem.W.Frag} {J H : Hp} {ω : Wd} {v : V} {d : PyData}
theorem rsv_cell {a : Addr} {ds : List PyData} (h : ω a = some (.lst ds)) : rsv ω (refD a) = .list ds := by
  show (match ω (((a : Nat) : Int).toNat) with | some (.lst ds) => PyData.list ds | _ => _) = _
  rw [Int.toNat_natCast, h]
/-- the list that is read: it stands in H -/
theorem rp_list {xs : List PyData} (w : Rw K J H ω) (h : Rp K J v d) (e : rsv ω d = .list xs) : ∃ a vs, v = .ref a ∧ H a = some (.lst vs) ∧ RpAll K J vs xs := by
  cases h with
  | non => cases e
  | bl b => cases e
  | int i => cases e
  | str x => cases e
  | lst hs ha => cases e; exact ⟨_, _, rfl, w.jh _ _ hs, ha⟩
  | tup hs ha => cases e
  | scr hs => cases e
  | pub _ => cases e
  | dic _ _ => cases e
  | obj _ _ => cases e
  | ref a =>
    have e2 : (match ω (((a : Nat) : Int).toNat) with | some (.lst ds) => PyData.list ds | _ => .dict [(.int ((a : Nat) : Int), .none)]) = .list xs := e
    rw [Int.toNat_natCast] at e2
    cases q : ω a with
    | none => rw [q] at e2; cases e2
    | some m =>
      rw [q] at e2
      cases m with
      | lst ds =>
        cases e2
        obtain ⟨vs, h1, h2⟩ := w.cell a _ q
        exact ⟨a, vs, rfl, h1, h2⟩
      | bag => cases e2
      | ins _ _ _ => cases e2
      | xd _ => cases e2
      | tmp _ _ => cases e2
      | ent _ _ _ _ _ => cases e2
      | dk _ => cases e2
      | dt _ => cases e2
theorem rp_tup {xs : List PyData} (w : Rw K J H ω) (h : Rp K J v d) (e : rsv ω d = .tuple xs) : ∃ a vs, v = .ref a ∧ SqT K H a vs ∧ RpAll K J vs xs ∧ Rp K J v (.tuple xs) := by
  cases h with
  | non => cases e
  | bl b => cases e
  | int i => cases e
  | str x => cases e
  | lst hs ha => cases e
  | tup hs ha => cases e; exact ⟨_, _, rfl, Same.sqT w.jh hs, ha, .tup hs ha⟩
  | scr hs => cases e
  | pub _ => cases e
  | dic _ _ => cases e
  | obj _ _ => cases e
  | ref a =>
    have e2 : (match ω (((a : Nat) : Int).toNat) with | some (.lst ds) => PyData.list ds | _ => .dict [(.int ((a : Nat) : Int), .none)]) = .tuple xs := e
    split at e2 <;> cases e2
theorem rp_flat (h : Rp K J v d) : (∀ z, rsv ω d = .str z → v = .str z) ∧ (∀ i, rsv ω d = .int i → v = .int i) ∧ (∀ b, rsv ω d = .bool b → v = .bl b) ∧ (rsv ω d = .none → v = .non) := by
  cases h with
  | ref a =>
    have e2 : rsv ω (refD a) = (match ω (((a : Nat) : Int).toNat) with | some (.lst ds) => PyData.list ds | _ => .dict [(.int ((a : Nat) : Int), .none)]) := rfl
    refine ⟨fun z e => ?_, fun z e => ?_, fun z e => ?_, fun e => ?_⟩ <;> (rw [e2] at e; split at e <;> cases e)
  | non => refine ⟨fun z e => ?_, fun z e => ?_, fun z e => ?_, fun e => ?_⟩ <;> (cases e <;> rfl)
  | bl b => refine ⟨fun z e => ?_, fun z e => ?_, fun z e => ?_, fun e => ?_⟩ <;> (cases e <;> rfl)
  | int i => refine ⟨fun z e => ?_, fun z e => ?_, fun z e => ?_, fun e => ?_⟩ <;> (cases e <;> rfl)
  | str x => refine ⟨fun z e => ?_, fun z e => ?_, fun z e => ?_, fun e => ?_⟩ <;> (cases e <;> rfl)
  | lst _ _ => refine ⟨fun z e => ?_, fun z e => ?_, fun z e => ?_, fun e => ?_⟩ <;> (cases e <;> rfl)
  | tup _ _ => refine ⟨fun z e => ?_, fun z e => ?_, fun z e => ?_, fun e => ?_⟩ <;> (cases e <;> rfl)
  | scr _ => refine ⟨fun z e => ?_, fun z e => ?_, fun z e => ?_, fun e => ?_⟩ <;> (cases e <;> rfl)
  | pub _ => refine ⟨fun z e => ?_, fun z e => ?_, fun z e => ?_, fun e => ?_⟩ <;> (cases e <;> rfl)
  | dic _ _ => refine ⟨fun z e => ?_, fun z e => ?_, fun z e => ?_, fun e => ?_⟩ <;> (cases e <;> rfl)
  | obj _ _ => refine ⟨fun z e => ?_, fun z e => ?_, fun z e => ?_, fun e => ?_⟩ <;> (cases e <;> rfl)
/-- data that is read, for the rules of the kit -/
theorem rp_rsv (w : Rw K J H ω) (h : Rp K J v d) (c : (rsv ω d).canLay0 = true) : Dp K H v (rsv ω d) := by
  cases h with
  | non => exact .non
  | bl b => exact .bl b
  | int i => exact .int i
  | str x => exact .str x
  | lst hs ha => exact dp_mono w.jh _ _ (rp_dp _ _ c (.lst hs ha))
  | tup hs ha => exact dp_mono w.jh _ _ (rp_dp _ _ c (.tup hs ha))
  | scr hs => simp [rsv, PyData.canLay0] at c
  | pub _ => simp [rsv, PyData.canLay0] at c
  | dic _ _ => simp [rsv, PyData.canLay0] at c
  | obj _ _ => simp [rsv, PyData.canLay0] at c
  | ref a =>
    cases e : rsv ω (refD a) with
    | list xs =>
      obtain ⟨b, vs, e1, e2, e3⟩ := rp_list w (.ref a) e
      rw [e] at c
      cases e1
      exact .lst (SqL.of e2) (dpAll_mono w.jh _ _ (rpAll_dp _ _ (by simpa only [PyData.canLay0] using c) e3))
    | dict _ => rw [e] at c; simp [PyData.canLay0] at c
    | none => have := (rp_flat (ω := ω) (Rp.ref (K := K) (J := J) a)).2.2.2 e; cases this
    | bool b => have := (rp_flat (ω := ω) (Rp.ref (K := K) (J := J) a)).2.2.1 b e; cases this
    | int b => have := (rp_flat (ω := ω) (Rp.ref (K := K) (J := J) a)).2.1 b e; cases this
    | str b => have := (rp_flat (ω := ω) (Rp.ref (K := K) (J := J) a)).1 b e; cases this
    | tuple b =>
      have e2 : rsv ω (refD a) = (match ω (((a : Nat) : Int).toNat) with | some (.lst ds) => PyData.list ds | _ => .dict [(.int ((a : Nat) : Int), .none)]) := rfl
      rw [e2] at e
      split at e <;> cases e
end
section
variable {K : PySem.W.Frag} {J H : Hp} {ω : Wd}
theorem cellD_dp (w : Rw K J H ω) (a : Addr) (c : (cellD ω a).canLay0 = true) : Dp K H (.ref a) (cellD ω a) := by
  unfold cellD at c ⊢
  split at c
  · rename_i ds e
    obtain ⟨vs, h1, h2⟩ := w.cell a _ e
    exact .lst (SqL.of h1) (dpAll_mono w.jh _ _ (rpAll_dp _ _ (by simpa only [PyData.canLay0] using c) h2))
  · rename_i N d e
    obtain ⟨s, r, _⟩ := w.cell a _ e
    exact dp_mono s _ _ (rp_dp _ _ c r)
  · simp [PyData.canLay0] at c
mutual
theorem full_dp (w : Rw K J H ω) : ∀ (d : PyData) (v : V), (full ω d).canLay0 = true → Rp K J v d → Dp K H v (full ω d)
  | .none, _, _, h => by cases h; simp only [full]; exact .non
  | .bool b, _, _, h => by cases h; simp only [full]; exact .bl b
  | .int i, _, _, h => by cases h; simp only [full]; exact .int i
  | .str x, _, _, h => by cases h; simp only [full]; exact .str x
  | .list ds, _, c, h => by
    cases h with
    | lst hs ha =>
      simp only [full] at c ⊢
      exact .lst (SqL.of (w.jh _ _ hs)) (fullAll_dp w ds _ (by simpa only [PyData.canLay0] using c) ha)
  | .tuple ds, _, c, h => by
    cases h with
    | tup hs ha =>
      simp only [full] at c ⊢
      exact .tup (Same.sqT w.jh hs) (fullAll_dp w ds _ (by simpa only [PyData.canLay0] using c) ha)
  | .dict _, _, c, h => by
    cases h with
    | ref a =>
      simp only [full, Int.toNat_natCast] at c ⊢
      exact cellD_dp w _ c
    | scr hs => simp [full, PyData.canLay0] at c
    | pub _ => simp [full, PyData.canLay0] at c
    | dic _ _ => simp [full, PyData.canLay0] at c
    | obj _ _ => simp [full, PyData.canLay0] at c
theorem fullAll_dp (w : Rw K J H ω) : ∀ (ds : List PyData) (vs : List V), PyData.canLayAll0 (fullAll ω ds) = true → RpAll K J vs ds → DpAll K H vs (fullAll ω ds)
  | [], _, _, h => by cases h; simp only [fullAll]; exact .nil
  | d :: ds, _, c, h => by
    simp only [fullAll, PyData.canLayAll0, Bool.and_eq_true] at c
    cases h with
    | cons h1 h2 => simp only [fullAll]; exact .cons (full_dp w d _ c.1 h1) (fullAll_dp w ds _ c.2 h2)
end
theorem Full.dp {v : V} {d e : PyData} (h : Full ω d e) (w : Rw K J H ω) (r : Rp K J v d) (c : e.canLay0 = true) : Dp K H v e := by
  rcases h with rfl | rfl
  · exact dp_mono w.jh _ _ (rp_dp _ _ c r)
  · exact full_dp w d v c r
theorem Full.rfl' {d : PyData} : Full ω d d := .inl rfl
theorem Full.cell {a : Addr} {ds : List PyData} (h : ω a = some (.lst ds)) : Full ω (refD a) (.list ds) := .inr (by simp only [full, Int.toNat_natCast, cellD, h])
theorem Full.tmp {a : Addr} {N : Hp} {d : PyData} (h : ω a = some (.tmp N d)) : Full ω (refD a) d := .inr (by simp only [full, Int.toNat_natCast, cellD, h])
end
abbrev RD2 := PyData → PyData → Wd → (PyData → Prop) → Prop
abbrev RD1 := List PyData → Wd → (PyData → Prop) → Prop
def lift2 (K : PySem.W.Frag) (rd : RD2) : R2 := fun x y H Q => ∃ J ω dx dy q, Rw K J H ω ∧ Rp K J x dx ∧ Rp K J y dy ∧ CovQ K J H ω q Q ∧ rd dx dy ω fun r => q r ω
def liftA (K : PySem.W.Frag) (rd : RD1) : List V → Hp → VK → Prop := fun xs H Q => ∃ J ω ds q, Rw K J H ω ∧ RpAll K J xs ds ∧ CovQ K J H ω q Q ∧ rd ds ω fun r => q r ω
def lift3 (K : PySem.W.Frag) (rd : PyData → Option Int → Option Int → Wd → (PyData → Prop) → Prop) : V → Option Int → Option Int → Hp → VK → Prop := fun x lo hi H Q =>
  ∃ J ω dx q, Rw K J H ω ∧ Rp K J x dx ∧ CovQ K J H ω q Q ∧ rd dx lo hi ω fun r => q r ω
section
variable {K : PySem.W.Frag} {J H : Hp} {ω : Wd} {q : DQ} {Q : VK} {v : V} {d : PyData} {vs : List V} {ds : List PyData}
theorem CovQ.now (c : CovQ K J H ω q Q) (w : Rw K J H ω) (z : q d ω) (r : Rp K J v d) : Q v H := c d ω v J H z Grow.refl w r
theorem CovQ.newL (c : CovQ K J H ω q Q) (w : Rw K J H ω) (z : q (.list ds) ω) (r : RpAll K J vs ds) {p : Addr} (hp : H p = none) : Q (.ref p) (upd H p (.lst vs)) :=
  c _ ω _ _ _ z (Grow.frz w hp _) (w.frz hp _) (.lst upd_same (rpAll_mono (same_new (w.jh.free hp) _) _ _ r))
theorem CovQ.newT (c : CovQ K J H ω q Q) (w : Rw K J H ω) (z : q (.tuple ds) ω) (r : RpAll K J vs ds) {p : Addr} (hp : H p = none) : Q (.ref p) (upd H p (.tup vs)) :=
  c _ ω _ _ _ z (Grow.frz w hp _) (w.frz hp _) (.tup (SqT.of upd_same) (rpAll_mono (same_new (w.jh.free hp) _) _ _ r))
end
def addD : RD2 := fun x y ω Q => match rsv ω x, rsv ω y with
  | .int i, .int j => Q (.int (i + j))
  | .str a, .str b => a.length + b.length ≤ sizeLine ∧ Q (.str (a ++ b))
  | .list xs, .list ys => xs.length + ys.length ≤ sizeLine ∧ Q (.list (xs ++ ys))
  | .tuple xs, .tuple ys => xs.length + ys.length ≤ sizeLine ∧ Q (.tuple (xs ++ ys))
  | _, _ => False
def intD (P : Int → Int → Prop) (f : Int → Int → PyData) : RD2 := fun x y _ Q => match x, y with
  | .int i, .int j => P i j ∧ Q (f i j)
  | _, _ => False
def eqD : RD2 := fun x y ω Q => match x, y with
  | .str a, .str b => Q (.bool (decide (a = b)))
  | .int a, .int b => Q (.bool (decide (a = b)))
  | x, y => ∃ d e, Full ω x d ∧ Full ω y e ∧ SeqAt.shaped d = true ∧ SeqAt.shaped e = true ∧ Q (.bool (PyData.eqv d e))
def neD : RD2 := fun x y ω Q => match x, y with
  | .str a, .str b => Q (.bool (!decide (a = b)))
  | .int a, .int b => Q (.bool (!decide (a = b)))
  | x, y => ∃ d e, Full ω x d ∧ Full ω y e ∧ SeqAt.shaped d = true ∧ SeqAt.shaped e = true ∧ Q (.bool (!PyData.eqv d e))
def isNn : PyData → Bool
  | .none => true
  | _ => false
def isND : RD2 := fun x y _ Q => y = .none ∧ Q (.bool (isNn x))
def notND : RD2 := fun x y _ Q => y = .none ∧ Q (.bool (!isNn x))
def ixD : RD2 := fun x y ω Q => match rsv ω x, y with
  | .list xs, .int i => ∃ d, atI xs i = some d ∧ Q d
  | .tuple xs, .int i => ∃ d, atI xs i = some d ∧ Q d
  | .str z, .int i => z.length ≤ sizeLine ∧ ∃ c, atI z.cps.toList i = some c ∧ Q (.str ⟨#[c]⟩)
  | _, _ => False
def cutD {α : Type} (xs : List α) (lo hi : Option Int) : List α := (xs.drop (HT.sIx xs.length 0 lo)).take (HT.sIx xs.length xs.length hi - HT.sIx xs.length 0 lo)
def slD : PyData → Option Int → Option Int → Wd → (PyData → Prop) → Prop := fun x lo hi ω Q => match rsv ω x with
  | .list xs => Q (.list (cutD xs lo hi))
  | .tuple xs => Q (.tuple (cutD xs lo hi))
  | .str z => z.length ≤ sizeLine ∧ Q (.str (cutS z lo hi))
  | _ => False
def lenD : RD1 := fun xs ω Q => match xs with
  | [x] => match rsv ω x with
    | .list ys => Q (.int ys.length)
    | .tuple ys => Q (.int ys.length)
    | .str z => z.length ≤ sizeLine ∧ Q (.int z.length)
    | .dict [(.int _, .list ys)] => Q (.int ys.length)
    | _ => False
  | _ => False
def reprD : RD1 := fun xs ω Q => match xs with
  | [x] => ∃ d, Full ω x d ∧ Ok d ∧ Q (.str d.shown)
  | _ => False
def listD : RD1 := fun xs ω Q => match xs with
  | [x] => match rsv ω x with
    | .list ys => Q (.list ys)
    | .tuple ys => Q (.list ys)
    | .str z => z.length ≤ sizeLine ∧ Q (.list (z.cps.toList.map fun c => .str ⟨#[c]⟩))
    | _ => False
  | _ => False
def tupleD : RD1 := fun xs ω Q => match xs with
  | [x] => match rsv ω x with
    | .list ys => Q (.tuple ys)
    | .tuple ys => Q (.tuple ys)
    | _ => False
  | _ => False
def sumD : RD1 := fun xs ω Q => ∃ (x : PyData) (ns : List Int), xs = [x] ∧ rsv ω x = .list (ns.map PyData.int) ∧ Q (.int ns.sum)
def allD : RD1 := fun xs ω Q => ∃ (x : PyData) (bs : List Bool), xs = [x] ∧ rsv ω x = .list (bs.map PyData.bool) ∧ Q (.bool (bs.all id))
def anyD : RD1 := fun xs ω Q => ∃ (x : PyData) (bs : List Bool), xs = [x] ∧ rsv ω x = .list (bs.map PyData.bool) ∧ Q (.bool (bs.any id))
theorem rpAll_cut {K : PySem.W.Frag} {J : Hp} {vs : List V} {ds : List PyData} (h : RpAll K J vs ds) (lo hi : Option Int) : RpAll K J (cutV vs lo hi) (cutD ds lo hi) := by
  unfold cutV cutD
  rw [h.length]
  exact RpAll.take _ (RpAll.drop _ h)
theorem atI_rp {K : PySem.W.Frag} {J : Hp} {vs : List V} {ds : List PyData} {i : Int} {d : PyData} (h : RpAll K J vs ds) (e : atI ds i = some d) : ∃ v, atI vs i = some v ∧ Rp K J v d := by
  unfold atI at e ⊢
  rw [h.length]
  cases q : ixN ds.length i with
  | none => rw [q] at e; cases e
  | some j =>
    rw [q] at e
    exact h.getD e
theorem rpAll_ints {K : PySem.W.Frag} {J : Hp} : ∀ {ns : List Int} {vs : List V}, RpAll K J vs (ns.map PyData.int) → vs = ns.map V.int
  | [], _, h => by cases h; rfl
  | n :: ns, _, h => by
    cases h with
    | cons h1 h2 => cases h1; rw [rpAll_ints h2]; rfl
theorem rpAll_bls {K : PySem.W.Frag} {J : Hp} : ∀ {ns : List Bool} {vs : List V}, RpAll K J vs (ns.map PyData.bool) → vs = ns.map V.bl
  | [], _, h => by cases h; rfl
  | n :: ns, _, h => by
    cases h with
    | cons h1 h2 => cases h1; rw [rpAll_bls h2]; rfl
section
variable {X : Cx} {K : PySem.W.Frag}
theorem do_add (hK : X.K = K) : OpR X (binaryOp .Add) (lift2 K addD) := by
  subst hK
  intro pins s σ H x y v u Q I rx ry h
  obtain ⟨J, ω, dx, dy, q, w, hx, hy, c, z⟩ := h
  unfold addD at z
  split at z
  · rename_i i j ex ey
    obtain rfl := (rp_flat (ω := ω) hx).2.1 _ ex
    obtain rfl := (rp_flat (ω := ω) hy).2.1 _ ey
    exact op_add pins s σ H _ _ v u Q I rx ry ⟨i, j, rfl, rfl, c.now w z (.int _)⟩
  · rename_i i j ex ey
    obtain rfl := (rp_flat (ω := ω) hx).1 _ ex
    obtain rfl := (rp_flat (ω := ω) hy).1 _ ey
    exact op_add_str pins s σ H _ _ v u Q I rx ry ⟨i, j, rfl, rfl, z.1, c.now w z.2 (.str _)⟩
  · rename_i xs ys ex ey
    obtain ⟨a, vs, rfl, ha, ra⟩ := rp_list w hx ex
    obtain ⟨b, ws, rfl, hb, rb⟩ := rp_list w hy ey
    exact op_cat pins s σ H _ _ v u Q I rx ry ⟨a, b, vs, ws, rfl, rfl, ha, hb, by rw [ra.length, rb.length]; exact z.1, fun p hp => c.newL w z.2 (ra.append rb) hp⟩
  · rename_i xs ys ex ey
    obtain ⟨a, vs, rfl, ha, ra, rx2⟩ := rp_tup w hx ex
    obtain ⟨b, ws, rfl, hb, rb, ry2⟩ := rp_tup w hy ey
    refine op_catA pins s σ H _ _ v u Q I rx ry ⟨a, b, vs, ws, rfl, rfl, ha, hb, by rw [ra.length, rb.length]; exact z.1, fun e => ?_, fun _ e => ?_, fun _ _ p hp => c.newT w z.2 (ra.append rb) hp⟩
    · subst e; cases ra; exact c.now w z.2 ry2
    · subst e; cases rb; rw [List.append_nil] at z; exact c.now w z.2 rx2
  · exact False.elim z
theorem do_int {f : Value → Value → Sem Value} {C : Int → Int → Prop} {g : Int → Int → V} {P : Int → Int → Prop} {r : Int → Int → PyData} (o : OpR X f (rI C g)) (hK : X.K = K) (hc : ∀ i j, P i j → C i j) (hr : ∀ J i j, Rp K J (g i j) (r i j)) : OpR X f (lift2 K (intD P r)) := by
  intro pins s σ H x y v u Q I rx ry h
  obtain ⟨J, ω, dx, dy, q, w, hx, hy, c, z⟩ := h
  unfold intD at z
  split at z
  · cases hx; cases hy
    exact o pins s σ H _ _ v u Q I rx ry ⟨_, _, rfl, rfl, hc _ _ z.1, c.now w z.2 (hr _ _ _)⟩
  · exact False.elim z
theorem do_int0 {f : Value → Value → Sem Value} {g : Int → Int → V} {r : Int → Int → PyData} (o : OpR X f (rI0 g)) (hK : X.K = K) (hr : ∀ J i j, Rp K J (g i j) (r i j)) : OpR X f (lift2 K (intD (fun _ _ => True) r)) := by
  intro pins s σ H x y v u Q I rx ry h
  obtain ⟨J, ω, dx, dy, q, w, hx, hy, c, z⟩ := h
  unfold intD at z
  split at z
  · cases hx; cases hy
    exact o pins s σ H _ _ v u Q I rx ry ⟨_, _, rfl, rfl, c.now w z.2 (hr _ _ _)⟩
  · exact False.elim z
theorem do_sub (hK : X.K = K) : OpR X (binaryOp .Sub) (lift2 K (intD (fun _ _ => True) fun i j => .int (i - j))) := do_int0 op_sub hK fun _ _ _ => .int _
theorem do_mul (hK : X.K = K) : OpR X (binaryOp .Mult) (lift2 K (intD CMul fun i j => .int (i * j))) := do_int op_mul hK (fun _ _ h => h) fun _ _ _ => .int _
theorem do_mod (hK : X.K = K) : OpR X (binaryOp .Mod) (lift2 K (intD (fun _ j => 0 < j) fun i j => .int (i % j))) := do_int op_mod hK (fun _ _ h => h) fun _ _ _ => .int _
theorem do_fdiv (hK : X.K = K) : OpR X (binaryOp .FloorDiv) (lift2 K (intD CDiv fun i j => .int (i / j))) := do_int op_fdiv hK (fun _ _ h => h) fun _ _ _ => .int _
theorem do_lt (hK : X.K = K) : OpR X (compareOp .Lt) (lift2 K (intD (fun _ _ => True) fun i j => .bool (decide (i < j)))) := do_int0 op_lt hK fun _ _ _ => .bl _
theorem do_le (hK : X.K = K) : OpR X (compareOp .LtE) (lift2 K (intD (fun _ _ => True) fun i j => .bool (decide (i ≤ j)))) := do_int0 op_le hK fun _ _ _ => .bl _
theorem do_gt (hK : X.K = K) : OpR X (compareOp .Gt) (lift2 K (intD (fun _ _ => True) fun i j => .bool (decide (j < i)))) := do_int0 op_gt hK fun _ _ _ => .bl _
theorem do_ge (hK : X.K = K) : OpR X (compareOp .GtE) (lift2 K (intD (fun _ _ => True) fun i j => .bool (decide (j ≤ i)))) := do_int0 op_ge hK fun _ _ _ => .bl _
theorem shaped_lay {d : PyData} (h : SeqAt.shaped d = true) : d.canLay0 = true := by
  unfold SeqAt.shaped at h
  exact (Bool.and_eq_true _ _ ▸ h).1
theorem do_eq (hK : X.K = K) (hu : X.A.units + 64 < cLine) : OpR X (compareOp .Eq) (lift2 K eqD) := by
  subst hK
  intro pins s σ H x y v u Q I rx ry h
  obtain ⟨J, ω, dx, dy, q, w, hx, hy, c, z⟩ := h
  unfold eqD at z
  split at z
  · cases hx; cases hy
    refine op_eq pins s σ H _ _ v u Q I rx ry ⟨rfl, ?_⟩
    rename_i a b
    rw [show decide (V.str a = V.str b) = decide (a = b) from decide_eq_decide.mpr ⟨fun h => V.str.inj h, fun h => by rw [h]⟩]
    exact c.now w z (.bl _)
  · cases hx; cases hy
    refine op_eq pins s σ H _ _ v u Q I rx ry ⟨rfl, ?_⟩
    rename_i a b
    rw [show decide (V.int a = V.int b) = decide (a = b) from decide_eq_decide.mpr ⟨fun h => V.int.inj h, fun h => by rw [h]⟩]
    exact c.now w z (.bl _)
  · obtain ⟨d1, d2, f1, f2, z1, z2, z⟩ := z
    exact op_eqD hu pins s σ H _ _ v u Q I rx ry ⟨_, _, f1.dp w hx (shaped_lay z1), f2.dp w hy (shaped_lay z2), z1, z2, c.now w z (.bl _)⟩
theorem do_ne (hK : X.K = K) (hu : X.A.units + 64 < cLine) : OpR X (compareOp .NotEq) (lift2 K neD) := by
  subst hK
  intro pins s σ H x y v u Q I rx ry h
  obtain ⟨J, ω, dx, dy, q, w, hx, hy, c, z⟩ := h
  unfold neD at z
  split at z
  · cases hx; cases hy
    refine op_ne pins s σ H _ _ v u Q I rx ry ⟨rfl, ?_⟩
    rename_i a b
    rw [show decide (V.str a = V.str b) = decide (a = b) from decide_eq_decide.mpr ⟨fun h => V.str.inj h, fun h => by rw [h]⟩]
    exact c.now w z (.bl _)
  · cases hx; cases hy
    refine op_ne pins s σ H _ _ v u Q I rx ry ⟨rfl, ?_⟩
    rename_i a b
    rw [show decide (V.int a = V.int b) = decide (a = b) from decide_eq_decide.mpr ⟨fun h => V.int.inj h, fun h => by rw [h]⟩]
    exact c.now w z (.bl _)
  · obtain ⟨d1, d2, f1, f2, z1, z2, z⟩ := z
    exact op_neD hu pins s σ H _ _ v u Q I rx ry ⟨_, _, f1.dp w hx (shaped_lay z1), f2.dp w hy (shaped_lay z2), z1, z2, c.now w z (.bl _)⟩
theorem isNn_eq {J : Hp} {v : V} {d : PyData} (h : Rp K J v d) : decide (v = .non) = isNn d := by
  cases h <;> first | rfl | exact decide_eq_false (fun e => nomatch e)
theorem do_is (hK : X.K = K) : OpR X (compareOp .Is) (lift2 K isND) := by
  intro pins s σ H x y v u Q I rx ry h
  obtain ⟨J, ω, dx, dy, q, w, hx, hy, c, rfl, z⟩ := h
  cases hy
  exact op_isN pins s σ H _ _ v u Q I rx ry ⟨rfl, by rw [isNn_eq hx]; exact c.now w z (.bl _)⟩
theorem do_isnot (hK : X.K = K) : OpR X (compareOp .IsNot) (lift2 K notND) := by
  intro pins s σ H x y v u Q I rx ry h
  obtain ⟨J, ω, dx, dy, q, w, hx, hy, c, rfl, z⟩ := h
  cases hy
  exact op_notN pins s σ H _ _ v u Q I rx ry ⟨rfl, by rw [isNn_eq hx]; exact c.now w z (.bl _)⟩
theorem do_ix (hK : X.K = K) : IxR X (lift2 K ixD) := by
  subst hK
  intro value slice pins s σ H x y v u Q I rx ry h hs
  obtain ⟨J, ω, dx, dy, q, w, hx, hy, c, z⟩ := h
  unfold ixD at z
  split at z
  · rename_i xs i ex
    cases hy
    obtain ⟨d, z1, z⟩ := z
    obtain ⟨a, vs, rfl, ha, ra⟩ := rp_list w hx ex
    obtain ⟨y, e1, e2⟩ := atI_rp ra z1
    exact ix_list value slice pins s σ H _ _ v u Q I rx ry ⟨a, vs, i, y, rfl, rfl, SqL.of ha, e1, c.now w z e2⟩ hs
  · rename_i xs i ex
    cases hy
    obtain ⟨d, z1, z⟩ := z
    obtain ⟨a, vs, rfl, ha, ra, _⟩ := rp_tup w hx ex
    obtain ⟨y, e1, e2⟩ := atI_rp ra z1
    exact ix_tup value slice pins s σ H _ _ v u Q I rx ry ⟨a, vs, i, y, rfl, rfl, ha, e1, c.now w z e2⟩ hs
  · rename_i zz i ex
    cases hy
    obtain ⟨z0, cc, z1, z⟩ := z
    obtain rfl := (rp_flat (ω := ω) hx).1 _ ex
    exact ix_str value slice pins s σ H _ _ v u Q I rx ry ⟨zz, i, cc, rfl, rfl, z0, z1, c.now w z (.str _)⟩ hs
  · exact False.elim z
theorem do_sl (hK : X.K = K) : SlR X (lift3 K slD) := by
  subst hK
  intro pins s σ H x v vl vu lo hi sl Q I rx hs pl pu h
  obtain ⟨J, ω, dx, q, w, hx, c, z⟩ := h
  unfold slD at z
  split at z
  · rename_i xs ex
    obtain ⟨a, vs, rfl, ha, ra⟩ := rp_list w hx ex
    exact sl_list pins s σ H _ v vl vu lo hi sl Q I rx hs pl pu ⟨a, vs, rfl, SqL.of ha, fun p hp => c.newL w z (rpAll_cut ra lo hi) hp⟩
  · rename_i xs ex
    obtain ⟨a, vs, rfl, ha, ra, rt⟩ := rp_tup w hx ex
    refine sl_tupA pins s σ H _ v vl vu lo hi sl Q I rx hs pl pu ⟨a, vs, rfl, ha, fun e => ?_, fun _ p hp => c.newT w z (rpAll_cut ra lo hi) hp⟩
    have e1 : cutD xs lo hi = xs := by
      unfold cutD
      rw [← ra.length, e.1, e.2, List.drop_zero, Nat.sub_zero, ra.length, List.take_length]
    rw [e1] at z
    exact c.now w z rt
  · rename_i zz ex
    obtain rfl := (rp_flat (ω := ω) hx).1 _ ex
    exact sl_str pins s σ H _ v vl vu lo hi sl Q I rx hs pl pu ⟨zz, rfl, z.1, c.now w z.2 (.str _)⟩
  · exact False.elim z
theorem dc_len (hK : X.K = K) : CallR X (.builtin "len") (liftA K lenD) := by
  subst hK
  intro pins s σ H xs us Q I rel h
  obtain ⟨J, ω, ds, q, w, hx, c, z⟩ := h
  unfold lenD at z
  split at z
  · rename_i x
    cases hx with
    | cons hx h0 =>
    cases h0
    split at z
    · rename_i ys ex
      obtain ⟨a, vs, rfl, ha, ra⟩ := rp_list w hx ex
      exact call_len_seq pins s σ H _ us Q I rel ⟨a, vs, rfl, .inl (SqL.of ha), by rw [ra.length]; exact c.now w z (.int _)⟩
    · rename_i ys ex
      obtain ⟨a, vs, rfl, ha, ra, _⟩ := rp_tup w hx ex
      exact call_len_seq pins s σ H _ us Q I rel ⟨a, vs, rfl, .inr ha, by rw [ra.length]; exact c.now w z (.int _)⟩
    · rename_i zz ex
      obtain rfl := (rp_flat (ω := ω) hx).1 _ ex
      exact call_len_str pins s σ H _ us Q I rel ⟨zz, rfl, z.1, c.now w z.2 (.int _)⟩
    · rename_i i0 ys ex
      have key : ∀ (d : PyData) (v : V), Rp X.K J v d → rsv ω d = .dict [(.int i0, .list ys)] → ∃ (a : Addr) (ns : List Int), v = .ref a ∧ SqL X.K J a (ns.map V.int) ∧ ys = ns.map PyData.int := by
        intro d v h e
        cases h with
        | ref a =>
          have e2 : (match ω (((a : Nat) : Int).toNat) with | some (.lst ds) => PyData.list ds | _ => .dict [(.int ((a : Nat) : Int), .none)]) = _ := e
          split at e2 <;> cases e2
        | scr hs => cases e; exact ⟨_, _, rfl, hs, rfl⟩
        | pub _ => cases e
        | dic _ _ => cases e
        | obj _ _ => cases e
        | non => cases e
        | bl _ => cases e
        | int _ => cases e
        | str _ => cases e
        | lst _ _ => cases e
        | tup _ _ => cases e
      obtain ⟨a, ns, rfl, hs, rfl⟩ := key _ _ hx ex
      refine call_len_seq pins s σ H _ us Q I rel ⟨a, _, rfl, .inl (w.jh.seq hs), ?_⟩
      rw [List.length_map] at z ⊢
      exact c.now w z (.int _)
    · exact False.elim z
  · exact False.elim z
theorem dc_repr (hK : X.K = K) (gd : X.A.guards = some []) (hu : X.A.units + 64 < cLine) : CallR X (.builtin "repr") (liftA K reprD) := by
  subst hK
  intro pins s σ H xs us Q I rel h
  obtain ⟨J, ω, ds, q, w, hx, c, z⟩ := h
  unfold reprD at z
  split at z
  · cases hx with
    | cons hx h0 =>
    cases h0
    obtain ⟨d, f, ok, z⟩ := z
    exact call_repr gd hu pins s σ H _ us Q I rel ⟨_, _, rfl, f.dp w hx (fine_lay _ ok.1), ok, c.now w z (.str _)⟩
  · exact False.elim z
theorem dc_list (hK : X.K = K) (hc : X.calm = true) : CallR X (.type "list") (liftA K listD) := by
  subst hK
  intro pins s σ H xs us Q I rel h
  obtain ⟨J, ω, ds, q, w, hx, c, z⟩ := h
  unfold listD at z
  split at z
  · cases hx with
    | cons hx h0 =>
    cases h0
    split at z
    · rename_i ys ex
      obtain ⟨a, vs, rfl, ha, ra⟩ := rp_list w hx ex
      exact call_list_of pins s σ H _ us Q I rel ⟨a, vs, rfl, .inl (SqL.of ha), fun p hp => c.newL w z ra hp⟩
    · rename_i ys ex
      obtain ⟨a, vs, rfl, ha, ra, _⟩ := rp_tup w hx ex
      exact call_list_of pins s σ H _ us Q I rel ⟨a, vs, rfl, .inr ha, fun p hp => c.newL w z ra hp⟩
    · rename_i zz ex
      obtain rfl := (rp_flat (ω := ω) hx).1 _ ex
      exact call_listS hc pins s σ H _ us Q I rel ⟨zz, rfl, z.1, fun p hp => c.newL w z.2 (rpAll_sgn zz) hp⟩
    · exact False.elim z
  · exact False.elim z
theorem dc_tuple (hK : X.K = K) : CallR X (.type "tuple") (liftA K tupleD) := by
  subst hK
  intro pins s σ H xs us Q I rel h
  obtain ⟨J, ω, ds, q, w, hx, c, z⟩ := h
  unfold tupleD at z
  split at z
  · cases hx with
    | cons hx h0 =>
    cases h0
    split at z
    · rename_i ys ex
      obtain ⟨a, vs, rfl, ha, ra⟩ := rp_list w hx ex
      exact call_tuple_of pins s σ H _ us Q I rel ⟨a, vs, rfl, .inl ⟨SqL.of ha, fun p hp => c.newT w z ra hp⟩⟩
    · rename_i ys ex
      obtain ⟨a, vs, rfl, ha, ra, rt⟩ := rp_tup w hx ex
      exact call_tuple_of pins s σ H _ us Q I rel ⟨a, vs, rfl, .inr ⟨ha, c.now w z rt⟩⟩
    · exact False.elim z
  · exact False.elim z
theorem dc_sum (hK : X.K = K) (hc : X.calm = true) : CallR X (.builtin "sum") (liftA K sumD) := by
  subst hK
  intro pins s σ H xs us Q I rel h
  obtain ⟨J, ω, ds, q, w, hx, c, x, ns, rfl, ex, z⟩ := h
  cases hx with
  | cons hx h0 =>
  cases h0
  obtain ⟨a, vs, rfl, ha, ra⟩ := rp_list w hx ex
  rw [rpAll_ints ra] at ha
  exact cr_sum hc pins s σ H _ us Q I rel ⟨a, ns, rfl, SqL.of ha, c.now w z (.int _)⟩
theorem dc_all (hK : X.K = K) (hc : X.calm = true) : CallR X (.builtin "all") (liftA K allD) := by
  subst hK
  intro pins s σ H xs us Q I rel h
  obtain ⟨J, ω, ds, q, w, hx, c, x, ns, rfl, ex, z⟩ := h
  cases hx with
  | cons hx h0 =>
  cases h0
  obtain ⟨a, vs, rfl, ha, ra⟩ := rp_list w hx ex
  rw [rpAll_bls ra] at ha
  exact cr_all hc pins s σ H _ us Q I rel ⟨a, ns, rfl, SqL.of ha, c.now w z (.bl _)⟩
theorem dc_any (hK : X.K = K) (hc : X.calm = true) : CallR X (.builtin "any") (liftA K anyD) := by
  subst hK
  intro pins s σ H xs us Q I rel h
  obtain ⟨J, ω, ds, q, w, hx, c, x, ns, rfl, ex, z⟩ := h
  cases hx with
  | cons hx h0 =>
  cases h0
  obtain ⟨a, vs, rfl, ha, ra⟩ := rp_list w hx ex
  rw [rpAll_bls ra] at ha
  exact cr_any hc pins s σ H _ us Q I rel ⟨a, ns, rfl, SqL.of ha, c.now w z (.bl _)⟩
end
end Tx

namespace Tx
open PySem PySem.Spec PyProof.Rows L2
/-! ## Rules over data: expressions -/
def dVar (i : Nat) (ρ : DS) (ω : Wd) (q : DQ) (_ : DXK) : Prop := match ρ[i]? with
  | some (some d) => q d ω
  | _ => False
def dC (d : PyData) (_ : DS) (ω : Wd) (q : DQ) (_ : DXK) : Prop := q d ω
def dOp (rd : RD2) (ta tb : DTE) (ρ : DS) (ω : Wd) (q : DQ) (x : DXK) : Prop := ta ρ ω (fun a ω1 => tb ρ ω1 (fun b ω2 => rd a b ω2 fun r => q r ω2) x) x
def dTest (t : DTE) (ρ : DS) (ω : Wd) (q : Bool → Wd → Prop) (x : DXK) : Prop := t ρ ω (fun r ω1 => match r with
  | .bool b => q b ω1
  | _ => False) x
def dChain (rd rd' : RD2) (ta tb tc : DTE) (ρ : DS) (ω : Wd) (q : DQ) (x : DXK) : Prop := ta ρ ω (fun a ω1 => tb ρ ω1 (fun b ω2 => rd a b ω2 fun r => match r with
  | .bool k => if k = true then tc ρ ω2 (fun c ω3 => rd' b c ω3 fun r' => q r' ω3) x else q (.bool false) ω2
  | _ => False) x) x
def dAnd (t u : DTT) (ρ : DS) (ω : Wd) (q : Bool → Wd → Prop) (x : DXK) : Prop := t ρ ω (fun b ω1 => if b = true then u ρ ω1 q x else q false ω1) x
def dOr (t u : DTT) (ρ : DS) (ω : Wd) (q : Bool → Wd → Prop) (x : DXK) : Prop := t ρ ω (fun b ω1 => if b = true then q true ω1 else u ρ ω1 q x) x
def dNot (t : DTT) (ρ : DS) (ω : Wd) (q : Bool → Wd → Prop) (x : DXK) : Prop := t ρ ω (fun b ω1 => q (!b) ω1) x
def dAndV (ta tb : DTE) (ρ : DS) (ω : Wd) (q : DQ) (x : DXK) : Prop := ta ρ ω (fun a ω1 => match a with
  | .bool b => if b = true then tb ρ ω1 q x else q (.bool false) ω1
  | _ => False) x
def dOrV (ta tb : DTE) (ρ : DS) (ω : Wd) (q : DQ) (x : DXK) : Prop := ta ρ ω (fun a ω1 => match a with
  | .bool b => if b = true then q (.bool true) ω1 else tb ρ ω1 q x
  | _ => False) x
def dNotV (ta : DTE) (ρ : DS) (ω : Wd) (q : DQ) (x : DXK) : Prop := ta ρ ω (fun a ω1 => match a with
  | .bool b => q (.bool (!b)) ω1
  | _ => False) x
def dNeg (ta : DTE) (ρ : DS) (ω : Wd) (q : DQ) (x : DXK) : Prop := ta ρ ω (fun r ω1 => match r with
  | .int i => q (.int (-i)) ω1
  | _ => False) x
def dIf (t : DTT) (ta tb : DTE) (ρ : DS) (ω : Wd) (q : DQ) (x : DXK) : Prop := t ρ ω (fun b ω1 => if b = true then ta ρ ω1 q x else tb ρ ω1 q x) x
def dNil (_ : DS) (ω : Wd) (q : List PyData → Wd → Prop) (_ : DXK) : Prop := q [] ω
def dCons (te : DTE) (ta : DTA) (ρ : DS) (ω : Wd) (q : List PyData → Wd → Prop) (x : DXK) : Prop := te ρ ω (fun a ω1 => ta ρ ω1 (fun as ω2 => q (a :: as) ω2) x) x
def dLst (ta : DTA) (ρ : DS) (ω : Wd) (q : DQ) (x : DXK) : Prop := ta ρ ω (fun as ω1 => as.length ≤ sizeLine ∧ q (.list as) ω1) x
def dTup (ta : DTA) (ρ : DS) (ω : Wd) (q : DQ) (x : DXK) : Prop := ta ρ ω (fun as ω1 => as.length ≤ sizeLine ∧ q (.tuple as) ω1) x
/-- [..], a list of one's own -/
def dLstO (ta : DTA) (ρ : DS) (ω : Wd) (q : DQ) (x : DXK) : Prop := ta ρ ω (fun as ω1 => as.length ≤ sizeLine ∧ ∀ a, ω1 a = none → q (refD a) (updW ω1 a (.lst as))) x
def dCB (rd : RD1) (ta : DTA) (ρ : DS) (ω : Wd) (q : DQ) (x : DXK) : Prop := ta ρ ω (fun as ω1 => rd as ω1 fun r => q r ω1) x
def dSl (te : DTE) (lo hi : Option DTE) (ρ : DS) (ω : Wd) (q : DQ) (x : DXK) : Prop := te ρ ω (fun a ω1 =>
  (match lo with
    | none => fun (k : Option Int → Wd → Prop) => k none ω1
    | some tl => fun k => tl ρ ω1 (fun l ω2 => match l with
      | .int i => k (some i) ω2
      | _ => False) x) fun l ω2 =>
  (match hi with
    | none => fun (k : Option Int → Wd → Prop) => k none ω2
    | some tl => fun k => tl ρ ω2 (fun l ω3 => match l with
      | .int i => k (some i) ω3
      | _ => False) x) fun h ω3 => slD a l h ω3 fun r => q r ω3) x
/-- isinstance(e, T) -/
def dIsi (f : PyData → Bool) (te : DTE) (ρ : DS) (ω : Wd) (q : DQ) (x : DXK) : Prop := te ρ ω (fun a ω1 => (match rsv ω1 a with
  | .dict _ => False
  | _ => True) ∧ q (.bool (f (rsv ω1 a))) ω1) x
section
variable {W : WX} {X : Cx} {K : PySem.W.Frag} {e a b c : Expr} {es : List Expr} {ta tb tc : DTE} {tA : DTA} {pos : Pos}
theorem Sl.var {J : Hp} {σ : L2.St} {ρ : DS} {i : Nat} {q : PyData → Prop} (s : Sl K J σ ρ) (h : match ρ[i]? with
  | some (some d) => q d
  | _ => False) : ∃ v d, σ[i]? = some (some v) ∧ Rp K J v d ∧ q d := by
  split at h
  · rename_i d e
    obtain ⟨v, h1, h2⟩ := s.2 i d e
    exact ⟨v, d, h1, h2, h⟩
  · exact False.elim h
theorem de_pe {t : TE} {td : DTE} (h : PE X e t) (k : ∀ σ H J ω ρ q x Q, Rw K J H ω → Sl K J σ ρ → CovQ K J H ω q Q → CovX K J H ω x (fun c d H => W c d σ H) → td ρ ω q x → t σ H Q) : DE W X K e td := ⟨_, h, k⟩
theorem de_var {i : Nat} (h : PE X e (tVar i)) : DE W X K e (dVar i) := ⟨_, h, fun σ H J ω ρ q x Q w s cq cx z => by
  obtain ⟨v, d, h1, h2, z⟩ := s.var (q := fun d => q d ω) z
  exact ⟨v, h1, cq.now w z h2⟩⟩
theorem de_c {v : V} {d : PyData} (h : PE X e (tC v)) (r : ∀ J, Rp K J v d) : DE W X K e (dC d) := ⟨_, h, fun σ H J ω ρ q x Q w s cq cx z => cq.now w z (r J)⟩
theorem de_non : DE W X K (.Constant .none j pos) (dC .none) := de_c pe_non fun _ => .non
theorem de_bl {bb : Bool} : DE W X K (.Constant (.bool bb) j pos) (dC (.bool bb)) := de_c pe_bl fun _ => .bl _
theorem de_int {i : Int} : DE W X K (.Constant (.int i) j pos) (dC (.int i)) := de_c pe_int fun _ => .int _
theorem de_str {z : Str} : DE W X K (.Constant (.str z) j pos) (dC (.str z)) := de_c pe_str fun _ => .str _
/-- two operands -/
theorem dOp_run {ra : TE} {rb : TE} {rd : RD2} {σ : L2.St} {H J : Hp} {ω : Wd} {ρ : DS} {q : DQ} {x : DXK} {Q : VK}
    (ka : ∀ σ H J ω ρ q x Q, Rw K J H ω → Sl K J σ ρ → CovQ K J H ω q Q → CovX K J H ω x (fun c d H => W c d σ H) → ta ρ ω q x → ra σ H Q) (kb : ∀ σ H J ω ρ q x Q, Rw K J H ω → Sl K J σ ρ → CovQ K J H ω q Q → CovX K J H ω x (fun c d H => W c d σ H) → tb ρ ω q x → rb σ H Q)
    (w : Rw K J H ω) (s : Sl K J σ ρ) (cq : CovQ K J H ω q Q) (cx : CovX K J H ω x (fun c d H => W c d σ H)) (z : dOp rd ta tb ρ ω q x) : tOp (lift2 K rd) ra rb σ H Q := by
  refine ka σ H J ω ρ _ x _ w s (fun a ω1 v J1 H1 z1 g1 w1 ra => ?_) cx z
  refine kb σ H1 J1 ω1 ρ _ x _ w1 (s.mono g1.jj) (fun b ω2 u J2 H2 z2 g2 w2 rb => ?_) (cx.step g1) z1
  exact ⟨J2, ω2, a, b, q, w2, rp_mono g2.jj _ _ ra, rb, (cq.step g1).step g2, z2⟩
theorem de_op {op : Operator} {rd : RD2} (ho : OpR X (binaryOp op) (lift2 K rd)) (ha : DE W X K a ta) (hb : DE W X K b tb) : DE W X K (.BinOp a op b pos) (dOp rd ta tb) := by
  obtain ⟨ra, pa, ka⟩ := ha
  obtain ⟨rb, pb, kb⟩ := hb
  exact ⟨_, pe_op ho pa pb, fun σ H J ω ρ q x Q w s cq cx z => dOp_run ka kb w s cq cx z⟩
theorem de_cmp {op : CmpOp} {rd : RD2} (ho : OpR X (compareOp op) (lift2 K rd)) (ha : DE W X K a ta) (hb : DE W X K b tb) (hm : behindInMarks op b = false) : DE W X K (.Compare a [op] [b] pos) (dOp rd ta tb) := by
  obtain ⟨ra, pa, ka⟩ := ha
  obtain ⟨rb, pb, kb⟩ := hb
  exact ⟨_, pe_cmpR ho pa pb hm, fun σ H J ω ρ q x Q w s cq cx z => dOp_run ka kb w s cq cx z⟩
theorem de_ix (hK : X.K = K) (ha : DE W X K a ta) (hb : DE W X K b tb) (hs : PlainIx b) : DE W X K (.Subscript a b pos) (dOp ixD ta tb) := by
  obtain ⟨ra, pa, ka⟩ := ha
  obtain ⟨rb, pb, kb⟩ := hb
  exact ⟨_, pe_ix (do_ix hK) pa pb hs, fun σ H J ω ρ q x Q w s cq cx z => dOp_run ka kb w s cq cx z⟩
theorem covT_test {J H : Hp} {ω : Wd} {q : Bool → Wd → Prop} {Q : Bool → Hp → Prop} (c : CovT K J H ω q Q) : CovQ K J H ω (fun r ω1 => match r with
  | .bool b => q b ω1
  | _ => False) (fun v H => ∃ k, v = .bl k ∧ Q k H) := by
  intro r ω' v J' H' z g w rp
  split at z
  · cases rp; exact ⟨_, rfl, c _ _ _ _ z g w⟩
  · exact False.elim z
theorem dt_cmp {op : CmpOp} {rd : RD2} (ho : OpR X (compareOp op) (lift2 K rd)) (ha : DE W X K a ta) (hb : DE W X K b tb) (hm : behindInMarks op b = false) : DT W X K (.Compare a [op] [b] pos) (dTest (dOp rd ta tb)) := by
  obtain ⟨ra, pa, ka⟩ := ha
  obtain ⟨rb, pb, kb⟩ := hb
  exact ⟨_, pt_cmpR ho pa pb hm, fun σ H J ω ρ q x Q w s cq cx z => dOp_run ka kb w s (covT_test cq) cx z⟩
theorem dt_val (ha : DE W X K a ta) (he : ∀ whole, isTrue a X.env whole = (do let v ← whole; standAt a.pos; holding [v] (truthy v)) := by intro _; rfl) : DT W X K a (dTest ta) := by
  obtain ⟨ra, pa, ka⟩ := ha
  exact ⟨_, pt_val pa he, fun σ H J ω ρ q x Q w s cq cx z => ka σ H J ω ρ _ x _ w s (covT_test cq) cx z⟩
theorem dChain_run {ra rb rc : TE} {rd rd' : RD2} {σ : L2.St} {H J : Hp} {ω : Wd} {ρ : DS} {q : DQ} {x : DXK} {Q : VK}
    (ka : ∀ σ H J ω ρ q x Q, Rw K J H ω → Sl K J σ ρ → CovQ K J H ω q Q → CovX K J H ω x (fun c d H => W c d σ H) → ta ρ ω q x → ra σ H Q) (kb : ∀ σ H J ω ρ q x Q, Rw K J H ω → Sl K J σ ρ → CovQ K J H ω q Q → CovX K J H ω x (fun c d H => W c d σ H) → tb ρ ω q x → rb σ H Q)
    (kc : ∀ σ H J ω ρ q x Q, Rw K J H ω → Sl K J σ ρ → CovQ K J H ω q Q → CovX K J H ω x (fun c d H => W c d σ H) → tc ρ ω q x → rc σ H Q)
    (w : Rw K J H ω) (s : Sl K J σ ρ) (cq : CovQ K J H ω q Q) (cx : CovX K J H ω x (fun c d H => W c d σ H)) (z : dChain rd rd' ta tb tc ρ ω q x) : tChain (lift2 K rd) (lift2 K rd') ra rb rc σ H Q := by
  refine ka σ H J ω ρ _ x _ w s (fun a ω1 v J1 H1 z1 g1 w1 ra => ?_) cx z
  refine kb σ H1 J1 ω1 ρ _ x _ w1 (s.mono g1.jj) (fun b ω2 u J2 H2 z2 g2 w2 rb => ?_) (cx.step g1) z1
  have cq2 := (cq.step g1).step g2
  refine ⟨J2, ω2, a, b, fun r ω' => ω' = ω2 ∧ (match r with
    | .bool k => if k = true then tc ρ ω2 (fun c ω3 => rd' b c ω3 fun r' => q r' ω3) x else q (.bool false) ω2
    | _ => False), w2, rp_mono g2.jj _ _ ra, rb, fun r ω' v3 J3 H3 z3 g3 w3 r3 => ?_, ?_⟩
  · obtain ⟨rfl, z3⟩ := z3
    split at z3
    · cases r3
      rename_i k
      refine ⟨k, rfl, ?_⟩
      cases k with
      | true =>
        refine iteT (kc σ H3 J3 ω' ρ _ x _ w3 ((s.mono g1.jj).mono (g2.jj.trans g3.jj)) (fun cc ω4 u4 J4 H4 z4 g4 w4 r4 => ?_) (((cx.step g1).step g2).step g3) (by simpa using z3))
        exact ⟨J4, ω4, b, cc, q, w4, rp_mono (g3.jj.trans g4.jj) _ _ rb, r4, (cq2.step g3).step g4, z4⟩
      | false => exact iteF (cq2 _ _ _ _ _ (by simpa using z3) g3 w3 (.bl _))
    · exact False.elim z3
  · have : (fun r => (fun (r : PyData) (ω' : Wd) => ω' = ω2 ∧ (match r with
      | .bool k => if k = true then tc ρ ω2 (fun c ω3 => rd' b c ω3 fun r' => q r' ω3) x else q (.bool false) ω2
      | _ => False)) r ω2) = fun (r : PyData) => (match r with
      | .bool k => if k = true then tc ρ ω2 (fun c ω3 => rd' b c ω3 fun r' => q r' ω3) x else q (.bool false) ω2
      | _ => False) := by
      funext r
      exact propext ⟨fun h => h.2, fun h => ⟨rfl, h⟩⟩
    rw [this]
    exact z2
theorem de_chain {op op' : CmpOp} {rd rd' : RD2} (ho : OpR X (compareOp op) (lift2 K rd)) (ho' : OpR X (compareOp op') (lift2 K rd')) (ha : DE W X K a ta) (hb : DE W X K b tb) (hc : DE W X K c tc) (hm : lastMarks [op, op'] [b, c] = false := by with_unfolding_all rfl) :
    DE W X K (.Compare a [op, op'] [b, c] pos) (dChain rd rd' ta tb tc) := by
  obtain ⟨ra, pa, ka⟩ := ha
  obtain ⟨rb, pb, kb⟩ := hb
  obtain ⟨rc, pc, kc⟩ := hc
  exact ⟨_, pe_chain ho ho' pa pb pc hm, fun σ H J ω ρ q x Q w s cq cx z => dChain_run ka kb kc w s cq cx z⟩
theorem dt_chain {op op' : CmpOp} {rd rd' : RD2} (ho : OpR X (compareOp op) (lift2 K rd)) (ho' : OpR X (compareOp op') (lift2 K rd')) (ha : DE W X K a ta) (hb : DE W X K b tb) (hc : DE W X K c tc) (hm : lastMarks [op, op'] [b, c] = false := by with_unfolding_all rfl) :
    DT W X K (.Compare a [op, op'] [b, c] pos) (dTest (dChain rd rd' ta tb tc)) := by
  obtain ⟨ra, pa, ka⟩ := ha
  obtain ⟨rb, pb, kb⟩ := hb
  obtain ⟨rc, pc, kc⟩ := hc
  exact ⟨_, pt_chain ho ho' pa pb pc hm, fun σ H J ω ρ q x Q w s cq cx z => dChain_run ka kb kc w s (covT_test cq) cx z⟩
theorem de_one {op} (h : DE W X K a ta) : DE W X K (.BoolOp op [a] pos) ta := by
  obtain ⟨ra, pa, ka⟩ := h
  exact ⟨_, pe_one pa, ka⟩
theorem de_and {rest : List Expr} (ha : DE W X K a ta) (hb : DE W X K (.BoolOp .And (b :: rest) pos) tb) : DE W X K (.BoolOp .And (a :: b :: rest) pos) (dAndV ta tb) := by
  obtain ⟨ra, pa, ka⟩ := ha
  obtain ⟨rb, pb, kb⟩ := hb
  refine ⟨_, pe_and pa pb, fun σ H J ω ρ q x Q w s cq cx z => ka σ H J ω ρ _ x _ w s (fun r ω1 v J1 H1 z1 g1 w1 rp => ?_) cx z⟩
  split at z1
  · cases rp
    rename_i bb
    refine ⟨bb, rfl, ?_⟩
    cases bb with
    | true => exact iteT (kb σ H1 J1 ω1 ρ q x Q w1 (s.mono g1.jj) (cq.step g1) (cx.step g1) (by simpa using z1))
    | false => exact iteF ((cq.step g1).now w1 (by simpa using z1) (.bl _))
  · exact False.elim z1
theorem de_or {rest : List Expr} (ha : DE W X K a ta) (hb : DE W X K (.BoolOp .Or (b :: rest) pos) tb) : DE W X K (.BoolOp .Or (a :: b :: rest) pos) (dOrV ta tb) := by
  obtain ⟨ra, pa, ka⟩ := ha
  obtain ⟨rb, pb, kb⟩ := hb
  refine ⟨_, pe_or pa pb, fun σ H J ω ρ q x Q w s cq cx z => ka σ H J ω ρ _ x _ w s (fun r ω1 v J1 H1 z1 g1 w1 rp => ?_) cx z⟩
  split at z1
  · cases rp
    rename_i bb
    refine ⟨bb, rfl, ?_⟩
    cases bb with
    | false => exact iteF (kb σ H1 J1 ω1 ρ q x Q w1 (s.mono g1.jj) (cq.step g1) (cx.step g1) (by simpa using z1))
    | true => exact iteT ((cq.step g1).now w1 (by simpa using z1) (.bl _))
  · exact False.elim z1
theorem de_not (ha : DE W X K a ta) : DE W X K (.UnaryOp .Not a pos) (dNotV ta) := by
  obtain ⟨ra, pa, ka⟩ := ha
  refine ⟨_, pe_not pa, fun σ H J ω ρ q x Q w s cq cx z => ka σ H J ω ρ _ x _ w s (fun r ω1 v J1 H1 z1 g1 w1 rp => ?_) cx z⟩
  split at z1
  · cases rp
    exact ⟨_, rfl, (cq.step g1).now w1 z1 (.bl _)⟩
  · exact False.elim z1
theorem de_neg (ha : DE W X K a ta) : DE W X K (.UnaryOp .USub a pos) (dNeg ta) := by
  obtain ⟨ra, pa, ka⟩ := ha
  refine ⟨_, pe_un un_neg pa, fun σ H J ω ρ q x Q w s cq cx z => ka σ H J ω ρ _ x _ w s (fun r ω1 v J1 H1 z1 g1 w1 rp => ?_) cx z⟩
  split at z1
  · cases rp
    exact ⟨_, rfl, (cq.step g1).now w1 z1 (.int _)⟩
  · exact False.elim z1
variable {sa sb : DTT}
theorem dw_and1 (h : DT W X K a sa) : DW W X K (.BoolOp .And [a] pos) sa := by
  obtain ⟨ra, pa, ka⟩ := h
  exact ⟨_, pw_and1 pa, ka⟩
theorem dw_or1 (h : DT W X K a sa) : DW W X K (.BoolOp .Or [a] pos) sa := by
  obtain ⟨ra, pa, ka⟩ := h
  exact ⟨_, pw_or1 pa, ka⟩
theorem dw_and {rest : List Expr} (ha : DT W X K a sa) (hb : DW W X K (.BoolOp .And (b :: rest) pos) sb) : DW W X K (.BoolOp .And (a :: b :: rest) pos) (dAnd sa sb) := by
  obtain ⟨ra, pa, ka⟩ := ha
  obtain ⟨rb, pb, kb⟩ := hb
  refine ⟨_, pw_and pa pb, fun σ H J ω ρ q x Q w s cq cx z => ka σ H J ω ρ _ x _ w s (fun bb ω1 J1 H1 z1 g1 w1 => ?_) cx z⟩
  cases bb with
  | true => exact iteT (kb σ H1 J1 ω1 ρ q x Q w1 (s.mono g1.jj) (cq.step g1) (cx.step g1) (by simpa using z1))
  | false => exact iteF (cq _ _ _ _ (by simpa using z1) g1 w1)
theorem dw_or {rest : List Expr} (ha : DT W X K a sa) (hb : DW W X K (.BoolOp .Or (b :: rest) pos) sb) : DW W X K (.BoolOp .Or (a :: b :: rest) pos) (dOr sa sb) := by
  obtain ⟨ra, pa, ka⟩ := ha
  obtain ⟨rb, pb, kb⟩ := hb
  refine ⟨_, pw_or pa pb, fun σ H J ω ρ q x Q w s cq cx z => ka σ H J ω ρ _ x _ w s (fun bb ω1 J1 H1 z1 g1 w1 => ?_) cx z⟩
  cases bb with
  | false => exact iteF (kb σ H1 J1 ω1 ρ q x Q w1 (s.mono g1.jj) (cq.step g1) (cx.step g1) (by simpa using z1))
  | true => exact iteT (cq _ _ _ _ (by simpa using z1) g1 w1)
theorem DW.dt (h : DW W X K a sa) : DT W X K a sa := by
  obtain ⟨ra, pa, ka⟩ := h
  exact ⟨_, pa.pt, ka⟩
theorem dt_not (h : DT W X K a sa) : DT W X K (.UnaryOp .Not a pos) (dNot sa) := by
  obtain ⟨ra, pa, ka⟩ := h
  exact ⟨_, pt_not pa, fun σ H J ω ρ q x Q w s cq cx z => ka σ H J ω ρ _ x _ w s (fun bb ω1 J1 H1 z1 g1 w1 => cq _ _ _ _ z1 g1 w1) cx z⟩
theorem de_if (hc : DT W X K c sa) (ha : DE W X K a ta) (hb : DE W X K b tb) : DE W X K (.IfExp c a b pos) (dIf sa ta tb) := by
  obtain ⟨rc, pc, kc⟩ := hc
  obtain ⟨ra, pa, ka⟩ := ha
  obtain ⟨rb, pb, kb⟩ := hb
  refine ⟨_, pe_ifExp pc pa pb, fun σ H J ω ρ q x Q w s cq cx z => kc σ H J ω ρ _ x _ w s (fun bb ω1 J1 H1 z1 g1 w1 => ?_) cx z⟩
  cases bb with
  | true => exact iteT (ka σ H1 J1 ω1 ρ q x Q w1 (s.mono g1.jj) (cq.step g1) (cx.step g1) (by simpa using z1))
  | false => exact iteF (kb σ H1 J1 ω1 ρ q x Q w1 (s.mono g1.jj) (cq.step g1) (cx.step g1) (by simpa using z1))
theorem da_nil : DAs W X K [] dNil := ⟨_, pa_nil, fun σ H J ω ρ q x Q w s cq cx z => cq _ _ _ _ _ z Grow.refl w .nil⟩
theorem da_cons (he : DE W X K e ta) (ha : DAs W X K es tA) (hs : starEach (e :: es) X.env = (false, eval e X.env) :: starEach es X.env := by rfl) : DAs W X K (e :: es) (dCons ta tA) := by
  obtain ⟨re, pe, ke⟩ := he
  obtain ⟨ra, pa, ka⟩ := ha
  refine ⟨_, pa_cons pe pa hs, fun σ H J ω ρ q x Q w s cq cx z => ke σ H J ω ρ _ x _ w s (fun r ω1 v J1 H1 z1 g1 w1 rp => ?_) cx z⟩
  refine ka σ H1 J1 ω1 ρ _ x _ w1 (s.mono g1.jj) (fun rs ω2 vs J2 H2 z2 g2 w2 rps => ?_) (cx.step g1) z1
  exact cq _ _ _ _ _ z2 (g1.trans g2) w2 (.cons (rp_mono g2.jj _ _ rp) rps)
theorem de_lst (ha : DAs W X K es tA) : DE W X K (.List es pos) (dLst tA) := by
  obtain ⟨ra, pa, ka⟩ := ha
  refine ⟨_, pe_lst pa, fun σ H J ω ρ q x Q w s cq cx z => ka σ H J ω ρ _ x _ w s (fun rs ω1 vs J1 H1 z1 g1 w1 rps => ?_) cx z⟩
  exact ⟨by rw [rps.length]; exact z1.1, fun p hp => (cq.step g1).newL w1 z1.2 rps hp⟩
theorem de_lstO (ha : DAs W X K es tA) : DE W X K (.List es pos) (dLstO tA) := by
  obtain ⟨ra, pa, ka⟩ := ha
  refine ⟨_, pe_lst pa, fun σ H J ω ρ q x Q w s cq cx z => ka σ H J ω ρ _ x _ w s (fun rs ω1 vs J1 H1 z1 g1 w1 rps => ?_) cx z⟩
  exact ⟨by rw [rps.length]; exact z1.1, fun p hp => cq _ _ _ _ _ (z1.2 p (w1.free hp).1) (g1.trans (Grow.own rfl hp _)) (w1.own rfl hp ⟨vs, upd_same, rps⟩) (.ref p)⟩
theorem de_tup {x1} (ha : DAs W X K es tA) : DE W X K (.Tuple es x1 pos) (dTup tA) := by
  obtain ⟨ra, pa, ka⟩ := ha
  refine ⟨_, pe_tup pa, fun σ H J ω ρ q x Q w s cq cx z => ka σ H J ω ρ _ x _ w s (fun rs ω1 vs J1 H1 z1 g1 w1 rps => ?_) cx z⟩
  exact ⟨by rw [rps.length]; exact z1.1, fun p hp => (cq.step g1).newT w1 z1.2 rps hp⟩
theorem de_callB {x : Str} {id : String} {rd : RD1} {p : Pos} (hc : CallR X (.builtin id) (liftA K rd)) (hg : Gl X x) (hm : X.mg x = none) (hv : bootBuiltins x = some (.builtin id)) (ha : DAs W X K (e :: es) tA) (hn : x ≠ "__name__" := by decide) (hdb : (x == ("__debug__" : Str)) = false := by decide)
    (he : starEach (e :: es) X.env = (false, eval e X.env) :: starEach es X.env := by rfl) (hpl : (backTo pos (starEach es X.env)).any (·.1) = false := by rfl) : DE W X K (.Call (.Name x p) (e :: es) [] pos) (dCB rd tA) := by
  obtain ⟨ra, pa, ka⟩ := ha
  exact ⟨_, pe_callB hc hg hm hv pa hn hdb he hpl, fun σ H J ω ρ q x Q w s cq cx z => ka σ H J ω ρ _ x _ w s (fun rs ω1 vs J1 H1 z1 g1 w1 rps => ⟨J1, ω1, rs, q, w1, rps, cq.step g1, z1⟩) cx z⟩
theorem de_callTy {x : Str} {T : String} {rd : RD1} {p : Pos} (hc : CallR X (.type T) (liftA K rd)) (hg : Gl X x) (hm : X.mg x = none) (hv : bootBuiltins x = some (.type T)) (ha : DAs W X K (e :: es) tA) (hn : x ≠ "__name__" := by decide) (hdb : (x == ("__debug__" : Str)) = false := by decide)
    (he : starEach (e :: es) X.env = (false, eval e X.env) :: starEach es X.env := by rfl) (hpl : (backTo pos (starEach es X.env)).any (·.1) = false := by rfl) : DE W X K (.Call (.Name x p) (e :: es) [] pos) (dCB rd tA) := by
  obtain ⟨ra, pa, ka⟩ := ha
  exact ⟨_, pe_callTy hc hg hm hv pa hn hdb he hpl, fun σ H J ω ρ q x Q w s cq cx z => ka σ H J ω ρ _ x _ w s (fun rs ω1 vs J1 H1 z1 g1 w1 rps => ⟨J1, ω1, rs, q, w1, rps, cq.step g1, z1⟩) cx z⟩
theorem tyx_rp {J H : Hp} {ω : Wd} {v : V} {d : PyData} (w : Rw K J H ω) (h : Rp K J v d) (nd : match rsv ω d with
  | .dict _ => False
  | _ => True) : TyX K H v (.type (tyN (rsv ω d))) := by
  cases e : rsv ω d with
  | dict _ => rw [e] at nd; exact False.elim nd
  | list xs => obtain ⟨a, vs, rfl, ha, _⟩ := rp_list w h e; exact .base (.lst ha)
  | tuple xs =>
    obtain ⟨a, vs, rfl, ha, _⟩ := rp_tup w h e
    rcases ha with (h | ⟨o, h⟩) | ⟨o, its, n, h, hc, _⟩
    · exact .base (.tup h)
    · exact .fTuple h
    · exact .kTuple h hc
  | none => rw [(rp_flat h).2.2.2 e]; exact .base .non
  | bool b => rw [(rp_flat h).2.2.1 b e]; exact .base (.bl b)
  | int i => rw [(rp_flat h).2.1 i e]; exact .base (.int i)
  | str z => rw [(rp_flat h).1 z e]; exact .base (.str z)
theorem de_isi {T : String} {f : PyData → Bool} {t : Expr} {p : Pos} (hK : X.K = K) (hk : ∀ d, kitB (tyN d) T = some (f d)) (hg : Gl X "isinstance") (hm : X.mg "isinstance" = none) (ha : DE W X K a ta) (ht : PE X t (tC (.ty T)))
    (he : starEach (a :: [t]) X.env = (false, eval a X.env) :: starEach [t] X.env := by rfl) (he2 : starEach [t] X.env = (false, eval t X.env) :: starEach [] X.env := by rfl) (hpl : (backTo pos (starEach [t] X.env)).any (·.1) = false := by rfl) :
    DE W X K (.Call (.Name "isinstance" p) [a, t] [] pos) (dIsi f ta) := by
  subst hK
  obtain ⟨ra, pa, ka⟩ := ha
  refine ⟨_, pe_callB call_isi hg hm (by decide +kernel) (pa_cons pa (pa_cons ht pa_nil he2) he) (by decide) (by decide) he hpl, fun σ H J ω ρ q x Q w s cq cx z => ka σ H J ω ρ _ x _ w s (fun r ω1 v J1 H1 z1 g1 w1 rp => ?_) cx z⟩
  exact ⟨v, .ty T, .type (tyN (rsv ω1 r)), .type T, _, rfl, .ty T, tyx_rp w1 rp z1.1, kit_ty (hk _), (cq.step g1).now w1 z1.2 (.bl _)⟩
/-! ### slices -/
structure DO (W : WX) (X : Cx) (K : PySem.W.Frag) (e : Option Expr) (td : Option DTE) : Prop where
  ex : ∃ t : TO, PO X e t ∧ ∀ σ H J ω ρ (k : Option Int → Wd → Prop) x (Q : Option Int → Hp → Prop), Rw K J H ω → Sl K J σ ρ → (∀ l ω' J' H', k l ω' → Grow J H ω J' H' ω' → Rw K J' H' ω' → Q l H') → CovX K J H ω x (fun c d H => W c d σ H) →
    (match td with
      | none => fun (k : Option Int → Wd → Prop) => k none ω
      | some tl => fun k => tl ρ ω (fun l ω2 => match l with
        | .int i => k (some i) ω2
        | _ => False) x) k → t σ H Q
theorem do_none : DO W X K none none := ⟨_, po_none, fun σ H J ω ρ k x Q w s c cx z => c _ _ _ _ z Grow.refl w⟩
theorem do_some (h : DE W X K a ta) : DO W X K (some a) (some ta) := by
  obtain ⟨ra, pa, ka⟩ := h
  refine ⟨_, po_some pa, fun σ H J ω ρ k x Q w s c cx z => ka σ H J ω ρ _ x _ w s (fun r ω1 v J1 H1 z1 g1 w1 rp => ?_) cx z⟩
  split at z1
  · cases rp; exact ⟨_, rfl, c _ _ _ _ z1 g1 w1⟩
  · exact False.elim z1
theorem de_sl {lo hi : Option Expr} {tl th : Option DTE} {p2 : Pos} (hK : X.K = K) (h : DE W X K a ta) (hl : DO W X K lo tl) (hh : DO W X K hi th) : DE W X K (.Subscript a (.Slice lo hi none p2) pos) (dSl ta tl th) := by
  obtain ⟨ra, pa, ka⟩ := h
  obtain ⟨rl, pl, kl⟩ := hl
  obtain ⟨rh, ph, kh⟩ := hh
  refine ⟨_, pe_slice (do_sl hK) pa pl ph, fun σ H J ω ρ q x Q w s cq cx z => ka σ H J ω ρ _ x _ w s (fun r ω1 v J1 H1 z1 g1 w1 rp => ?_) cx z⟩
  refine kl σ H1 J1 ω1 ρ _ x _ w1 (s.mono g1.jj) (fun l ω2 J2 H2 z2 g2 w2 => ?_) (cx.step g1) z1
  refine kh σ H2 J2 ω2 ρ _ x _ w2 ((s.mono g1.jj).mono g2.jj) (fun l ω3 J3 H3 z3 g3 w3 => ?_) ((cx.step g1).step g2) z2
  exact ⟨J3, ω3, r, q, w3, rp_mono (g2.jj.trans g3.jj) _ _ rp, ((cq.step g1).step g2).step g3, z3⟩
end
end Tx

namespace Tx
open PySem PySem.Spec PyProof.Rows L2
/-! ## Rules over data: targets, what is walked, comprehensions -/
/-- the reading of the kit that a reading over data stands for -/
def liftE (K : PySem.W.Frag) (W : WX) (td : DTE) : TE := fun σ H Q => ∃ J ω ρ q x, Rw K J H ω ∧ Sl K J σ ρ ∧ CovQ K J H ω q Q ∧ CovX K J H ω x (fun c d H => W c d σ H) ∧ td ρ ω q x
def liftT (K : PySem.W.Frag) (W : WX) (td : DTT) : TT := fun σ H Q => ∃ J ω ρ q x, Rw K J H ω ∧ Sl K J σ ρ ∧ CovT K J H ω q Q ∧ CovX K J H ω x (fun c d H => W c d σ H) ∧ td ρ ω q x
theorem DE.pe {W : WX} {X : Cx} {K : PySem.W.Frag} {e : Expr} {td : DTE} (h : DE W X K e td) : PE X e (liftE K W td) := by
  obtain ⟨t, p, k⟩ := h
  exact ⟨fun pins s σ H Q I ⟨J, ω, ρ, q, x, w, sl, cq, cx, z⟩ => p.run pins s σ H Q I (k σ H J ω ρ q x Q w sl cq cx z)⟩
theorem DT.pt {W : WX} {X : Cx} {K : PySem.W.Frag} {e : Expr} {td : DTT} (h : DT W X K e td) : PT X e (liftT K W td) := by
  obtain ⟨t, p, k⟩ := h
  exact ⟨fun pins s σ H Q I ⟨J, ω, ρ, q, x, w, sl, cq, cx, z⟩ => p.run pins s σ H Q I (k σ H J ω ρ q x Q w sl cq cx z)⟩
/-! ### targets -/
abbrev DTG := PyData → DS → (DS → Prop) → Prop
abbrev DTGs := List PyData → DS → (DS → Prop) → Prop
def liftG (K : PySem.W.Frag) (is : List Nat) (gd : DTG) : TG := fun v σ H Q => ∃ J ω ρ d k, Rw K J H ω ∧ Sl K J σ ρ ∧ Rp K J v d ∧ (∀ ρ' σ', k ρ' → Sl K J σ' ρ' → (∀ vs, (∀ i ∈ is, i ∈ vs) → wipe σ' vs = wipe σ vs) → Q σ' H) ∧ gd d ρ k
def liftGs (K : PySem.W.Frag) (is : List Nat) (gd : DTGs) : TGs := fun vs σ H Q => ∃ J ω ρ ds k, Rw K J H ω ∧ Sl K J σ ρ ∧ RpAll K J vs ds ∧ (∀ ρ' σ', k ρ' → Sl K J σ' ρ' → (∀ vs, (∀ i ∈ is, i ∈ vs) → wipe σ' vs = wipe σ vs) → Q σ' H) ∧ gd ds ρ k
def DG (X : Cx) (K : PySem.W.Frag) (tg : Expr) (is : List Nat) (gd : DTG) : Prop := PG X tg (liftG K is gd)
def DGs (X : Cx) (K : PySem.W.Frag) (tg : List Expr) (is : List Nat) (gd : DTGs) : Prop := PGs X tg (liftGs K is gd)
def dgName (i : Nat) (d : PyData) (ρ : DS) (k : DS → Prop) : Prop := k (ρ.set i (some d))
def dgNil (ds : List PyData) (ρ : DS) (k : DS → Prop) : Prop := ds = [] ∧ k ρ
def dgCons (g : DTG) (gs : DTGs) (ds : List PyData) (ρ : DS) (k : DS → Prop) : Prop := match ds with
  | d :: r => g d ρ fun ρ' => gs r ρ' k
  | [] => False
def dgTup (n : Nat) (gs : DTGs) (d : PyData) (ρ : DS) (k : DS → Prop) : Prop := match d with
  | .tuple ds => ds.length = n ∧ gs ds ρ k
  | _ => False
section
variable {X : Cx} {K : PySem.W.Frag} {tg : Expr} {es : List Expr} {is js : List Nat} {gd : DTG} {gs : DTGs}
theorem pg_weak {t t' : TG} (h : PG X tg t) (k : ∀ v σ H Q, t' v σ H Q → t v σ H Q) : PG X tg t' := ⟨fun pins s σ H x v Q I r z => h.run pins s σ H x v Q I r (k _ _ _ _ z)⟩
theorem pgs_weak {t t' : TGs} (h : PGs X es t) (k : ∀ v σ H Q, t' v σ H Q → t v σ H Q) : PGs X es t' := ⟨fun pins s σ H xs us Q I r z => h.run pins s σ H xs us Q I r (k _ _ _ _ z)⟩
theorem dg_name {i : Nat} (h : PG X tg (gName i)) : DG X K tg [i] (dgName i) := pg_weak h fun v σ H Q ⟨J, ω, ρ, d, k, w, s, r, c, z⟩ => c _ _ z (s.set i r) fun vs hv => wipe_set (hv i (by simp))
theorem dgs_nil : DGs X K [] [] dgNil := pgs_weak pgs_nil fun v σ H Q ⟨J, ω, ρ, ds, k, w, s, r, c, z⟩ => by
  obtain ⟨rfl, z⟩ := z
  cases r
  exact ⟨rfl, c _ _ z s fun _ _ => rfl⟩
theorem dgs_cons (h : DG X K tg is gd) (hs : DGs X K es js gs) (hm : (assignEach (tg :: es) X.env).map (·.2) = assign tg X.env :: (assignEach es X.env).map (·.2) := by rfl) : DGs X K (tg :: es) (is ++ js) (dgCons gd gs) := pgs_weak (pgs_cons h hs hm) fun v σ H Q ⟨J, ω, ρ, ds, k, w, s, r, c, z⟩ => by
  cases r with
  | nil => exact False.elim z
  | @cons v vs d ds r1 r2 =>
    refine ⟨v, vs, rfl, J, ω, ρ, d, _, w, s, r1, fun ρ' σ' z' s' e1 => ?_, z⟩
    exact ⟨J, ω, ρ', ds, k, w, s', r2, fun ρ'' σ'' z'' s'' e2 => c _ _ z'' s'' fun us hu => (e2 us fun i hi => hu i (List.mem_append.mpr (.inr hi))).trans (e1 us fun i hi => hu i (List.mem_append.mpr (.inl hi))), z'⟩
theorem dg_tup {k n : Nat} {pos : Pos} (hK : X.K = K) (hc : X.calm = true) (h : DGs X K es is gs) (hn : (assignEach es X.env).length = n := by rfl) (hst : (assignEach es X.env).findIdx? (·.1) = none := by rfl) : DG X K (.Tuple es k pos) is (dgTup n gs) := by
  subst hK
  refine pg_weak (pg_tup hc h hn hst) fun v σ H Q ⟨J, ω, ρ, d, k, w, s, r, c, z⟩ => ?_
  unfold dgTup at z
  split at z
  · cases r with
    | tup hs ha => exact ⟨_, _, rfl, Same.sqT w.jh hs, by rw [ha.length]; exact z.1, J, ω, ρ, _, k, w, s, ha, c, z.2⟩
  · exact False.elim z
end
/-! ### what is walked -/
abbrev DTI := DS → Wd → (List PyData → Wd → Prop) → DXK → Prop
def WalkD (K : PySem.W.Frag) (J : Hp) (I : It) (xs : List PyData) : Prop := ∃ G Y, Walk I xs.length G Y ∧ (∀ J' H', Same J J' → Same J' H' → G H') ∧
  ∀ i H v H', i < xs.length → Y i H v H' → (H' = H ∧ ∃ d, xs[i]? = some d ∧ Rp K J v d) ∨ ∃ T us ds, v = .ref T ∧ H T = none ∧ H' = upd H T (.tup us) ∧ RpAll K J us ds ∧ xs[i]? = some (.tuple ds)
structure DI (W : WX) (X : Cx) (K : PySem.W.Frag) (tg iter : Expr) (di : DTI) : Prop where
  ex : ∃ wi : TI, PI X tg iter wi ∧ ∀ σ H J ω ρ (k : List PyData → Wd → Prop) x (R : It → Hp → Prop), Rw K J H ω → Sl K J σ ρ → (∀ xs ω1 J1 H1 I, k xs ω1 → Grow J H ω J1 H1 ω1 → Rw K J1 H1 ω1 → WalkD K J1 I xs → R I H1) →
    CovX K J H ω x (fun c d H => W c d σ H) → di ρ ω k x → wi σ H R
/-- a walk over data: a list, a tuple, a text -/
def itemsD : PyData → Option (List PyData)
  | .list xs => some xs
  | .tuple xs => some xs
  | .str z => some (z.cps.toList.map fun c => .str ⟨#[c]⟩)
  | _ => none
def diData (te : DTE) (ρ : DS) (ω : Wd) (k : List PyData → Wd → Prop) (x : DXK) : Prop := te ρ ω (fun r ω1 => ∃ xs, itemsD r = some xs ∧ k xs ω1) x
def diRange1 (ta : DTA) (ρ : DS) (ω : Wd) (k : List PyData → Wd → Prop) (x : DXK) : Prop := ta ρ ω (fun rs ω1 => match rs with
  | [.int n] => -(2 ^ 62) ≤ n ∧ n < 2 ^ 62 ∧ k ((List.range n.toNat).map fun i => .int ((i : Nat) : Int)) ω1
  | _ => False) x
def diRange2 (ta : DTA) (ρ : DS) (ω : Wd) (k : List PyData → Wd → Prop) (x : DXK) : Prop := ta ρ ω (fun rs ω1 => match rs with
  | [.int a, .int b] => (-(2 ^ 62) ≤ a ∧ a < 2 ^ 62 ∧ -(2 ^ 62) ≤ b ∧ b < 2 ^ 62) ∧ k ((List.range (b - a).toNat).map fun i => .int (a + ((i : Nat) : Int))) ω1
  | _ => False) x
def enumD (xs : List PyData) : List PyData := xs.mapIdx fun i x => .tuple [.int ((i : Nat) : Int), x]
def diEnum (ta : DTA) (ρ : DS) (ω : Wd) (k : List PyData → Wd → Prop) (x : DXK) : Prop := ta ρ ω (fun rs ω1 => match rs with
  | [.list xs] => k (enumD xs) ω1
  | _ => False) x
section
variable {X : Cx} {K : PySem.W.Frag}
/-- a list, a tuple or a text, as it comes -/
theorem pi_data {tg e : Expr} {t : TE} (h : PE X e t) : PI X tg e (fun σ H R => t σ H fun x H1 => (∃ a, x = .ref a ∧ (∃ xs, SqL X.K H1 a xs) ∧ R (Itl X.K a) H1) ∨ (∃ a, x = .ref a ∧ (∃ xs, SqT X.K H1 a xs) ∧ R (Itt X.K a) H1) ∨ ∃ z, x = .str z ∧ R (Its z) H1) := by
  refine ⟨fun pins s σ H R I q => ?_⟩
  refine thn (h.run pins s σ H _ I q) fun v s1 ⟨x, H1, I1, r1, q1⟩ => ?_
  rcases q1 with ⟨a, rfl, ⟨xs, hq⟩, q⟩ | ⟨a, rfl, ⟨xs, hq⟩, q⟩ | ⟨z, rfl, q⟩
  · cases r1
    obtain ⟨its, rv, p, hz⟩ := I1.list hq
    refine wpAny_pyIter_list p.isList ?_
    refine ⟨s1.heap.objs.size, [s1.heap.objs.size], _, _, H1, rfl, I1.kept (t' := s1.toks) fun b o e => Heap.get?_push_of_some _ e, turn_list a _, ⟨_, Heap.get?_push_size _ rfl, rfl, rfl⟩, fun b hb => ?_, q⟩
    have e : b = s1.heap.objs.size := by simpa using hb
    subst e
    exact I1.fpOk (Nat.le_refl _) (I1.hok.fresh (Nat.le_refl _))
  · cases r1
    obtain ⟨its, rv, p, hz⟩ := I1.tuple hq
    refine wpAny_pyIter_tuple (show s1.heap.IsTuple a its.toArray from p) ?_
    refine ⟨s1.heap.objs.size, [s1.heap.objs.size], _, _, H1, rfl, I1.kept (t' := s1.toks) fun b o e => Heap.get?_push_of_some _ e, turn_tuple a _, ⟨_, Heap.get?_push_size _ rfl, rfl, rfl⟩, fun b hb => ?_, q⟩
    have e : b = s1.heap.objs.size := by simpa using hb
    subst e
    exact I1.fpOk (Nat.le_refl _) (I1.hok.fresh (Nat.le_refl _))
  · obtain ⟨t, rfl⟩ := r1
    cases ha : z.cps.all (· < 128)
    · exact wpAny_pyIter_wide ha (pi_one (tk := s1.toks) I1 _ (turn_str _ z t "str_iterator" (.inr rfl)) ⟨_, Heap.get?_push_size _ rfl, rfl, rfl⟩ q)
    · exact wpAny_pyIter_ascii ha (pi_one (tk := s1.toks) I1 _ (turn_str _ z t "str_ascii_iterator" (.inl rfl)) ⟨_, Heap.get?_push_size _ rfl, rfl, rfl⟩ q)
theorem walkD_list {J : Hp} {a : Addr} {vs : List V} {xs : List PyData} (h : J a = some (.lst vs)) (r : RpAll K J vs xs) : WalkD K J (Itl K a) xs := by
  refine ⟨_, _, by rw [← r.length]; exact walk_list (xs := vs), fun J' H' s1 s2 => SqL.of (s2 _ _ (s1 _ _ h)), fun i H v H' hi y => ?_⟩
  exact .inl ⟨y.1, r.get y.2⟩
theorem walkD_tup {J : Hp} {a : Addr} {vs : List V} {xs : List PyData} (h : SqT K J a vs) (r : RpAll K J vs xs) : WalkD K J (Itt K a) xs := by
  refine ⟨_, _, by rw [← r.length]; exact walk_tup (xs := vs), fun J' H' s1 s2 => Same.sqT s2 (Same.sqT s1 h), fun i H v H' hi y => ?_⟩
  exact .inl ⟨y.1, r.get y.2⟩
theorem walkD_str {J : Hp} {z : Str} : WalkD K J (Its z) (z.cps.toList.map fun c => .str ⟨#[c]⟩) := by
  refine ⟨_, _, by rw [List.length_map, Array.length_toList]; exact walk_str (z := z), fun _ _ _ _ => trivial, fun i H v H' hi y => ?_⟩
  obtain ⟨c, e, rfl⟩ := y.2
  exact .inl ⟨y.1, _, by rw [List.getElem?_map, Array.getElem?_toList, e]; rfl, .str _⟩
theorem walkD_range {J : Hp} {lo : Int} {n : Nat} : WalkD K J (Itr lo n) ((List.range n).map fun i => .int (lo + ((i : Nat) : Int))) := by
  refine ⟨_, _, by rw [List.length_map, List.length_range]; exact walk_range (lo := lo) (n := n), fun _ _ _ _ => trivial, fun i H v H' hi y => ?_⟩
  rw [List.length_map, List.length_range] at hi
  exact .inl ⟨y.1, _, by rw [List.getElem?_map, List.getElem?_range hi]; rfl, by rw [y.2]; exact .int _⟩
theorem walkD_enum {J : Hp} {a : Addr} {vs : List V} {xs : List PyData} (h : J a = some (.lst vs)) (r : RpAll K J vs xs) : WalkD K J (Ite K a) (enumD xs) := by
  refine ⟨_, _, by unfold enumD; rw [List.length_mapIdx, ← r.length]; exact walk_enum (xs := vs), fun J' H' s1 s2 => SqL.of (s2 _ _ (s1 _ _ h)), fun i H v H' hi y => .inr ?_⟩
  obtain ⟨T, x, y, e1, e2, e3, e4, e5⟩ := y
  obtain ⟨d, e6, e7⟩ := r.get e5
  cases e4
  exact ⟨T, _, [.int ((i : Nat) : Int), d], e1, e2, e3, .cons (.int _) (.cons e7 .nil), by unfold enumD; rw [List.getElem?_mapIdx, e6]; rfl⟩
variable {W : WX} {tg e : Expr} {td : DTE} {tA : DTA}
theorem di_data (hK : X.K = K) (h : DE W X K e td) : DI W X K tg e (diData td) := by
  subst hK
  obtain ⟨t, p, k⟩ := h
  refine ⟨_, pi_data p, fun σ H J ω ρ kk x R w s c cx z => k σ H J ω ρ _ x _ w s (fun r ω1 v J1 H1 z1 g1 w1 rp => ?_) cx z⟩
  obtain ⟨xs, e1, z2⟩ := z1
  cases rp with
  | lst hs ha => cases e1; exact .inl ⟨_, rfl, ⟨_, SqL.of (w1.jh _ _ hs)⟩, c _ _ _ _ _ z2 g1 w1 (walkD_list hs ha)⟩
  | tup hs ha => cases e1; exact .inr (.inl ⟨_, rfl, ⟨_, Same.sqT w1.jh hs⟩, c _ _ _ _ _ z2 g1 w1 (walkD_tup hs ha)⟩)
  | str y => cases e1; exact .inr (.inr ⟨_, rfl, c _ _ _ _ _ z2 g1 w1 walkD_str⟩)
  | non => cases e1
  | bl _ => cases e1
  | int _ => cases e1
  | ref _ => cases e1
  | scr _ => cases e1
  | pub _ => cases e1
  | dic _ _ => cases e1
  | obj _ _ => cases e1
theorem di_range1 {a : Expr} {p pos : Pos} (hg : Gl X "range") (hm : X.mg "range" = none) (ha : DAs W X K [a] tA) (hs : starEach [a] X.env = [(false, eval a X.env)] := by rfl) : DI W X K tg (.Call (.Name "range" p) [a] [] pos) (diRange1 tA) := by
  obtain ⟨t, pp, k⟩ := ha
  refine ⟨_, pi_range1 hg hm pp hs, fun σ H J ω ρ kk x R w s c cx z => k σ H J ω ρ _ x _ w s (fun rs ω1 vs J1 H1 z1 g1 w1 rps => ?_) cx z⟩
  split at z1
  · cases rps with
    | cons r1 r2 =>
      cases r1
      cases r2
      refine ⟨_, rfl, z1.1, z1.2.1, c _ _ _ _ _ z1.2.2 g1 w1 ?_⟩
      have := walkD_range (K := K) (J := J1) (lo := 0) (n := Int.toNat (by assumption))
      simpa using this
  · exact False.elim z1
theorem di_range2 {a b : Expr} {p pos : Pos} (hg : Gl X "range") (hm : X.mg "range" = none) (ha : DAs W X K [a, b] tA) (hs : starEach [a, b] X.env = [(false, eval a X.env), (false, eval b X.env)] := by rfl) (hs2 : starEach [b] X.env = [(false, eval b X.env)] := by rfl) : DI W X K tg (.Call (.Name "range" p) [a, b] [] pos) (diRange2 tA) := by
  obtain ⟨t, pp, k⟩ := ha
  refine ⟨_, pi_range2 hg hm pp hs hs2, fun σ H J ω ρ kk x R w s c cx z => k σ H J ω ρ _ x _ w s (fun rs ω1 vs J1 H1 z1 g1 w1 rps => ?_) cx z⟩
  split at z1
  · cases rps with
    | cons r1 r2 =>
      cases r1
      cases r2 with
      | cons r3 r4 =>
        cases r3
        cases r4
        exact ⟨_, _, rfl, z1.1, c _ _ _ _ _ z1.2 g1 w1 walkD_range⟩
  · exact False.elim z1
theorem di_enum {a : Expr} {p pos tpos : Pos} {elts : List Expr} {kk : Nat} (hK : X.K = K) (hg : Gl X "enumerate") (hm : X.mg "enumerate" = none) (ha : DAs W X K [a] tA) (hs : starEach [a] X.env = [(false, eval a X.env)] := by rfl) :
    DI W X K (.Tuple elts kk tpos) (.Call (.Name "enumerate" p) [a] [] pos) (diEnum tA) := by
  subst hK
  obtain ⟨t, pp, k⟩ := ha
  refine ⟨_, pi_enum hg hm pp hs, fun σ H J ω ρ kk x R w s c cx z => k σ H J ω ρ _ x _ w s (fun rs ω1 vs J1 H1 z1 g1 w1 rps => ?_) cx z⟩
  split at z1
  · cases rps with
    | cons r1 r2 =>
      cases r2
      cases r1 with
      | lst hs ha => exact ⟨_, _, rfl, SqL.of (w1.jh _ _ hs), c _ _ _ _ _ z1 g1 w1 (walkD_enum hs ha)⟩
  · exact False.elim z1
end
/-! ### comprehensions -/
abbrev W0 : WX := fun _ _ _ _ => False
abbrev X0 : DXK := fun _ _ _ => False
structure DTs (W : WX) (X : Cx) (K : PySem.W.Frag) (ifs : List Expr) (td : DTT) : Prop where
  ps : PTs X ifs (liftT K W td)
def dYes (_ : DS) (ω : Wd) (q : Bool → Wd → Prop) (_ : DXK) : Prop := q true ω
theorem dts_nil {W : WX} {X : Cx} {K : PySem.W.Frag} : DTs W X K [] dYes :=
  ⟨⟨fun pins s σ H Q I ⟨J, ω, ρ, q, x, w, sl, cq, cx, z⟩ => (pts_nil (X := X)).run pins s σ H Q I (cq _ _ _ _ z Grow.refl w)⟩⟩
theorem dts_one {W : WX} {X : Cx} {K : PySem.W.Frag} {c : Expr} {td : DTT} (h : DT W X K c td) : DTs W X K [c] td := ⟨pts_one h.pt⟩
def dLc (di : DTI) (gd : DTG) (tt : DTT) (te : DTE) (vs : List Nat) (ρ : DS) (ω : Wd) (q : DQ) (x : DXK) : Prop := di ρ ω (fun xs ω1 => xs.length ≤ sizeLine ∧ ∃ Inv : Nat → List PyData → Wd → Prop, Inv 0 [] ω1 ∧
  (∀ i y acc ω2, xs[i]? = some y → Inv i acc ω2 → acc.length ≤ i → gd y (wipeD ρ vs) fun ρ' => tt ρ' ω2 (fun b ω3 => if b = true then te ρ' ω3 (fun r ω4 => Inv (i + 1) (acc ++ [r]) ω4) X0 else Inv (i + 1) acc ω3) X0) ∧
  ∀ acc ω2, acc.length ≤ xs.length → Inv xs.length acc ω2 → q (.list acc) ω2) x
theorem wipe_wipe (σ : L2.St) (vs : List Nat) : wipe (wipe σ vs) vs = wipe σ vs := by
  have key : ∀ (ws : List Nat) (σ : L2.St), (∀ i ∈ ws, i ∈ vs) → wipe (wipe σ ws) vs = wipe σ vs := by
    intro ws
    induction ws with
    | nil => intro σ _; rfl
    | cons i ws ih =>
      intro σ h
      show wipe ((wipe σ ws).set i none) vs = wipe σ vs
      rw [wipe_set (h i (by simp)), ih σ fun j hj => h j (List.mem_cons_of_mem _ hj)]
  exact key vs σ fun _ h => h
section
variable {K : PySem.W.Frag} {J J1 H H1 : Hp} {ω ω1 : Wd} {D : Addr}
/-- a list that is being made, neither data yet nor a cell -/
theorem Grow.loc (g : Grow J H ω J1 H1 ω1) (hD : H D = none) (o : HO) : Grow J H ω J1 (upd H1 D o) ω1 :=
  ⟨g.jj, fun a h => by rw [upd_ne (ne_new h hD)]; exact g.dom a h, fun a u h z => by rw [upd_ne (ne_of_none h hD)]; exact g.keep a u h z, g.frj, g.frw⟩
theorem fr_ne {a : Addr} {m : MO} {b : Addr} (hw : Fr ω D) (e : ω a = some m) (l : Looks a m b) : b ≠ D := by
  rintro rfl
  rcases l with rfl | nb
  · rw [hw.1] at e; cases e
  · exact hw.2 a m e nb
theorem Rw.loc (w : Rw K J H ω) (hj : J D = none) (hw : Fr ω D) (o : HO) : Rw K J (upd H D o) ω := by
  refine w.step (Same.refl _) (fun a u e => ?_) (fun _ _ j => j) fun a m e => .inl ⟨e, fun b u l z => ?_⟩
  · rw [upd_ne fun z => by rw [z, hj] at e; cases e]; exact w.jh a u e
  · rw [upd_ne (fr_ne hw e l)]; exact z
theorem Grow.take (g : Grow J H ω J1 H1 ω1) (hD : H D = none) (hj : J1 D = none) (o : HO) : Grow J H ω (upd J1 D o) H1 ω1 :=
  ⟨g.jj.trans (same_new hj o), g.dom, g.keep, fun a h z j => by rw [upd_ne (ne_new h.ne hD)]; exact g.frj a h z j, g.frw⟩
theorem Rw.take {o : HO} (w : Rw K J H ω) (hj : J D = none) (hw : Fr ω D) (h : H D = some o) : Rw K (upd J D o) H ω := by
  refine ⟨fun a u e => ?_, fun a m e => ?_, fun a m e => (w.cell a m e).mono (same_new hj o) fun _ _ _ z => z, fun a m e b nb => ?_⟩
  · by_cases z : a = D
    · rw [z, upd_same] at e; rw [z, ← e]; exact h
    · rw [upd_ne z] at e; exact w.jh a u e
  · rw [upd_ne (fr_ne hw e (.inl rfl))]; exact w.out a m e
  · obtain ⟨t1, t2, t3⟩ := w.tmp a m e b nb
    exact ⟨by rw [upd_ne (fr_ne hw e (.inr nb))]; exact t1, t2, t3⟩
end
section
variable {W : WX} {X : Cx} {K : PySem.W.Frag} {elt tg iter : Expr} {ifs : List Expr} {scope : Scope} {own : List (Str × Nat)} {pos : Pos} {is : List Nat} {di : DTI} {gd : DTG} {tt : DTT} {te : DTE}
theorem lc_run {wi : TI} (hi : ∀ σ H J ω ρ (k : List PyData → Wd → Prop) x (R : It → Hp → Prop), Rw K J H ω → Sl K J σ ρ → (∀ xs ω1 J1 H1 I, k xs ω1 → Grow J H ω J1 H1 ω1 → Rw K J1 H1 ω1 → WalkD K J1 I xs → R I H1) →
    CovX K J H ω x (fun c d H => W c d σ H) → di ρ ω k x → wi σ H R) {vs : List Nat} (his : ∀ i ∈ is, i ∈ vs)
    {σ : L2.St} {H J : Hp} {ω : Wd} {ρ : DS} {q : DQ} {x : DXK} {Q : VK} (w : Rw K J H ω) (s : Sl K J σ ρ) (cq : CovQ K J H ω q Q) (cx : CovX K J H ω x (fun c d H => W c d σ H)) (z : dLc di gd tt te vs ρ ω q x) :
    tLc wi (liftG K is gd) (liftT K W0 tt) (liftE K W0 te) vs σ H Q := by
  refine hi σ H J ω ρ _ x _ w s (fun xs ω1 J1 H1 I z1 g1 w1 wd => ?_) cx z
  intro D hD
  obtain ⟨hz, Inv, i0, step, fin⟩ := z1
  obtain ⟨G, Y, wk, hG, hY⟩ := wd
  have hjD : J1 D = none := w1.jh.free hD
  have s1 := s.mono g1.jj
  refine lc_it wk (fun i H' => ∃ J' ω' acc us, Grow J1 H1 ω1 J' H' ω' ∧ Rw K J' H' ω' ∧ H' D = some (.lst us) ∧ J' D = none ∧ Fr ω' D ∧ RpAll K J' us acc ∧ acc.length ≤ i ∧ Inv i acc ω') ?_ ?_ ?_ ?_
  · exact ⟨J1, ω1, [], [], Grow.junk hD _, w1.junk hD _, upd_same, hjD, w1.free hD, .nil, Nat.le_refl _, i0⟩
  · rintro i H' _ ⟨J', ω', acc, us, g, w', _⟩
    exact hG J' H' g.jj w'.jh
  · rintro i v H2 H2' hi ⟨J2, ω2, acc, us, g2, w2, hD2, jD2, oD2, ra, al, inv⟩ y
    have go : ∀ (d : PyData) (J3 H3 : Hp), xs[i]? = some d → Grow J2 H2 ω2 J3 H3 ω2 → Rw K J3 H3 ω2 → Rp K J3 v d → liftG K is gd v (wipe σ vs) H3 fun σ2 H2 => wipe σ2 vs = wipe σ vs ∧ liftT K W0 tt σ2 H2 fun b H3 =>
        if b = true then liftE K W0 te σ2 H3 fun y H4 => ∃ acc, H4 D = some (.lst acc) ∧ acc.length < sizeLine ∧ (∃ J' ω' acc' us, Grow J1 H1 ω1 J' (upd H4 D (.lst (acc ++ [y]))) ω' ∧ Rw K J' (upd H4 D (.lst (acc ++ [y]))) ω' ∧ upd H4 D (.lst (acc ++ [y])) D = some (.lst us) ∧ J' D = none ∧ Fr ω' D ∧ RpAll K J' us acc' ∧ acc'.length ≤ i + 1 ∧ Inv (i + 1) acc' ω')
        else ∃ J' ω' acc us, Grow J1 H1 ω1 J' H3 ω' ∧ Rw K J' H3 ω' ∧ H3 D = some (.lst us) ∧ J' D = none ∧ Fr ω' D ∧ RpAll K J' us acc ∧ acc.length ≤ i + 1 ∧ Inv (i + 1) acc ω' := by
      intro d J3 H3 e3 g3 w3 r3
      have hD3 := g3.keep D _ hD2 oD2
      have nD2 : H2 D ≠ none := by rw [hD2]; simp
      have jD3 := g3.frj D ⟨_, hD2, fun _ e => nomatch e⟩ oD2 jD2
      refine ⟨J3, ω2, wipeD ρ vs, d, _, w3, (s1.mono (g2.jj.trans g3.jj)).wipe vs, r3, fun ρ' σ' z4 s4 ew => ⟨(ew vs his).trans (wipe_wipe σ vs), ?_⟩, step i d acc ω2 e3 inv al⟩
      refine ⟨J3, ω2, ρ', _, X0, w3, s4, fun b ω5 J5 H5 z5 g5 w5 => ?_, (fun _ _ _ _ _ _ z => False.elim z), z4⟩
      have nD3 : H3 D ≠ none := by rw [hD3]; simp
      have hD5 := g5.keep D _ hD3 oD2
      have jD5 := g5.frj D ⟨_, hD3, fun _ e => nomatch e⟩ oD2 jD3
      have oD5 := g5.frw D nD3 oD2
      have nD5 : H5 D ≠ none := by rw [hD5]; simp
      cases b with
      | false =>
        refine iteF ⟨J5, ω5, acc, us, (g2.trans g3).trans g5, w5, hD5, jD5, oD5, rpAll_mono (g3.jj.trans g5.jj) _ _ ra, by omega, by simpa using z5⟩
      | true =>
        refine iteT ⟨J5, ω5, ρ', _, X0, w5, s4.mono g5.jj, fun r ω6 y J6 H6 z6 g6 w6 r6 => ?_, (fun _ _ _ _ _ _ z => False.elim z), by simpa using z5⟩
        have hD6 := g6.keep D _ hD5 oD5
        have jD6 := g6.frj D ⟨_, hD5, fun _ e => nomatch e⟩ oD5 jD5
        have oD6 := g6.frw D nD5 oD5
        have ul := ra.length
        refine ⟨us, hD6, by omega, J6, ω6, acc ++ [r], us ++ [y], (((g2.trans g3).trans g5).trans g6).loc hD _, w6.loc jD6 oD6 _, upd_same, jD6, oD6, RpAll.append (rpAll_mono ((g3.jj.trans g5.jj).trans g6.jj) _ _ ra) (.one r6), by rw [List.length_append]; simp; omega, z6⟩
    rcases hY i H2 v H2' hi y with ⟨rfl, d, e1, e2⟩ | ⟨T, us2, ds, rfl, hT, rfl, e1, e2⟩
    · exact go d J2 _ e1 Grow.refl w2 (rp_mono g2.jj _ _ e2)
    · exact go (.tuple ds) _ _ e2 (Grow.frz w2 hT _) (w2.frz hT _) (.tup (SqT.of upd_same) (rpAll_mono (g2.jj.trans (same_new (w2.jh.free hT) _)) _ _ e1))
  · rintro H2 ⟨J2, ω2, acc, us, g2, w2, hD2, jD2, oD2, ra, al, inv⟩
    exact (cq.step g1) _ _ _ _ _ (fin acc ω2 al inv) (g2.take hD jD2 _) (w2.take jD2 oD2 hD2) (.lst upd_same (rpAll_mono (same_new jD2 _) _ _ ra))
theorem de_lc (hc : X.calm = true) (hN : X.N.Nodup) (hi : DI W X K tg iter di) (ok : BlkOk X.N X.env.scope scope own)
    (hg : ∀ (s : Shared) (H : Hp) (C : Addr) (cl : List (Str × Addr)) (fp : List Addr), DG (X.blk s H scope (compEnvC scope cl C X.env) fp) K tg is gd)
    (ht : ∀ (s : Shared) (H : Hp) (C : Addr) (cl : List (Str × Addr)) (fp : List Addr), DTs W0 (X.blk s H scope (compEnvC scope cl C X.env) fp) K ifs tt)
    (he : ∀ (s : Shared) (H : Hp) (C : Addr) (cl : List (Str × Addr)) (fp : List Addr), DE W0 (X.blk s H scope (compEnvC scope cl C X.env) fp) K elt te)
    (his : ∀ i ∈ is, i ∈ own.map (·.2) := by decide) (hs : ∀ x, foldedSetIterable iter X.env x = pure x := by intro _; rfl) :
    DE W X K (.ListComp elt [⟨tg, iter, ifs, 0⟩] scope pos) (dLc di gd tt te (own.map (·.2))) := by
  obtain ⟨wi, p, k⟩ := hi
  exact ⟨_, pe_lc hc hN p ok hg (fun s H C cl fp => (ht s H C cl fp).ps) (fun s H C cl fp => (he s H C cl fp).pe) hs, fun σ H J ω ρ q x Q w s cq cx z => lc_run k his w s cq cx z⟩
end
end Tx

namespace Tx
open PySem PySem.Spec PyProof.Rows L2
/-! ## Rules over data: statements, defs, calls, errors -/
def xcOf (D : DEnds) (ρ : DS) : DXK := fun C fs ω => D.xc C fs ρ ω
def dNext (D : DEnds) (ρ : DS) (ω : Wd) : Prop := D.nx ρ ω
def dSeq (t u : DTS) (D : DEnds) (ρ : DS) (ω : Wd) : Prop := t { D with nx := u D } ρ ω
def dSet (i : Nat) (te : DTE) (D : DEnds) (ρ : DS) (ω : Wd) : Prop := te ρ ω (fun r ω1 => D.nx (ρ.set i (some r)) ω1) (xcOf D ρ)
def dAsg (te : DTE) (g : DTG) (D : DEnds) (ρ : DS) (ω : Wd) : Prop := te ρ ω (fun r ω1 => g r ρ fun ρ' => D.nx ρ' ω1) (xcOf D ρ)
def dPar (i j : Nat) (ta : DTA) (D : DEnds) (ρ : DS) (ω : Wd) : Prop := ta ρ ω (fun rs ω1 => match rs with
  | [a, b] => D.nx ((ρ.set i (some a)).set j (some b)) ω1
  | _ => False) (xcOf D ρ)
def dDrop (te : DTE) (D : DEnds) (ρ : DS) (ω : Wd) : Prop := te ρ ω (fun _ ω1 => D.nx ρ ω1) (xcOf D ρ)
def dRet (te : DTE) (D : DEnds) (ρ : DS) (ω : Wd) : Prop := te ρ ω D.rt (xcOf D ρ)
def dRetN (D : DEnds) (_ : DS) (ω : Wd) : Prop := D.rt .none ω
def dBreak (D : DEnds) (ρ : DS) (ω : Wd) : Prop := D.bk ρ ω
def dCont (D : DEnds) (ρ : DS) (ω : Wd) : Prop := D.ct ρ ω
def dIfS (c : DTT) (t u : DTS) (D : DEnds) (ρ : DS) (ω : Wd) : Prop := c ρ ω (fun b ω1 => if b = true then t D ρ ω1 else u D ρ ω1) (xcOf D ρ)
def dFor (di : DTI) (gd : DTG) (tb : DTS) (D : DEnds) (ρ : DS) (ω : Wd) : Prop := di ρ ω (fun xs ω1 => ∃ Inv : Nat → DS → Wd → Prop, Inv 0 ρ ω1 ∧
  (∀ i x ρ' ω', xs[i]? = some x → Inv i ρ' ω' → gd x ρ' fun ρ'' => tb { D with nx := Inv (i + 1), ct := Inv (i + 1), bk := D.nx } ρ'' ω') ∧ ∀ ρ' ω', Inv xs.length ρ' ω' → D.nx ρ' ω') (xcOf D ρ)
def dWhile (c : DTT) (tb : DTS) (D : DEnds) (ρ : DS) (ω : Wd) : Prop := ∃ Inv : Nat → DS → Wd → Prop, (∃ m, Inv m ρ ω) ∧
  ∀ m ρ' ω', Inv m ρ' ω' → c ρ' ω' (fun b ω1 => if b = true then tb { D with nx := fun ρ2 ω2 => ∃ m', m' < m ∧ Inv m' ρ2 ω2, ct := fun ρ2 ω2 => ∃ m', m' < m ∧ Inv m' ρ2 ω2, bk := D.nx } ρ' ω1 else D.nx ρ' ω1) (xcOf D ρ')
section
variable {W : WX} {X : Cx} {K : PySem.W.Frag} {e c tg iter : Expr} {es : List Expr} {st : Stmt} {a b body rest : List Stmt} {te : DTE} {tA : DTA} {tc : DTT} {t u : DTS} {pos : Pos} {is : List Nat} {gd : DTG} {di : DTI}
theorem dss_nil : DSs W X K [] dNext := ⟨_, pss_nil, fun D DD σ H J ω ρ w s cs z => cs.nx _ _ _ _ _ z Grow.refl w s⟩
theorem dss_one (h : DSt W X K st t) : DSs W X K [st] t := by
  obtain ⟨r, p, k⟩ := h
  exact ⟨_, pss_one p, k⟩
theorem dss_cons (h : DSt W X K st t) (hs : DSs W X K rest u) : DSs W X K (st :: rest) (dSeq t u) := by
  obtain ⟨r, p, k⟩ := h
  obtain ⟨r2, p2, k2⟩ := hs
  refine ⟨_, pss_cons p p2, fun D DD σ H J ω ρ w s cs z => k { D with nx := r2 D } { DD with nx := u DD } σ H J ω ρ w s ⟨fun ρ' ω' σ' J' H' z' g' w' s' => ?_, cs.bk, cs.ct, cs.rt, cs.xc⟩ z⟩
  exact k2 D DD σ' H' J' ω' ρ' w' s' (cs.step g') z'
theorem ds_set {i : Nat} {x : Str} {pos' : Pos} (hN : X.N.Nodup) (hi : X.N[i]? = some x) (hx : Loc X.env.scope x) (he : DE W X K e te) (hs : swapsWith e (some (.Name x pos')) pos.line X.env = pure false := by rfl) (hf : X.fn x = true ∨ X.env.scope.names.lookup x = some .local := by first | exact .inl rfl | exact .inr rfl | assumption) :
    DSt W X K (.Assign [.Name x pos'] e pos) (dSet i te) := by
  obtain ⟨r, p, k⟩ := he
  refine ⟨_, ps_set hN hi hx p hs hf, fun D DD σ H J ω ρ w s cs z => k σ H J ω ρ _ _ _ w s (fun d ω1 v J1 H1 z1 g1 w1 rp => ?_) (cs.x s) z⟩
  exact cs.nx _ _ _ _ _ z1 g1 w1 ((s.mono g1.jj).set i rp)
theorem ds_asg (he : DE W X K e te) (hg : DG X K tg is gd) (hs : swapsWithSole [tg] e pos.line X.env = pure false := by rfl) (hw : swappedStores [tg] e X.env = pure none := by rfl) (h1 : (assignEach [tg] X.env).map (·.2) = [assign tg X.env] := by rfl) :
    DSt W X K (.Assign [tg] e pos) (dAsg te gd) := by
  obtain ⟨r, p, k⟩ := he
  refine ⟨_, ps_asg p hg hs hw h1, fun D DD σ H J ω ρ w s cs z => k σ H J ω ρ _ _ _ w s (fun d ω1 v J1 H1 z1 g1 w1 rp => ?_) (cs.x s) z⟩
  exact ⟨J1, ω1, ρ, d, _, w1, s.mono g1.jj, rp, fun ρ' σ' z' s' _ => cs.nx _ _ _ _ _ z' g1 w1 s', z1⟩
theorem ds_par {i j : Nat} {x y : Str} {e1 e2 : Expr} {px py pt : Pos} {kt k2 pt2} (hc : X.calm = true) (hN : X.N.Nodup) (hi : X.N[i]? = some x) (hj : X.N[j]? = some y) (hij : i ≠ j)
    (hx : X.env.scope.names.lookup x = some .local) (hy : X.env.scope.names.lookup y = some .local) (ha : DAs W X K [e1, e2] tA)
    (hw : swappedStores [.Tuple [.Name x px, .Name y py] kt pt] (.Tuple [e1, e2] k2 pt2) X.env = pure (some [x, y]))
    (hs : swapsWithSole [.Tuple [.Name x px, .Name y py] kt pt] (.Tuple [e1, e2] k2 pt2) pos.line X.env = pure false := by rfl) :
    DSt W X K (.Assign [.Tuple [.Name x px, .Name y py] kt pt] (.Tuple [e1, e2] k2 pt2) pos) (dPar i j tA) := by
  obtain ⟨r, p, k⟩ := ha
  refine ⟨_, ps_par hc hN hi hj hij hx hy p hw hs, fun D DD σ H J ω ρ w s cs z => k σ H J ω ρ _ _ _ w s (fun ds ω1 vs J1 H1 z1 g1 w1 rp => ?_) (cs.x s) z⟩
  split at z1
  · cases rp with
    | cons r1 r2 =>
      cases r2 with
      | cons r3 r4 =>
        cases r4
        exact ⟨_, _, rfl, cs.nx _ _ _ _ _ z1 g1 w1 (((s.mono g1.jj).set i r1).set j r3)⟩
  · exact False.elim z1
theorem ds_expr (he : DE W X K e te) (hs : swapsWith e none pos.line X.env = pure false := by rfl) : DSt W X K (.Expr e pos) (dDrop te) := by
  obtain ⟨r, p, k⟩ := he
  exact ⟨_, ps_expr p hs, fun D DD σ H J ω ρ w s cs z => k σ H J ω ρ _ _ _ w s (fun d ω1 v J1 H1 z1 g1 w1 rp => cs.nx _ _ _ _ _ z1 g1 w1 (s.mono g1.jj)) (cs.x s) z⟩
theorem ds_ret (he : DE W X K e te) : DSt W X K (.Return (some e) pos) (dRet te) := by
  obtain ⟨r, p, k⟩ := he
  exact ⟨_, ps_ret p, fun D DD σ H J ω ρ w s cs z => k σ H J ω ρ _ _ _ w s cs.rt (cs.x s) z⟩
theorem ds_retN : DSt W X K (.Return none pos) dRetN := ⟨_, ps_retN, fun D DD σ H J ω ρ w s cs z => cs.rt _ _ _ _ _ z Grow.refl w .non⟩
theorem ds_pass : DSt W X K (.Pass pos) dNext := ⟨_, ps_pass, fun D DD σ H J ω ρ w s cs z => cs.nx _ _ _ _ _ z Grow.refl w s⟩
theorem ds_doc {x j pos'} : DSt W X K (.Expr (.Constant (.str x) j pos) pos') dNext := ⟨_, ps_doc, fun D DD σ H J ω ρ w s cs z => cs.nx _ _ _ _ _ z Grow.refl w s⟩
theorem ds_break : DSt W X K (.Break pos) dBreak := ⟨_, ps_break, fun D DD σ H J ω ρ w s cs z => cs.bk _ _ _ _ _ z Grow.refl w s⟩
theorem ds_continue : DSt W X K (.Continue pos) dCont := ⟨_, ps_continue, fun D DD σ H J ω ρ w s cs z => cs.ct _ _ _ _ _ z Grow.refl w s⟩
theorem ds_if (hc : DT W X K c tc) (ha : DSs W X K a t) (hb : DSs W X K b u) : DSt W X K (.If c a b pos) (dIfS tc t u) := by
  obtain ⟨rc, pc, kc⟩ := hc
  obtain ⟨ra, pa, ka⟩ := ha
  obtain ⟨rb, pb, kb⟩ := hb
  refine ⟨_, ps_if pc pa pb, fun D DD σ H J ω ρ w s cs z => kc σ H J ω ρ _ _ _ w s (fun bb ω1 J1 H1 z1 g1 w1 => ?_) (cs.x s) z⟩
  cases bb with
  | true => exact iteT (ka D DD σ H1 J1 ω1 ρ w1 (s.mono g1.jj) (cs.step g1) (by simpa using z1))
  | false => exact iteF (kb D DD σ H1 J1 ω1 ρ w1 (s.mono g1.jj) (cs.step g1) (by simpa using z1))
theorem ds_for (hp : PassesOwn (model X.prog X.w) X.A X.env X.xe) (hc : X.calm = true) (hi : DI W X K tg iter di) (hg : DG X K tg is gd) (hb : DSs W X K body t) (hs : ∀ x, foldedSetIterable iter X.env x = pure x := by intro _; rfl) :
    DSt W X K (.For tg iter body [] pos) (dFor di gd t) := by
  obtain ⟨wi, pi, ki⟩ := hi
  obtain ⟨rb, pb, kb⟩ := hb
  refine ⟨_, ps_for hp hc pi hg pb hs, fun D DD σ H J ω ρ w s cs z => ki σ H J ω ρ _ _ _ w s (fun xs ω1 J1 H1 I z1 g1 w1 wd => ?_) (cs.x s) z⟩
  obtain ⟨Inv, i0, step, fin⟩ := z1
  obtain ⟨G, Y, wk, hG, hY⟩ := wd
  have cs1 := cs.step g1
  refine for_it wk (fun i σ' H' => ∃ J' ρ' ω', Grow J1 H1 ω1 J' H' ω' ∧ Rw K J' H' ω' ∧ Sl K J' σ' ρ' ∧ Inv i ρ' ω') ⟨J1, ρ, ω1, Grow.refl, w1, s.mono g1.jj, i0⟩ ?_ ?_ ?_
  · rintro i σ' H' _ ⟨J', ρ', ω', g, w', _⟩
    exact hG J' H' g.jj w'.jh
  · rintro i v σ2 H2 H2' hi ⟨J2, ρ2, ω2, g2, w2, s2, inv⟩ y
    have go : ∀ (d : PyData) (J3 H3 : Hp), xs[i]? = some d → Grow J2 H2 ω2 J3 H3 ω2 → Rw K J3 H3 ω2 → Rp K J3 v d → liftG K is gd v σ2 H3 fun σ2 H2 => rb { D with nx := fun σ' H' => ∃ J' ρ' ω', Grow J1 H1 ω1 J' H' ω' ∧ Rw K J' H' ω' ∧ Sl K J' σ' ρ' ∧ Inv (i + 1) ρ' ω', ct := fun σ' H' => ∃ J' ρ' ω', Grow J1 H1 ω1 J' H' ω' ∧ Rw K J' H' ω' ∧ Sl K J' σ' ρ' ∧ Inv (i + 1) ρ' ω', bk := D.nx } σ2 H2 := by
      intro d J3 H3 e3 g3 w3 r3
      refine ⟨J3, ω2, ρ2, d, _, w3, s2.mono g3.jj, r3, fun ρ' σ' z4 s4 _ => ?_, step i d ρ2 ω2 e3 inv⟩
      have g := g2.trans g3
      have cs3 := cs1.step g
      exact kb _ { DD with nx := Inv (i + 1), ct := Inv (i + 1), bk := DD.nx } σ' H3 J3 ω2 ρ' w3 s4 ⟨fun ρ5 ω5 σ5 J5 H5 z5 g5 w5 s5 => ⟨J5, ρ5, ω5, g.trans g5, w5, s5, z5⟩, cs3.nx, fun ρ5 ω5 σ5 J5 H5 z5 g5 w5 s5 => ⟨J5, ρ5, ω5, g.trans g5, w5, s5, z5⟩, cs3.rt, cs3.xc⟩ z4
    rcases hY i H2 v H2' hi y with ⟨rfl, d, e1, e2⟩ | ⟨T, us2, ds, rfl, hT, rfl, e1, e2⟩
    · exact go d J2 _ e1 Grow.refl w2 (rp_mono g2.jj _ _ e2)
    · exact go (.tuple ds) _ _ e2 (Grow.frz w2 hT _) (w2.frz hT _) (.tup (SqT.of upd_same) (rpAll_mono (g2.jj.trans (same_new (w2.jh.free hT) _)) _ _ e1))
  · rintro σ2 H2 ⟨J2, ρ2, ω2, g2, w2, s2, inv⟩
    exact cs1.nx _ _ _ _ _ (fin ρ2 ω2 inv) g2 w2 s2
theorem ds_setLc {i : Nat} {y : Str} {py spos : Pos} {elt : Expr} {ifs : List Expr} {scope : Scope} {own : List (Str × Nat)} {tt : DTT} (hc : X.calm = true) (hN : X.N.Nodup) (hy : X.N[i]? = some y) (hyl : X.env.scope.names.lookup y = some .local)
    (hsw : swapsWith (.ListComp elt [⟨tg, iter, ifs, 0⟩] scope pos) (some (.Name y py)) spos.line X.env = pure true) (hi : DI W X K tg iter di) (ok : BlkOk X.N X.env.scope scope own)
    (hg : ∀ (s : Shared) (H : Hp) (C : Addr) (cl : List (Str × Addr)) (fp : List Addr), DG (X.blk s H scope (compEnvC scope cl C X.env) fp) K tg is gd)
    (ht : ∀ (s : Shared) (H : Hp) (C : Addr) (cl : List (Str × Addr)) (fp : List Addr), DTs W0 (X.blk s H scope (compEnvC scope cl C X.env) fp) K ifs tt)
    (he : ∀ (s : Shared) (H : Hp) (C : Addr) (cl : List (Str × Addr)) (fp : List Addr), DE W0 (X.blk s H scope (compEnvC scope cl C X.env) fp) K elt te)
    (his : ∀ i ∈ is, i ∈ own.map (·.2) := by decide) (hs : ∀ x, foldedSetIterable iter X.env x = pure x := by intro _; rfl) :
    DSt W X K (.Assign [.Name y py] (.ListComp elt [⟨tg, iter, ifs, 0⟩] scope pos) spos) (dSet i (dLc di gd tt te (own.map (·.2)))) := by
  obtain ⟨wi, p, k⟩ := hi
  refine ⟨_, ps_setLc hc hN hy hyl hsw p ok hg (fun s H C cl fp => (ht s H C cl fp).ps) (fun s H C cl fp => (he s H C cl fp).pe) hs, fun D DD σ H J ω ρ w s cs z => lc_run (q := fun r ω1 => DD.nx (ρ.set i (some r)) ω1) k his w s (fun d ω1 v J1 H1 z1 g1 w1 rp => ?_) (cs.x s) z⟩
  exact cs.nx _ _ _ _ _ z1 g1 w1 ((s.mono g1.jj).set i rp)
end
/-! ### lists of one's own -/
def dAppend (to te : DTE) (ρ : DS) (ω : Wd) (q : DQ) (x : DXK) : Prop := to ρ ω (fun o ω1 => ∃ a ds0, o = refD a ∧ ω1 a = some (.lst ds0) ∧ te ρ ω1 (fun r ω2 => ∃ ds, ω2 a = some (.lst ds) ∧ ds.length < sizeLine ∧ q .none (updW ω2 a (.lst (ds ++ [r])))) x) x
def dExtend (to te : DTE) (ρ : DS) (ω : Wd) (q : DQ) (x : DXK) : Prop := to ρ ω (fun o ω1 => ∃ a ds0, o = refD a ∧ ω1 a = some (.lst ds0) ∧ te ρ ω1 (fun r ω2 => ∃ ds es, ω2 a = some (.lst ds) ∧ rsv ω2 r = .list es ∧ ds.length + es.length ≤ sizeLine ∧ q .none (updW ω2 a (.lst (ds ++ es)))) x) x
/-- a name whose list is not changed any more -/
def dFrz (i : Nat) (ρ : DS) (ω : Wd) (q : DQ) (_ : DXK) : Prop := match ρ[i]? with
  | some (some d) => ∃ a ds, d = refD a ∧ ω a = some (.lst ds) ∧ q (.list ds) (delW ω a)
  | _ => False
section
variable {W : WX} {X : Cx} {K : PySem.W.Frag} {o e : Expr} {to te : DTE} {apos cpos : Pos}
theorem rp_ref {J : Hp} {v : V} {a : Addr} (h : Rp K J v (refD a)) : v = .ref a := by
  generalize hd : refD a = d at h
  cases h with
  | ref b =>
    have e1 := PyData.dict.inj hd
    have e2 := (List.cons.inj e1).1
    have e3 := (Prod.mk.inj e2).1
    have e4 := PyData.int.inj e3
    rw [show a = b from by exact_mod_cast e4]
  | _ => cases hd
theorem de_append (hK : X.K = K) (ho : DE W X K o to) (he : DE W X K e te) (hbase : attributeBase o "append" X.env (eval o X.env) = eval o X.env := by rfl)
    (hfew : ((backTo cpos (starEach (e :: []) X.env)).all (fun x => !x.1) && (backToKw cpos (keywordEach [] X.env)).all (fun x => x.1.isSome) && decide ((e :: []).length + ([] : List Keyword).length + (if ([] : List Keyword).isEmpty then 0 else 1) < 30)) = true := by rfl)
    (hline : (apos.endLine == cpos.line) = true := by rfl) (hs : starEach (e :: []) X.env = (false, eval e X.env) :: starEach [] X.env := by rfl) (hplain : (backTo cpos (starEach [] X.env)).any (·.1) = false := by rfl) :
    DE W X K (.Call (.Attribute o "append" apos) [e] [] cpos) (dAppend to te) := by
  subst hK
  obtain ⟨ro, po, ko⟩ := ho
  obtain ⟨re, pe, ke⟩ := he
  refine ⟨_, pe_bm PySem.F.plainAttrs_list PySem.F.slot_list_append PySem.F.type_list_append mt_append po (pa_cons pe pa_nil hs) hbase hfew hline hs hplain, fun σ H J ω ρ q x Q w s cq cx z => ko σ H J ω ρ _ x _ w s (fun r ω1 v J1 H1 z1 g1 w1 rp => ?_) cx z⟩
  obtain ⟨a, ds0, rfl, e1, z1⟩ := z1
  obtain rfl := rp_ref rp
  obtain ⟨vs0, h0, _⟩ := w1.cell a _ e1
  refine ⟨.inl ⟨rfl, _, SqL.of h0⟩, ke σ H1 J1 ω1 ρ _ x _ w1 (s.mono g1.jj) (fun r2 ω2 v2 J2 H2 z2 g2 w2 rp2 => ?_) (cx.step g1) z1⟩
  obtain ⟨ds, e2, hl, z2⟩ := z2
  obtain ⟨vs, h2, r2'⟩ := w2.cell a _ e2
  exact ⟨a, vs, v2, rfl, rfl, h2, by rw [r2'.length]; exact hl, cq _ _ _ _ _ z2 ((g1.trans g2).trans (Grow.set e2 rfl _)) (w2.set e2 rfl ⟨_, upd_same, r2'.append (.one rp2)⟩) .non⟩
theorem de_extend (hK : X.K = K) (ho : DE W X K o to) (he : DE W X K e te) (hbase : attributeBase o "extend" X.env (eval o X.env) = eval o X.env := by rfl)
    (hfew : ((backTo cpos (starEach (e :: []) X.env)).all (fun x => !x.1) && (backToKw cpos (keywordEach [] X.env)).all (fun x => x.1.isSome) && decide ((e :: []).length + ([] : List Keyword).length + (if ([] : List Keyword).isEmpty then 0 else 1) < 30)) = true := by rfl)
    (hline : (apos.endLine == cpos.line) = true := by rfl) (hs : starEach (e :: []) X.env = (false, eval e X.env) :: starEach [] X.env := by rfl) (hplain : (backTo cpos (starEach [] X.env)).any (·.1) = false := by rfl) :
    DE W X K (.Call (.Attribute o "extend" apos) [e] [] cpos) (dExtend to te) := by
  subst hK
  obtain ⟨ro, po, ko⟩ := ho
  obtain ⟨re, pe, ke⟩ := he
  refine ⟨_, pe_bm PySem.F.plainAttrs_list PySem.F.slot_list_extend PySem.F.type_list_extend mt_extend po (pa_cons pe pa_nil hs) hbase hfew hline hs hplain, fun σ H J ω ρ q x Q w s cq cx z => ko σ H J ω ρ _ x _ w s (fun r ω1 v J1 H1 z1 g1 w1 rp => ?_) cx z⟩
  obtain ⟨a, ds0, rfl, e1, z1⟩ := z1
  obtain rfl := rp_ref rp
  obtain ⟨vs0, h0, _⟩ := w1.cell a _ e1
  refine ⟨.inl ⟨rfl, _, SqL.of h0⟩, ke σ H1 J1 ω1 ρ _ x _ w1 (s.mono g1.jj) (fun r2 ω2 v2 J2 H2 z2 g2 w2 rp2 => ?_) (cx.step g1) z1⟩
  obtain ⟨ds, es, e2, e3, hl, z2⟩ := z2
  obtain ⟨vs, h2, r2'⟩ := w2.cell a _ e2
  obtain ⟨b, ws, rfl, hb, r3⟩ := rp_list w2 rp2 e3
  exact ⟨a, b, vs, ws, rfl, rfl, h2, hb, by rw [r2'.length, r3.length]; exact hl, cq _ _ _ _ _ z2 ((g1.trans g2).trans (Grow.set e2 rfl _)) (w2.set e2 rfl ⟨_, upd_same, r2'.append r3⟩) .non⟩
theorem de_frz {i : Nat} (h : PE X e (tVar i)) : DE W X K e (dFrz i) := ⟨_, h, fun σ H J ω ρ q x Q w s cq cx z => by
  obtain ⟨v, d, h1, h2, z⟩ := s.var (q := fun d => ∃ a ds, d = refD a ∧ ω a = some (.lst ds) ∧ q (.list ds) (delW ω a)) z
  obtain ⟨a, ds, rfl, e1, z⟩ := z
  obtain rfl := rp_ref h2
  obtain ⟨vs, h3, h4⟩ := w.cell a _ e1
  exact ⟨_, h1, cq _ _ _ _ _ z (Grow.fix w e1 h3) (w.fix e1 h3) (.lst upd_same (rpAll_mono (same_new (w.out _ _ e1) _) _ _ h4))⟩⟩
end
/-- .. where cells that are not looked at any more are left -/
def SubW (ω2 ω1 : Wd) : Prop := ∀ a m, ω2 a = some m → ω1 a = some m
theorem SubW.refl {ω : Wd} : SubW ω ω := fun _ _ h => h
theorem SubW.upd {ω : Wd} {a : Addr} {m : MO} (h : ω a = none) : SubW ω (updW ω a m) := fun b n e => by
  rw [updW_ne fun z => by rw [z, h] at e; cases e]; exact e
theorem SubW.trans {ω1 ω2 ω3 : Wd} (h : SubW ω1 ω2) (g : SubW ω2 ω3) : SubW ω1 ω3 := fun a m e => g a m (h a m e)
def dRetS (te : DTE) (D : DEnds) (ρ : DS) (ω : Wd) : Prop := te ρ ω (fun r ω1 => ∃ ω2, SubW ω2 ω1 ∧ D.rt r ω2) (xcOf D ρ)
section
variable {K : PySem.W.Frag} {J H : Hp} {ω1 ω2 : Wd}
theorem fr_sub {b : Addr} (s : SubW ω2 ω1) (h : Fr ω1 b) : Fr ω2 b := by
  refine ⟨?_, fun c m e => h.2 c m (s _ _ e)⟩
  cases q : ω2 b with
  | none => rfl
  | some m => have := s b m q; rw [h.1] at this; cases this
theorem SubW.grow (s : SubW ω2 ω1) : Grow J H ω1 J H ω2 := ⟨Same.refl _, fun _ z => z, fun _ _ z _ => z, fun _ _ _ j => j, fun b _ z => fr_sub s z⟩
theorem Rw.sub (w : Rw K J H ω1) (s : SubW ω2 ω1) : Rw K J H ω2 := w.step (Same.refl _) w.jh (fun _ _ j => j) fun b m e => .inl ⟨s b m e, fun _ _ _ z => z⟩
theorem ds_retS {W : WX} {X : Cx} {e : Expr} {te : DTE} {pos : Pos} (he : DE W X K e te) : DSt W X K (.Return (some e) pos) (dRetS te) := by
  obtain ⟨r, p, k⟩ := he
  refine ⟨_, ps_ret p, fun D DD σ H J ω ρ w s cs z => k σ H J ω ρ _ _ _ w s (fun d ω1 v J1 H1 z1 g1 w1 rp => ?_) (cs.x s) z⟩
  obtain ⟨ω2, sb, z2⟩ := z1
  exact cs.rt _ _ _ _ _ z2 (g1.trans sb.grow) (w1.sub sb) rp
end
/-! ### intros -/
theorem ixD_cell {ω : Wd} {a : Addr} {xs : List PyData} {i : Int} {d : PyData} {Q : PyData → Prop} (h : ω a = some (.lst xs)) (e : atI xs i = some d) (z : Q d) : ixD (refD a) (.int i) ω Q := by
  unfold ixD
  rw [rsv_cell h]
  exact ⟨d, e, z⟩
theorem lenD_cell {ω : Wd} {a : Addr} {xs : List PyData} {Q : PyData → Prop} (h : ω a = some (.lst xs)) (z : Q (.int xs.length)) : lenD [refD a] ω Q := by
  unfold lenD
  simp only
  rw [rsv_cell h]
  exact z
/-! ### defs -/
abbrev DSp := List PyData → Wd → DQ → DXK → Prop
def spD (K : PySem.W.Frag) (sp : DSp) : Sp := fun vs H Q E => ∃ J ω ts q x, Rw K J H ω ∧ RpAll K J vs ts ∧ CovQ K J H ω q Q ∧ CovX K J H ω x E ∧ sp ts ω q x
def endsD (q : DQ) (x : DXK) : DEnds := ⟨fun _ ω => q .none ω, q, fun _ _ => False, fun _ _ => False, fun C fs _ ω => x C fs ω⟩
def dCall (sp : DSp) (ta : DTA) (ρ : DS) (ω : Wd) (q : DQ) (x : DXK) : Prop := ta ρ ω (fun ts ω1 => sp ts ω1 q X0) x
def dCallX (sp : DSp) (ta : DTA) (ρ : DS) (ω : Wd) (q : DQ) (x : DXK) : Prop := ta ρ ω (fun ts ω1 => sp ts ω1 q x) x
section
variable {P : Program} {w : World} {K : PySem.W.Frag} {mg : Str → Option Value} {base : Heap} {CX : CXT} {k : Nat} {x : Str} {ps N : List Str} {sp : DSp} {st : Stmt}
theorem dfnD (h : Has K mg x st) (B : Bi mg) (S : FnScope N ps (defScope st)) (bd : BindsBy x st ps) (len : ∀ ts ω q xx, sp ts ω q xx → ts.length = ps.length)
    (body : ∀ (f : Addr) (cv : Value) (A : Around) (out : List Env) (s : Shared) (H : Hp) (E : XK), Ct mg (A.deeper (envOfC x (defScope st) s.heap.objs.size f cv)) k →
      ∃ td, DSs W0 (cxOf CX0 P w K mg base N x (defScope st) f cv A out s H E).nox K (defBody st) td ∧ ∀ ts ω q xx, sp ts ω q xx → td (endsD q X0) (startD N ts) ω) :
    Dfn P w K mg base CX0 (k + 1) x ps (spD K sp) := by
  refine dfn0 h B S bd (fun vs H Q E z => ?_) (fun f cv A out s H vs Q E c z => ?_)
  · obtain ⟨J, ω, ts, q, xx, w, r, _, _, z⟩ := z
    rw [r.length]
    exact len _ _ _ _ z
  obtain ⟨J, ω, ts, q, xx, w, r, cq, cx, z⟩ := z
  obtain ⟨td, ⟨t, p, kk⟩, hb⟩ := body f cv A out s H E c
  exact ⟨t, p, kk _ _ _ H J ω _ w (sl_start r) ⟨fun _ _ _ _ _ z g w _ => cq _ _ _ _ _ z g w .non, fun _ _ _ _ _ z _ _ _ => False.elim z, fun _ _ _ _ _ z _ _ _ => False.elim z, cq, fun _ _ _ _ _ _ _ _ z _ _ _ _ => False.elim z⟩ (hb ts ω q xx z)⟩
theorem dfnDX (h : Has K mg x st) (B : Bi mg) (S : FnScope N ps (defScope st)) (bd : BindsBy x st ps) (len : ∀ ts ω q xx, sp ts ω q xx → ts.length = ps.length)
    (body : ∀ (f : Addr) (cv : Value) (A : Around) (out : List Env) (s : Shared) (H : Hp) (E : XK), Ct mg (A.deeper (envOfC x (defScope st) s.heap.objs.size f cv)) k →
      ∃ td, DSs (fun cl d _ H => E cl d H) (cxOf (L2.CX P w) P w K mg base N x (defScope st) f cv A out s H E) K (defBody st) td ∧ ∀ ts ω q xx, sp ts ω q xx → td (endsD q xx) (startD N ts) ω) :
    Dfn P w K mg base (L2.CX P w) (k + 1) x ps (spD K sp) := by
  refine dfnX h B S bd (fun vs H Q E z => ?_) (fun f cv A out s H vs Q E c z => ?_)
  · obtain ⟨J, ω, ts, q, xx, w, r, _, _, z⟩ := z
    rw [r.length]
    exact len _ _ _ _ z
  obtain ⟨J, ω, ts, q, xx, w, r, cq, cx, z⟩ := z
  obtain ⟨td, ⟨t, p, kk⟩, hb⟩ := body f cv A out s H E c
  exact ⟨t, p, kk _ _ _ H J ω _ w (sl_start r) ⟨fun _ _ _ _ _ z g w _ => cq _ _ _ _ _ z g w .non, fun _ _ _ _ _ z _ _ _ => False.elim z, fun _ _ _ _ _ z _ _ _ => False.elim z, cq, fun C fs _ ω' d _ J' H' z g w _ x => cx C fs ω' d J' H' z g w x⟩ (hb ts ω q xx z)⟩
/-- nothing is promised -/
theorem dfnD_none (h : Has K mg x st) (bd : BindsBy x st ps) (no : ∀ ts ω q xx, ¬ sp ts ω q xx) : Dfn P w K mg base CX0 0 x ps (spD K sp) :=
  dfn_none h bd fun vs H Q E z => by
    obtain ⟨J, ω, ts, q, xx, w, r, _, _, z⟩ := z
    exact no _ _ _ _ z
/-- a promise of another kind, for data -/
theorem Dfn.toD {sp0 : Sp} (D : Dfn P w K mg base CX k x ps sp0) (h : ∀ vs H Q E, spD K sp vs H Q E → sp0 vs H Q E) : Dfn P w K mg base CX k x ps (spD K sp) := by
  obtain ⟨f, fd, F, r⟩ := D
  exact ⟨f, fd, ⟨fun vs H Q E z => F.len _ _ _ _ (h _ _ _ _ z), fun A out s H ar us vs Q E ro g e b v z => F.run A out s H ar us vs Q E ro g e b v (h _ _ _ _ z)⟩, r⟩
end
section
variable {W : WX} {X : Cx} {K : PySem.W.Frag} {j k : Nat} {ps : List Str} {sp : DSp} {x : Str} {p pos : Pos} {e : Expr} {es : List Expr} {tA : DTA}
theorem de_d (D : Dfn X.prog X.w X.K X.mg X.base CX0 j x ps (spD K sp)) (c : Ct X.mg X.A k) (h : j ≤ k) (gl : Gl X x) (args : DAs W X K (e :: es) tA)
    (nd : (x == ("__debug__" : Str)) = false := by decide) (plain : starEach (e :: es) X.env = (false, eval e X.env) :: starEach es X.env := by rfl) (bare : (backTo pos (starEach es X.env)).any (·.1) = false := by rfl) :
    DE W X K (.Call (.Name x p) (e :: es) [] pos) (dCall sp tA) := by
  obtain ⟨t, pp, kk⟩ := args
  refine ⟨_, pe_d D c h gl pp nd plain bare, fun σ H J ω ρ q x Q w s cq cx z => kk σ H J ω ρ _ x _ w s (fun ts ω1 vs J1 H1 z1 g1 w1 rps => ?_) cx z⟩
  refine ⟨J1, ω1, ts, q, X0, w1, ?_, cq.step g1, (fun _ _ _ _ _ _ z => False.elim z), z1⟩
  rw [List.append_nil]
  exact rps
theorem de_dX (D : Dfn X.prog X.w X.K X.mg X.base (L2.CX X.prog X.w) j x ps (spD K sp)) (c : Ct X.mg X.A k) (h : j ≤ k) (gl : Gl X x) (out : ∀ σ, PassesAt (L2.CX X.prog X.w) X σ (fun cl d H => W cl d σ H)) (args : DAs W X K (e :: es) tA)
    (nd : (x == ("__debug__" : Str)) = false := by decide) (plain : starEach (e :: es) X.env = (false, eval e X.env) :: starEach es X.env := by rfl) (bare : (backTo pos (starEach es X.env)).any (·.1) = false := by rfl) :
    DE W X K (.Call (.Name x p) (e :: es) [] pos) (dCallX sp tA) := by
  obtain ⟨t, pp, kk⟩ := args
  refine ⟨_, pe_dS (E := fun σ cl d H => W cl d σ H) D c h gl out pp nd plain bare, fun σ H J ω ρ q x Q w s cq cx z => kk σ H J ω ρ _ x _ w s (fun ts ω1 vs J1 H1 z1 g1 w1 rps => ?_) cx z⟩
  exact ⟨J1, ω1, ts, q, x, w1, rps, cq.step g1, cx.step g1, z1⟩
end
/-! ### errors -/
def dErr1 (C : Addr) (f : Str) (te : DTE) (D : DEnds) (ρ : DS) (ω : Wd) : Prop := te ρ ω (fun r ω1 => D.xc C [(f, r)] ρ ω1) (xcOf D ρ)
section
variable {W : WX} {X : Cx} {K : PySem.W.Frag} {x f : Str} {C : Addr} {k : Nat} {e : Expr} {te : DTE} {p pos pos2 : Pos}
theorem ds_err1 (T : Err1 X.prog X.w X.K X.mg X.base x f C) (calm : X.calm = true) (room : Room (k + 2) X.A) (tk : Takes X W) (he : DE W X K e te) (gl : Gl X x)
    (nd : (x == ("__debug__" : Str)) = false := by decide) (plain : starEach (e :: []) X.env = (false, eval e X.env) :: starEach [] X.env := by rfl) (bare : (backTo pos (starEach [] X.env)).any (·.1) = false := by rfl) :
    DSt W X K (.Raise (some (.Call (.Name x p) [e] [] pos)) none pos2) (dErr1 C f te) := by
  obtain ⟨re, pe, ke⟩ := he
  refine ⟨_, ps_err1 T calm room tk (pa_cons pe pa_nil plain) gl nd plain bare, fun D DD σ H J ω ρ w s cs z => ke σ H J ω ρ _ _ _ w s (fun r ω1 v J1 H1 z1 g1 w1 rp => ?_) (cs.x s) z⟩
  refine err1 (C := C) (f := f) (v := v) (Q := fun cl d H => W cl d σ H) fun d hd => cs.xc _ _ _ _ (some d) _ J1 _ z1 (g1.trans (Grow.junk hd _)) (w1.junk hd _) (s.mono g1.jj) ⟨?_, w1.jh.free hd, w1.free hd, [(f, v)], upd_same, .cons ⟨rfl, rp⟩ .nil⟩
  cases q : H d with
  | none => rfl
  | some o => exact absurd hd (g1.dom d (by rw [q]; simp))
end
/-- the error's own dict comes among the cells -/
def XdIn (d : Option Addr) (fs : List (Str × PyData)) (ω ω' : Wd) : Prop := (d = none ∧ fs = [] ∧ ω' = ω) ∨ ∃ dd, d = some dd ∧ ω dd = none ∧ ω' = updW ω dd (.xd fs)
def dropX (d : Option Addr) (ω : Wd) : Wd := match d with
  | none => ω
  | some dd => delW ω dd
def liftS (K : PySem.W.Frag) (W : WX) (td : DTS) : TS := fun D σ H => ∃ J ω ρ DD, Rw K J H ω ∧ Sl K J σ ρ ∧ CovS K J H ω W DD D ∧ td DD ρ ω
theorem DSs.pss {W : WX} {X : Cx} {K : PySem.W.Frag} {st : List Stmt} {td : DTS} (h : DSs W X K st td) : PSs X st (liftS K W td) := by
  obtain ⟨t, p, k⟩ := h
  exact ⟨fun pins s σ H D I ⟨J, ω, ρ, DD, w, sl, cs, z⟩ => p.run pins s σ H D I (k D DD σ H J ω ρ w sl cs z)⟩
/-- try: .. except c as (slot i): .. -/
def dTryAs (K : PySem.W.Frag) (c : Value) (i : Nat) (tb : DTS) (ts : Addr → Value → Option Addr → DTS) (D : DEnds) (ρ : DS) (ω : Wd) : Prop :=
  tb { D with xc := fun C fs ρ' ω' => ∃ b, PySem.W.exmOne K (.ref C) c = some b ∧ (b = true → ∀ a d ω'', XdIn d fs ω' ω'' → ts a (.ref C) d
      { nx := fun ρ2 ω2 => D.nx (ρ2.set i none) (dropX d ω2), rt := fun r ω2 => D.rt r (dropX d ω2), bk := fun ρ2 ω2 => D.bk (ρ2.set i none) (dropX d ω2), ct := fun ρ2 ω2 => D.ct (ρ2.set i none) (dropX d ω2), xc := fun _ _ _ _ => False }
      (ρ'.set i (some (refD a))) ω'') ∧ (b = false → D.xc C fs ρ' ω') } ρ ω
theorem Grow.dropX {J H : Hp} {ω : Wd} {d : Option Addr} : Grow J H ω J H (Tx.dropX d ω) := by
  cases d with
  | none => exact Grow.refl
  | some dd => exact Grow.drop
theorem Rw.dropX {K : PySem.W.Frag} {J H : Hp} {ω : Wd} (w : Rw K J H ω) (d : Option Addr) : Rw K J H (Tx.dropX d ω) := by
  cases d with
  | none => exact w
  | some dd => exact w.drop
section
variable {W : WX} {X : Cx} {K : PySem.W.Frag} {x n : Str} {c : Value} {i : Nat} {body suite : List Stmt} {b₀ : Stmt} {np pos pos' : Pos} {tb : DTS} {ts : Addr → Value → Option Addr → DTS}
theorem ds_try_as (hK : X.K = K) (hs : X.stack = X.env :: X.outer) (hf : X.env.frame = some X.env.locals) (hN : X.N.Nodup) (hi : X.N[i]? = some n) (hln : X.env.kindOf n = some .local) (hc : Names X x c) (tk : Takes X W)
    (hb : ∀ (W' : WX) (pn : List (Addr × Obj)) (xe : Value → Shared → Prop), Takes (X.tr pn xe) W' → PassesOwn (model X.prog X.w) X.A X.env xe → DSs W' (X.tr pn xe) K body tb)
    (hsu : ∀ (a : Addr) (oe : Obj) (cls : Value) (d : Option Addr) (pn : List (Addr × Obj)), Zc cls d oe → (∃ vs, oe.data = .fields vs) → DSs W0 (X.suite a ((a, oe) :: pn)) K (b₀ :: suite) (ts a cls d)) :
    DSt W X K (.Try body [.ExceptHandler (some (.Name x np)) (some n) (b₀ :: suite) pos'] [] [] pos) (dTryAs K c i tb ts) := by
  subst hK
  refine ⟨_, ps_try_as (Wout := W) hs hf hN hi hln hc tk (fun W' pn xe t po => (hb W' pn xe t po).pss) (fun a oe cls d pn z f => (hsu a oe cls d pn z f).pss), fun D DD σ H J ω ρ w s cs z => ?_⟩
  refine ⟨J, ω, ρ, { DD with xc := fun C fs ρ' ω' => ∃ b, PySem.W.exmOne X.K (.ref C) c = some b ∧ (b = true → ∀ a d ω'', XdIn d fs ω' ω'' → ts a (.ref C) d
      { nx := fun ρ2 ω2 => DD.nx (ρ2.set i none) (dropX d ω2), rt := fun r ω2 => DD.rt r (dropX d ω2), bk := fun ρ2 ω2 => DD.bk (ρ2.set i none) (dropX d ω2), ct := fun ρ2 ω2 => DD.ct (ρ2.set i none) (dropX d ω2), xc := fun _ _ _ _ => False }
      (ρ'.set i (some (refD a))) ω'') ∧ (b = false → DD.xc C fs ρ' ω') }, w, s, ⟨cs.nx, cs.bk, cs.ct, cs.rt, fun C fs ρ' ω' d σ' J' H' z' g' w' s' xd => ?_⟩, z⟩
  obtain ⟨b, hb, h1, h2⟩ := z'
  refine ⟨b, hb, fun eb a ha => ?_, fun eb => cs.xc _ _ _ _ _ _ _ _ (h2 eb) g' w' s' xd⟩
  have main : ∀ ω'', Rw X.K J' H' ω'' → XdIn d fs ω' ω'' → (∀ {J2 H2 ω2}, Grow J' H' ω'' J2 H2 ω2 → Grow J H ω J2 H2 (dropX d ω2)) → liftS X.K W0 (ts a (.ref C) d) { nx := fun σ2 H2 => D.nx (σ2.set i none) H2, rt := D.rt, bk := fun σ2 H2 => D.bk (σ2.set i none) H2, ct := fun σ2 H2 => D.ct (σ2.set i none) H2 } (σ'.set i (some (.ref a))) H' := by
    intro ω'' w'' xin tr
    exact ⟨J', ω'', _, { nx := fun ρ2 ω2 => DD.nx (ρ2.set i none) (dropX d ω2), rt := fun r ω2 => DD.rt r (dropX d ω2), bk := fun ρ2 ω2 => DD.bk (ρ2.set i none) (dropX d ω2), ct := fun ρ2 ω2 => DD.ct (ρ2.set i none) (dropX d ω2), xc := fun _ _ _ _ => False }, w'', s'.set i (.ref a), ⟨fun ρ2 ω2 σ2 J2 H2 z2 g2 w2 s2 => cs.nx _ _ _ _ _ z2 (tr g2) (w2.dropX d) (s2.clear i none), fun ρ2 ω2 σ2 J2 H2 z2 g2 w2 s2 => cs.bk _ _ _ _ _ z2 (tr g2) (w2.dropX d) (s2.clear i none),
      fun ρ2 ω2 σ2 J2 H2 z2 g2 w2 s2 => cs.ct _ _ _ _ _ z2 (tr g2) (w2.dropX d) (s2.clear i none), fun r ω2 v J2 H2 z2 g2 w2 rp => cs.rt _ _ _ _ _ z2 (tr g2) (w2.dropX d) rp, (fun _ _ _ _ _ _ _ _ z _ _ _ _ => False.elim z)⟩, h1 eb a d ω'' xin⟩
  cases d with
  | none => exact main ω' w' (.inl ⟨rfl, xd, rfl⟩) fun g2 => g'.trans g2
  | some dd =>
    obtain ⟨n0, jD, oD, gs, hg, rf⟩ := xd
    refine main (updW ω' dd (.xd fs)) (w'.step (Same.refl _) w'.jh (fun _ _ j => j) fun b m e => ?_) (.inr ⟨dd, rfl, oD.1, rfl⟩) fun g2 => ?_
    · by_cases eb : b = dd
      · subst eb
        rw [updW_same] at e
        cases e
        refine .inr ⟨jD, ⟨gs, hg, rf⟩, fun b' pb => False.elim pb, fun c m' nc e => ?_⟩
        rw [updW_ne nc] at e
        exact ⟨oD.2 c m' e, fun b' pb => False.elim pb⟩
      · rw [updW_ne eb] at e; exact .inl ⟨e, fun _ _ _ z => z⟩
    · have ne : ∀ b, H b ≠ none → b ≠ dd := fun b h e => h (by rw [e]; exact n0)
      refine ⟨g'.jj.trans g2.jj, fun b h => g2.dom b (g'.dom b h), fun b o h y => ?_, fun b h y j => ?_, fun b h y => ?_⟩
      · have hb := ne b (by rw [h]; simp)
        exact g2.keep b o (g'.keep b o h y) (fr_upd rfl (g'.frw b (by rw [h]; simp) y) hb)
      · exact g2.frj b (h.elim fun o e => ⟨o, g'.keep b o e.1 y, e.2⟩) (fr_upd rfl (g'.frw b h.ne y) (ne b h.ne)) (g'.frj b h y j)
      · exact fr_del (g2.frw b (g'.dom b h) (fr_upd rfl (g'.frw b h y) (ne b h)))
end
end Tx

namespace Tx
open PySem PySem.Spec PyProof.Rows L2
/-! ## More rules over data -/
def max2D : RD1 := fun xs _ Q => match xs with
  | [.int m, .int n] => Q (.int (if n > m then n else m))
  | _ => False
def min2D : RD1 := fun xs _ Q => match xs with
  | [.int m, .int n] => Q (.int (if n < m then n else m))
  | _ => False
section
variable {X : Cx} {K : PySem.W.Frag}
theorem rpAll2 {J : Hp} {vs : List V} {m n : Int} (h : RpAll K J vs [.int m, .int n]) : vs = [.int m, .int n] := by
  cases h with
  | cons h1 h2 => cases h2 with | cons h2 h3 => cases h3; cases h1; cases h2; rfl
theorem dc_max2 (hK : X.K = K) (hc : X.calm = true) : CallR X (.builtin "max") (liftA K max2D) := by
  intro pins s σ H xs us Q I rel h
  obtain ⟨J, ω, ds, q, w, hx, c, z⟩ := h
  unfold max2D at z
  split at z
  · obtain rfl := rpAll2 hx
    exact call_max2 hc pins s σ H _ us Q I rel ⟨_, _, rfl, c.now w z (.int _)⟩
  · exact False.elim z
theorem dc_min2 (hK : X.K = K) (hc : X.calm = true) : CallR X (.builtin "min") (liftA K min2D) := by
  intro pins s σ H xs us Q I rel h
  obtain ⟨J, ω, ds, q, w, hx, c, z⟩ := h
  unfold min2D at z
  split at z
  · obtain rfl := rpAll2 hx
    exact call_min2 hc pins s σ H _ us Q I rel ⟨_, _, rfl, c.now w z (.int _)⟩
  · exact False.elim z
end
/-- == of data, whatever it is -/
theorem full_str {ω : Wd} {a : Str} {d : PyData} (h : Full ω (.str a) d) : d = .str a := by
  rcases h with h | h
  · exact h.symm
  · simpa only [full] using h.symm
theorem full_int {ω : Wd} {a : Int} {d : PyData} (h : Full ω (.int a) d) : d = .int a := by
  rcases h with h | h
  · exact h.symm
  · simpa only [full] using h.symm
theorem eqv_str (a b : Str) : PyData.eqv (.str a) (.str b) = decide (a = b) := by
  simp only [PyData.eqv]
  by_cases h : a = b
  · rw [decide_eq_true h, h]; simp
  · rw [decide_eq_false h]; exact beq_eq_false_iff_ne.mpr h
theorem eqv_int (a b : Int) : PyData.eqv (.int a) (.int b) = decide (a = b) := by
  simp only [PyData.eqv]
  by_cases h : a = b
  · rw [decide_eq_true h, h]; simp
  · rw [decide_eq_false h]; exact beq_eq_false_iff_ne.mpr h
theorem eqD_of {ω : Wd} {x y d e : PyData} {Q : PyData → Prop} (f1 : Full ω x d) (f2 : Full ω y e) (s1 : SeqAt.shaped d = true) (s2 : SeqAt.shaped e = true) (z : Q (.bool (PyData.eqv d e))) : eqD x y ω Q := by
  unfold eqD
  split
  · rw [full_str f1, full_str f2, eqv_str] at z; exact z
  · rw [full_int f1, full_int f2, eqv_int] at z; exact z
  · exact ⟨d, e, f1, f2, s1, s2, z⟩
theorem neD_of {ω : Wd} {x y d e : PyData} {Q : PyData → Prop} (f1 : Full ω x d) (f2 : Full ω y e) (s1 : SeqAt.shaped d = true) (s2 : SeqAt.shaped e = true) (z : Q (.bool (!PyData.eqv d e))) : neD x y ω Q := by
  unfold neD
  split
  · rw [full_str f1, full_str f2, eqv_str] at z; exact z
  · rw [full_int f1, full_int f2, eqv_int] at z; exact z
  · exact ⟨d, e, f1, f2, s1, s2, z⟩
/-- a text that is the same -/
theorem ne_same {a : Str} {A B : Prop} (h : B) : if (!decide (a = a)) = true then A else B := by rw [decide_eq_true rfl]; exact iteF h
/-! ### the error that a suite holds -/
def dXf (a : Addr) (cls : Value) (d : Option Addr) (C : Addr) (f : Str) (te : DTE) (ρ : DS) (ω : Wd) (q : DQ) (x : DXK) : Prop := te ρ ω (fun r ω1 => r = refD a ∧ cls = .ref C ∧ ∃ dd fs v, d = some dd ∧ ω1 dd = some (.xd fs) ∧ fs.lookup f = some v ∧ q v ω1) x
def dIsX (K : PySem.W.Frag) (a : Addr) (cls : Value) (d : Option Addr) (D C : Addr) (te : DTE) (ρ : DS) (ω : Wd) (q : DQ) (x : DXK) : Prop := te ρ ω (fun r ω1 => r = refD a ∧ cls = .ref D ∧ (∀ dd, d = some dd → ∃ fs, ω1 dd = some (.xd fs)) ∧ ∃ b, PySem.W.kitOne K (.ref D) (.ref C) = some b ∧ q (.bool b) ω1) x
theorem rpf_lookup {K : PySem.W.Frag} {J : Hp} {f : Str} {v : PyData} : ∀ {gs : List (Str × V)} {fs : List (Str × PyData)}, RpF K J gs fs → fs.lookup f = some v → ∃ u, gs.lookup f = some u ∧ Rp K J u v
  | _, _, .nil, e => by simp at e
  | (g, u) :: gs, (k, y) :: fs, .cons h t, e => by
    obtain ⟨h1, h2⟩ := h
    simp only at h1 h2
    subst h1
    rw [List.lookup_cons] at e ⊢
    split at e
    · rename_i hf
      cases e
      exact ⟨u, by simp [hf], h2⟩
    · rename_i hf
      obtain ⟨u2, e1, e2⟩ := rpf_lookup t e
      exact ⟨u2, by simp [hf, e1], e2⟩
section
variable {W : WX} {X : Cx} {K : PySem.W.Frag} {a D C C2 : Addr} {oe : Obj} {cls : Value} {d : Option Addr} {pn : List (Addr × Obj)} {e t : Expr} {te : DTE} {pos p : Pos} {n : Str}
theorem de_xf (hK : X.K = K) (T : XfC X.K C) (hno : PySem.W.findIn X.K (.ref C) n = some none) (hz : Zc cls d oe) (hf : ∃ vs, oe.data = .fields vs) (he : DE W (X.suite a ((a, oe) :: pn)) K e te) (hb : attributeBase e n X.env (eval e X.env) = eval e X.env := by rfl) :
    DE W (X.suite a ((a, oe) :: pn)) K (.Attribute e n pos) (dXf a cls d C n te) := by
  obtain ⟨r, pe, k⟩ := he
  refine ⟨_, pe_xf T hno hz hf pe hb, fun σ H J ω ρ q x Q w s cq cx z => k σ H J ω ρ _ x _ w s (fun rr ω1 v J1 H1 z1 g1 w1 rp => ?_) cx z⟩
  obtain ⟨rfl, ec, dd, fs, y, ed, eω, el, z2⟩ := z1
  obtain rfl := rp_ref rp
  obtain ⟨gs, hg, rf⟩ := w1.cell dd _ eω
  obtain ⟨u, e1, e2⟩ := rpf_lookup rf el
  exact ⟨rfl, ec, dd, gs, u, ed, hg, e1, (cq.step g1).now w1 z2 e2⟩
theorem de_isX (hK : X.K = K) (CC : ExcC X.K D) (hz : Zc cls d oe) (hf : ∃ vs, oe.data = .fields vs) (hg : Gl (X.suite a ((a, oe) :: pn)) "isinstance") (hm : X.mg "isinstance" = none) (he : DE W (X.suite a ((a, oe) :: pn)) K e te) (ht : PE (X.suite a ((a, oe) :: pn)) t (tC (.ref C2)))
    (h1 : starEach (e :: [t]) X.env = (false, eval e X.env) :: starEach [t] X.env := by rfl) (h2 : starEach [t] X.env = (false, eval t X.env) :: starEach [] X.env := by rfl) (hpl : (backTo pos (starEach [t] X.env)).any (·.1) = false := by rfl) :
    DE W (X.suite a ((a, oe) :: pn)) K (.Call (.Name "isinstance" p) [e, t] [] pos) (dIsX K a cls d D C2 te) := by
  subst hK
  obtain ⟨r, pe, k⟩ := he
  refine ⟨_, pe_callB (call_isX CC hz hf) hg hm (by decide +kernel) (pa_cons pe (pa_cons ht pa_nil h2) h1) (by decide) (by decide) h1 hpl, fun σ H J ω ρ q x Q w s cq cx z => k σ H J ω ρ _ x _ w s (fun rr ω1 v J1 H1 z1 g1 w1 rp => ?_) cx z⟩
  obtain ⟨rfl, ec, hd, b, kb, z2⟩ := z1
  obtain rfl := rp_ref rp
  refine ⟨_, _, b, rfl, ec, .own C2, kb, fun dd e => ?_, (cq.step g1).now w1 z2 (.bl _)⟩
  obtain ⟨fs, eω⟩ := hd dd e
  obtain ⟨gs, hg, _⟩ := w1.cell dd _ eω
  exact ⟨gs, hg⟩
end
end Tx

namespace Tx
open PySem PySem.Spec PyProof.Rows L2
/-! ## New things; the law's own def -/
/-- v is data d, or a new list, of new lists, that stands for d -/
def Tm (ω : Wd) (v d : PyData) (ω' : Wd) : Prop := (isL d = false ∧ v = d ∧ ω' = ω) ∨ ∃ a N, v = refD a ∧ ω a = none ∧ ω' = updW ω a (.tmp N d) ∧ isL d = true
/-- such a thing becomes data -/
def Fz (v : PyData) (ω1 : Wd) (d : PyData) (ω2 : Wd) : Prop := (v = d ∧ ω2 = ω1) ∨ ∃ a N, v = refD a ∧ ω1 a = some (.tmp N d) ∧ ω2 = delW ω1 a
theorem Tm.fz {ω ω' : Wd} {v d : PyData} (h : Tm ω v d ω') : Fz v ω' d ω := by
  rcases h with ⟨_, h1, h2⟩ | ⟨a, N, h1, h2, h3, _⟩
  · exact .inl ⟨h1, h2.symm⟩
  · exact .inr ⟨a, N, h1, by rw [h3, updW_same], by rw [h3, delW_updW h2]⟩
theorem Tm.full {ω ω' : Wd} {v d : PyData} (h : Tm ω v d ω') : Full ω' v d := by
  rcases h with ⟨_, h1, h2⟩ | ⟨a, N, h1, h2, h3, _⟩
  · exact .inl h1
  · rw [h1]; exact Full.tmp (N := N) (by rw [h3, updW_same])
def dFz (te : DTE) (ρ : DS) (ω : Wd) (q : DQ) (x : DXK) : Prop := te ρ ω (fun v ω1 => ∃ d ω2, Fz v ω1 d ω2 ∧ q d ω2) x
theorem de_fz {W : WX} {X : Cx} {K : PySem.W.Frag} {e : Expr} {td : DTE} (h : DE W X K e td) : DE W X K e (dFz td) := by
  obtain ⟨t, p, k⟩ := h
  refine ⟨t, p, fun σ H J ω ρ q x Q w s cq cx z => k σ H J ω ρ _ x _ w s (fun v ω1 u J1 H1 z1 g1 w1 r => ?_) cx z⟩
  obtain ⟨d, ω2, f, z2⟩ := z1
  rcases f with ⟨rfl, rfl⟩ | ⟨a, N, rfl, e1, rfl⟩
  · exact cq _ _ _ _ _ z2 g1 w1 r
  · obtain rfl := rp_ref r
    obtain ⟨_, rN, _⟩ := w1.cell a _ e1
    exact cq _ _ _ _ _ z2 (g1.trans (grow_thaw w1 e1)) (rw_thaw w1 e1) (rp_mono same_joinN _ _ rN)
section
variable {K : PySem.W.Frag} {J J' H H' : Hp} {ω : Wd} {b : Addr}
theorem gro_grow (w : Rw K J H ω) (hb : ω b = some .bag) (g : Gro b J H J' H') : Grow J H ω J' H' ω ∧ Rw K J' H' ω := by
  have hB : Bag H b := w.cell b _ hb
  have ne : ∀ a, Fr ω a → a ≠ b := fun a z e => by have := z.1; rw [e, hb] at this; cases this
  constructor
  · exact ⟨g.jj, fun a h => g.st.there hB h, fun a o h z => g.st.keep a o (ne a z) h, fun a h _ j => g.fr a h.ne j, fun _ _ z => z⟩
  · refine w.step g.jj g.jh g.fr fun a m e => ?_
    by_cases z : a = b
    · subst z
      rw [hb] at e
      cases e
      exact .inr ⟨g.fr a (w.there hb) (w.out a _ hb), g.st.bag, fun b' pb => False.elim pb, fun c m' nc e => ⟨w.apart hb nc e, fun b' pb => False.elim pb⟩⟩
    · refine .inl ⟨e, fun b' o l h => g.st.keep b' o ?_ h⟩
      rintro rfl
      rcases l with rfl | nb
      · exact z rfl
      · exact w.apart hb z e nb
theorem stp_grow (w : Rw K J H ω) (hb : ω b = some .bag) (g : Stp b H H') : Grow J H ω J H' ω ∧ Rw K J H' ω := gro_grow w hb (g.gro (w.out b _ hb) w.jh)
end
section
variable {P : Program} {w : World} {K : PySem.W.Frag} {mg : Str → Option Value} {base : Heap}
theorem rp_int {J : Hp} {v : V} {i : Int} (h : Rp K J v (.int i)) : v = .int i := by cases h; rfl
theorem same_grow {J H H' : Hp} {ω : Wd} (w : Rw K J H ω) (s : Same H H') : Grow J H ω J H' ω ∧ Rw K J H' ω :=
  ⟨⟨Same.refl _, fun a h => by
    cases q : H a with
    | none => exact absurd q h
    | some o => rw [s _ _ q]; simp, fun a o h _ => s a o h, fun _ _ _ j => j, fun _ _ z => z⟩, w.step (Same.refl _) (w.jh.trans s) (fun _ _ j => j) fun a m e => .inl ⟨e, fun b o _ h => s b o h⟩⟩
theorem val_dp {J H : Hp} {v : V} {d : PyData} (s : Same J H) (r : Rp K J v d) (h : isVal d = true) : Dp K H v d := dp_mono s _ _ (rp_dp _ _ (fine_lay _ (val_fine _ h)) r)
/-- what a new thing of new lists is as a cell -/
theorem tm_cov {J H H' N : Hp} {ω : Wd} {q : DQ} {Q : VK} {v : V} {d : PyData} (w : Rw K J H ω) (g : Grow J H ω J H' ω) (w1 : Rw K J H' ω) (cq : CovQ K J H ω q Q) (nn : ∀ b, N b ≠ none → H b = none) (s : Same N H') (r : Rp K N v d) (val : isVal d = true)
    (z : ∀ u ω', Tm ω u d ω' → q u ω') : Q v H' := by
  cases r with
  | non => exact cq _ _ _ _ _ (z _ _ (.inl ⟨rfl, rfl, rfl⟩)) g w1 .non
  | str x => exact cq _ _ _ _ _ (z _ _ (.inl ⟨rfl, rfl, rfl⟩)) g w1 (.str x)
  | @lst a vs ds hs ha =>
    have na : N a ≠ none := by rw [hs]; simp
    have nh := nn a na
    exact cq _ _ _ _ _ (z _ _ (.inr ⟨a, N, rfl, (w.free nh).1, rfl, rfl⟩)) (grow_tmp (m := .tmp N _) g nn nh) (rw_tmp w w1 nn s (.lst hs ha) na) (.ref a)
  | bl _ => cases val
  | int _ => cases val
  | tup _ _ => cases val
  | ref _ => cases val
  | scr _ => cases val
  | pub _ => cases val
  | dic _ _ => cases val
  | obj _ _ => cases val
theorem gro_tm {J H H' N : Hp} {ω : Wd} {b : Addr} {q : DQ} {Q : VK} {v : V} {d : PyData} (w : Rw K J H ω) (hb : ω b = some .bag) (g : Gro b (fun _ => none) H N H') (cq : CovQ K J H ω q Q) (r : Rp K N v d) (val : isVal d = true) (z : ∀ u ω', Tm ω u d ω' → q u ω') : Q v H' := by
  obtain ⟨g2, w2⟩ := stp_grow w hb g.st
  refine tm_cov w g2 w2 cq (fun b nb => ?_) g.jh r val z
  cases q : H b with
  | none => rfl
  | some o => exact absurd (g.fr b (by rw [q]; simp) rfl) nb
/-! ### the law's own def -/
def spLaw (K : PySem.W.Frag) : Sp := fun vs H Q _ => ∃ (a : Addr) (ns : List Int), vs = [.ref a] ∧ SqL K H a (ns.map V.int) ∧ ns.length ≤ 63 ∧ ∀ H', Q (.bl true) H'
def dsLaw : DSp := fun ts ω q _ => ∃ (a : Addr) (ns : List Int), ts = [scrD a ns] ∧ ns.length ≤ 63 ∧ ω = (fun _ => none) ∧ ∀ ω', q (.bool true) ω'
theorem law_of {k : Nat} {ps : List Str} (D : Dfn P w K mg base CX0 k "law" ps (spD K dsLaw)) : Dfn P w K mg base CX0 k "law" ps (spLaw K) := by
  obtain ⟨f, fd, F, r⟩ := D
  have key : ∀ vs H Q E, spLaw K vs H Q E → spD K dsLaw vs H Q E := by
    rintro vs H Q E ⟨a, ns, rfl, hs, hl, q⟩
    refine ⟨H, fun _ => none, [scrD a ns], fun d _ => d = .bool true, X0, ⟨Same.refl _, (fun _ _ e => nomatch e), (fun _ _ e => nomatch e), (fun _ _ e => nomatch e)⟩, .cons (.scr hs) .nil, fun r ω' v J' H' z _ _ rp => ?_, (fun _ _ _ _ _ _ z => False.elim z), a, ns, rfl, hl, rfl, fun _ => rfl⟩
    subst z
    cases rp
    exact q H'
  exact ⟨f, fd, ⟨fun vs H Q E z => F.len _ _ _ _ (key _ _ _ _ z), fun A out s H ar us vs Q E ro g e b v z => F.run A out s H ar us vs Q E ro g e b v (key _ _ _ _ z)⟩, r⟩
end
end Tx

namespace Tx
open PySem PySem.Spec PyProof.Rows L2
/-! ## The first place at which something is no value -/
/-- a place, as a tuple of numbers -/
def plD (p : List Nat) : PyData := .tuple (p.map fun (n : Nat) => PyData.int (n : Int))
mutual
def wrongP : PyData → Option (List Nat)
  | .none => none
  | .str x => if ltr x = true then none else some []
  | .list xs => wrongAll 0 xs
  | _ => some []
def wrongAll (i : Nat) : List PyData → Option (List Nat)
  | [] => none
  | x :: xs => match wrongP x with
    | some p => some (i :: p)
    | none => wrongAll (i + 1) xs
end
def isTxt : PyData → Bool
  | .str x => ltr x
  | _ => false
theorem wrongAll_drop {ds : List PyData} {i : Nat} {d : PyData} (h : ds[i]? = some d) (n : wrongP d = none) (e : wrongAll 0 ds = wrongAll i (ds.drop i)) : wrongAll 0 ds = wrongAll (i + 1) (ds.drop (i + 1)) := by
  have hi : i < ds.length := (List.getElem?_eq_some_iff.mp h).1
  rw [e, List.drop_eq_getElem_cons hi]
  have hd : ds[i] = d := by rw [List.getElem?_eq_getElem hi] at h; exact Option.some.inj h
  rw [hd]
  simp only [wrongAll, n]
theorem wrongAll_at {ds : List PyData} {i : Nat} {d : PyData} {p : List Nat} (h : ds[i]? = some d) (n : wrongP d = some p) (e : wrongAll 0 ds = wrongAll i (ds.drop i)) : wrongAll 0 ds = some (i :: p) := by
  have hi : i < ds.length := (List.getElem?_eq_some_iff.mp h).1
  rw [e, List.drop_eq_getElem_cons hi]
  have hd : ds[i] = d := by rw [List.getElem?_eq_getElem hi] at h; exact Option.some.inj h
  rw [hd]
  simp only [wrongAll, n]
mutual
theorem wrong_len : ∀ (d : PyData) (p : List Nat), wrongP d = some p → p.length ≤ d.depth
  | .none, p, h => by simp [wrongP] at h
  | .bool _, p, h => by simp only [wrongP] at h; cases h; simp
  | .int _, p, h => by simp only [wrongP] at h; cases h; simp
  | .tuple _, p, h => by simp only [wrongP] at h; cases h; simp
  | .dict _, p, h => by simp only [wrongP] at h; cases h; simp
  | .str x, p, h => by
    simp only [wrongP] at h
    split at h
    · cases h
    · cases h; simp
  | .list xs, p, h => by
    simp only [wrongP] at h
    have := wrongAll_len xs 0 p h
    simpa only [PyData.depth] using this
theorem wrongAll_len : ∀ (xs : List PyData) (i : Nat) (p : List Nat), wrongAll i xs = some p → p.length ≤ PyData.depthAll xs + 1
  | [], i, p, h => by simp [wrongAll] at h
  | x :: xs, i, p, h => by
    simp only [wrongAll] at h
    simp only [PyData.depthAll]
    cases e : wrongP x with
    | some q =>
      rw [e] at h
      cases h
      have := wrong_len x q e
      simp only [List.length_cons]
      omega
    | none =>
      rw [e] at h
      have := wrongAll_len xs (i + 1) p h
      omega
end
theorem abc_mem (c : Nat) : decide (c ∈ (("abcdefghijklmnopqrstuvwxyz" : Str)).cps.toList) = decide (97 ≤ c ∧ c ≤ 122) := by
  have e : (("abcdefghijklmnopqrstuvwxyz" : Str)).cps.toList = List.range' 97 26 := by decide +kernel
  rw [e]
  by_cases h : 97 ≤ c ∧ c ≤ 122
  · rw [decide_eq_true h, decide_eq_true (List.mem_range'_1.mpr ⟨h.1, by omega⟩)]
  · rw [decide_eq_false h, decide_eq_false fun z => h (by have := List.mem_range'_1.mp z; omega)]
/-- a thing that the texts take: shown well, not too deep -/
structure Thing (n m : Nat) (d : PyData) : Prop where
  fine : fine d = true
  deep : d.depth ≤ n
  wt : wt d ≤ m
theorem Thing.mono {n m n' m' : Nat} {d : PyData} (h : Thing n m d) (h1 : n ≤ n') (h2 : m ≤ m') : Thing n' m' d := ⟨h.fine, Nat.le_trans h.deep h1, Nat.le_trans h.wt h2⟩
theorem Thing.ok {n m : Nat} {d : PyData} (h : Thing n m d) (h1 : n ≤ 60) (h2 : m ≤ 16000000) : Ok d := ⟨h.fine, Nat.le_trans h.deep h1, Nat.le_trans h.wt h2⟩
theorem Val.thing {n m : Nat} {d : PyData} (h : Val n m d) : Thing n (12 * m) d := ⟨val_fine d h.val, h.deep, by have := val_wt d h.val; have := h.size; omega⟩
theorem Thing.item {n m : Nat} {ds : List PyData} (h : Thing n m (.list ds)) {d : PyData} (hd : d ∈ ds) : Thing (n - 1) m d := by
  have h1 := h.fine
  have h2 := h.deep
  have h3 := h.wt
  simp only [Tx.fine] at h1
  simp only [PyData.depth] at h2
  simp only [Tx.wt] at h3
  have := depth_mem hd
  have := wt_mem hd
  exact ⟨fineAll_iff.mp h1 d hd, by omega, by omega⟩
mutual
theorem depth_wt : ∀ d : PyData, Tx.fine d = true → d.depth ≤ Tx.wt d
  | .none, _ => by simp [PyData.depth]
  | .bool _, _ => by simp [PyData.depth]
  | .int _, _ => by simp [PyData.depth]
  | .str _, _ => by simp [PyData.depth]
  | .list xs, h => by
    simp only [Tx.fine] at h
    have := depthAll_wt xs h
    simp only [PyData.depth, Tx.wt]
    omega
  | .tuple xs, h => by
    simp only [Tx.fine] at h
    have := depthAll_wt xs h
    simp only [PyData.depth, Tx.wt]
    omega
  | .dict _, h => by simp [Tx.fine] at h
theorem depthAll_wt : ∀ xs : List PyData, fineAll xs = true → PyData.depthAll xs ≤ wtAll xs
  | [], _ => by simp [PyData.depthAll]
  | x :: xs, h => by
    simp only [fineAll, Bool.and_eq_true] at h
    have := depth_wt x h.1
    have := depthAll_wt xs h.2
    simp only [PyData.depthAll, wtAll]
    omega
end
theorem len_le_wtAll : ∀ xs : List PyData, 2 * xs.length ≤ wtAll xs
  | [] => by simp [wtAll]
  | x :: xs => by
    have := len_le_wtAll xs
    simp only [wtAll, List.length_cons]
    omega
theorem Thing.len {n m : Nat} {ds : List PyData} (h : Thing n m (.list ds)) : 2 * ds.length ≤ m := by
  have h3 := h.wt
  simp only [Tx.wt] at h3
  have := len_le_wtAll ds
  omega
end Tx

namespace Tx
open PySem PySem.Spec PyProof.Rows L2
/-! ## Rules of the kit with the written part named (within a comprehension it must be) -/
section
variable {X : Cx} {K : PySem.W.Frag}
theorem op_catTK (h : X.K = K) : OpR X (binaryOp .Add) (rCatT K) := h ▸ op_catT
theorem op_eqDK (h : X.K = K) (u : X.A.units + 64 < cLine) : OpR X (compareOp .Eq) (rEqD K) := h ▸ op_eqD u
theorem op_neDK (h : X.K = K) (u : X.A.units + 64 < cLine) : OpR X (compareOp .NotEq) (rNeD K) := h ▸ op_neD u
theorem ix_listK (h : X.K = K) : IxR X (rIxL K) := h ▸ ix_list
theorem ix_tupK (h : X.K = K) : IxR X (rIxT K) := h ▸ ix_tup
theorem sl_listK (h : X.K = K) : SlR X (rSlL K) := h ▸ sl_list
theorem sl_tupK (h : X.K = K) : SlR X (rSlT K) := h ▸ sl_tup
theorem call_len_seqK (h : X.K = K) : CallR X (.builtin "len") (fun xs H Q => ∃ p ys, xs = [.ref p] ∧ (SqL K H p ys ∨ SqT K H p ys) ∧ Q (.int ys.length) H) := h ▸ call_len_seq
theorem call_isDK {T : String} (h : X.K = K) : CallR X (.builtin "isinstance") (rIsD K T) := h ▸ call_isD
theorem call_reprK (h : X.K = K) (gd : X.A.guards = some []) (hu : X.A.units + 64 < cLine) : CallR X (.builtin "repr") (rRepr K) := h ▸ call_repr gd hu
theorem op_in_seqK (h : X.K = K) : OpR X (compareOp .In) (rIn K false) := h ▸ op_in_seq
end
/-! ## Data that stays while the things at F are changed -/
def hide (F : List Addr) (H : Hp) : Hp := fun a => if a ∈ F then none else H a
def Dq (K : PySem.W.Frag) (F : List Addr) (H : Hp) (v : V) (d : PyData) : Prop := Dp K (hide F H) v d
def DqAll (K : PySem.W.Frag) (F : List Addr) (H : Hp) (vs : List V) (ds : List PyData) : Prop := DpAll K (hide F H) vs ds
/-- the things at F are there -/
def There (F : List Addr) (H : Hp) : Prop := ∀ a ∈ F, H a ≠ none
section
variable {K : PySem.W.Frag} {F : List Addr} {H H' : Hp} {p : Addr} {o : HO} {v : V} {d : PyData} {vs : List V} {ds : List PyData}
theorem hide_in (h : p ∈ F) : hide F H p = none := if_pos h
theorem hide_out (h : p ∉ F) : hide F H p = H p := if_neg h
theorem hide_le : Same (hide F H) H := fun a o e => by
  unfold hide at e
  split at e
  · cases e
  · exact e
theorem hide_same (s : Same H H') : Same (hide F H) (hide F H') := fun a o e => by
  unfold hide at e ⊢
  split at e
  · cases e
  · rename_i h; rw [if_neg h]; exact s a o e
theorem hide_cons : Same (hide (p :: F) H) (hide F H) := fun a o e => by
  unfold hide at e ⊢
  split at e
  · cases e
  · rename_i h; rw [if_neg fun z => h (List.mem_cons_of_mem _ z)]; exact e
theorem hide_sub {F' : List Addr} (h : ∀ a ∈ F, a ∈ F') : Same (hide F' H) (hide F H) := fun a o e => by
  unfold hide at e ⊢
  split at e
  · cases e
  · rename_i z; rw [if_neg fun y => z (h a y)]; exact e
theorem There.fresh (t : There F H) (h : H p = none) : p ∉ F := fun z => t p z h
theorem There.same (t : There F H) (s : Same H H') : There F H' := fun a h => by
  cases q : H a with
  | none => exact absurd q (t a h)
  | some o => rw [s a o q]; simp
theorem There.upd (t : There F H) : There F (upd H p o) := fun a h => by
  by_cases z : a = p
  · rw [z, upd_same]; simp
  · rw [upd_ne z]; exact t a h
theorem There.cons (t : There F H) (h : H p = some o) : There (p :: F) H := fun a z => by
  cases z with
  | head => rw [h]; simp
  | tail _ z => exact t a z
theorem There.one (h : H p = some o) : There [p] H := fun a z => by rw [List.mem_singleton.mp z, h]; simp
theorem hide_upd (h : p ∉ F) : hide F (upd H p o) = upd (hide F H) p o := by
  funext a
  by_cases z : a = p
  · subst z; rw [hide_out h, upd_same, upd_same]
  · rw [upd_ne z]
    unfold hide
    rw [upd_ne z]
theorem hide_upd_in (h : p ∈ F) : hide F (upd H p o) = hide F H := by
  funext a
  unfold hide
  split
  · rfl
  · rename_i z; rw [upd_ne fun y => z (by rw [y]; exact h)]
theorem hide_mut (h : p ∈ F) : Same (hide F H) (hide F (upd H p o)) := by rw [hide_upd_in h]; exact Same.refl _
theorem Dq.dp (h : Dq K F H v d) : Dp K H v d := dp_mono hide_le d v h
theorem DqAll.dp (h : DqAll K F H vs ds) : DpAll K H vs ds := dpAll_mono hide_le ds vs h
theorem Dq.to (h : Dq K F H v d) (s : Same (hide F H) (hide F H')) : Dq K F H' v d := dp_mono s d v h
theorem DqAll.to (h : DqAll K F H vs ds) (s : Same (hide F H) (hide F H')) : DqAll K F H' vs ds := dpAll_mono s ds vs h
theorem Dq.same (h : Dq K F H v d) (s : Same H H') : Dq K F H' v d := h.to (hide_same s)
theorem DqAll.same (h : DqAll K F H vs ds) (s : Same H H') : DqAll K F H' vs ds := h.to (hide_same s)
theorem Dq.less (h : Dq K (p :: F) H v d) : Dq K F H v d := dp_mono hide_cons d v h
theorem DqAll.less (h : DqAll K (p :: F) H vs ds) : DqAll K F H vs ds := dpAll_mono hide_cons ds vs h
/-- a further thing is guarded that is new -/
theorem Dq.more (h : Dq K F H v d) (n : H p = none) : Dq K (p :: F) H v d := dp_mono (fun a o e => by
  have z : a ≠ p := fun z => by rw [z] at e; have := hide_le p o e; rw [n] at this; cases this
  unfold hide at e ⊢
  split at e
  · cases e
  · rename_i y; rw [if_neg fun q => by cases q with | head => exact z rfl | tail _ q => exact y q]; exact e) d v h
theorem DqAll.more (h : DqAll K F H vs ds) (n : H p = none) : DqAll K (p :: F) H vs ds := dpAll_mono (fun a o e => by
  have z : a ≠ p := fun z => by rw [z] at e; have := hide_le p o e; rw [n] at this; cases this
  unfold hide at e ⊢
  split at e
  · cases e
  · rename_i y; rw [if_neg fun q => by cases q with | head => exact z rfl | tail _ q => exact y q]; exact e) ds vs h
/-- a list (a tuple) of one's own -/
theorem Dq.lst (n : p ∉ F) (e : H p = some (.lst vs)) (h : DqAll K (p :: F) H vs ds) : Dq K F H (.ref p) (.list ds) := L2.Dp.lst (SqL.of (by rw [hide_out n]; exact e)) h.less
theorem Dq.tup (n : p ∉ F) (e : H p = some (.tup vs)) (h : DqAll K F H vs ds) : Dq K F H (.ref p) (.tuple ds) := L2.Dp.tup (SqT.of (by rw [hide_out n]; exact e)) h
theorem Dq.newL (n : H p = none) (t : There F H) (h : DqAll K F H vs ds) : Dq K F (upd H p (.lst vs)) (.ref p) (.list ds) :=
  L2.Dp.lst (SqL.of (by rw [hide_out (t.fresh n), upd_same])) (h.same (same_new n _))
theorem Dq.newT (n : H p = none) (t : There F H) (h : DqAll K F H vs ds) : Dq K F (upd H p (.tup vs)) (.ref p) (.tuple ds) :=
  L2.Dp.tup (SqT.of (by rw [hide_out (t.fresh n), upd_same])) (h.same (same_new n _))
/-- a place: numbers alone -/
theorem place_q {b : Addr} {q : List Nat} (hb : ∀ ys, H b ≠ some (.tup ys)) (hf : ∀ o ys, H b ≠ some (.frz o (.tup ys))) (h : Dp K H v (plD q)) : Dq K [b] H v (plD q) := by
  cases h with
  | @tup a xs _ hs ha =>
  have ha' : ∀ (q : List Nat) (xs : List V), DpAll K H xs (q.map fun (n : Nat) => PyData.int (n : Int)) → DpAll K (hide [b] H) xs (q.map fun (n : Nat) => PyData.int (n : Int)) := by
    intro q
    induction q with
    | nil => intro xs h; cases h; exact .nil
    | cons n q ih =>
      intro xs h
      cases h with
      | cons h1 h2 => cases h1; exact .cons (.int _) (ih _ h2)
  refine L2.Dp.tup ?_ (ha' q xs ha)
  rcases hs with (e | ⟨o, e⟩) | e
  · exact .inl (.inl (by rw [hide_out fun z => hb xs (by rw [← List.mem_singleton.mp z]; exact e)]; exact e))
  · exact .inl (.inr ⟨o, by rw [hide_out fun z => hf o xs (by rw [← List.mem_singleton.mp z]; exact e)]; exact e⟩)
  · exact .inr e
end
section
variable {K : PySem.W.Frag} {b : Addr} {F : List Addr} {H H' J' : Hp} {v : V} {d : PyData}
theorem Stp.hide (s : Stp b H H') (h : b ∈ F) : Same (hide F H) (hide F H') := fun a o e => by
  unfold Tx.hide at e ⊢
  split at e
  · cases e
  · rename_i z; rw [if_neg z]; exact s.keep a o (fun y => z (by rw [y]; exact h)) e
theorem Stp.thereF (s : Stp b H H') (hB : Bag H b) (t : There F H) : There F H' := fun a h => s.there hB (t a h)
theorem Gro.hide (g : Gro b (hide F H) H J' H') (t : There F H) : Same J' (Tx.hide F H') := fun a o e => by
  have n : a ∉ F := fun z => by rw [g.fr a (t a z) (hide_in z)] at e; cases e
  rw [hide_out n]
  exact g.jh a o e
theorem Gro.dq (g : Gro b (Tx.hide F H) H J' H') (t : There F H) (h : Dp K J' v d) : Dq K F H' v d := dp_mono (g.hide t) d v h
theorem Bag.there (h : Bag H b) : There [b] H := by
  obtain ⟨c, m, e⟩ := h
  exact There.one e
theorem Bag.same (h : Bag H b) (s : Same H H') : Bag H' b := by
  obtain ⟨c, m, e⟩ := h
  exact ⟨c, m, s _ _ e⟩
theorem Stp.ofSame (h : Bag H b) (s : Same H H') : Stp b H H' := ⟨h.same s, SameBut.of s⟩
end
end Tx

namespace Tx
open PySem PySem.Spec PyProof.Rows L2
/-! ## More rules: max with a default; a def that cannot raise here -/
/-- the greatest, or z -/
def maxOr (z : Int) : List Int → Int
  | [] => z
  | n :: r => r.foldl max n
def rMaxDf (K : PySem.W.Frag) : List V → List V → Hp → VK → Prop := fun vs zs H Q => ∃ (a : Addr) (ns : List Int) (z : Int), vs = [.ref a] ∧ zs = [.int z] ∧ SqL K H a (ns.map V.int) ∧ Q (.int (maxOr z ns)) H
theorem dp_ints {K : PySem.W.Frag} {H : Hp} : ∀ ns : List Int, DpAll K H (ns.map V.int) (ns.map PyData.int)
  | [] => .nil
  | n :: ns => .cons (.int n) (dp_ints ns)
theorem depth_ints : ∀ ns : List Int, PyData.depthAll (ns.map PyData.int) = 0
  | [] => rfl
  | n :: ns => by simp [PyData.depthAll, PyData.depth, depth_ints ns]
theorem cr_maxDf {X : Cx} (hc : X.calm = true) (hu : X.A.units + 64 < cLine) : CallRK X (.builtin "max") [Str.ofString "default"] (rMaxDf X.K) := by
  intro pins s σ H vs zs us ws Q I r rz h
  obtain ⟨a, ns, z, rfl, rfl, hs, q⟩ := h
  obtain ⟨its, rv, hl, _⟩ := I.list hs
  rw [Vals.ref1 r]
  obtain ⟨w1, rfl, t, rfl⟩ := vals1 rz
  obtain ⟨as, rd⟩ := Dp.readsAll I _ _ _ (dp_ints ns) rv
  have al : PySem.W.AlikeAll (ns.map PyData.int) := by
    refine ⟨fun x hx y hy => ?_, fun x hx => ?_⟩
    · obtain ⟨i, _, rfl⟩ := List.mem_map.mp hx
      obtain ⟨j, _, rfl⟩ := List.mem_map.mp hy
      rfl
    · obtain ⟨i, _, rfl⟩ := List.mem_map.mp hx
      exact fun z => nomatch z
  refine PySem.W.max_list_default (d := .int z t) (I.ok.hd hc) hl.isList (by simpa using rd) al (by rw [depth_ints]; omega) (fun e h' tk hk => ?_) (fun y ys i v h' tk bs e hv rd' hk => ?_)
  · obtain rfl : ns = [] := by cases ns with | nil => rfl | cons n r => cases e
    exact ⟨.int z, H, I.kept hk, ⟨t, rfl⟩, q⟩
  · cases ns with
    | nil => cases e
    | cons n r =>
      rw [List.map_cons] at e
      injection e with e1 e2
      subst e1 e2
      rw [PySem.W.maxD_ints] at rd'
      cases rd'
      exact ⟨.int _, H, I.kept hk, ⟨_, rfl⟩, q⟩
theorem foldl_max (ds : List PyData) : ∀ n : Nat, (ds.map fun d => (d.depth : Int)).foldl max (n : Int) = ((max n (PyData.depthAll ds) : Nat) : Int) := by
  induction ds with
  | nil => intro n; simp [PyData.depthAll]
  | cons d ds ih =>
    intro n
    rw [List.map_cons, List.foldl_cons]
    have : max (n : Int) (d.depth : Int) = ((max n d.depth : Nat) : Int) := by omega
    rw [this, ih]
    simp only [PyData.depthAll]
    omega
theorem maxOr_depth (ds : List PyData) : maxOr 0 (ds.map fun d => (d.depth : Int)) = (PyData.depthAll ds : Int) := by
  cases ds with
  | nil => rfl
  | cons d ds =>
    show (ds.map fun d => (d.depth : Int)).foldl max (d.depth : Int) = _
    rw [foldl_max]
    rfl
theorem Dfn.calm {P : Program} {w : World} {K : PySem.W.Frag} {mg : Str → Option Value} {base : Heap} {k : Nat} {x : Str} {ps : List Str} {sp sp' : Sp} (D : Dfn P w K mg base (L2.CX P w) k x ps sp) (h : ∀ vs H Q E, sp' vs H Q E → sp vs H Q fun _ _ _ => False) : Dfn P w K mg base CX0 k x ps sp' := by
  obtain ⟨f, fd, F, m, kp, bd⟩ := D
  refine ⟨f, fd, ⟨fun vs H Q E z => F.len _ _ _ _ (h _ _ _ _ z), fun A out s H ar us vs Q E r g e b v z => ?_⟩, m, kp, bd⟩
  refine codeAny_mono (F.run A out s H ar us vs Q _ r g e b v (h _ _ _ _ z)) fun r s' got => ?_
  match r, got with
  | .ok (.ret u), got => exact got
  | .ok .next, got => exact False.elim got
  | .ok .brk, got => exact False.elim got
  | .ok .cont, got => exact False.elim got
  | .error er, ⟨_, _, _, _, _, _, _, _, _, _, _, _, no⟩ => exact False.elim no
/-! ## New things made of new things; what may be done to them -/
mutual
/-- v stands for d, all its lists are outside B, each below another, and have at most M 'x' behind -/
def Nw (M : Nat) (H : Hp) : PyData → (Addr → Prop) → V → Prop
  | .none, _, v => v = .non
  | .str x, _, v => v = .str x
  | .list ds, B, v => ∃ (a : Addr) (vs : List V) (k : Nat), v = .ref a ∧ ¬ B a ∧ H a = some (.lst (vs ++ List.replicate k (.str "x"))) ∧ k ≤ M ∧ NwAll M H ds (fun x => B x ∨ x = a) vs
  | .bool _, _, _ => False
  | .int _, _, _ => False
  | .tuple _, _, _ => False
  | .dict _, _, _ => False
def NwAll (M : Nat) (H : Hp) : List PyData → (Addr → Prop) → List V → Prop
  | [], _, vs => vs = []
  | d :: ds, B, vs => ∃ (v : V) (ws : List V), vs = v :: ws ∧ Nw M H d B v ∧ NwAll M H ds B ws
end
mutual
theorem Nw.to {M M' : Nat} {H H' : Hp} (hM : M ≤ M') : ∀ (d : PyData) (B B' : Addr → Prop) (v : V), (∀ a, B' a → B a) → (∀ a o, ¬ B a → H a = some o → H' a = some o) → Nw M H d B v → Nw M' H' d B' v
  | .none, _, _, _, _, _, h => by simpa only [Nw] using h
  | .str _, _, _, _, _, _, h => by simpa only [Nw] using h
  | .list ds, B, B', v, hB, hH, h => by
    simp only [Nw] at h ⊢
    obtain ⟨a, vs, k, e, n, ha, hk, hA⟩ := h
    exact ⟨a, vs, k, e, fun z => n (hB a z), hH a _ n ha, by omega, NwAll.to hM ds _ _ vs (fun x hx => hx.imp (hB x) id) (fun x o nx hx => hH x o (fun z => nx (.inl z)) hx) hA⟩
  | .bool _, _, _, _, _, _, h => by simp only [Nw] at h
  | .int _, _, _, _, _, _, h => by simp only [Nw] at h
  | .tuple _, _, _, _, _, _, h => by simp only [Nw] at h
  | .dict _, _, _, _, _, _, h => by simp only [Nw] at h
theorem NwAll.to {M M' : Nat} {H H' : Hp} (hM : M ≤ M') : ∀ (ds : List PyData) (B B' : Addr → Prop) (vs : List V), (∀ a, B' a → B a) → (∀ a o, ¬ B a → H a = some o → H' a = some o) → NwAll M H ds B vs → NwAll M' H' ds B' vs
  | [], _, _, _, _, _, h => by simpa only [NwAll] using h
  | d :: ds, B, B', vs, hB, hH, h => by
    simp only [NwAll] at h ⊢
    obtain ⟨v, ws, e, h1, h2⟩ := h
    exact ⟨v, ws, e, Nw.to hM d B B' v hB hH h1, NwAll.to hM ds B B' ws hB hH h2⟩
end
theorem dp_xs {K : PySem.W.Frag} {H : Hp} : ∀ k : Nat, DpAll K H (List.replicate k (.str "x")) (List.replicate k (.str "x"))
  | 0 => .nil
  | k + 1 => .cons (.str _) (dp_xs k)
mutual
theorem Nw.some {K : PySem.W.Frag} {M : Nat} {H : Hp} : ∀ (d : PyData) (B : Addr → Prop) (v : V), Nw M H d B v → ∃ e, Dp K H v e ∧ isL e = isL d
  | .none, _, v, h => by simp only [Nw] at h; subst h; exact ⟨.none, .non, rfl⟩
  | .str x, _, v, h => by simp only [Nw] at h; subst h; exact ⟨.str x, .str x, rfl⟩
  | .list ds, B, v, h => by
    simp only [Nw] at h
    obtain ⟨a, vs, k, rfl, n, ha, hk, hA⟩ := h
    obtain ⟨es, he⟩ := NwAll.some ds _ vs hA
    exact ⟨.list (es ++ List.replicate k (.str "x")), .lst (SqL.of ha) (DpAll.append he (dp_xs k)), rfl⟩
  | .bool _, _, _, h => by simp only [Nw] at h
  | .int _, _, _, h => by simp only [Nw] at h
  | .tuple _, _, _, h => by simp only [Nw] at h
  | .dict _, _, _, h => by simp only [Nw] at h
theorem NwAll.some {K : PySem.W.Frag} {M : Nat} {H : Hp} : ∀ (ds : List PyData) (B : Addr → Prop) (vs : List V), NwAll M H ds B vs → ∃ es, DpAll K H vs es
  | [], _, vs, h => by simp only [NwAll] at h; subst h; exact ⟨[], .nil⟩
  | d :: ds, B, vs, h => by
    simp only [NwAll] at h
    obtain ⟨v, ws, rfl, h1, h2⟩ := h
    obtain ⟨e, he, _⟩ := Nw.some (K := K) d B v h1
    obtain ⟨es, hes⟩ := NwAll.some (K := K) ds B ws h2
    exact ⟨e :: es, .cons he hes⟩
end
mutual
theorem Nw.dp {K : PySem.W.Frag} {H : Hp} : ∀ (d : PyData) (B : Addr → Prop) (v : V), Nw 0 H d B v → Dp K H v d
  | .none, _, v, h => by simp only [Nw] at h; subst h; exact .non
  | .str x, _, v, h => by simp only [Nw] at h; subst h; exact .str x
  | .list ds, B, v, h => by
    simp only [Nw] at h
    obtain ⟨a, vs, k, rfl, n, ha, hk, hA⟩ := h
    obtain rfl : k = 0 := by omega
    rw [List.replicate_zero, List.append_nil] at ha
    exact .lst (SqL.of ha) (NwAll.dp ds _ vs hA)
  | .bool _, _, _, h => by simp only [Nw] at h
  | .int _, _, _, h => by simp only [Nw] at h
  | .tuple _, _, _, h => by simp only [Nw] at h
  | .dict _, _, _, h => by simp only [Nw] at h
theorem NwAll.dp {K : PySem.W.Frag} {H : Hp} : ∀ (ds : List PyData) (B : Addr → Prop) (vs : List V), NwAll 0 H ds B vs → DpAll K H vs ds
  | [], _, vs, h => by simp only [NwAll] at h; subst h; exact .nil
  | d :: ds, B, vs, h => by
    simp only [NwAll] at h
    obtain ⟨v, ws, rfl, h1, h2⟩ := h
    exact .cons (Nw.dp d B v h1) (NwAll.dp ds B ws h2)
end
section
variable {M : Nat} {H H' : Hp} {B : Addr → Prop}
theorem NwAll.len : ∀ {ds : List PyData} {vs : List V}, NwAll M H ds B vs → vs.length = ds.length
  | [], vs, h => by simp only [NwAll] at h; rw [h]; rfl
  | d :: ds, vs, h => by
    simp only [NwAll] at h
    obtain ⟨v, ws, rfl, h1, h2⟩ := h
    simp only [List.length_cons, NwAll.len h2]
theorem NwAll.get : ∀ {ds : List PyData} {vs : List V} {i : Nat} {v : V}, NwAll M H ds B vs → vs[i]? = Option.some v → ∃ d, ds[i]? = Option.some d ∧ Nw M H d B v
  | [], vs, i, v, h, e => by simp only [NwAll] at h; rw [h] at e; simp at e
  | d :: ds, vs, 0, v, h, e => by
    simp only [NwAll] at h
    obtain ⟨u, ws, rfl, h1, h2⟩ := h
    simp at e
    subst e
    exact ⟨d, rfl, h1⟩
  | d :: ds, vs, i + 1, v, h, e => by
    simp only [NwAll] at h
    obtain ⟨u, ws, rfl, h1, h2⟩ := h
    obtain ⟨c, e1, e2⟩ := NwAll.get (i := i) (v := v) h2 (by simpa using e)
    exact ⟨c, by simpa using e1, e2⟩
theorem NwAll.append : ∀ {ds es : List PyData} {vs ws : List V}, NwAll M H ds B vs → NwAll M H es B ws → NwAll M H (ds ++ es) B (vs ++ ws)
  | [], es, vs, ws, h, g => by simp only [NwAll] at h; rw [h]; exact g
  | d :: ds, es, vs, ws, h, g => by
    simp only [NwAll] at h
    obtain ⟨v, us, rfl, h1, h2⟩ := h
    show NwAll M H (d :: (ds ++ es)) B (v :: (us ++ ws))
    simp only [NwAll]
    exact ⟨v, us ++ ws, rfl, h1, NwAll.append h2 g⟩
theorem NwAll.one {d : PyData} {v : V} (h : Nw M H d B v) : NwAll M H [d] B [v] := by
  simp only [NwAll]
  exact ⟨v, [], rfl, h, rfl⟩
theorem NwAll.xs : ∀ k : Nat, NwAll M H (List.replicate k (.str "x")) B (List.replicate k (.str "x"))
  | 0 => by rw [List.replicate_zero, List.replicate_zero]; simp only [NwAll]
  | k + 1 => by
    rw [List.replicate_succ, List.replicate_succ]
    simp only [NwAll]
    exact ⟨_, _, rfl, by simp only [Nw], NwAll.xs k⟩
end
/-- from H to H' some lists outside C have got up to k 'x' more -/
def Evo (C : Addr → Prop) (k : Nat) (H H' : Hp) : Prop := ∀ a o, H a = Option.some o → H' a = Option.some o ∨ (¬ C a ∧ ∃ vs j, o = .lst vs ∧ j ≤ k ∧ H' a = Option.some (.lst (vs ++ List.replicate j (.str "x"))))
section
variable {C C' : Addr → Prop} {k j : Nat} {H H1 H2 : Hp}
theorem Evo.same (s : Same H H1) : Evo C k H H1 := fun a o e => .inl (s a o e)
theorem Evo.trans (x : Evo C k H H1) (y : Evo C j H1 H2) : Evo C (k + j) H H2 := by
  intro a o e
  rcases x a o e with e1 | ⟨n, vs, i, rfl, hi, e1⟩
  · rcases y a o e1 with e2 | ⟨n, vs, i, rfl, hi, e2⟩
    · exact .inl e2
    · exact .inr ⟨n, vs, i, rfl, by omega, e2⟩
  · rcases y a _ e1 with e2 | ⟨_, vs2, i2, e0, hi2, e2⟩
    · exact .inr ⟨n, vs, i, rfl, by omega, e2⟩
    · injection e0 with e0
      subst e0
      refine .inr ⟨n, vs, i + i2, rfl, by omega, ?_⟩
      rw [e2, List.append_assoc, List.replicate_append_replicate]
theorem Evo.weak (x : Evo C k H H1) (hC : ∀ a, C' a → C a) (hk : k ≤ j) : Evo C' j H H1 := fun a o e =>
  (x a o e).imp id fun ⟨n, vs, i, e1, hi, e2⟩ => ⟨fun z => n (hC a z), vs, i, e1, by omega, e2⟩
theorem Evo.keep (x : Evo C k H H1) {a : Addr} {o : HO} (hC : C a) (e : H a = Option.some o) : H1 a = Option.some o := (x a o e).elim id fun z => absurd hC z.1
theorem Evo.old {H0 : Hp} (x : Evo (fun a => H0 a ≠ none) k H H1) (s : Same H0 H) : Same H0 H1 := fun a o e => x.keep (by rw [e]; simp) (s a o e)
end
mutual
theorem Nw.evo {M k : Nat} {C : Addr → Prop} {H H' : Hp} (x : Evo C k H H') : ∀ (d : PyData) (B : Addr → Prop) (v : V), Nw M H d B v → Nw (M + k) H' d B v
  | .none, _, _, h => by simpa only [Nw] using h
  | .str _, _, _, h => by simpa only [Nw] using h
  | .list ds, B, v, h => by
    simp only [Nw] at h ⊢
    obtain ⟨a, vs, i, e, n, ha, hk, hA⟩ := h
    have hA' := NwAll.evo x ds _ vs hA
    rcases x a _ ha with e1 | ⟨_, ws, j, e0, hj, e1⟩
    · exact ⟨a, vs, i, e, n, e1, by omega, hA'⟩
    · injection e0 with e0
      subst e0
      refine ⟨a, vs, i + j, e, n, ?_, by omega, hA'⟩
      rw [e1, List.append_assoc, List.replicate_append_replicate]
  | .bool _, _, _, h => by simp only [Nw] at h
  | .int _, _, _, h => by simp only [Nw] at h
  | .tuple _, _, _, h => by simp only [Nw] at h
  | .dict _, _, _, h => by simp only [Nw] at h
theorem NwAll.evo {M k : Nat} {C : Addr → Prop} {H H' : Hp} (x : Evo C k H H') : ∀ (ds : List PyData) (B : Addr → Prop) (vs : List V), NwAll M H ds B vs → NwAll (M + k) H' ds B vs
  | [], _, _, h => by simpa only [NwAll] using h
  | d :: ds, B, vs, h => by
    simp only [NwAll] at h ⊢
    obtain ⟨v, ws, e, h1, h2⟩ := h
    exact ⟨v, ws, e, Nw.evo x d B v h1, NwAll.evo x ds B ws h2⟩
end
mutual
/-- how many lists -/
def nl : PyData → Nat
  | .list ds => 1 + nlAll ds
  | _ => 0
def nlAll : List PyData → Nat
  | [] => 0
  | d :: ds => nl d + nlAll ds
end
theorem nlAll_append : ∀ (xs ys : List PyData), nlAll (xs ++ ys) = nlAll xs + nlAll ys
  | [], ys => by simp [nlAll]
  | x :: xs, ys => by simp only [List.cons_append, nlAll, nlAll_append xs ys]; omega
theorem nlAll_xs : ∀ k : Nat, nlAll (List.replicate k (.str "x")) = 0
  | 0 => rfl
  | k + 1 => by rw [List.replicate_succ]; simp [nlAll, nl, nlAll_xs k]
theorem nl_take {xs : List PyData} {i : Nat} {d : PyData} (h : xs[i]? = Option.some d) : nlAll (xs.take (i + 1)) = nlAll (xs.take i) + nl d := by
  rw [List.take_add_one, h, nlAll_append]
  simp [nlAll]
theorem nl_take_le (xs : List PyData) (i : Nat) : nlAll (xs.take i) ≤ nlAll xs := by
  have h := nlAll_append (xs.take i) (xs.drop i)
  rw [List.take_append_drop] at h
  omega
mutual
theorem nl_le : ∀ d : PyData, nl d ≤ szD d
  | .list ds => by have := nlAll_le ds; simp only [nl, szD]; omega
  | .none => by simp [nl]
  | .str _ => by simp [nl]
  | .bool _ => by simp [nl]
  | .int _ => by simp [nl]
  | .tuple _ => by simp [nl]
  | .dict _ => by simp [nl]
theorem nlAll_le : ∀ ds : List PyData, nlAll ds ≤ szAll ds
  | [] => by simp [nlAll]
  | d :: ds => by have := nl_le d; have := nlAll_le ds; simp only [nlAll, szAll]; omega
end
end Tx

namespace Tx
open PySem PySem.Spec PyProof.Rows L2
/-! ## Classes over data: steps of the telling, methods, new instances, fields -/
/-- some state is told so -/
def Lw (ω : Wd) : Prop := ∃ K J H, Rw K J H ω
/-- a step of the telling alone -/
def Gh (ω ω1 : Wd) : Prop := ∀ K J H, Rw K J H ω → ∃ J1, Rw K J1 H ω1 ∧ Grow J H ω J1 H ω1
theorem Gh.refl {ω : Wd} : Gh ω ω := fun _ J _ w => ⟨J, w, Grow.refl⟩
theorem Gh.trans {ω ω1 ω2 : Wd} (a : Gh ω ω1) (b : Gh ω1 ω2) : Gh ω ω2 := fun K J H w => by
  obtain ⟨J1, w1, g1⟩ := a K J H w
  obtain ⟨J2, w2, g2⟩ := b K J1 H w1
  exact ⟨J2, w2, g1.trans g2⟩
theorem Gh.sub {ω ω1 : Wd} (s : SubW ω1 ω) : Gh ω ω1 := fun _ J _ w => ⟨J, w.sub s, s.grow⟩
section
variable {K : PySem.W.Frag} {J H : Hp} {ω : Wd} {a b C dx p : Addr} {f : Str} {ds : List PyData} {m : MO}
theorem Rw.ent (w : Rw K J H ω) (h : ω a = some (.ent C dx p f ds)) : p ≠ a ∧ ω p = none ∧ J p = none ∧ ∀ c m', c ≠ a → ω c = some m' → ¬ m'.priv p := by
  obtain ⟨e1, vs, e2, _⟩ := w.cell a _ h
  have ne : p ≠ a := fun e => by rw [e, e1] at e2; cases e2
  obtain ⟨t1, t2, t3⟩ := w.tmp a _ h p rfl
  exact ⟨ne, t2 ne, t1, t3⟩
theorem Lw.ent (l : Lw ω) (h : ω a = some (.ent C dx p f ds)) : p ≠ a ∧ ω p = none := by
  obtain ⟨K, J, H, w⟩ := l
  exact ⟨(w.ent h).1, (w.ent h).2.1⟩
/-- an instance and its list become two cells -/
def opn (ω : Wd) (a C dx p : Addr) (f : Str) (ds : List PyData) : Wd := updW (updW ω a (.ins C dx [(f, refD p)])) p (.lst ds)
theorem opn_p : opn ω a C dx p f ds p = some (.lst ds) := updW_same
theorem opn_a (n : p ≠ a) : opn ω a C dx p f ds a = some (.ins C dx [(f, refD p)]) := by
  unfold opn
  rw [updW_ne (Ne.symm n), updW_same]
theorem opn_ne (h1 : b ≠ a) (h2 : b ≠ p) : opn ω a C dx p f ds b = ω b := by
  unfold opn
  rw [updW_ne h2, updW_ne h1]
theorem Gh.open (h : ω a = some (.ent C dx p f ds)) : Gh ω (opn ω a C dx p f ds) := fun K J H w => by
  obtain ⟨ne, hp, jp, pp⟩ := w.ent h
  obtain ⟨e1, vs, e2, r⟩ := w.cell a _ h
  have ja := w.out a _ h
  refine ⟨J, w.step (Same.refl _) w.jh (fun _ _ j => j) fun b m e => ?_, Same.refl _, fun _ z => z, fun _ _ z _ => z, fun _ _ _ j => j, fun b _ z => ?_⟩
  · by_cases e3 : b = p
    · subst e3
      rw [opn_p] at e
      cases e
      refine .inr ⟨jp, ⟨vs, e2, r⟩, fun _ z => False.elim z, fun c m' nc ec => ⟨?_, fun _ z => False.elim z⟩⟩
      by_cases e4 : c = a
      · subst e4; rw [opn_a ne] at ec; cases ec; exact id
      · rw [opn_ne e4 nc] at ec; exact pp c m' e4 ec
    · by_cases e4 : b = a
      · subst e4
        rw [opn_a ne] at e
        cases e
        refine .inr ⟨ja, ⟨_, e1, .cons ⟨rfl, .ref p⟩ .nil⟩, fun _ z => False.elim z, fun c m' nc ec => ⟨?_, fun _ z => False.elim z⟩⟩
        by_cases e5 : c = p
        · subst e5; rw [opn_p] at ec; cases ec; exact id
        · rw [opn_ne nc e5] at ec; exact w.apart h nc ec
      · rw [opn_ne e4 e3] at e
        exact .inl ⟨e, fun _ _ _ z => z⟩
  · have n1 : b ≠ a := fr_ne0 h z
    have n2 : b ≠ p := fun e => z.2 a _ h e
    refine ⟨by rw [opn_ne n1 n2]; exact z.1, fun c m' ec => ?_⟩
    by_cases e5 : c = p
    · subst e5; rw [opn_p] at ec; cases ec; exact id
    · by_cases e4 : c = a
      · subst e4; rw [opn_a ne] at ec; cases ec; exact id
      · rw [opn_ne e4 e5] at ec; exact z.2 c m' ec
/-- and one again -/
def cls (ω : Wd) (a C dx p : Addr) (f : Str) (ds : List PyData) : Wd := updW (delW ω p) a (.ent C dx p f ds)
theorem cls_a : cls ω a C dx p f ds a = some (.ent C dx p f ds) := updW_same
theorem cls_ne (h1 : b ≠ a) (h2 : b ≠ p) : cls ω a C dx p f ds b = ω b := by
  unfold cls
  rw [updW_ne h1, delW_ne h2]
theorem cls_p (n : p ≠ a) : cls ω a C dx p f ds p = none := by
  unfold cls
  rw [updW_ne n, delW_same]
theorem Gh.close (ha : ω a = some (.ins C dx [(f, refD p)])) (hp : ω p = some (.lst ds)) : Gh ω (cls ω a C dx p f ds) := fun K J H w => by
  obtain ⟨gs, e1, r1⟩ := w.cell a _ ha
  obtain ⟨vs, e2, r⟩ := w.cell p _ hp
  have ne : p ≠ a := fun e => by rw [e, e1] at e2; cases e2
  have eg : gs = [(f, .ref p)] := by
    cases r1 with
    | cons h t =>
      cases t
      obtain ⟨h1, h2⟩ := h
      rename_i g
      obtain ⟨g1, g2⟩ := g
      simp only at h1 h2
      rw [h1, rp_ref h2]
  subst eg
  refine ⟨J, w.step (Same.refl _) w.jh (fun _ _ j => j) fun b m e => ?_, Same.refl _, fun _ z => z, fun _ _ z _ => z, fun _ _ _ j => j, fun b _ z => ?_⟩
  · by_cases e4 : b = a
    · subst e4
      rw [cls_a] at e
      cases e
      refine .inr ⟨w.out _ _ ha, ⟨e1, vs, e2, r⟩, fun b' pb => ?_, fun c m' nc ec => ?_⟩
      · rw [show b' = p from pb]
        exact ⟨w.out _ _ hp, fun _ => cls_p ne⟩
      · have cp : c ≠ p := fun e => by rw [e, cls_p ne] at ec; cases ec
        rw [cls_ne nc cp] at ec
        refine ⟨w.apart ha nc ec, fun b' pb => ?_⟩
        rw [show b' = p from pb]
        exact w.apart hp cp ec
    · have bp : b ≠ p := fun z => by rw [z, cls_p ne] at e; cases e
      rw [cls_ne e4 bp] at e
      exact .inl ⟨e, fun _ _ _ z => z⟩
  · have n1 : b ≠ a := fr_ne0 ha z
    have n2 : b ≠ p := fr_ne0 hp z
    refine ⟨by rw [cls_ne n1 n2]; exact z.1, fun c m' ec => ?_⟩
    by_cases e4 : c = a
    · subst e4; rw [cls_a] at ec; cases ec; exact n2
    · have cp : c ≠ p := fun e => by rw [e, cls_p ne] at ec; cases ec
      rw [cls_ne e4 cp] at ec
      exact z.2 c m' ec
/-- opened and closed again, the list another -/
theorem cls_opn {es : List PyData} (hp : ω p = none) (ne : p ≠ a) : cls (updW (opn ω a C dx p f ds) p (.lst es)) a C dx p f es = updW ω a (.ent C dx p f es) := by
  funext b
  by_cases e1 : b = a
  · rw [e1, cls_a, updW_same]
  · by_cases e2 : b = p
    · rw [e2, cls_p ne, updW_ne ne, hp]
    · rw [cls_ne e1 e2, updW_ne e2, opn_ne e1 e2, updW_ne e1]
theorem cls_opn0 (h : ω a = some (.ent C dx p f ds)) (hp : ω p = none) (ne : p ≠ a) : cls (opn ω a C dx p f ds) a C dx p f ds = ω := by
  funext b
  by_cases e1 : b = a
  · rw [e1, cls_a, h]
  · by_cases e2 : b = p
    · rw [e2, cls_p ne, hp]
    · rw [cls_ne e1 e2, opn_ne e1 e2]
end
theorem XdOk.gh {K : PySem.W.Frag} {H0 J J1 H : Hp} {ω ω1 : Wd} {d : Option Addr} {fs : List (Str × PyData)} (h : XdOk K H0 J H ω d fs) (g : Grow J H ω J1 H ω1) : XdOk K H0 J1 H ω1 d fs := by
  cases d with
  | none => exact h
  | some dd =>
    obtain ⟨a, b, c, gs, e, r⟩ := h
    have n : H dd ≠ none := by rw [e]; simp
    exact ⟨a, g.frj dd ⟨_, e, fun _ e2 => nomatch e2⟩ c b, g.frw dd n c, gs, e, r.mono g.jj⟩
def dGhE (te : DTE) (ρ : DS) (ω : Wd) (q : DQ) (x : DXK) : Prop := Lw ω → ∃ ω1, Gh ω ω1 ∧ te ρ ω1 (fun r ω2 => Lw ω2 → ∃ ω3, Gh ω2 ω3 ∧ q r ω3) (fun C fs ω2 => Lw ω2 → ∃ ω3, Gh ω2 ω3 ∧ x C fs ω3)
def ghEnds (D : DEnds) : DEnds := ⟨fun ρ ω => Lw ω → ∃ ω1, Gh ω ω1 ∧ D.nx ρ ω1, fun r ω => Lw ω → ∃ ω1, Gh ω ω1 ∧ D.rt r ω1, fun ρ ω => Lw ω → ∃ ω1, Gh ω ω1 ∧ D.bk ρ ω1, fun ρ ω => Lw ω → ∃ ω1, Gh ω ω1 ∧ D.ct ρ ω1, fun C fs ρ ω => Lw ω → ∃ ω1, Gh ω ω1 ∧ D.xc C fs ρ ω1⟩
def dGhS (t : DTS) (D : DEnds) (ρ : DS) (ω : Wd) : Prop := Lw ω → ∃ ω1, Gh ω ω1 ∧ t (ghEnds D) ρ ω1
section
variable {W : WX} {X : Cx} {K : PySem.W.Frag} {e : Expr} {st : Stmt} {ss : List Stmt} {te : DTE} {t : DTS}
theorem CovQ.gh {J H : Hp} {ω : Wd} {q : DQ} {Q : VK} (c : CovQ K J H ω q Q) : CovQ K J H ω (fun r ω2 => Lw ω2 → ∃ ω3, Gh ω2 ω3 ∧ q r ω3) Q := fun r ω' v J' H' z g w rp => by
  obtain ⟨ω3, g3, z⟩ := z ⟨_, _, _, w⟩
  obtain ⟨J3, w3, k3⟩ := g3 _ _ _ w
  exact c _ _ _ _ _ z (g.trans k3) w3 (rp_mono k3.jj _ _ rp)
theorem CovX.gh {J H : Hp} {ω : Wd} {x : DXK} {E : XK} (c : CovX K J H ω x E) : CovX K J H ω (fun C fs ω2 => Lw ω2 → ∃ ω3, Gh ω2 ω3 ∧ x C fs ω3) E := fun C fs ω' d J' H' z g w xd => by
  obtain ⟨ω3, g3, z⟩ := z ⟨_, _, _, w⟩
  obtain ⟨J3, w3, k3⟩ := g3 _ _ _ w
  exact c _ _ _ _ _ _ z (g.trans k3) w3 (xd.gh k3)
theorem CovS.gh {J H : Hp} {ω : Wd} {DD : DEnds} {D : Ends} (c : CovS K J H ω W DD D) : CovS K J H ω W (ghEnds DD) D := by
  refine ⟨fun ρ' ω' σ' J' H' z g w s => ?_, fun ρ' ω' σ' J' H' z g w s => ?_, fun ρ' ω' σ' J' H' z g w s => ?_, c.rt.gh, fun C fs ρ' ω' d σ' J' H' z g w s xd => ?_⟩ <;>
  · obtain ⟨ω3, g3, z⟩ := z ⟨_, _, _, w⟩
    obtain ⟨J3, w3, k3⟩ := g3 _ _ _ w
    first
      | exact c.nx _ _ _ _ _ z (g.trans k3) w3 (s.mono k3.jj)
      | exact c.bk _ _ _ _ _ z (g.trans k3) w3 (s.mono k3.jj)
      | exact c.ct _ _ _ _ _ z (g.trans k3) w3 (s.mono k3.jj)
      | exact c.xc _ _ _ _ _ _ _ _ z (g.trans k3) w3 (s.mono k3.jj) (xd.gh k3)
theorem de_gh (h : DE W X K e te) : DE W X K e (dGhE te) := by
  obtain ⟨r, p, k⟩ := h
  refine ⟨r, p, fun σ H J ω ρ q x Q w s cq cx z => ?_⟩
  obtain ⟨ω1, g1, z1⟩ := z ⟨_, _, _, w⟩
  obtain ⟨J1, w1, k1⟩ := g1 _ _ _ w
  exact k σ H J1 ω1 ρ _ _ Q w1 (s.mono k1.jj) (cq.step k1).gh (cx.step k1).gh z1
theorem dss_gh (h : DSs W X K ss t) : DSs W X K ss (dGhS t) := by
  obtain ⟨r, p, k⟩ := h
  refine ⟨r, p, fun D DD σ H J ω ρ w s cs z => ?_⟩
  obtain ⟨ω1, g1, z1⟩ := z ⟨_, _, _, w⟩
  obtain ⟨J1, w1, k1⟩ := g1 _ _ _ w
  exact k D _ σ H J1 ω1 ρ w1 (s.mono k1.jj) (cs.step k1).gh z1
theorem ds_gh (h : DSt W X K st t) : DSt W X K st (dGhS t) := by
  obtain ⟨r, p, k⟩ := h
  refine ⟨r, p, fun D DD σ H J ω ρ w s cs z => ?_⟩
  obtain ⟨ω1, g1, z1⟩ := z ⟨_, _, _, w⟩
  obtain ⟨J1, w1, k1⟩ := g1 _ _ _ w
  exact k D _ σ H J1 ω1 ρ w1 (s.mono k1.jj) (cs.step k1).gh z1
/-- what is never reached -/
def dNever (_ : DEnds) (_ : DS) (_ : Wd) : Prop := False
theorem ds_never : DSt W X K st dNever := ⟨fun _ _ _ => False, ⟨fun _ _ _ _ _ _ z => False.elim z⟩, fun _ _ _ _ _ _ _ _ _ _ z => z⟩
end
end Tx

namespace Tx
open PySem PySem.Spec PyProof.Rows L2
/-! ## Methods, new instances, fields -/
/-- a method of the class at C -/
def HasM (K : PySem.W.Frag) (C : Addr) (m qual : Str) (st : Stmt) : Prop := ∃ (f : Addr) (fd : FuncData), Fun K m qual st f fd ∧ Meth K C m f
theorem hasM_of {K : PySem.W.Frag} {C f : Addr} {m qual : Str} {st : Stmt} {oc kV dc pm cd ct : Value} {od an : Option Addr} {sl : Array (Option Value)} (a : PySem.W.findIn K (.ref C) m = some (some (.ref f)))
    (l : K.lookup f = some ⟨oc, od, .func (PySem.W.fnOf m qual (defArgs st) (defBody st) (defScope st) .none kV dc pm an cd ct), sl⟩)
    (c : PySem.W.codeIn K cd qual = true) (k : PySem.W.keepIn K (.ref f) = true) (i : PySem.W.isFn K (.ref f) = true) : HasM K C m qual st := ⟨f, _, fun_mk l c k, a, i, k⟩
def BindsByQ (x qual : Str) (st : Stmt) (ps : List Str) : Prop := ∀ (kV doc pm : Value) (an : Option Addr) (cdv ct : Value) (us : List Value), us.length = ps.length →
  bindArgs (PySem.W.fnOf x qual (defArgs st) (defBody st) (defScope st) .none kV doc pm an cdv ct) ⟨us, []⟩ = pure (ps.zip us)
/-- a method and its promise -/
def Mfn (P : Program) (w : World) (K : PySem.W.Frag) (mg : Str → Option Value) (base : Heap) (CX : CXT) (k : Nat) (C : Addr) (m : Str) (ps : List Str) (sp : Sp) : Prop :=
  ∃ (f : Addr) (fd : FuncData), FnG P w K mg base CX k f fd ps sp ∧ Meth K C m f ∧ Binds K fd ps []
section
variable {P : Program} {w : World} {K : PySem.W.Frag} {mg : Str → Option Value} {base : Heap} {CX : CXT} {k : Nat} {C : Addr} {m qual : Str} {ps N : List Str} {sp : DSp} {st : Stmt}
theorem Mfn.mono {sp : Sp} {j : Nat} (D : Mfn P w K mg base CX j C m ps sp) (h : j ≤ k) : Mfn P w K mg base CX k C m ps sp := by
  obtain ⟨f, fd, F, r⟩ := D
  exact ⟨f, fd, F.mono h, r⟩
theorem mfnD (h : HasM K C m qual st) (B : Bi mg) (S : FnScope N ps (defScope st)) (bd : BindsByQ m qual st ps) (len : ∀ ts ω q xx, sp ts ω q xx → ts.length = ps.length)
    (body : ∀ (f : Addr) (cv : Value) (A : Around) (out : List Env) (s : Shared) (H : Hp) (E : XK), Ct mg (A.deeper (envOfC qual (defScope st) s.heap.objs.size f cv)) k →
      ∃ td, DSs W0 (cxOf CX0 P w K mg base N qual (defScope st) f cv A out s H E).nox K (defBody st) td ∧ ∀ ts ω q xx, sp ts ω q xx → td (endsD q X0) (startD N ts) ω) :
    Mfn P w K mg base CX0 (k + 1) C m ps (spD K sp) := by
  obtain ⟨f, fd, F, mt⟩ := h
  refine ⟨f, fd, okG F S (fun vs H Q E z => ?_) ?_, mt, F.binds bd⟩
  · obtain ⟨J, ω, ts, q, xx, w, r, _, _, z⟩ := z
    rw [r.length]
    exact len _ _ _ _ z
  intro cv A out s H vs Q E room gd ask
  obtain ⟨J, ω, ts, q, xx, w, r, cq, cx, z⟩ := ask
  obtain ⟨td, ⟨t, p, kk⟩, hb⟩ := body f cv A out s H E ⟨B, room, gd⟩
  exact ⟨t, p.nox, kk _ _ _ H J ω _ w (sl_start r) ⟨fun _ _ _ _ _ z g w _ => cq _ _ _ _ _ z g w .non, fun _ _ _ _ _ z _ _ _ => False.elim z, fun _ _ _ _ _ z _ _ _ => False.elim z, cq, fun _ _ _ _ _ _ _ _ z _ _ _ _ => False.elim z⟩ (hb ts ω q xx z)⟩
theorem mfnDX (h : HasM K C m qual st) (B : Bi mg) (S : FnScope N ps (defScope st)) (bd : BindsByQ m qual st ps) (len : ∀ ts ω q xx, sp ts ω q xx → ts.length = ps.length)
    (body : ∀ (f : Addr) (cv : Value) (A : Around) (out : List Env) (s : Shared) (H : Hp) (E : XK), Ct mg (A.deeper (envOfC qual (defScope st) s.heap.objs.size f cv)) k →
      ∃ td, DSs (fun cl d _ H => E cl d H) (cxOf (L2.CX P w) P w K mg base N qual (defScope st) f cv A out s H E) K (defBody st) td ∧ ∀ ts ω q xx, sp ts ω q xx → td (endsD q xx) (startD N ts) ω) :
    Mfn P w K mg base (L2.CX P w) (k + 1) C m ps (spD K sp) := by
  obtain ⟨f, fd, F, mt⟩ := h
  refine ⟨f, fd, okG F S (fun vs H Q E z => ?_) ?_, mt, F.binds bd⟩
  · obtain ⟨J, ω, ts, q, xx, w, r, _, _, z⟩ := z
    rw [r.length]
    exact len _ _ _ _ z
  intro cv A out s H vs Q E room gd ask
  obtain ⟨J, ω, ts, q, xx, w, r, cq, cx, z⟩ := ask
  obtain ⟨td, ⟨t, p, kk⟩, hb⟩ := body f cv A out s H E ⟨B, room, gd⟩
  exact ⟨t, p, kk _ _ _ H J ω _ w (sl_start r) ⟨fun _ _ _ _ _ z g w _ => cq _ _ _ _ _ z g w .non, fun _ _ _ _ _ z _ _ _ => False.elim z, fun _ _ _ _ _ z _ _ _ => False.elim z, cq, fun C fs _ ω' d _ J' H' z g w _ x => cx C fs ω' d J' H' z g w x⟩ (hb ts ω q xx z)⟩
end
/-- what a class of the text must have -/
structure ClsD (K : PySem.W.Frag) (mg : Str → Option Value) (x : Str) (C : Addr) : Prop where
  gC : mg x = some (.ref C)
  cl : Cls K C
  mks : PySem.W.makesIn K C = true
  kp : PySem.W.keepIn K (.ref C) = true
theorem clsD_of {K : PySem.W.Frag} {mg : Str → Option Value} {h : Heap} {x : Str} {C : Addr} (X : K.In h) (G : h.Ns mainGlobals mg) (a : PySem.W.nsIn K mainGlobals x = some (some (.ref C))) (pg : PySem.W.plainGet K C Str.empty = true) (hd : PySem.W.hasDictIn K C = true)
    (po : PySem.W.plainOver K C = true) (sa : PySem.W.findIn K (.ref C) "__setattr__" = some (some (.builtin "object.__setattr__"))) (mk : PySem.W.makesIn K C = true) (kp : PySem.W.keepIn K (.ref C) = true) : ClsD K mg x C :=
  ⟨PySem.W.mg_of X G a, ⟨pg, hd, po, sa⟩, mk, kp⟩
/-- a cell that is an instance of the class at C, without a field m -/
def isIns (C : Addr) (m : Str) : MO → Prop
  | .ins C' _ fs => C' = C ∧ fs.lookup m = none
  | .ent C' _ _ f _ => C' = C ∧ (m == f) = false
  | _ => False
theorem rpf_none {K : PySem.W.Frag} {J : Hp} {f : Str} : ∀ {gs : List (Str × V)} {fs : List (Str × PyData)}, RpF K J gs fs → fs.lookup f = none → gs.lookup f = none
  | _, _, .nil, _ => rfl
  | (a, u) :: gs, (b, v) :: fs, .cons h t, e => by
    obtain ⟨h1, h2⟩ := h
    simp only at h1 h2
    subst h1
    rw [List.lookup_cons] at e ⊢
    cases q : f == a with
    | true => rw [q] at e; cases e
    | false => rw [q] at e; exact rpf_none t e
section
variable {K : PySem.W.Frag} {J H : Hp} {ω : Wd} {a C : Addr} {m : Str} {o : MO}
theorem Rw.ins (w : Rw K J H ω) (h : ω a = some o) (i : isIns C m o) : ∃ dx fs, H a = some (.ins C dx fs) ∧ fs.lookup m = none := by
  cases o with
  | ins C' dx fs =>
    obtain ⟨rfl, l⟩ := i
    obtain ⟨gs, e, r⟩ := w.cell a _ h
    exact ⟨dx, gs, e, rpf_none r l⟩
  | ent C' dx p f ds =>
    obtain ⟨rfl, l⟩ := i
    obtain ⟨e, _⟩ := w.cell a _ h
    exact ⟨dx, _, e, by rw [List.lookup_cons, l]; rfl⟩
  | _ => exact False.elim i
end
section
variable {X : Cx} {CX : CXT} {k : Nat} {f C : Addr} {fd : FuncData} {ps : List Str} {sp : Sp} {E : L2.St → XK} {x m : Str} {p pos apos : Pos} {e o : Expr} {es : List Expr} {ta : TE} {t : TA} {A : Around}
theorem run_g {pins : List (Addr × Obj)} {σ : L2.St} {H : Hp} {s : Shared} {Q : VK} {us : List Value} {vs : List V} {E : XK} (F : FnG X.prog X.w X.K X.mg X.base CX k f fd ps sp) (hr : Room k A) (gd : A.guards = some []) (hb : Binds X.K fd ps [])
    (e0 : Env0 X.prog X.w X.K X.mg X.base A X.stack s H) (hx : PassesAt CX X σ E) (I : Inv X pins σ H s) (r : Vals vs us) (h : sp vs H Q E) : wpAny (model X.prog X.w) A (call (.ref f) us) (EP X pins σ Q) X.xe s := by
  have hl : (us ++ []).length = ps.length := by rw [List.append_nil, ← r.length]; exact F.len _ _ _ _ h
  have b := hb s us I.kIn hl
  rw [List.append_nil] at b
  refine wpAny_call (codeAny_mono (F.run A X.stack s H ⟨us, []⟩ us vs Q E hr gd e0 b r h) ?_)
  intro r s2 got
  match r, got with
  | .ok (.ret u), got => exact I.after got
  | .ok .next, got => exact False.elim got
  | .ok .brk, got => exact False.elim got
  | .ok .cont, got => exact False.elim got
  | .error er, got => exact hx pins H s er s2 I got
def tMethS (C : Addr) (m : Str) (sp : Sp) (E : L2.St → XK) (ta : TE) (t : TA) : TE := fun σ H Q => ta σ H fun x H1 => ∃ a dx fs, x = .ref a ∧ H1 a = some (.ins C dx fs) ∧ fs.lookup m = none ∧ t σ H1 fun vs H2 => sp (x :: vs) H2 Q (E σ)
theorem pe_methG {pl : Sem Bool} (he : PE X o ta) (c : Cls X.K C) (M : Mfn X.prog X.w X.K X.mg X.base CX k C m ps sp) (hr : Room k X.A) (gd : X.A.guards = some []) (hx : ∀ σ, PassesAt CX X σ (E σ)) (ha : PA X (e :: es) t)
    (hst : starEach (e :: es) X.env = (false, eval e X.env) :: starEach es X.env := by rfl) (hpl : (backTo pos (starEach es X.env)).any (·.1) = false := by rfl)
    (ht : eval (.Call (.Attribute o m apos) (e :: es) [] pos) X.env = (do
      let ov ← eval o X.env
      standAt apos.atName
      let (f, first) ← holding [ov] (getMethod ov m pl)
      callWith pos f first (backTo pos (starEach (e :: es) X.env)) (backToKw pos (keywordEach [] X.env))) := by rfl) :
    PE X (.Call (.Attribute o m apos) (e :: es) [] pos) (tMethS C m sp E ta t) := by
  obtain ⟨f, fd, F, hm, hb⟩ := M
  constructor
  intro pins s σ H Q I h
  refine PySem.W.methodCall_KW (pl := pl) (thn (he.run pins s σ H _ I h) fun u s1 ⟨x, H1, I1, rx, a, dx, fs, ex, ea, l, q⟩ => ?_) ht
  subst ex
  obtain rfl : u = Value.ref a := rx
  refine getmeth_ok I1 ea c hm l ?_
  refine PySem.W.callWith_K (first := [.ref a]) (h₀ := X.base) I.ok.mod.kin hm.kp (thn (ha.run pos pins s1 σ H1 _ I1 q) fun us s2 ⟨vs, H2, I2, r, q2⟩ => ⟨I2.kIn, ?_⟩) hst hpl
  exact run_g (us := .ref a :: us) (vs := .ref a :: vs) F hr gd hb I2.env0 (hx σ) I2 (.cons rfl r) q2
theorem pe_methG0 {pl : Sem Bool} (he : PE X o ta) (c : Cls X.K C) (M : Mfn X.prog X.w X.K X.mg X.base CX k C m ps sp) (hr : Room k X.A) (gd : X.A.guards = some []) (hx : ∀ σ, PassesAt CX X σ (E σ))
    (ht : eval (.Call (.Attribute o m apos) [] [] pos) X.env = (do
      let ov ← eval o X.env
      standAt apos.atName
      let (f, first) ← holding [ov] (getMethod ov m pl)
      callWith pos f first (backTo pos (starEach [] X.env)) (backToKw pos (keywordEach [] X.env))) := by rfl) :
    PE X (.Call (.Attribute o m apos) [] [] pos) (tMethS C m sp E ta tNil) := by
  obtain ⟨f, fd, F, hm, hb⟩ := M
  constructor
  intro pins s σ H Q I h
  refine PySem.W.methodCall_KW (pl := pl) (thn (he.run pins s σ H _ I h) fun u s1 ⟨x, H1, I1, rx, a, dx, fs, ex, ea, l, q⟩ => ?_) ht
  subst ex
  obtain rfl : u = Value.ref a := rx
  refine getmeth_ok I1 ea c hm l ?_
  exact PySem.W.callWith_K0 (first := [.ref a]) I1.kIn hm.kp (run_g (us := [.ref a]) (vs := [.ref a]) F hr gd hb I1.env0 (hx σ) I1 (.cons rfl .nil) q)
def tMakeS (C : Addr) (sp : Sp) (E : L2.St → XK) (t : TA) : TE := fun σ H Q => t σ H fun vs H1 => ∀ x dx, H1 x = none → H1 dx = none → dx ≠ x →
  sp (.ref x :: vs) (upd (upd H1 dx (.own x)) x (.ins C dx [])) (fun v H2 => v = .non ∧ Q (.ref x) H2) (E σ)
theorem pe_makeG (c : ClsD X.K X.mg x C) (M : Mfn X.prog X.w X.K X.mg X.base CX k C "__init__" ps sp) (hr : Room (k + 1) X.A) (gd : X.A.guards = some []) (hg : Gl X x) (hx : ∀ σ, PassesAt CX X σ (E σ)) (ha : PA X (e :: es) t)
    (hdb : (x == ("__debug__" : Str)) = false := by decide) (he : starEach (e :: es) X.env = (false, eval e X.env) :: starEach es X.env := by rfl) (hpl : (backTo pos (starEach es X.env)).any (·.1) = false := by rfl) :
    PE X (.Call (.Name x p) (e :: es) [] pos) (tMakeS C sp E t) := by
  obtain ⟨f, fd, F, hm, hb⟩ := M
  constructor
  intro pins s0 σ H0 Q I0 h0
  refine wpAny_Call_Name_kw (ld_glob I0 hg c.gC ?_ hdb)
  refine PySem.W.callWith_K (h₀ := X.base) I0.ok.mod.kin c.kp (thn (ha.run pos pins s0 σ H0 _ I0 h0) fun us s ⟨vs, H, I, r, h⟩ => ⟨I.kIn, ?_⟩) he hpl
  have hq := h (s.heap.objs.size + 1) s.heap.objs.size (I.hok.fresh (Nat.le_succ _)) (I.hok.fresh (Nat.le_refl _)) (Nat.ne_of_lt (Nat.lt_succ_self _))
  have I2 := Inv.made (C := C) I
  have r2 : Vals (V.ref (s.heap.objs.size + 1) :: vs) (Value.ref (s.heap.objs.size + 1) :: us) := .cons rfl r
  have hl : ((Value.ref (s.heap.objs.size + 1) :: us) ++ []).length = ps.length := by
    rw [List.append_nil, ← r2.length]
    exact F.len _ _ _ _ hq
  have b := hb _ (Value.ref (s.heap.objs.size + 1) :: us) I2.kIn hl
  rw [List.append_nil] at b
  refine wpAny_call (make_map (f := f) I.kIn c.mks hm.at_ (beq_iff_eq.mp hm.fn) (codeAny_mono (F.run _ X.stack _ _ ⟨Value.ref (s.heap.objs.size + 1) :: us, []⟩ (Value.ref (s.heap.objs.size + 1) :: us) _ _ (E σ) (hr.make C us []) gd
    (I2.env0.make C us []) b r2 hq) ?_))
  intro r s' got
  match r, got with
  | .ok (.ret u), got =>
    obtain ⟨v, H', I3, rv, ev, q3⟩ := I2.after got
    subst ev
    exact ⟨rv, ⟨V.ref (s.heap.objs.size + 1), H', I3, rfl, q3⟩⟩
  | .ok .next, got => exact False.elim got
  | .ok .brk, got => exact False.elim got
  | .ok .cont, got => exact False.elim got
  | .error er, got => exact hx σ pins _ _ er s' I2 got
end
/-- o.m(..) -/
def dMeth (C : Addr) (m : Str) (sp : DSp) (to : DTE) (ta : DTA) (ρ : DS) (ω : Wd) (q : DQ) (x : DXK) : Prop := to ρ ω (fun o ω1 => ∃ a mo, o = refD a ∧ ω1 a = some mo ∧ isIns C m mo ∧ ta ρ ω1 (fun ts ω2 => sp (o :: ts) ω2 q x) x) x
/-- C(..) -/
def dMake (C : Addr) (sp : DSp) (ta : DTA) (ρ : DS) (ω : Wd) (q : DQ) (x : DXK) : Prop := ta ρ ω (fun ts ω1 => ∀ a dx, ω1 a = none → sp (refD a :: ts) (updW ω1 a (.ins C dx [])) (fun v ω2 => v = .none ∧ q (refD a) ω2) x) x
def dFld (K : PySem.W.Frag) (te : DTE) (f : Str) (ρ : DS) (ω : Wd) (q : DQ) (x : DXK) : Prop := te ρ ω (fun o ω1 => ∃ a C dx fs v, o = refD a ∧ ω1 a = some (.ins C dx fs) ∧ Cls K C ∧ NoAttr K C f ∧ fs.lookup f = some v ∧ q v ω1) x
def putD (f : Str) (v : PyData) : List (Str × PyData) → List (Str × PyData)
  | [] => [(f, v)]
  | (g, u) :: r => if g = f then (g, v) :: r else (g, u) :: putD f v r
def dSetF (K : PySem.W.Frag) (to te : DTE) (f : Str) (D : DEnds) (ρ : DS) (ω : Wd) : Prop := te ρ ω (fun v ω1 => to ρ ω1 (fun o ω2 => ∃ a C dx fs, o = refD a ∧ ω2 a = some (.ins C dx fs) ∧ Cls K C ∧ NoAttr K C f ∧ fs.length < 1000 ∧ D.nx ρ (updW ω2 a (.ins C dx (putD f v fs)))) (xcOf D ρ)) (xcOf D ρ)
theorem rpf_put {K : PySem.W.Frag} {J : Hp} {f : Str} {u : V} {v : PyData} (h : Rp K J u v) : ∀ {gs : List (Str × V)} {fs : List (Str × PyData)}, RpF K J gs fs → RpF K J (putF f u gs) (putD f v fs)
  | _, _, .nil => .cons ⟨rfl, h⟩ .nil
  | (a, u') :: gs, (b, v') :: fs, .cons g t => by
    obtain ⟨h1, h2⟩ := g
    simp only at h1 h2
    subst h1
    unfold putF putD
    by_cases q : a = f
    · rw [if_pos q, if_pos q]; exact .cons ⟨rfl, h⟩ t
    · rw [if_neg q, if_neg q]; exact .cons ⟨rfl, h2⟩ (rpf_put h t)
theorem RpF.length {K : PySem.W.Frag} {J : Hp} : ∀ {gs : List (Str × V)} {fs : List (Str × PyData)}, RpF K J gs fs → gs.length = fs.length
  | _, _, .nil => rfl
  | _, _, .cons _ t => by rw [List.length_cons, List.length_cons, RpF.length t]
section
variable {W : WX} {X : Cx} {K : PySem.W.Frag} {j k : Nat} {ps : List Str} {sp : DSp} {x m f : Str} {C : Addr} {p pos apos pos' : Pos} {e o : Expr} {es : List Expr} {to te : DTE} {tA : DTA} {CX : CXT}
/-- no exception, or one that is wished for -/
def PX (CX : CXT) (X : Cx) (W : WX) : Prop := ∀ σ, PassesAt CX X σ (fun cl d H => W cl d σ H)
theorem px0 : PX CX0 X W := fun _ _ _ _ _ _ _ h => False.elim h
theorem pxX (tk : Takes X W) : PX (L2.CX X.prog X.w) X W := fun σ => passAt tk σ
theorem de_meth {pl : Sem Bool} (hK : X.K = K) (M : Mfn X.prog X.w X.K X.mg X.base CX j C m ps (spD K sp)) (cl : Cls K C) (c : Ct X.mg X.A k) (h : j ≤ k) (px : PX CX X W) (ho : DE W X K o to) (args : DAs W X K (e :: es) tA)
    (hst : starEach (e :: es) X.env = (false, eval e X.env) :: starEach es X.env := by rfl) (hpl : (backTo pos (starEach es X.env)).any (·.1) = false := by rfl)
    (ht : eval (.Call (.Attribute o m apos) (e :: es) [] pos) X.env = (do
      let ov ← eval o X.env
      standAt apos.atName
      let (f, first) ← holding [ov] (getMethod ov m pl)
      callWith pos f first (backTo pos (starEach (e :: es) X.env)) (backToKw pos (keywordEach [] X.env))) := by rfl) :
    DE W X K (.Call (.Attribute o m apos) (e :: es) [] pos) (dMeth C m sp to tA) := by
  subst hK
  obtain ⟨ro, po, ko⟩ := ho
  obtain ⟨t, pp, kk⟩ := args
  refine ⟨_, pe_methG (E := fun σ cl d H => W cl d σ H) po cl M (c.r.mono h) c.g px pp hst hpl ht, fun σ H J ω ρ q x Q w s cq cx z => ko σ H J ω ρ _ x _ w s (fun r ω1 v J1 H1 z1 g1 w1 rp => ?_) cx z⟩
  obtain ⟨a, mo, rfl, e1, i, z1⟩ := z1
  obtain rfl := rp_ref rp
  obtain ⟨dx, fs, e2, l⟩ := w1.ins e1 i
  refine ⟨a, dx, fs, rfl, e2, l, kk σ H1 J1 ω1 ρ _ x _ w1 (s.mono g1.jj) (fun ts ω2 vs J2 H2 z2 g2 w2 rps => ?_) (cx.step g1) z1⟩
  exact ⟨J2, ω2, _, q, x, w2, .cons (.ref a) rps, (cq.step g1).step g2, (cx.step g1).step g2, z2⟩
theorem de_meth0 {pl : Sem Bool} (hK : X.K = K) (M : Mfn X.prog X.w X.K X.mg X.base CX j C m ps (spD K sp)) (cl : Cls K C) (c : Ct X.mg X.A k) (h : j ≤ k) (px : PX CX X W) (ho : DE W X K o to)
    (ht : eval (.Call (.Attribute o m apos) [] [] pos) X.env = (do
      let ov ← eval o X.env
      standAt apos.atName
      let (f, first) ← holding [ov] (getMethod ov m pl)
      callWith pos f first (backTo pos (starEach [] X.env)) (backToKw pos (keywordEach [] X.env))) := by rfl) :
    DE W X K (.Call (.Attribute o m apos) [] [] pos) (dMeth C m sp to dNil) := by
  subst hK
  obtain ⟨ro, po, ko⟩ := ho
  refine ⟨_, pe_methG0 (E := fun σ cl d H => W cl d σ H) po cl M (c.r.mono h) c.g px ht, fun σ H J ω ρ q x Q w s cq cx z => ko σ H J ω ρ _ x _ w s (fun r ω1 v J1 H1 z1 g1 w1 rp => ?_) cx z⟩
  obtain ⟨a, mo, rfl, e1, i, z1⟩ := z1
  obtain rfl := rp_ref rp
  obtain ⟨dx, fs, e2, l⟩ := w1.ins e1 i
  exact ⟨a, dx, fs, rfl, e2, l, J1, ω1, _, q, x, w1, .cons (.ref a) .nil, cq.step g1, cx.step g1, z1⟩
theorem de_make (hK : X.K = K) (cl : ClsD K X.mg x C) (M : Mfn X.prog X.w X.K X.mg X.base CX j C "__init__" ps (spD K sp)) (c : Ct X.mg X.A k) (h : j + 1 ≤ k) (gl : Gl X x) (px : PX CX X W) (args : DAs W X K (e :: es) tA)
    (hdb : (x == ("__debug__" : Str)) = false := by decide) (he : starEach (e :: es) X.env = (false, eval e X.env) :: starEach es X.env := by rfl) (hpl : (backTo pos (starEach es X.env)).any (·.1) = false := by rfl) :
    DE W X K (.Call (.Name x p) (e :: es) [] pos) (dMake C sp tA) := by
  subst hK
  obtain ⟨t, pp, kk⟩ := args
  refine ⟨_, pe_makeG (E := fun σ cl d H => W cl d σ H) cl M (c.r.mono h) c.g gl px pp hdb he hpl, fun σ H J ω ρ q x Q w s cq cx z => kk σ H J ω ρ _ x _ w s (fun ts ω1 vs J1 H1 z1 g1 w1 rps => ?_) cx z⟩
  intro a dx ha hd ne
  have w2 := w1.junk hd (.own a)
  have ha2 : upd H1 dx (.own a) a = none := by rw [upd_ne (Ne.symm ne)]; exact ha
  have w3 := w2.own (m := .ins C dx []) (o := .ins C dx []) rfl ha2 ⟨[], upd_same, .nil⟩
  have g3 : Grow J H ω J1 (upd (upd H1 dx (.own a)) a (.ins C dx [])) (updW ω1 a (.ins C dx [])) := (g1.trans (Grow.junk hd _)).trans (Grow.own rfl ha2 _)
  refine ⟨J1, _, _, _, x, w3, .cons (.ref a) rps, fun r ω' v J' H' z' g' w' rp => ?_, cx.step g3, z1 a dx (w1.free ha).1⟩
  obtain ⟨rfl, z'⟩ := z'
  cases rp
  exact ⟨rfl, (cq.step g3) _ _ _ _ _ z' g' w' (.ref a)⟩
theorem de_fld (hK : X.K = K) (he : DE W X K e te) (hb : attributeBase e f X.env (eval e X.env) = eval e X.env := by rfl) : DE W X K (.Attribute e f pos) (dFld K te f) := by
  subst hK
  obtain ⟨ro, po, ko⟩ := he
  refine ⟨_, pe_fld po hb, fun σ H J ω ρ q x Q w s cq cx z => ko σ H J ω ρ _ x _ w s (fun r ω1 v J1 H1 z1 g1 w1 rp => ?_) cx z⟩
  obtain ⟨a, C, dx, fs, v, rfl, e1, cl, na, l, z1⟩ := z1
  obtain rfl := rp_ref rp
  obtain ⟨gs, e2, r2⟩ := w1.cell a _ e1
  obtain ⟨u, l2, r3⟩ := rpf_lookup r2 l
  exact ⟨a, C, dx, gs, u, rfl, e2, cl, na, l2, cq _ _ _ _ _ z1 g1 w1 r3⟩
theorem ds_fld (hK : X.K = K) (ho : DE W X K o to) (he : DE W X K e te) (hs : swapsWith e (some (.Attribute o f pos')) pos.line X.env = pure false := by rfl) : DSt W X K (.Assign [.Attribute o f pos'] e pos) (dSetF K to te f) := by
  subst hK
  obtain ⟨ro, po, ko⟩ := ho
  obtain ⟨re, pe, ke⟩ := he
  refine ⟨_, ps_fld po pe hs, fun D DD σ H J ω ρ w s cs z => ke σ H J ω ρ _ _ _ w s (fun r ω1 v J1 H1 z1 g1 w1 rp => ?_) (cs.x s) z⟩
  refine ko σ H1 J1 ω1 ρ _ _ _ w1 (s.mono g1.jj) (fun r2 ω2 v2 J2 H2 z2 g2 w2 rp2 => ?_) ((cs.x s).step g1) z1
  obtain ⟨a, C, dx, fs, rfl, e1, cl, na, l, z2⟩ := z2
  obtain rfl := rp_ref rp2
  obtain ⟨gs, e2, r2⟩ := w2.cell a _ e1
  refine ⟨a, C, dx, gs, rfl, e2, cl, na, by rw [r2.length]; exact l, cs.nx _ _ _ _ _ z2 ((g1.trans g2).trans (Grow.set e1 rfl _)) (w2.set e1 rfl ⟨_, upd_same, rpf_put (rp_mono g2.jj _ _ rp) r2⟩) (s.mono (g1.trans g2).jj)⟩
end
end Tx

namespace Tx
open PySem PySem.Spec PyProof.Rows L2
/-! ## Operators of a class of the text -/
section
variable {prog : Program} {w : World} {A : Around} {E : Value → Shared → Prop} {s : Shared} {K : PySem.W.Frag} {x C f : Addr} {ox : Obj} {od : Option Obj} {b tb : Value}
theorem slot_one (X : K.In s.heap) (I : PySem.W.InstAt s.heap x ox C od) (oC : PySem.W.subIn K (.ref C) (.type "object") = some true) {Q : Unit → Shared → Prop} (h : Q () s) : wpAny (model prog w) A (checkBuiltinCall "object.__ne__" ⟨[.ref x, b], []⟩) Q E s := by
  simp only [checkBuiltinCall, F.cmpKind_ne, F.cmpSplit_ne]
  refine wpAny_bind ?_
  unfold isInstance
  refine wpAny_bind (I.type.here ((PySem.W.looks_subIn X oC).here ?_))
  have ha := F.cmpArgs_ne (.ref x) b
  unfold argsOk at ha
  cases q : Manifest.signature? "object.__ne__" with
  | none => exact wpAny_pure h
  | some sg =>
    rw [q] at ha
    show wpAny _ _ (Bind.checkArgs "object.__ne__" sg ⟨[.ref x, b], []⟩) _ _ _
    rw [show Bind.checkArgs "object.__ne__" sg ⟨[.ref x, b], []⟩ = pure () from ha]
    exact wpAny_pure h
/-- a != b where the class has an own __eq__ and no own __ne__ -/
theorem ne_own {Q : Value → Shared → Prop} (hu : A.units + 1 < cLine) (X : K.In s.heap) (I : PySem.W.InstAt s.heap x ox C od) (hb : PySem.W.Looks (model prog w) s.heap (typeOf b) tb) (hn : PySem.W.notFirst K C tb = true)
    (ne : PySem.W.findIn K (.ref C) "__ne__" = some (some (.builtin "object.__ne__"))) (eq : PySem.W.findIn K (.ref C) "__eq__" = some (some (.ref f))) (hf : PySem.W.isFn K (.ref f) = true) (oC : PySem.W.subIn K (.ref C) (.type "object") = some true)
    (h : wpAny (model prog w) A.in1 (call (.ref f) [.ref x, b]) (fun v s' => ∃ r, v = .bool r ∧ Q (.bool (!r)) s') E s) : wpAny (model prog w) A (richCompare .NotEq (.ref x) b) Q E s := by
  have entry : wpAny (model prog w) A (call (.builtin "object.__ne__") ([.ref x] ++ [b])) (fun v s' => ∃ r, v = .bool r ∧ Q v s') E s := by
    refine wpAny_call (codeAny_call_builtin (by decide +kernel) F.cmpEntry_ne (slot_one X I oC ?_))
    unfold Builtin.«object.__ne__»
    refine wpAny_bind (m := slotArgs _ _ _) (wpAny_pure ?_)
    refine wpAny_bind (wpAny_cRoomFor hu ?_)
    refine wpAny_bind (PySem.W.ifBound_K X I eq hf (wpAny_mono h (fun v s1 ⟨r, e, q⟩ => ?_) fun _ _ z => z))
    subst e
    refine wpAny_bind (wpAny_truthy_bool ?_)
    exact wpAny_pure ⟨_, rfl, q⟩
  have cs : wpAny (model prog w) A (callSpecialIfBound? (.ref x) (cmpInfo .NotEq).2.1 [b]) (fun r s' => ∃ v, r = some (.bool v) ∧ Q (.bool v) s') E s := by
    unfold callSpecialIfBound? bindSpecialIfBound?
    refine wpAny_holding (wpAny_bind (wpAny_bind (wpAny_bind (I.type.here ((PySem.W.looks_findIn X ne).here ?_)))))
    refine wpAny_bind (wpAny_askSetting (wpAny_ite ?_))
    have bd : bindSpecial (.builtin "object.__ne__") (.ref x) = pure (.builtin "object.__ne__", [.ref x]) := rfl
    simp only [bd]
    have fin : wpAny (model prog w) A (call (.builtin "object.__ne__") ([.ref x] ++ [b]) >>= fun v => pure (some v)) (fun r s' => ∃ v, r = some (.bool v) ∧ Q (.bool v) s') E s := by
      refine wpAny_bind (wpAny_mono entry (fun v s1 ⟨r, e, q⟩ => ?_) fun _ _ z => z)
      subst e
      exact wpAny_pure ⟨_, rfl, q⟩
    split
    · exact wpAny_bind (wpAny_pure (wpAny_pure (by exact fin)))
    · exact wpAny_tryCatch (wpAny_bind (wpAny_pure (wpAny_pure (by exact fin))))
  have one : wpAny (model prog w) A (tryCompare (.ref x) (cmpInfo .NotEq).2.1 b) (fun r s' => ∃ v, r = some v ∧ Q v s') E s := by
    unfold tryCompare
    refine wpAny_bind (wpAny_mono cs (fun r s1 ⟨v, e, q⟩ => ?_) fun _ _ z => z)
    subst e
    exact wpAny_pure ⟨_, rfl, q⟩
  unfold richCompare
  simp only [oneThing_ref]
  refine wpAny_holding (wpAny_bind (wpAny_cRoomFor (by omega) ?_))
  refine wpAny_bind (I.type.here (wpAny_bind (hb.here ?_)))
  have last : wpAny (model prog w) A (tryCompare (.ref x) (cmpInfo .NotEq).2.1 b) (fun r s' => ∃ v, r = some v ∧ Q v s') E s := one
  split
  · rename_i q
    have e : PySem.W.subIn K tb (.ref C) = some false := by
      rcases Bool.or_eq_true_iff.mp hn with e | e
      · rw [beq_iff_eq.mp e] at q; simp at q
      · exact beq_iff_eq.mp e
    refine wpAny_bind ((PySem.W.looks_subIn X e).here ?_)
    simp only [Bool.false_eq_true, if_false]
    refine wpAny_bind (wpAny_mono last (fun r s1 ⟨v, e, hq⟩ => ?_) fun _ _ e => e)
    subst e
    exact wpAny_pure hq
  · refine wpAny_bind (wpAny_pure ?_)
    simp only [Bool.false_eq_true, if_false]
    refine wpAny_bind (wpAny_mono last (fun r s1 ⟨v, e, hq⟩ => ?_) fun _ _ e => e)
    subst e
    exact wpAny_pure hq
end
end Tx

namespace Tx
open PySem PySem.Spec PyProof.Rows L2
section
variable {prog : Program} {w : World} {A : Around} {E : Value → Shared → Prop} {s : Shared} {K : PySem.W.Frag} {x C f : Addr} {ox : Obj} {od : Option Obj} {b tb : Value}
theorem is_type_bool : isType (.type "bool") = pure true := by first | rfl | kernel_rfl | (unfold isType; rw [isSubtype_type]; kernel_rfl)
/-- bool(x), by an own __bool__ -/
theorem bool_own {Q : Value → Shared → Prop} (X : K.In s.heap) (I : PySem.W.InstAt s.heap x ox C od) (at_ : PySem.W.findIn K (.ref C) "__bool__" = some (some (.ref f))) (fn : PySem.W.isFn K (.ref f) = true)
    (h : wpAny (model prog w) A.in1.in1 (call (.ref f) [.ref x]) (fun r s1 => ∃ c, r = Value.bool c ∧ Q r s1) E s) : wpAny (model prog w) A (call (.type "bool") [.ref x]) Q E s := by
  refine callType_codes (Bi := Builtin.«object.__init__») (Q₁ := fun r s1 => ∃ c, r = Value.bool c ∧ Q r s1) F.called_bool (F.typeCall_bool_1 _) F.entry_object_init ?made ?next
  case next =>
    rintro v s1 ⟨c, rfl, q⟩
    exact ⟨rfl, F.args_object_init_2 _ _, object_init_meets F.called_bool.init.lookup F.called_bool.made (by decide) prog w A.in1 _ s1 ⟨rfl, rfl, q⟩⟩
  case made =>
    apply codeAny_of_tree
    show wpAny _ A.in1.in1 (checkBuiltinCall "bool.__new__" ⟨[.type "bool", .ref x], []⟩ >>= fun _ => again (.builtin "bool.__new__" ⟨[.type "bool", .ref x], []⟩)) _ _ s
    refine wpAny_bind (wpAny_of_eq (F.newCall_bool_1 _) (wpAny_pure ⟨plainId_quiet (by decide +kernel) _, codeAny_builtin F.entry_bool_new ?_⟩))
    rw [Around.under_plainId (by decide +kernel) _]
    unfold Builtin.«bool.__new__»
    refine wpAny_bind (wpAny_of_eq is_type_bool ?_)
    refine PySem.W.KFB.if_not rfl (wpAny_bind (wpAny_of_eq F.conv_sub_bool (PySem.W.KFB.if_not rfl ?_)))
    refine wpAny_bind (m := someArgs _ _ _ _) (wpAny_pure ?_)
    unfold truthy
    refine wpAny_bind (wpAny_bind (m := callSpecial? (.ref x) (Str.ofString "__bool__")) (PySem.W.special_fn X I at_ (beq_iff_eq.mp fn) (wpAny_mono h (fun v s1 ⟨c, e, q⟩ => ?_) fun _ _ z => z)))
    subst e
    exact wpAny_pure (wpAny_pure ⟨_, rfl, q⟩)
/-- what the fragment says of a built-in type that stands on the right of an operator -/
structure RightT (K : PySem.W.Frag) (C : Addr) (nm T : String) : Prop where
  op : ∃ o, PySem.W.findIn K (.type T) (PySem.dunder nm) = some o
  rop : ∃ o, PySem.W.findIn K (.type T) (dunderR nm) = some o
  sub : PySem.W.subIn K (.type T) (.ref C) = some false
structure OwnBin (K : PySem.W.Frag) (C : Addr) (nm : String) : Prop where
  first : PySem.W.selfFirst K C = true
  rop : ∃ o, PySem.W.findIn K (.ref C) (dunderR nm) = some o ∧ (o = none ∨ ∃ g : Addr, o = some (.ref g))
theorem bin_own {op : Operator} {T : String} {Q : Value → Shared → Prop} (X : K.In s.heap) (I : PySem.W.InstAt s.heap x ox C od) (ty : PySem.W.Looks (model prog w) s.heap (typeOf b) (.type T)) (O : OwnBin K C op.info.2) (R : RightT K C op.info.2 T)
    (at_ : PySem.W.findIn K (.ref C) (PySem.dunder op.info.2) = some (some (.ref f))) (fn : PySem.W.isFn K (.ref f) = true)
    (h : wpAny (model prog w) A (call (.ref f) [.ref x, b]) (PySem.W.CmpBack Q) E s) : wpAny (model prog w) A (binaryOp op (.ref x) b) Q E s := by
  obtain ⟨cd, rest, h1, h2⟩ := PySem.W.ksp_first O.first
  obtain ⟨⟨o1, r1⟩, ⟨o2, r2⟩, sub⟩ := R
  obtain ⟨o3, r3, r4⟩ := O.rop
  have go := PySem.W.ksp_try X I at_ fn h
  have k1 : PySem.W.Looks (model prog w) s.heap (fillsNumberSlot (.ref C) op.info.2) true := PySem.W.fills_K X h1 h2 at_
  have k2 := PySem.W.ksp_fillsT (M := model prog w) X r1 r2
  have k3 : PySem.W.Looks (model prog w) s.heap (isSubtype (.type T) (.ref C)) false := PySem.W.looks_subIn X sub
  have k4 : PySem.W.Looks (model prog w) s.heap (numberSlotInPython (.ref C) op.info.2) true := PySem.W.ksp_inPy X at_ r3 r4
  have k5 : PySem.W.Looks (model prog w) s.heap (numberSlotInPython (.type T) op.info.2) false := PySem.W.Looks.of_pure rfl
  have k6 : PySem.W.Looks (model prog w) s.heap (typeLookup (.type T) (dunderR op.info.2)) o2 := PySem.W.looks_findIn X r2
  have k7 : PySem.W.Looks (model prog w) s.heap (typeOf (.ref x)) (.ref C) := I.type
  generalize ((o1.isSome && !isSeqSlot o1) || (o2.isSome && !isSeqSlot o2)) = rt at k2
  have no : (Value.ref C == Value.type T) = false := Bool.eq_false_iff.mpr fun z => by cases beq_iff_eq.mp z
  clear h at_ r1 r2 r3 O
  obtain ⟨sy, nm, hi⟩ : ∃ sy nm, op.info = (sy, nm) := ⟨_, _, rfl⟩
  rw [hi] at go k1 k2 k4 k5 k6
  dsimp only at go k1 k2 k4 k5 k6
  obtain ⟨hp, g, d, tt, os⟩ := s
  simp only [binaryOp, hi]
  refine wpAny_holding (wpAny_bind ?_)
  unfold binaryOp1
  refine wpAny_bind (k7.at (wpAny_bind (ty.at (wpAny_bind (k1.at ?_)))))
  simp only [no, Bool.false_eq_true, if_false]
  cases rt <;>
  · ksp_lk
    refine wpAny_mono go (fun r s1 ⟨v, e, q⟩ => ?_) fun _ _ z => z
    subst e
    ksp_lk
    exact q
end
end Tx

namespace Tx
open PySem PySem.Spec PyProof.Rows L2
/-! ## Operators of a class over data -/
abbrev RM2 := PyData → PyData → Wd → DQ → Prop
abbrev RM1 := List PyData → Wd → DQ → Prop
def lift2M (K : PySem.W.Frag) (rd : RM2) : R2 := fun x y H Q => ∃ J ω dx dy q, Rw K J H ω ∧ Rp K J x dx ∧ Rp K J y dy ∧ CovQ K J H ω q Q ∧ rd dx dy ω q
def liftAM (K : PySem.W.Frag) (rd : RM1) : List V → Hp → VK → Prop := fun xs H Q => ∃ J ω ds q, Rw K J H ω ∧ RpAll K J xs ds ∧ CovQ K J H ω q Q ∧ rd ds ω q
def CovW (K : PySem.W.Frag) (J H : Hp) (ω : Wd) (q : Wd → Prop) (Q : Hp → Prop) : Prop := ∀ ω' J' H', q ω' → Grow J H ω J' H' ω' → Rw K J' H' ω' → Q H'
abbrev RMS := PyData → PyData → PyData → Wd → (Wd → Prop) → Prop
def liftSt (K : PySem.W.Frag) (rd : RMS) : TSet := fun o i v H Q => ∃ J ω dO dI dV q, Rw K J H ω ∧ Rp K J o dO ∧ Rp K J i dI ∧ Rp K J v dV ∧ CovW K J H ω q Q ∧ rd dO dI dV ω q
/-- the built-in type of data -/
def tyR (ω : Wd) (d : PyData) : Option String := match rsv ω d with
  | .none => some "NoneType"
  | .bool _ => some "bool"
  | .int _ => some "int"
  | .str _ => some "str"
  | .list _ => some "list"
  | _ => none
/-- an instance of the class at C -/
def InsD (C : Addr) (m : Str) (ω : Wd) (d : PyData) : Prop := ∃ a mo, d = refD a ∧ ω a = some mo ∧ isIns C m mo
/-- self.m(..) by an operator -/
def rmOwn (C : Addr) (m : Str) (ok : Wd → PyData → Prop) (sp : DSp) : RM2 := fun dx dy ω q => InsD C m ω dx ∧ ok ω dy ∧ sp [dx, dy] ω q X0
def RgtOk (K : PySem.W.Frag) (C : Addr) (nm : String) (ω : Wd) (d : PyData) : Prop := (∃ T, tyR ω d = some T ∧ RightT K C nm T) ∨ ∃ m, InsD C m ω d
def rmNe (C : Addr) (sp : DSp) : RM2 := fun dx dy ω q => InsD C "__eq__" ω dx ∧ (∃ m, InsD C m ω dy) ∧ sp [dx, dy] ω (fun r ω1 => ∃ b, r = .bool b ∧ q (.bool (!b)) ω1) X0
def rmEq (C : Addr) (sp : DSp) : RM2 := fun dx dy ω q => InsD C "__eq__" ω dx ∧ (∃ m, InsD C m ω dy) ∧ sp [dx, dy] ω q X0
def rmLen (C : Addr) (sp : DSp) : RM1 := fun ds ω q => ∃ d, ds = [d] ∧ InsD C "__len__" ω d ∧ sp [d] ω (fun r ω1 => ∃ n : Int, r = .int n ∧ 0 ≤ n ∧ n < 2 ^ 63 ∧ q r ω1) X0
def rmBool (C : Addr) (sp : DSp) : RM1 := fun ds ω q => ∃ d, ds = [d] ∧ InsD C "__bool__" ω d ∧ sp [d] ω (fun r ω1 => ∃ b, r = .bool b ∧ q r ω1) X0
def rsOwn (C : Addr) (sp : DSp) : RMS := fun dO dI dV ω q => InsD C "__setitem__" ω dO ∧ sp [dO, dI, dV] ω (fun _ ω1 => q ω1) X0
def rsList : RMS := fun dO dI dV ω q => ∃ (a : Addr) (xs : List PyData) (k : Int) (j : Nat), dO = refD a ∧ dI = .int k ∧ ω a = some (.lst xs) ∧ ixN xs.length k = some j ∧ q (updW ω a (.lst (xs.set j dV)))
section
variable {X : Cx} {K : PySem.W.Frag} {pins : List (Addr × Obj)} {σ : L2.St} {J H : Hp} {ω : Wd} {s : Shared} {a C dx : Addr} {fs : List (Str × V)} {v : V} {u : Value} {d : PyData} {m : Str} {j k : Nat} {ps : List Str} {sp : DSp} {A : Around}
theorem inst_at (I : L2.Inv X pins σ H s) (e : H a = some (.ins C dx fs)) : ∃ od, PySem.W.InstAt s.heap a (PySem.W.instObj C dx) C (some od) := by
  obtain ⟨mA, O, _⟩ := ins_get I.hok e
  obtain ⟨od, J, _⟩ := O.look
  exact ⟨od, J⟩
theorem insD_at (w : Rw K J H ω) (I : L2.Inv X pins σ H s) (r : Rp K J v d) (rv : RelV v u) (i : InsD C m ω d) : ∃ a dx od, v = .ref a ∧ u = .ref a ∧ PySem.W.InstAt s.heap a (PySem.W.instObj C dx) C (some od) := by
  obtain ⟨a, mo, rfl, e, i⟩ := i
  obtain rfl := rp_ref r
  obtain ⟨dx, fs, e2, _⟩ := w.ins e i
  obtain ⟨od, J⟩ := inst_at I e2
  exact ⟨a, dx, od, rfl, rv, J⟩
theorem looks_ty {M : Model} {T : String} (w : Rw K J H ω) (I : L2.Inv X pins σ H s) (r : Rp K J v d) (rv : RelV v u) (t : tyR ω d = some T) : PySem.W.Looks M s.heap (typeOf u) (.type T) := by
  unfold tyR at t
  cases e : rsv ω d with
  | none => rw [e] at t; cases t; rw [(rp_flat r).2.2.2 e] at rv; cases (show u = Value.none from rv); exact PySem.W.Looks.of_pure rfl
  | bool b => rw [e] at t; cases t; rw [(rp_flat r).2.2.1 b e] at rv; cases (show u = Value.bool b from rv); exact PySem.W.Looks.of_pure rfl
  | int i => rw [e] at t; cases t; rw [(rp_flat r).2.1 i e] at rv; obtain ⟨tk, rfl⟩ := (show ∃ t, u = Value.int i t from rv); exact PySem.W.Looks.of_pure rfl
  | str z => rw [e] at t; cases t; rw [(rp_flat r).1 z e] at rv; obtain ⟨tk, rfl⟩ := (show ∃ t, u = Value.str z t from rv); exact PySem.W.Looks.of_pure rfl
  | list xs =>
    rw [e] at t
    cases t
    obtain ⟨a, vs, rfl, ha, _⟩ := rp_list w r e
    cases (show u = Value.ref a from rv)
    obtain ⟨its, n, _, ho, _⟩ := I.lst ha
    exact (PySem.W.Looks.ld ho).andThen .now
  | tuple _ => rw [e] at t; cases t
  | dict _ => rw [e] at t; cases t
/-- the method runs -/
theorem own_run {f : Addr} {fd : FuncData} {us : List Value} {vs : List V} {ts : List PyData} {q : DQ} {Q : VK} (F : FnG X.prog X.w X.K X.mg X.base CX0 j f fd ps (spD K sp)) (hb : L2.Binds X.K fd ps []) (hr : Room j A) (gd : A.guards = some [])
    (e0 : Env0 X.prog X.w X.K X.mg X.base A X.stack s H) (I : L2.Inv X pins σ H s) (rel : Vals vs us) (w : Rw K J H ω) (rs : RpAll K J vs ts) (cq : CovQ K J H ω q Q) (z : sp ts ω q X0) : wpAny (model X.prog X.w) A (call (.ref f) us) (EP X pins σ Q) X.xe s :=
  run_g (E := fun _ _ _ => False) F hr gd hb e0 (fun _ _ _ _ _ _ h => False.elim h) I rel ⟨J, ω, ts, q, X0, w, rs, cq, (fun _ _ _ _ _ _ z => False.elim z), z⟩
theorem dm_bin {op : Operator} (hK : X.K = K) (M : Mfn X.prog X.w X.K X.mg X.base CX0 j C m ps (spD K sp)) (c : Ct X.mg X.A k) (h : j ≤ k) (O : OwnBin K C op.info.2) (hn : PySem.dunder op.info.2 = m := by rfl) : OpR X (binaryOp op) (lift2M K (rmOwn C m (RgtOk K C op.info.2) sp)) := by
  subst hK hn
  obtain ⟨f, fd, F, hm, hb⟩ := M
  intro pins s σ H x y v u Q I rx ry ⟨J, ω, dx, dy, q, w, r1, r2, cq, i1, i2, z⟩
  obtain ⟨a, d1, od, rfl, rfl, J1⟩ := insD_at w I r1 rx i1
  have run := own_run F hb (c.r.mono h) c.g I.env0 I (.cons rx (.cons ry .nil)) w (.cons r1 (.cons r2 .nil)) cq z
  have back : wpAny (model X.prog X.w) X.A (call (.ref f) [.ref a, u]) (PySem.W.CmpBack (EP X pins σ Q)) X.xe s := thn run fun v' s' ⟨z', H', I', rz, qz⟩ => SlX.cmpback rz ⟨z', H', I', rz, qz⟩
  rcases i2 with ⟨T, t, R⟩ | ⟨m, i2⟩
  · exact bin_own I.kIn J1 (looks_ty w I r2 ry t) O R hm.at_ hm.fn back
  · obtain ⟨b, d2, od2, rfl, rfl, J2⟩ := insD_at w I r2 ry i2
    obtain ⟨mm, hF⟩ := I.fr
    exact PySem.W.binop_K hF I.ok.mod.kin J1 J2.type O.first hm.at_ hm.fn back
theorem dm_inp {op : Operator} (hK : X.K = K) (M : Mfn X.prog X.w X.K X.mg X.base CX0 j C m ps (spD K sp)) (c : Ct X.mg X.A k) (h : j ≤ k) (O : PySem.W.selfFirst K C = true) (hn : dunderI op.info.2 = m := by rfl) : PIp X op (lift2M K (rmOwn C m (fun _ _ => True) sp)) := by
  subst hK hn
  obtain ⟨f, fd, F, hm, hb⟩ := M
  intro pins s σ H x y v u Q I rx ry ⟨J, ω, dx, dy, q, w, r1, r2, cq, i1, i2, z⟩
  obtain ⟨a, d1, od, rfl, rfl, J1⟩ := insD_at w I r1 rx i1
  have run := own_run F hb (c.r.mono h) c.g I.env0 I (.cons rx (.cons ry .nil)) w (.cons r1 (.cons r2 .nil)) cq z
  obtain ⟨mm, hF⟩ := I.fr
  exact PySem.W.ksp_inplace hF I.ok.mod.kin J1 O hm.at_ hm.fn (thn run fun v' s' ⟨z', H', I', rz, qz⟩ => SlX.cmpback rz ⟨z', H', I', rz, qz⟩)
theorem first_self : PySem.W.notFirst K C (.ref C) = true := by simp [PySem.W.notFirst]
theorem dm_eq (hK : X.K = K) (M : Mfn X.prog X.w X.K X.mg X.base CX0 j C "__eq__" ps (spD K sp)) (c : Ct X.mg X.A k) (h : j ≤ k) : OpR X (compareOp .Eq) (lift2M K (rmEq C sp)) := by
  subst hK
  obtain ⟨f, fd, F, hm, hb⟩ := M
  intro pins s σ H x y v u Q I rx ry ⟨J, ω, dx, dy, q, w, r1, r2, cq, i1, ⟨m2, i2⟩, z⟩
  obtain ⟨a, d1, od, rfl, rfl, J1⟩ := insD_at w I r1 rx i1
  have run := own_run F hb (c.r.mono h) c.g I.env0 I (.cons rx (.cons ry .nil)) w (.cons r1 (.cons r2 .nil)) cq z
  obtain ⟨b, d2, od2, rfl, rfl, J2⟩ := insD_at w I r2 ry i2
  obtain ⟨mm, hF⟩ := I.fr
  exact PySem.W.cmp_K (op := .Eq) c.r.units0 hF I.ok.mod.kin J1 J2.type first_self hm.at_ hm.fn (thn run fun v' s' ⟨z', H', I', rz, qz⟩ => SlX.cmpback rz ⟨z', H', I', rz, qz⟩)
theorem dm_ne (hK : X.K = K) (M : Mfn X.prog X.w X.K X.mg X.base CX0 j C "__eq__" ps (spD K sp)) (c : Ct X.mg X.A k) (h : j + 1 ≤ k) (ne : PySem.W.findIn K (.ref C) "__ne__" = some (some (.builtin "object.__ne__"))) (oC : PySem.W.subIn K (.ref C) (.type "object") = some true) :
    OpR X (compareOp .NotEq) (lift2M K (rmNe C sp)) := by
  subst hK
  obtain ⟨f, fd, F, hm, hb⟩ := M
  intro pins s σ H x y v u Q I rx ry ⟨J, ω, dx, dy, q, w, r1, r2, cq, i1, ⟨m2, i2⟩, z⟩
  obtain ⟨a, d1, od, rfl, rfl, J1⟩ := insD_at w I r1 rx i1
  have cq2 : CovQ X.K J H ω (fun r ω1 => ∃ b, r = .bool b ∧ q (.bool (!b)) ω1) (fun v' H' => ∃ b, v' = .bl b ∧ Q (.bl (!b)) H') := fun r ω' v' J' H' ⟨b, e, z⟩ g w' rp => by
    subst e
    cases rp
    exact ⟨b, rfl, cq _ _ _ _ _ z g w' (.bl _)⟩
  have run := own_run F hb (c.r.mono h).in1 c.g I.env0.in1 I (.cons rx (.cons ry .nil)) w (.cons r1 (.cons r2 .nil)) cq2 z
  obtain ⟨b, d2, od2, rfl, rfl, J2⟩ := insD_at w I r2 ry i2
  refine ne_own (by have := c.r.units; omega) I.kIn J1 J2.type first_self ne hm.at_ hm.fn oC (thn run fun v' s' ⟨z', H', I', rz, b', e, qz⟩ => ?_)
  subst e
  exact ⟨b', rz, .bl (!b'), H', I', rfl, qz⟩
theorem dc_lenO (hK : X.K = K) (M : Mfn X.prog X.w X.K X.mg X.base CX0 j C "__len__" ps (spD K sp)) (c : Ct X.mg X.A k) (h : j + 1 ≤ k) : CallR X (.builtin "len") (liftAM K (rmLen C sp)) := by
  subst hK
  obtain ⟨f, fd, F, hm, hb⟩ := M
  intro pins s σ H xs us Q I rel ⟨J, ω, ds, q, w, rs, cq, d, e, i1, z⟩
  subst e
  cases rs with
  | cons r1 r2 =>
  cases r2
  obtain ⟨u, rfl, rx⟩ := vals1 rel
  obtain ⟨a, d1, od, rfl, rfl, J1⟩ := insD_at w I r1 rx i1
  have cq2 : CovQ X.K J H ω (fun r ω1 => ∃ n : Int, r = .int n ∧ 0 ≤ n ∧ n < 2 ^ 63 ∧ q r ω1) (fun v' H' => ∃ n : Int, v' = .int n ∧ 0 ≤ n ∧ n < 2 ^ 63 ∧ Q (.int n) H') := fun r ω' v' J' H' ⟨n, e, h0, h1, z⟩ g w' rp => by
    subst e
    cases rp
    exact ⟨n, rfl, h0, h1, cq _ _ _ _ _ z g w' (.int _)⟩
  have run := own_run F hb (c.r.mono h).in1 c.g I.env0.in1 I rel w (.cons r1 .nil) cq2 z
  obtain ⟨mm, hF⟩ := I.fr
  refine PySem.W.len_K hF I.ok.mod.kin J1 hm.at_ hm.fn (thn run fun v' s' ⟨z', H', I', rz, n, e, h0, h1, qz⟩ => ?_)
  subst e
  obtain ⟨tk, rfl⟩ := (show ∃ t, v' = Value.int n t from rz)
  exact ⟨⟨h0, h1⟩, .int n, H', I'.tok _, ⟨_, rfl⟩, qz⟩
theorem dc_boolO (hK : X.K = K) (M : Mfn X.prog X.w X.K X.mg X.base CX0 j C "__bool__" ps (spD K sp)) (c : Ct X.mg X.A k) (h : j + 2 ≤ k) : CallR X (.type "bool") (liftAM K (rmBool C sp)) := by
  subst hK
  obtain ⟨f, fd, F, hm, hb⟩ := M
  intro pins s σ H xs us Q I rel ⟨J, ω, ds, q, w, rs, cq, d, e, i1, z⟩
  subst e
  cases rs with
  | cons r1 r2 =>
  cases r2
  obtain ⟨u, rfl, rx⟩ := vals1 rel
  obtain ⟨a, d1, od, rfl, rfl, J1⟩ := insD_at w I r1 rx i1
  have cq2 : CovQ X.K J H ω (fun r ω1 => ∃ b, r = .bool b ∧ q r ω1) (fun v' H' => ∃ b, v' = .bl b ∧ Q (.bl b) H') := fun r ω' v' J' H' ⟨b, e, z⟩ g w' rp => by
    subst e
    cases rp
    exact ⟨b, rfl, cq _ _ _ _ _ z g w' (.bl _)⟩
  have run := own_run F hb (c.r.mono h).in1.in1 c.g I.env0.in1.in1 I rel w (.cons r1 .nil) cq2 z
  refine bool_own I.kIn J1 hm.at_ hm.fn (thn run fun v' s' ⟨z', H', I', rz, b, e, qz⟩ => ?_)
  subst e
  exact ⟨b, rz, .bl b, H', I', rz, qz⟩
theorem set_own (hK : X.K = K) (M : Mfn X.prog X.w X.K X.mg X.base CX0 j C "__setitem__" ps (spD K sp)) (c : Ct X.mg X.A k) (h : j ≤ k) (nq : PySem.W.noSeq K C = true) : PSet X (liftSt K (rsOwn C sp)) := by
  subst hK
  obtain ⟨f, fd, F, hm, hb⟩ := M
  intro pins s σ H o i v ov iv u Q I ro ri rv ⟨J, ω, dO, dI, dV, q, w, r1, r2, r3, cq, i1, z⟩
  obtain ⟨a, d1, od, rfl, rfl, J1⟩ := insD_at w I r1 ro i1
  have cq2 : CovQ X.K J H ω (fun _ ω1 => q ω1) (fun _ H' => Q H') := fun r ω' v' J' H' z g w' _ => cq _ _ _ z g w'
  have run := own_run F hb (c.r.mono h) c.g I.env0 I (.cons ro (.cons ri (.cons rv .nil))) w (.cons r1 (.cons r2 (.cons r3 .nil))) cq2 z
  obtain ⟨mm, hF⟩ := I.fr
  exact PySem.W.ksp_setItem hF I.ok.mod.kin J1 nq hm.at_ hm.fn (thn run fun v' s' ⟨z', H', I', rz, qz⟩ => ⟨H', I', qz⟩)
theorem set_listO : PSet X (liftSt K rsList) := by
  intro pins s σ H o i v ov iv u Q I ro ri rv ⟨J, ω, dO, dI, dV, q, w, r1, r2, r3, cq, a, xs, k, jj, e1, e2, e3, e4, z⟩
  subst e1 e2
  obtain rfl := rp_ref r1
  cases r2
  obtain ⟨vs, h1, h2⟩ := w.cell a _ e3
  refine set_list pins s σ H _ _ v ov iv u Q I ro ri rv ⟨a, vs, k, jj, rfl, rfl, h1, by rw [h2.length]; exact e4, cq _ _ _ z (Grow.set e3 rfl _) (w.set e3 rfl ⟨_, upd_same, h2.set jj r3⟩)⟩
end
end Tx

namespace Tx
open PySem PySem.Spec PyProof.Rows L2
/-! ## Rules: own operators, own lists that a comprehension makes -/
def dOpM (rd : RM2) (ta tb : DTE) (ρ : DS) (ω : Wd) (q : DQ) (x : DXK) : Prop := ta ρ ω (fun a ω1 => tb ρ ω1 (fun b ω2 => rd a b ω2 q) x) x
def dCBM (rd : RM1) (ta : DTA) (ρ : DS) (ω : Wd) (q : DQ) (x : DXK) : Prop := ta ρ ω (fun as ω1 => rd as ω1 q) x
def dAug (i : Nat) (te : DTE) (rd : RM2) (D : DEnds) (ρ : DS) (ω : Wd) : Prop := match ρ[i]? with
  | some (some d) => te ρ ω (fun r ω1 => rd d r ω1 fun v ω2 => D.nx (ρ.set i (some v)) ω2) (xcOf D ρ)
  | _ => False
def dSetS (to ti te : DTE) (rd : RMS) (D : DEnds) (ρ : DS) (ω : Wd) : Prop := te ρ ω (fun v ω1 => to ρ ω1 (fun o ω2 => ti ρ ω2 (fun i ω3 => rd o i v ω3 fun ω4 => D.nx ρ ω4) (xcOf D ρ)) (xcOf D ρ)) (xcOf D ρ)
/-- isinstance(x, C), C a class of the text -/
inductive TyD (K : PySem.W.Frag) (ω : Wd) : PyData → Value → Prop
  | data {d : PyData} (h : match rsv ω d with
      | .dict _ => False
      | _ => True) : TyD K ω d (.type (tyN (rsv ω d)))
  | ins {C : Addr} {m : Str} {d : PyData} (i : InsD C m ω d) (cl : Cls K C) (ha : PySem.W.findIn K (.ref C) "__class__" = some (some (.builtin "object.__class__")))
      (hn : PySem.W.specialIn K (.builtin "object.__class__") "__get__" = some (some (.builtin "getset_descriptor.__get__"))) (htk : PySem.W.takesIn K (.builtin "object.__class__") = some true)
      (hm : PySem.W.mroIn K C (.type "object") = some true) : TyD K ω d (.ref C)
def dIsC (K : PySem.W.Frag) (C : Addr) (te : DTE) (ρ : DS) (ω : Wd) (q : DQ) (x : DXK) : Prop := te ρ ω (fun r ω1 => ∃ t b, TyD K ω1 r t ∧ PySem.W.kitOne K t (.ref C) = some b ∧ q (.bool b) ω1) x
/-- a list that becomes data -/
def dFrzE (te : DTE) (ρ : DS) (ω : Wd) (q : DQ) (x : DXK) : Prop := te ρ ω (fun v ω1 => ∃ a ds, v = refD a ∧ ω1 a = some (.lst ds) ∧ q (.list ds) (delW ω1 a)) x
/-- a + b, both lists, a list of one's own -/
def rmCat : RM2 := fun a b ω q => ∃ xs ys, rsv ω a = .list xs ∧ rsv ω b = .list ys ∧ xs.length + ys.length ≤ sizeLine ∧ ∀ p, ω p = none → q (refD p) (updW ω p (.lst (xs ++ ys)))
theorem dm_cat {X : Cx} {K : PySem.W.Frag} (hK : X.K = K) : OpR X (binaryOp .Add) (lift2M K rmCat) := by
  subst hK
  intro pins s σ H x y v u Q I rx ry ⟨J, ω, dx, dy, q, w, hx, hy, c, xs, ys, ex, ey, l, z⟩
  obtain ⟨a, vs, rfl, ha, ra⟩ := rp_list w hx ex
  obtain ⟨b, ws, rfl, hb, rb⟩ := rp_list w hy ey
  exact op_cat pins s σ H _ _ v u Q I rx ry ⟨a, b, vs, ws, rfl, rfl, ha, hb, by rw [ra.length, rb.length]; exact l, fun p hp => c _ _ _ _ _ (z p (w.free hp).1) (Grow.own rfl hp _) (w.own rfl hp ⟨_, upd_same, ra.append rb⟩) (.ref p)⟩
section
variable {W : WX} {X : Cx} {K : PySem.W.Frag} {a b e o i t : Expr} {es : List Expr} {ta tb te to ti : DTE} {tA : DTA} {pos p pos' : Pos}
theorem dOpM_run {ra rb : TE} {rd : RM2} {σ : L2.St} {H J : Hp} {ω : Wd} {ρ : DS} {q : DQ} {x : DXK} {Q : VK}
    (ka : ∀ σ H J ω ρ q x Q, Rw K J H ω → Sl K J σ ρ → CovQ K J H ω q Q → CovX K J H ω x (fun c d H => W c d σ H) → ta ρ ω q x → ra σ H Q) (kb : ∀ σ H J ω ρ q x Q, Rw K J H ω → Sl K J σ ρ → CovQ K J H ω q Q → CovX K J H ω x (fun c d H => W c d σ H) → tb ρ ω q x → rb σ H Q)
    (w : Rw K J H ω) (s : Sl K J σ ρ) (cq : CovQ K J H ω q Q) (cx : CovX K J H ω x (fun c d H => W c d σ H)) (z : dOpM rd ta tb ρ ω q x) : tOp (lift2M K rd) ra rb σ H Q :=
  ka σ H J ω ρ _ x _ w s (fun r1 ω1 v1 J1 H1 z1 g1 w1 rp1 => kb σ H1 J1 ω1 ρ _ x _ w1 (s.mono g1.jj) (fun r2 ω2 v2 J2 H2 z2 g2 w2 rp2 => ⟨J2, ω2, r1, r2, q, w2, rp_mono g2.jj _ _ rp1, rp2, (cq.step g1).step g2, z2⟩) (cx.step g1) z1) cx z
theorem de_opM {op : Operator} {rd : RM2} (ho : OpR X (binaryOp op) (lift2M K rd)) (ha : DE W X K a ta) (hb : DE W X K b tb) : DE W X K (.BinOp a op b pos) (dOpM rd ta tb) := by
  obtain ⟨ra, pa, ka⟩ := ha
  obtain ⟨rb, pb, kb⟩ := hb
  exact ⟨_, pe_op ho pa pb, fun σ H J ω ρ q x Q w s cq cx z => dOpM_run ka kb w s cq cx z⟩
theorem de_cmpM {op : CmpOp} {rd : RM2} (ho : OpR X (compareOp op) (lift2M K rd)) (ha : DE W X K a ta) (hb : DE W X K b tb) (hm : behindInMarks op b = false) : DE W X K (.Compare a [op] [b] pos) (dOpM rd ta tb) := by
  obtain ⟨ra, pa, ka⟩ := ha
  obtain ⟨rb, pb, kb⟩ := hb
  exact ⟨_, pe_cmpR ho pa pb hm, fun σ H J ω ρ q x Q w s cq cx z => dOpM_run ka kb w s cq cx z⟩
theorem dt_cmpM {op : CmpOp} {rd : RM2} (ho : OpR X (compareOp op) (lift2M K rd)) (ha : DE W X K a ta) (hb : DE W X K b tb) (hm : behindInMarks op b = false) : DT W X K (.Compare a [op] [b] pos) (dTest (dOpM rd ta tb)) := by
  obtain ⟨ra, pa, ka⟩ := ha
  obtain ⟨rb, pb, kb⟩ := hb
  exact ⟨_, pt_cmpR ho pa pb hm, fun σ H J ω ρ q x Q w s cq cx z => dOpM_run ka kb w s (covT_test cq) cx z⟩
theorem de_callBM {x : Str} {id : String} {rd : RM1} (hc : CallR X (.builtin id) (liftAM K rd)) (hg : Gl X x) (hm : X.mg x = none) (hv : bootBuiltins x = some (.builtin id)) (ha : DAs W X K (e :: es) tA) (hn : x ≠ "__name__" := by decide) (hdb : (x == ("__debug__" : Str)) = false := by decide)
    (he : starEach (e :: es) X.env = (false, eval e X.env) :: starEach es X.env := by rfl) (hpl : (backTo pos (starEach es X.env)).any (·.1) = false := by rfl) : DE W X K (.Call (.Name x p) (e :: es) [] pos) (dCBM rd tA) := by
  obtain ⟨ra, pa, ka⟩ := ha
  exact ⟨_, pe_callB hc hg hm hv pa hn hdb he hpl, fun σ H J ω ρ q x Q w s cq cx z => ka σ H J ω ρ _ x _ w s (fun rs ω1 vs J1 H1 z1 g1 w1 rps => ⟨J1, ω1, rs, q, w1, rps, cq.step g1, z1⟩) cx z⟩
theorem de_callTyM {x : Str} {T : String} {rd : RM1} (hc : CallR X (.type T) (liftAM K rd)) (hg : Gl X x) (hm : X.mg x = none) (hv : bootBuiltins x = some (.type T)) (ha : DAs W X K (e :: es) tA) (hn : x ≠ "__name__" := by decide) (hdb : (x == ("__debug__" : Str)) = false := by decide)
    (he : starEach (e :: es) X.env = (false, eval e X.env) :: starEach es X.env := by rfl) (hpl : (backTo pos (starEach es X.env)).any (·.1) = false := by rfl) : DE W X K (.Call (.Name x p) (e :: es) [] pos) (dCBM rd tA) := by
  obtain ⟨ra, pa, ka⟩ := ha
  exact ⟨_, pe_callTy hc hg hm hv pa hn hdb he hpl, fun σ H J ω ρ q x Q w s cq cx z => ka σ H J ω ρ _ x _ w s (fun rs ω1 vs J1 H1 z1 g1 w1 rps => ⟨J1, ω1, rs, q, w1, rps, cq.step g1, z1⟩) cx z⟩
theorem ds_aug {n : Nat} {x : Str} {op : Operator} {rd : RM2} (hN : X.N.Nodup) (hi : X.N[n]? = some x) (hx : Loc X.env.scope x) (he : DE W X K e te) (ho : PIp X op (lift2M K rd)) (hf : X.fn x = true ∨ X.env.scope.names.lookup x = some .local := by first | exact .inl rfl | exact .inr rfl | assumption) :
    DSt W X K (.AugAssign (.Name x pos') op e pos) (dAug n te rd) := by
  obtain ⟨r, pe, k⟩ := he
  refine ⟨_, ps_aug hN hi hx pe ho hf, fun D DD σ H J ω ρ w s cs z => ?_⟩
  obtain ⟨v, d, h1, h2, z⟩ := s.var (q := fun d => te ρ ω (fun r ω1 => rd d r ω1 fun v ω2 => DD.nx (ρ.set n (some v)) ω2) (xcOf DD ρ)) z
  refine ⟨v, h1, k σ H J ω ρ _ _ _ w s (fun r ω1 v1 J1 H1 z1 g1 w1 rp => ?_) (cs.x s) z⟩
  refine ⟨J1, ω1, d, r, _, w1, rp_mono g1.jj _ _ h2, rp, fun r2 ω2 v2 J2 H2 z2 g2 w2 rp2 => ?_, z1⟩
  exact cs.nx _ _ _ _ _ z2 (g1.trans g2) w2 ((s.mono (g1.trans g2).jj).set n rp2)
theorem ds_setS {rd : RMS} {pos2 : Pos} (ho : DE W X K o to) (hi : DE W X K i ti) (he : DE W X K e te) (hset : PSet X (liftSt K rd))
    (ha : ∀ v, assign (.Subscript o i pos2) X.env v = (do
      let ov ← holding [v] (eval o X.env)
      let iv ← holding [v, ov] (eval i X.env)
      standAt pos2
      holding [v, ov, iv] (setItem ov iv v)
      release [v, ov, iv] []) := by intro _; rfl)
    (hs : swapsWithSole [.Subscript o i pos2] e pos.line X.env = pure false := by rfl) (hw : swappedStores [.Subscript o i pos2] e X.env = pure none := by rfl) (h1 : (assignEach [.Subscript o i pos2] X.env).map (·.2) = [assign (.Subscript o i pos2) X.env] := by rfl) :
    DSt W X K (.Assign [.Subscript o i pos2] e pos) (dSetS to ti te rd) := by
  obtain ⟨ro, po, ko⟩ := ho
  obtain ⟨ri, pi, ki⟩ := hi
  obtain ⟨re, pe, ke⟩ := he
  refine ⟨_, ps_asg pe (pg_sub po pi hset ha) hs hw h1, fun D DD σ H J ω ρ w s cs z => ke σ H J ω ρ _ _ _ w s (fun r ω1 v J1 H1 z1 g1 w1 rp => ?_) (cs.x s) z⟩
  refine ko σ H1 J1 ω1 ρ _ _ _ w1 (s.mono g1.jj) (fun r2 ω2 v2 J2 H2 z2 g2 w2 rp2 => ?_) ((cs.x s).step g1) z1
  refine ki σ H2 J2 ω2 ρ _ _ _ w2 (s.mono (g1.trans g2).jj) (fun r3 ω3 v3 J3 H3 z3 g3 w3 rp3 => ?_) ((cs.x s).step (g1.trans g2)) z2
  refine ⟨J3, ω3, r2, r3, r, _, w3, rp_mono g3.jj _ _ rp2, rp3, rp_mono (g2.trans g3).jj _ _ rp, fun ω4 J4 H4 z4 g4 w4 => ?_, z3⟩
  exact cs.nx _ _ _ _ _ z4 (((g1.trans g2).trans g3).trans g4) w4 (s.mono (((g1.trans g2).trans g3).trans g4).jj)
theorem tyD_x {J H : Hp} {ω : Wd} {v : V} {d : PyData} {t : Value} (w : Rw K J H ω) (r : Rp K J v d) (h : TyD K ω d t) : TyX K H v t := by
  cases h with
  | data h => exact tyx_rp w r h
  | ins i cl ha hn htk hm =>
    obtain ⟨a, mo, rfl, e, i⟩ := i
    obtain rfl := rp_ref r
    obtain ⟨dx, fs, e2, _⟩ := w.ins e i
    exact .base (.ins e2 cl ha hn htk hm)
theorem de_isC {C : Addr} (hK : X.K = K) (hg : Gl X "isinstance") (hm : X.mg "isinstance" = none) (ha : DE W X K a ta) (ht : PE X t (tC (.ref C)))
    (he : starEach (a :: [t]) X.env = (false, eval a X.env) :: starEach [t] X.env := by rfl) (he2 : starEach [t] X.env = (false, eval t X.env) :: starEach [] X.env := by rfl) (hpl : (backTo pos (starEach [t] X.env)).any (·.1) = false := by rfl) :
    DE W X K (.Call (.Name "isinstance" p) [a, t] [] pos) (dIsC K C ta) := by
  subst hK
  obtain ⟨ra, pa, ka⟩ := ha
  refine ⟨_, pe_callB call_isi hg hm (by decide +kernel) (pa_cons pa (pa_cons ht pa_nil he2) he) (by decide) (by decide) he hpl, fun σ H J ω ρ q x Q w s cq cx z => ka σ H J ω ρ _ x _ w s (fun r ω1 v J1 H1 z1 g1 w1 rp => ?_) cx z⟩
  obtain ⟨t', b', ty, kt, z1⟩ := z1
  exact ⟨v, .ref C, t', .ref C, b', rfl, .own C, tyD_x w1 rp ty, kt, (cq.step g1).now w1 z1 (.bl _)⟩
theorem de_frzE (h : DE W X K e te) : DE W X K e (dFrzE te) := by
  obtain ⟨r, p, k⟩ := h
  refine ⟨r, p, fun σ H J ω ρ q x Q w s cq cx z => k σ H J ω ρ _ x Q w s (fun v ω1 u J1 H1 z1 g1 w1 rp => ?_) cx z⟩
  obtain ⟨a, ds, rfl, e1, z1⟩ := z1
  obtain rfl := rp_ref rp
  obtain ⟨vs, h3, h4⟩ := w1.cell a _ e1
  exact cq _ _ _ _ _ z1 (g1.trans (Grow.fix w1 e1 h3)) (w1.fix e1 h3) (.lst upd_same (rpAll_mono (same_new (w1.out _ _ e1) _) _ _ h4))
end
end Tx

namespace Tx
open PySem PySem.Spec PyProof.Rows L2
/-! ## Comprehensions that make a list of one's own; walks over one -/
def WalkP (K : PySem.W.Frag) (J : Hp) (I : It) (xs : List PyData) (P : Wd → Prop) : Prop := ∃ G Y, Walk I xs.length G Y ∧ (∀ J' H' ω', Same J J' → Rw K J' H' ω' → P ω' → G H') ∧
  ∀ i H v H' J' ω', i < xs.length → Same J J' → Rw K J' H ω' → P ω' → Y i H v H' → (H' = H ∧ ∃ d, xs[i]? = some d ∧ Rp K J' v d) ∨ ∃ T us ds, v = .ref T ∧ H T = none ∧ H' = upd H T (.tup us) ∧ RpAll K J' us ds ∧ xs[i]? = some (.tuple ds)
abbrev DTIo := DS → Wd → (List PyData → (Wd → Prop) → Wd → Prop) → DXK → Prop
structure DIo (W : WX) (X : Cx) (K : PySem.W.Frag) (tg iter : Expr) (di : DTIo) : Prop where
  ex : ∃ wi : TI, PI X tg iter wi ∧ ∀ σ H J ω ρ (k : List PyData → (Wd → Prop) → Wd → Prop) x (R : It → Hp → Prop), Rw K J H ω → Sl K J σ ρ → (∀ xs P ω1 J1 H1 I, k xs P ω1 → Grow J H ω J1 H1 ω1 → Rw K J1 H1 ω1 → WalkP K J1 I xs P → R I H1) →
    CovX K J H ω x (fun c d H => W c d σ H) → di ρ ω k x → wi σ H R
def dioD (di : DTI) (ρ : DS) (ω : Wd) (k : List PyData → (Wd → Prop) → Wd → Prop) (x : DXK) : Prop := di ρ ω (fun xs ω1 => k xs (fun _ => True) ω1) x
def dioO (te : DTE) (ρ : DS) (ω : Wd) (k : List PyData → (Wd → Prop) → Wd → Prop) (x : DXK) : Prop := te ρ ω (fun r ω1 => ∃ a xs, r = refD a ∧ ω1 a = some (.lst xs) ∧ k xs (fun ω' => ω' a = some (.lst xs)) ω1) x
section
variable {K : PySem.W.Frag} {J : Hp} {I : It} {xs : List PyData} {P : Wd → Prop}
theorem WalkD.p (h : WalkD K J I xs) : WalkP K J I xs P := by
  obtain ⟨G, Y, w, g, y⟩ := h
  refine ⟨G, Y, w, fun J' H' ω' s r _ => g J' H' s r.jh, fun i H v H' J' ω' hi s r _ z => ?_⟩
  rcases y i H v H' hi z with ⟨e, d, e1, e2⟩ | ⟨T, us, ds, e1, e2, e3, e4, e5⟩
  · exact .inl ⟨e, d, e1, rp_mono s _ _ e2⟩
  · exact .inr ⟨T, us, ds, e1, e2, e3, rpAll_mono s _ _ e4, e5⟩
theorem walk_own {a : Addr} {n : Nat} : Walk (Itl K a) n (fun H => ∃ vs, H a = some (.lst vs) ∧ vs.length = n) (fun i H v H' => H' = H ∧ ∀ vs, H a = some (.lst vs) → vs[i]? = some v) := by
  refine ⟨fun i H hi ⟨vs, e, l⟩ => ?_, fun H ⟨vs, e, l⟩ => ⟨vs, SqL.of e, by omega⟩, fun i H x H' hi _ y => ⟨y.1, fun vs e => y.2 vs (SqL.of e)⟩⟩
  have : i < vs.length := by omega
  exact ⟨vs, vs[i], SqL.of e, List.getElem?_eq_getElem this⟩
theorem walkP_own {a : Addr} : WalkP K J (Itl K a) xs (fun ω => ω a = some (.lst xs)) := by
  refine ⟨_, _, walk_own, fun J' H' ω' _ r p => ?_, fun i H v H' J' ω' hi _ r p y => .inl ⟨y.1, ?_⟩⟩
  · obtain ⟨vs, e, ra⟩ := r.cell a _ p
    exact ⟨vs, e, ra.length⟩
  · obtain ⟨vs, e, ra⟩ := r.cell a _ p
    exact ra.get (y.2 vs e)
end
section
variable {W : WX} {X : Cx} {K : PySem.W.Frag} {tg e : Expr} {te : DTE} {di : DTI}
theorem dio_d (h : DI W X K tg e di) : DIo W X K tg e (dioD di) := by
  obtain ⟨wi, p, k⟩ := h
  exact ⟨wi, p, fun σ H J ω ρ kk x R w s c cx z => k σ H J ω ρ _ x R w s (fun xs ω1 J1 H1 I z1 g1 w1 wd => c _ _ _ _ _ _ z1 g1 w1 wd.p) cx z⟩
theorem dio_o (hK : X.K = K) (h : DE W X K e te) : DIo W X K tg e (dioO te) := by
  subst hK
  obtain ⟨t, p, k⟩ := h
  refine ⟨_, pi_data p, fun σ H J ω ρ kk x R w s c cx z => k σ H J ω ρ _ x _ w s (fun r ω1 v J1 H1 z1 g1 w1 rp => ?_) cx z⟩
  obtain ⟨a, xs, rfl, e1, z1⟩ := z1
  obtain rfl := rp_ref rp
  obtain ⟨vs, e2, _⟩ := w1.cell a _ e1
  exact .inl ⟨a, rfl, ⟨vs, SqL.of e2⟩, c _ _ _ _ _ _ z1 g1 w1 walkP_own⟩
end
def lcBody (gd : DTG) (tt : DTT) (te : DTE) (vs : List Nat) (ρ : DS) (q : DQ) (xs : List PyData) (P : Wd → Prop) (ω1 : Wd) : Prop := xs.length ≤ sizeLine ∧ ∃ Inv : Nat → List PyData → Wd → Prop, Inv 0 [] ω1 ∧ (∀ i acc ω2, Inv i acc ω2 → P ω2) ∧
  (∀ i y acc ω2, xs[i]? = some y → Inv i acc ω2 → acc.length ≤ i → gd y (wipeD ρ vs) fun ρ' => tt ρ' ω2 (fun b ω3 => if b = true then te ρ' ω3 (fun r ω4 => Inv (i + 1) (acc ++ [r]) ω4) X0 else Inv (i + 1) acc ω3) X0) ∧
  ∀ acc ω2, acc.length ≤ xs.length → Inv xs.length acc ω2 → ∀ p, ω2 p = none → q (refD p) (updW ω2 p (.lst acc))
def dLcO (di : DTIo) (gd : DTG) (tt : DTT) (te : DTE) (vs : List Nat) (ρ : DS) (ω : Wd) (q : DQ) (x : DXK) : Prop := di ρ ω (lcBody gd tt te vs ρ q) x
section
variable {K : PySem.W.Frag} {J J1 H H1 : Hp} {ω ω1 : Wd} {D : Addr} {us : List V} {acc : List PyData}
theorem Rw.own2 (w : Rw K J H ω) (hj : J D = none) (hw : Fr ω D) (h : H D = some (.lst us)) (r : RpAll K J us acc) : Rw K J H (updW ω D (.lst acc)) := by
  refine w.step (Same.refl _) w.jh (fun _ _ j => j) fun b m e => ?_
  by_cases z : b = D
  · subst z
    rw [updW_same] at e
    cases e
    refine .inr ⟨hj, ⟨us, h, r⟩, fun _ z => False.elim z, fun c m' nc ec => ⟨?_, fun _ z => False.elim z⟩⟩
    rw [updW_ne nc] at ec
    exact hw.2 c m' ec
  · rw [updW_ne z] at e
    exact .inl ⟨e, fun _ _ _ y => y⟩
theorem Grow.own2 (g : Grow J H ω J1 H1 ω1) (hD : H D = none) : Grow J H ω J1 H1 (updW ω1 D (.lst acc)) :=
  ⟨g.jj, g.dom, g.keep, g.frj, fun a h z => fr_upd rfl (g.frw a h z) (ne_new h hD)⟩
end
section
variable {W : WX} {X : Cx} {K : PySem.W.Frag} {elt tg iter : Expr} {ifs : List Expr} {scope : Scope} {own : List (Str × Nat)} {pos : Pos} {is : List Nat} {di : DTIo} {gd : DTG} {tt : DTT} {te : DTE}
theorem lcO_run {wi : TI} (hi : ∀ σ H J ω ρ (k : List PyData → (Wd → Prop) → Wd → Prop) x (R : It → Hp → Prop), Rw K J H ω → Sl K J σ ρ → (∀ xs P ω1 J1 H1 I, k xs P ω1 → Grow J H ω J1 H1 ω1 → Rw K J1 H1 ω1 → WalkP K J1 I xs P → R I H1) →
    CovX K J H ω x (fun c d H => W c d σ H) → di ρ ω k x → wi σ H R) {vs : List Nat} (his : ∀ i ∈ is, i ∈ vs)
    {σ : L2.St} {H J : Hp} {ω : Wd} {ρ : DS} {q : DQ} {x : DXK} {Q : VK} (w : Rw K J H ω) (s : Sl K J σ ρ) (cq : CovQ K J H ω q Q) (cx : CovX K J H ω x (fun c d H => W c d σ H)) (z : dLcO di gd tt te vs ρ ω q x) :
    tLc wi (liftG K is gd) (liftT K W0 tt) (liftE K W0 te) vs σ H Q := by
  refine hi σ H J ω ρ _ x _ w s (fun xs P ω1 J1 H1 I z1 g1 w1 wd => ?_) cx z
  intro D hD
  obtain ⟨hz, Inv, i0, iP, step, fin⟩ := z1
  obtain ⟨G, Y, wk, hG, hY⟩ := wd
  have hjD : J1 D = none := w1.jh.free hD
  have s1 := s.mono g1.jj
  refine lc_it wk (fun i H' => ∃ J' ω' acc us, Grow J1 H1 ω1 J' H' ω' ∧ Rw K J' H' ω' ∧ H' D = some (.lst us) ∧ J' D = none ∧ Fr ω' D ∧ RpAll K J' us acc ∧ acc.length ≤ i ∧ Inv i acc ω') ?_ ?_ ?_ ?_
  · exact ⟨J1, ω1, [], [], Grow.junk hD _, w1.junk hD _, upd_same, hjD, w1.free hD, .nil, Nat.le_refl _, i0⟩
  · rintro i H' _ ⟨J', ω', acc, us, g, w', _, _, _, _, _, iv⟩
    exact hG J' H' ω' g.jj w' (iP _ _ _ iv)
  · rintro i v H2 H2' hi ⟨J2, ω2, acc, us, g2, w2, hD2, jD2, oD2, ra, al, inv⟩ y
    have go : ∀ (d : PyData) (J3 H3 : Hp), xs[i]? = some d → Grow J2 H2 ω2 J3 H3 ω2 → Rw K J3 H3 ω2 → Rp K J3 v d → liftG K is gd v (wipe σ vs) H3 fun σ2 H2 => wipe σ2 vs = wipe σ vs ∧ liftT K W0 tt σ2 H2 fun b H3 =>
        if b = true then liftE K W0 te σ2 H3 fun y H4 => ∃ acc, H4 D = some (.lst acc) ∧ acc.length < sizeLine ∧ (∃ J' ω' acc' us, Grow J1 H1 ω1 J' (upd H4 D (.lst (acc ++ [y]))) ω' ∧ Rw K J' (upd H4 D (.lst (acc ++ [y]))) ω' ∧ upd H4 D (.lst (acc ++ [y])) D = some (.lst us) ∧ J' D = none ∧ Fr ω' D ∧ RpAll K J' us acc' ∧ acc'.length ≤ i + 1 ∧ Inv (i + 1) acc' ω')
        else ∃ J' ω' acc us, Grow J1 H1 ω1 J' H3 ω' ∧ Rw K J' H3 ω' ∧ H3 D = some (.lst us) ∧ J' D = none ∧ Fr ω' D ∧ RpAll K J' us acc ∧ acc.length ≤ i + 1 ∧ Inv (i + 1) acc ω' := by
      intro d J3 H3 e3 g3 w3 r3
      have hD3 := g3.keep D _ hD2 oD2
      have nD2 : H2 D ≠ none := by rw [hD2]; simp
      have jD3 := g3.frj D ⟨_, hD2, fun _ e => nomatch e⟩ oD2 jD2
      refine ⟨J3, ω2, wipeD ρ vs, d, _, w3, (s1.mono (g2.jj.trans g3.jj)).wipe vs, r3, fun ρ' σ' z4 s4 ew => ⟨(ew vs his).trans (wipe_wipe σ vs), ?_⟩, step i d acc ω2 e3 inv al⟩
      refine ⟨J3, ω2, ρ', _, X0, w3, s4, fun b ω5 J5 H5 z5 g5 w5 => ?_, (fun _ _ _ _ _ _ z => False.elim z), z4⟩
      have nD3 : H3 D ≠ none := by rw [hD3]; simp
      have hD5 := g5.keep D _ hD3 oD2
      have jD5 := g5.frj D ⟨_, hD3, fun _ e => nomatch e⟩ oD2 jD3
      have oD5 := g5.frw D nD3 oD2
      have nD5 : H5 D ≠ none := by rw [hD5]; simp
      cases b with
      | false =>
        refine iteF ⟨J5, ω5, acc, us, (g2.trans g3).trans g5, w5, hD5, jD5, oD5, rpAll_mono (g3.jj.trans g5.jj) _ _ ra, by omega, by simpa using z5⟩
      | true =>
        refine iteT ⟨J5, ω5, ρ', _, X0, w5, s4.mono g5.jj, fun r ω6 y J6 H6 z6 g6 w6 r6 => ?_, (fun _ _ _ _ _ _ z => False.elim z), by simpa using z5⟩
        have hD6 := g6.keep D _ hD5 oD5
        have jD6 := g6.frj D ⟨_, hD5, fun _ e => nomatch e⟩ oD5 jD5
        have oD6 := g6.frw D nD5 oD5
        have ul := ra.length
        refine ⟨us, hD6, by omega, J6, ω6, acc ++ [r], us ++ [y], (((g2.trans g3).trans g5).trans g6).loc hD _, w6.loc jD6 oD6 _, upd_same, jD6, oD6, RpAll.append (rpAll_mono ((g3.jj.trans g5.jj).trans g6.jj) _ _ ra) (.one r6), by rw [List.length_append]; simp; omega, z6⟩
    rcases hY i H2 v H2' J2 ω2 hi g2.jj w2 (iP _ _ _ inv) y with ⟨rfl, d, e1, e2⟩ | ⟨T, us2, ds, rfl, hT, rfl, e1, e2⟩
    · exact go d J2 _ e1 Grow.refl w2 e2
    · exact go (.tuple ds) _ _ e2 (Grow.frz w2 hT _) (w2.frz hT _) (.tup (SqT.of upd_same) (rpAll_mono (same_new (w2.jh.free hT) _) _ _ e1))
  · rintro H2 ⟨J2, ω2, acc, us, g2, w2, hD2, jD2, oD2, ra, al, inv⟩
    exact (cq.step g1) _ _ _ _ _ (fin acc ω2 al inv D oD2.1) (g2.own2 hD) (w2.own2 jD2 oD2 hD2 ra) (.ref D)
theorem de_lcO (hc : X.calm = true) (hN : X.N.Nodup) (hi : DIo W X K tg iter di) (ok : BlkOk X.N X.env.scope scope own)
    (hg : ∀ (s : Shared) (H : Hp) (C : Addr) (cl : List (Str × Addr)) (fp : List Addr), DG (X.blk s H scope (compEnvC scope cl C X.env) fp) K tg is gd)
    (ht : ∀ (s : Shared) (H : Hp) (C : Addr) (cl : List (Str × Addr)) (fp : List Addr), DTs W0 (X.blk s H scope (compEnvC scope cl C X.env) fp) K ifs tt)
    (he : ∀ (s : Shared) (H : Hp) (C : Addr) (cl : List (Str × Addr)) (fp : List Addr), DE W0 (X.blk s H scope (compEnvC scope cl C X.env) fp) K elt te)
    (his : ∀ i ∈ is, i ∈ own.map (·.2) := by decide) (hs : ∀ x, foldedSetIterable iter X.env x = pure x := by intro _; rfl) :
    DE W X K (.ListComp elt [⟨tg, iter, ifs, 0⟩] scope pos) (dLcO di gd tt te (own.map (·.2))) := by
  obtain ⟨wi, p, k⟩ := hi
  exact ⟨_, pe_lc hc hN p ok hg (fun s H C cl fp => (ht s H C cl fp).ps) (fun s H C cl fp => (he s H C cl fp).pe) hs, fun σ H J ω ρ q x Q w s cq cx z => lcO_run k his w s cq cx z⟩
end
end Tx

namespace Tx
open PySem PySem.Spec PyProof.Rows L2
/-! ## A range of far bounds that has nothing; operators from the right -/
theorem turn_none {P : Program} {w : World} {K : PySem.W.Frag} {tg : Expr} (it : Addr) : Turn P w K tg (Itr 0 0) [it] it (fun _ h => ∃ x l st, IsLongIter h it x l st ∧ l ≤ 0) where
  mem := List.mem_singleton.mpr rfl
  obj := fun i h ⟨x, l, st, e, _⟩ b hb => by
    rw [List.mem_singleton.mp hb]
    exact ⟨_, e, fun v z => by
      have z2 : Data.fields _ = Data.cell v := z
      cases z2⟩
  keep := fun i h h' ⟨x, l, st, e, le⟩ k => ⟨x, l, st, k it (List.mem_singleton.mpr rfl) _ e, le⟩
  item := fun X _ _ _ _ i pins s σ H E _ _ _ go => absurd (show i < 0 from go) (Nat.not_lt_zero i)
  done := by
    intro X hP hw hK hc i pins s σ H E I hf ⟨x, l, st, e, le⟩ _
    subst hP hw hK
    obtain ⟨f0, f1, f2, f3, f4, f5⟩ := hf it (List.mem_singleton.mpr rfl)
    exact wpAny_pyNext_long_end (I.ok.hd hc) e le fun h' eb => ⟨rfl, I.turned (t' := s.toks) (fun b o hb e => eb b o hb e) f0 f1 f3 f4 f5⟩
  self := fun _ _ _ _ _ ⟨x, l, st, e, _⟩ h => wpAny_pyIter_longiter e h
def farLow (n : Int) : Prop := Builtin.Range.small 0 n 1 = false ∧ Builtin.Range.rangeSize 0 n 1 ≤ 0
def iRngW (ta : TA) : TI := fun σ H R => ta σ H fun vs H1 => ∃ j : Int, vs = [.int j] ∧ ((-(2 ^ 62) ≤ j ∧ j < 2 ^ 62) ∨ farLow j) ∧ R (Itr 0 j.toNat) H1
section
variable {X : Cx} {tg : Expr}
theorem pi_rangeW {a : Expr} {ta : TA} {p pos : Pos} (hg : Gl X "range") (hm : X.mg "range" = none) (ha : PA X [a] ta) (low : ∀ n, farLow n → n ≤ 0) (hs : starEach [a] X.env = [(false, eval a X.env)] := by rfl) : PI X tg (.Call (.Name "range" p) [a] [] pos) (iRngW ta) := by
  constructor
  intro pins s σ H R I h
  refine Call_ (ld_blt I hg hm boot_range (PyProof.Rows.callWith_type1 (thn (ha.run pos pins s σ H _ I h) fun us s1 ⟨vs, H1, I1, r1, j, e, d, q⟩ => ?_) hs rfl))
  subst e
  obtain ⟨u, rfl, t, rfl⟩ := vals1 r1
  refine call_range_1 ?_
  rcases d with ⟨q1, q2⟩ | fl
  · exact range_it I1 (by omega) (by omega) q1 q2 (by simpa using q)
  · have jl := low j fl
    refine wpAny_pyIter_longrange (IsRange.new ..) fl.1 ?_
    have I2 : L2.Inv X pins σ H1 { s1 with heap := s1.heap.push { cls := .type "range", data := .fields #[.int 0 s1.toks, .int j t, .int 1 (s1.toks + 1)] }, toks := s1.toks + 1 + 1 } := I1.kept fun b o e => Heap.get?_push_of_some _ e
    refine pi_one (tk := s1.toks + 1 + 1) I2 _ (turn_none _) ⟨_, _, _, Heap.get?_push_size _ rfl, fl.2⟩ ?_
    rw [show j.toNat = 0 by omega] at q
    exact q
end
section
variable {prog : Program} {w : World} {A : Around} {E : Value → Shared → Prop} {s : Shared} {K : PySem.W.Frag} {x C f : Addr} {ox : Obj} {od : Option Obj} {a : Value}
/-- a built-in type on the left that has no such operator of numbers -/
structure LeftT (K : PySem.W.Frag) (C : Addr) (nm T : String) : Prop where
  op : ∃ o p, PySem.W.findIn K (.type T) (PySem.dunder nm) = some o ∧ PySem.W.findIn K (.type T) (dunderR nm) = some p ∧ ((o.isSome && !isSeqSlot o) || (p.isSome && !isSeqSlot p)) = false
theorem ref_own {op : Operator} {T : String} {g : Addr} {Q : Value → Shared → Prop} (X : K.In s.heap) (I : PySem.W.InstAt s.heap x ox C od) (ty : PySem.W.Looks (model prog w) s.heap (typeOf a) (.type T)) (sf : PySem.W.selfFirst K C = true) (R : LeftT K C op.info.2 T)
    (has : PySem.W.findIn K (.ref C) (PySem.dunder op.info.2) = some (some (.ref g))) (at_ : PySem.W.findIn K (.ref C) (dunderR op.info.2) = some (some (.ref f))) (fn : PySem.W.isFn K (.ref f) = true)
    (h : wpAny (model prog w) A (call (.ref f) [.ref x, a]) (PySem.W.CmpBack Q) E s) : wpAny (model prog w) A (binaryOp op a (.ref x)) Q E s := by
  obtain ⟨cd, rest, h1, h2⟩ := PySem.W.ksp_first sf
  obtain ⟨⟨o1, o2, r1, r2, no⟩⟩ := R
  have go := PySem.W.ksp_try X I at_ fn h
  have k1 : PySem.W.Looks (model prog w) s.heap (fillsNumberSlot (.ref C) op.info.2) true := PySem.W.fills_K X h1 h2 has
  have k2 : PySem.W.Looks (model prog w) s.heap (fillsNumberSlot (.type T) op.info.2) false := no ▸ PySem.W.ksp_fillsT (M := model prog w) X r1 r2
  have k3 : PySem.W.Looks (model prog w) s.heap (typeOf (.ref x)) (.ref C) := I.type
  have ne : (Value.type T == Value.ref C) = false := Bool.eq_false_iff.mpr fun z => by cases beq_iff_eq.mp z
  clear h at_ has r1 r2
  obtain ⟨sy, nm, hi⟩ : ∃ sy nm, op.info = (sy, nm) := ⟨_, _, rfl⟩
  rw [hi] at go k1 k2
  dsimp only at go k1 k2
  obtain ⟨hp, gg, d, tt, os⟩ := s
  simp only [binaryOp, hi]
  refine wpAny_holding (wpAny_bind ?_)
  unfold binaryOp1
  refine wpAny_bind (ty.at (wpAny_bind (k3.at (wpAny_bind (k2.at ?_)))))
  simp only [ne, Bool.false_eq_true, if_false]
  ksp_lk
  refine wpAny_mono go (fun r s1 ⟨v, e, q⟩ => ?_) fun _ _ z => z
  subst e
  ksp_lk
  exact q
theorem int_no {dx : Addr} {i : Int} {t : Tok} (I : PySem.W.InstAt s.heap x (PySem.W.instObj C dx) C od) : wpAny (model prog w) A (tryMethod (.int i t) (PySem.dunder "mul") (.ref x)) (fun r s' => r = none ∧ s' = s) E s := by
  unfold tryMethod
  refine wpAny_bind (wpAny_callSpecial?_slot (name := PySem.dunder "mul") (typeIs_int s i t) F.slot_int_mul (wpAny_call_entry F.slot_int_mul (typeIs_int s i t) F.entry_int_mul ?_ (F.args_int_mul_2 _ _)))
  unfold Builtin.«int.__mul__» Builtin.Int.intBinary
  have hx := I.at_
  obtain ⟨hp, gg, d, tt, os⟩ := s
  repeat (first | (with_reducible refine wpAny_loadPart_at hx ?_) | (with_reducible refine wpAny_load hx ?_) | wp_step)
  exact ⟨_, rfl, wpAny_pure ⟨rfl, rfl⟩⟩
theorem ref_int {g dx : Addr} {i : Int} {t : Tok} {o1 o2 : Option Value} {Q : Value → Shared → Prop} (X : K.In s.heap) (I : PySem.W.InstAt s.heap x (PySem.W.instObj C dx) C od) (sf : PySem.W.selfFirst K C = true)
    (r1 : PySem.W.findIn K (.type "int") (PySem.dunder "mul") = some o1) (r2 : PySem.W.findIn K (.type "int") (dunderR "mul") = some o2) (sub : PySem.W.subIn K (.ref C) (.type "int") = some false)
    (has : PySem.W.findIn K (.ref C) (PySem.dunder "mul") = some (some (.ref g))) (at_ : PySem.W.findIn K (.ref C) (dunderR "mul") = some (some (.ref f))) (fn : PySem.W.isFn K (.ref f) = true)
    (h : wpAny (model prog w) A (call (.ref f) [.ref x, .int i t]) (PySem.W.CmpBack Q) E s) : wpAny (model prog w) A (binaryOp .Mult (.int i t) (.ref x)) Q E s := by
  obtain ⟨cd, rest, h1, h2⟩ := PySem.W.ksp_first sf
  have go := PySem.W.ksp_try X I at_ fn h
  have no := int_no (prog := prog) (w := w) (A := A) (E := E) (i := i) (t := t) I
  have k1 : PySem.W.Looks (model prog w) s.heap (fillsNumberSlot (.ref C) "mul") true := PySem.W.fills_K X h1 h2 has
  have k2 := PySem.W.ksp_fillsT (M := model prog w) (nm := "mul") (T := "int") X r1 r2
  have k3 : PySem.W.Looks (model prog w) s.heap (typeOf (.ref x)) (.ref C) := I.type
  have k4 : PySem.W.Looks (model prog w) s.heap (typeOf (.int i t)) (.type "int") := PySem.W.Looks.of_pure rfl
  have k5 : PySem.W.Looks (model prog w) s.heap (isSubtype (.ref C) (.type "int")) false := PySem.W.looks_subIn X sub
  have k6 : PySem.W.Looks (model prog w) s.heap (numberSlotInPython (.type "int") "mul") false := PySem.W.Looks.of_pure rfl
  have ne : (Value.type "int" == Value.ref C) = false := Bool.eq_false_iff.mpr fun z => by cases beq_iff_eq.mp z
  generalize ((o1.isSome && !isSeqSlot o1) || (o2.isSome && !isSeqSlot o2)) = lf at k2
  clear h at_ has r1 r2
  obtain ⟨hp, gg, d, tt, os⟩ := s
  simp only [binaryOp, Operator.info]
  refine wpAny_holding (wpAny_bind ?_)
  unfold binaryOp1
  refine wpAny_bind (k4.at (wpAny_bind (k3.at (wpAny_bind (k2.at ?_)))))
  simp only [ne, Bool.false_eq_true, if_false]
  cases lf with
  | false =>
    ksp_lk
    refine wpAny_mono go (fun r s1 ⟨v, e, q⟩ => ?_) fun _ _ z => z
    subst e
    ksp_lk
    exact q
  | true =>
    ksp_lk
    refine wpAny_mono no (fun r s1 ⟨e1, e2⟩ => ?_) fun _ _ z => z
    subst e1 e2
    ksp_lk
    refine wpAny_mono go (fun r s1 ⟨v, e, q⟩ => ?_) fun _ _ z => z
    subst e
    ksp_lk
    exact q
end
end Tx

namespace Tx
open PySem PySem.Spec PyProof.Rows L2
/-! ## Comprehensions of two clauses -/
def liftIo (K : PySem.W.Frag) (W : WX) (di : DTIo) : TI := fun σ H R => ∃ J ω ρ k x, Rw K J H ω ∧ Sl K J σ ρ ∧ (∀ xs P ω1 J1 H1 I, k xs P ω1 → Grow J H ω J1 H1 ω1 → Rw K J1 H1 ω1 → WalkP K J1 I xs P → R I H1) ∧ CovX K J H ω x (fun c d H => W c d σ H) ∧ di ρ ω k x
theorem DIo.pi {W : WX} {X : Cx} {K : PySem.W.Frag} {tg iter : Expr} {di : DTIo} (h : DIo W X K tg iter di) : PI X tg iter (liftIo K W di) := by
  obtain ⟨wi, p, k⟩ := h
  exact ⟨fun pins s σ H R I ⟨J, ω, ρ, kk, x, w, sl, c, cx, z⟩ => p.run pins s σ H R I (k σ H J ω ρ kk x R w sl c cx z)⟩
/-- the second clause's loop -/
def lcIn (gd1 : DTG) (te : DTE) (vs1 : List Nat) (ρ : DS) (acc : List PyData) (nx : List PyData → Wd → Prop) (xs : List PyData) (P : Wd → Prop) (ω : Wd) : Prop := ∃ Inv1 : Nat → List PyData → Wd → Prop, Inv1 0 acc ω ∧ (∀ j a ω2, Inv1 j a ω2 → P ω2) ∧
  (∀ j y a ω2, xs[j]? = some y → Inv1 j a ω2 → gd1 y (wipeD ρ vs1) fun ρ' => te ρ' ω2 (fun r ω3 => a.length < sizeLine ∧ Inv1 (j + 1) (a ++ [r]) ω3) X0) ∧ ∀ a ω2, Inv1 xs.length a ω2 → nx a ω2
def lcOut (gd : DTG) (di1 : DTIo) (gd1 : DTG) (te : DTE) (vs vs1 : List Nat) (ρ : DS) (q : DQ) (xs : List PyData) (P : Wd → Prop) (ω1 : Wd) : Prop := ∃ Inv : Nat → List PyData → Wd → Prop, Inv 0 [] ω1 ∧ (∀ i acc ω2, Inv i acc ω2 → P ω2) ∧
  (∀ i y acc ω2, xs[i]? = some y → Inv i acc ω2 → gd y (wipeD ρ vs) fun ρ' => di1 ρ' ω2 (lcIn gd1 te vs1 ρ' acc (fun a ω3 => Inv (i + 1) a ω3)) X0) ∧
  ∀ acc ω2, Inv xs.length acc ω2 → ∀ p, ω2 p = none → q (refD p) (updW ω2 p (.lst acc))
def dLc2 (di : DTIo) (gd : DTG) (di1 : DTIo) (gd1 : DTG) (te : DTE) (vs vs1 : List Nat) (ρ : DS) (ω : Wd) (q : DQ) (x : DXK) : Prop := di ρ ω (lcOut gd di1 gd1 te vs vs1 ρ q) x
section
variable {W : WX} {X : Cx} {K : PySem.W.Frag} {elt tg iter tg1 iter1 : Expr} {scope : Scope} {own : List (Str × Nat)} {pos : Pos} {is is1 vs1 : List Nat} {di di1 : DTIo} {gd gd1 : DTG} {te : DTE}
theorem lc2_run {wi : TI} (hi : ∀ σ H J ω ρ (k : List PyData → (Wd → Prop) → Wd → Prop) x (R : It → Hp → Prop), Rw K J H ω → Sl K J σ ρ → (∀ xs P ω1 J1 H1 I, k xs P ω1 → Grow J H ω J1 H1 ω1 → Rw K J1 H1 ω1 → WalkP K J1 I xs P → R I H1) →
    CovX K J H ω x (fun c d H => W c d σ H) → di ρ ω k x → wi σ H R) {vs : List Nat} (his : ∀ i ∈ is, i ∈ vs) (his1 : ∀ i ∈ is1, i ∈ vs1)
    {σ : L2.St} {H J : Hp} {ω : Wd} {ρ : DS} {q : DQ} {x : DXK} {Q : VK} (w : Rw K J H ω) (s : Sl K J σ ρ) (cq : CovQ K J H ω q Q) (cx : CovX K J H ω x (fun c d H => W c d σ H)) (z : dLc2 di gd di1 gd1 te vs vs1 ρ ω q x) :
    tLc2 wi (liftG K is gd) (liftT K W0 dYes) (liftIo K W0 di1) (liftG K is1 gd1) (liftT K W0 dYes) (liftE K W0 te) vs vs1 σ H Q := by
  refine hi σ H J ω ρ _ x _ w s (fun xs P ω1 J1 H1 I z1 g1 w1 wd => ?_) cx z
  intro D hD
  obtain ⟨Inv, i0, iP, step, fin⟩ := z1
  obtain ⟨G, Y, wk, hG, hY⟩ := wd
  have hjD : J1 D = none := w1.jh.free hD
  have s1 := s.mono g1.jj
  let St : (List PyData → Wd → Prop) → Hp → Prop := fun inv H' => ∃ J' ω' acc us, Grow J1 H1 ω1 J' H' ω' ∧ Rw K J' H' ω' ∧ H' D = some (.lst us) ∧ J' D = none ∧ Fr ω' D ∧ RpAll K J' us acc ∧ inv acc ω'
  refine ⟨fun i m H' => m = xs.length - i ∧ i ≤ xs.length ∧ St (Inv i) H', ⟨xs.length, by simp, Nat.zero_le _, J1, ω1, [], [], Grow.junk hD _, w1.junk hD _, upd_same, hjD, w1.free hD, .nil, i0⟩, ?_⟩
  rintro i m H2 ⟨rfl, hi, J2, ω2, acc, us, g2, w2, hD2, jD2, oD2, ra, inv⟩
  have hg := hG J2 H2 ω2 g2.jj w2 (iP _ _ _ inv)
  by_cases hge : xs.length ≤ i
  · obtain rfl : i = xs.length := by omega
    refine .inl ⟨wk.stops H2 hg, (cq.step g1) _ _ _ _ _ (fin acc ω2 inv D oD2.1) (g2.own2 hD) (w2.own2 jD2 oD2 hD2 ra) (.ref D)⟩
  have hlt : i < xs.length := by omega
  refine .inr ⟨wk.goes i H2 hlt hg, St (Inv (i + 1)), fun H' st => ⟨xs.length - (i + 1), by omega, rfl, hlt, st⟩, fun v H2' y => ?_⟩
  have y := wk.yields i H2 v H2' hlt hg y
  have go : ∀ (d : PyData) (J3 H3 : Hp), xs[i]? = some d → Grow J2 H2 ω2 J3 H3 ω2 → Rw K J3 H3 ω2 → Rp K J3 v d → liftG K is gd v (wipe σ vs) H3 fun σ2 H2 => wipe σ2 vs = wipe σ vs ∧ liftT K W0 dYes σ2 H2 fun b H3 =>
      if b = true then liftIo K W0 di1 σ2 H3 fun I1 H4 => ∃ W1 : Nat → Nat → Hp → Prop, (∃ m, W1 0 m H4) ∧ ∀ j k H, W1 j k H →
        (I1.stop j H ∧ St (Inv (i + 1)) H) ∨ (I1.go j H ∧ ∃ Nx1 : Hp → Prop, (∀ H', Nx1 H' → ∃ k', k' < k ∧ W1 (j + 1) k' H') ∧ ∀ x H', I1.yld j H x H' → liftG K is1 gd1 x (wipe σ2 vs1) H' fun σ3 H5 => wipe σ3 vs1 = wipe σ2 vs1 ∧ liftT K W0 dYes σ3 H5 fun b H6 =>
          if b = true then liftE K W0 te σ3 H6 fun y H7 => ∃ acc, H7 D = some (.lst acc) ∧ acc.length < sizeLine ∧ Nx1 (upd H7 D (.lst (acc ++ [y]))) else Nx1 H6)
      else St (Inv (i + 1)) H3 := by
    intro d J3 H3 e3 g3 w3 r3
    have hD3 := g3.keep D _ hD2 oD2
    have nD2 : H2 D ≠ none := by rw [hD2]; simp
    have jD3 := g3.frj D ⟨_, hD2, fun _ e => nomatch e⟩ oD2 jD2
    have nD3 : H3 D ≠ none := by rw [hD3]; simp
    refine ⟨J3, ω2, wipeD ρ vs, d, _, w3, (s1.mono (g2.jj.trans g3.jj)).wipe vs, r3, fun ρ' σ' z4 s4 ew => ⟨(ew vs his).trans (wipe_wipe σ vs), ?_⟩, step i d acc ω2 e3 inv⟩
    refine ⟨J3, ω2, ρ', fun b ω' => b = true ∧ ω' = ω2, X0, w3, s4, fun b ω5 J5 H5 z5 g5 w5 => ?_, (fun _ _ _ _ _ _ z => False.elim z), ⟨rfl, rfl⟩⟩
    obtain ⟨rfl, rfl⟩ := z5
    have hD5 := g5.keep D _ hD3 oD2
    have jD5 := g5.frj D ⟨_, hD3, fun _ e => nomatch e⟩ oD2 jD3
    have nD5 : H5 D ≠ none := by rw [hD5]; simp
    refine iteT ⟨J5, ω5, ρ', _, X0, w5, s4.mono g5.jj, fun xs1 P1 ω6 J6 H6 I1 z6 g6 w6 wd1 => ?_, (fun _ _ _ _ _ _ z => False.elim z), z4⟩
    obtain ⟨Inv1, i1, iP1, step1, fin1⟩ := z6
    obtain ⟨G1, Y1, wk1, hG1, hY1⟩ := wd1
    have hD6 := g6.keep D _ hD5 oD2
    have jD6 := g6.frj D ⟨_, hD5, fun _ e => nomatch e⟩ oD2 jD5
    have oD6 := g6.frw D nD5 oD2
    have s6 := (s4.mono g5.jj).mono g6.jj
    let St1 : (List PyData → Wd → Prop) → Hp → Prop := fun inv H' => ∃ J' ω' acc us, Same J6 J' ∧ Grow J1 H1 ω1 J' H' ω' ∧ Rw K J' H' ω' ∧ H' D = some (.lst us) ∧ J' D = none ∧ Fr ω' D ∧ RpAll K J' us acc ∧ inv acc ω'
    have ga := ((g2.trans g3).trans g5).trans g6
    refine ⟨fun j m H' => m = xs1.length - j ∧ j ≤ xs1.length ∧ St1 (Inv1 j) H', ⟨xs1.length, by simp, Nat.zero_le _, J6, ω6, acc, us, Same.refl _, ga, w6, hD6, jD6, oD6, rpAll_mono ((g3.jj.trans g5.jj).trans g6.jj) _ _ ra, i1⟩, ?_⟩
    rintro j m H7 ⟨rfl, hj, J7, ω7, acc7, us7, h7, g7, w7, hD7, jD7, oD7, ra7, inv7⟩
    have hg1 := hG1 J7 H7 ω7 h7 w7 (iP1 _ _ _ inv7)
    by_cases hge1 : xs1.length ≤ j
    · obtain rfl : j = xs1.length := by omega
      exact .inl ⟨wk1.stops H7 hg1, J7, ω7, acc7, us7, g7, w7, hD7, jD7, oD7, ra7, fin1 _ _ inv7⟩
    have hl1 : j < xs1.length := by omega
    refine .inr ⟨wk1.goes j H7 hl1 hg1, St1 (Inv1 (j + 1)), fun H' st => ⟨xs1.length - (j + 1), by omega, rfl, hl1, st⟩, fun v1 H7' y1 => ?_⟩
    have y1 := wk1.yields j H7 v1 H7' hl1 hg1 y1
    have go1 : ∀ (d : PyData) (J8 H8 : Hp), xs1[j]? = some d → Grow J7 H7 ω7 J8 H8 ω7 → Rw K J8 H8 ω7 → Rp K J8 v1 d → liftG K is1 gd1 v1 (wipe σ' vs1) H8 fun σ3 H5 => wipe σ3 vs1 = wipe σ' vs1 ∧ liftT K W0 dYes σ3 H5 fun b H6 =>
        if b = true then liftE K W0 te σ3 H6 fun y H7 => ∃ acc, H7 D = some (.lst acc) ∧ acc.length < sizeLine ∧ St1 (Inv1 (j + 1)) (upd H7 D (.lst (acc ++ [y]))) else St1 (Inv1 (j + 1)) H6 := by
      intro d J8 H8 e8 g8 w8 r8
      have nD7 : H7 D ≠ none := by rw [hD7]; simp
      have hD8 := g8.keep D _ hD7 oD7
      have jD8 := g8.frj D ⟨_, hD7, fun _ e => nomatch e⟩ oD7 jD7
      have nD8 : H8 D ≠ none := by rw [hD8]; simp
      refine ⟨J8, ω7, wipeD ρ' vs1, d, _, w8, ((s6.mono h7).mono g8.jj).wipe vs1, r8, fun ρ'' σ'' z9 s9 ew => ⟨(ew vs1 his1).trans (wipe_wipe σ' vs1), ?_⟩, step1 j d acc7 ω7 e8 inv7⟩
      refine ⟨J8, ω7, ρ'', fun b ω' => b = true ∧ ω' = ω7, X0, w8, s9, fun b ω9 J9 H9 z10 g9 w9 => ?_, (fun _ _ _ _ _ _ z => False.elim z), ⟨rfl, rfl⟩⟩
      obtain ⟨rfl, rfl⟩ := z10
      have hD9 := g9.keep D _ hD8 oD7
      have jD9 := g9.frj D ⟨_, hD8, fun _ e => nomatch e⟩ oD7 jD8
      have nD9 : H9 D ≠ none := by rw [hD9]; simp
      refine iteT ⟨J9, ω9, ρ'', _, X0, w9, s9.mono g9.jj, fun r ω10 y J10 H10 z10 g10 w10 r10 => ?_, (fun _ _ _ _ _ _ z => False.elim z), z9⟩
      obtain ⟨hlen, z10⟩ := z10
      have hD10 := g10.keep D _ hD9 oD7
      have jD10 := g10.frj D ⟨_, hD9, fun _ e => nomatch e⟩ oD7 jD9
      have oD10 := g10.frw D nD9 oD7
      have sm := (g8.jj.trans g9.jj).trans g10.jj
      refine ⟨us7, hD10, by rw [ra7.length]; exact hlen, J10, ω10, acc7 ++ [r], us7 ++ [y], h7.trans sm, (((g7.trans g8).trans g9).trans g10).loc hD _, w10.loc jD10 oD10 _, upd_same, jD10, oD10, RpAll.append (rpAll_mono sm _ _ ra7) (.one r10), z10⟩
    rcases hY1 j H7 v1 H7' J7 ω7 hl1 h7 w7 (iP1 _ _ _ inv7) y1 with ⟨rfl, d, e1, e2⟩ | ⟨T, us2, ds, rfl, hT, rfl, e1, e2⟩
    · exact go1 d J7 _ e1 Grow.refl w7 e2
    · exact go1 (.tuple ds) _ _ e2 (Grow.frz w7 hT _) (w7.frz hT _) (.tup (SqT.of upd_same) (rpAll_mono (same_new (w7.jh.free hT) _) _ _ e1))
  rcases hY i H2 v H2' J2 ω2 hlt g2.jj w2 (iP _ _ _ inv) y with ⟨rfl, d, e1, e2⟩ | ⟨T, us2, ds, rfl, hT, rfl, e1, e2⟩
  · exact go d J2 _ e1 Grow.refl w2 e2
  · exact go (.tuple ds) _ _ e2 (Grow.frz w2 hT _) (w2.frz hT _) (.tup (SqT.of upd_same) (rpAll_mono (same_new (w2.jh.free hT) _) _ _ e1))
theorem de_lc2 (hc : X.calm = true) (hN : X.N.Nodup) (hi : DIo W X K tg iter di) (ok : BlkOk X.N X.env.scope scope own) (hv : ∀ i ∈ vs1, i ∈ own.map (·.2))
    (hg : ∀ (s : Shared) (H : Hp) (C : Addr) (cl : List (Str × Addr)) (fp : List Addr), DG (X.blk s H scope (compEnvC scope cl C X.env) fp) K tg is gd)
    (hi1 : ∀ (s : Shared) (H : Hp) (C : Addr) (cl : List (Str × Addr)) (fp : List Addr), DIo W0 (X.blk s H scope (compEnvC scope cl C X.env) fp) K tg1 iter1 di1)
    (hg1 : ∀ (s : Shared) (H : Hp) (C : Addr) (cl : List (Str × Addr)) (fp : List Addr), DG (X.blk s H scope (compEnvC scope cl C X.env) fp) K tg1 is1 gd1)
    (he : ∀ (s : Shared) (H : Hp) (C : Addr) (cl : List (Str × Addr)) (fp : List Addr), DE W0 (X.blk s H scope (compEnvC scope cl C X.env) fp) K elt te)
    (his : ∀ i ∈ is, i ∈ own.map (·.2) := by decide) (his1 : ∀ i ∈ is1, i ∈ vs1 := by decide) (hs : ∀ x, foldedSetIterable iter X.env x = pure x := by intro _; rfl) (hs1 : ∀ env x, foldedSetIterable iter1 env x = pure x := by intro _ _; rfl) :
    DE W X K (.ListComp elt [⟨tg, iter, [], 0⟩, ⟨tg1, iter1, [], 0⟩] scope pos) (dLc2 di gd di1 gd1 te (own.map (·.2)) vs1) := by
  obtain ⟨wi, p, k⟩ := hi
  exact ⟨_, pe_lc2 hc hN p ok hv hg (fun s H C cl fp => (dts_nil (W := W0)).ps) (fun s H C cl fp => (hi1 s H C cl fp).pi) hg1 (fun s H C cl fp => (dts_nil (W := W0)).ps) (fun s H C cl fp => (he s H C cl fp).pe) hs hs1, fun σ H J ω ρ q x Q w s cq cx z => lc2_run k his his1 w s cq cx z⟩
end
end Tx

namespace Tx
open PySem PySem.Spec PyProof.Rows L2
/-! ## int * int and list * int; powers; an instance on the right; ranges -/
def mulAD : RD2 := fun x y ω Q => match rsv ω x, y with
  | .int i, .int j => CMul i j ∧ Q (.int (i * j))
  | .list xs, .int k => -(2 ^ 63) ≤ k ∧ k < 2 ^ 63 ∧ xs.length * k.toNat ≤ sizeLine ∧ Q (.list (List.replicate k.toNat xs).flatten)
  | _, _ => False
def rmR (C : Addr) (sp : DSp) : RM2 := fun dx dy ω q => (∃ i, dx = .int i) ∧ InsD C "__rmul__" ω dy ∧ sp [dy, dx] ω q X0
/-- what the fragment says of int on the left of a class that multiplies -/
structure LeftI (K : PySem.W.Frag) (C : Addr) : Prop where
  first : PySem.W.selfFirst K C = true
  op : ∃ o, PySem.W.findIn K (.type "int") (PySem.dunder "mul") = some o
  rop : ∃ o, PySem.W.findIn K (.type "int") (dunderR "mul") = some o
  sub : PySem.W.subIn K (.ref C) (.type "int") = some false
  has : ∃ g : Addr, PySem.W.findIn K (.ref C) (PySem.dunder "mul") = some (some (.ref g))
def diRangeW (ta : DTA) (ρ : DS) (ω : Wd) (k : List PyData → Wd → Prop) (x : DXK) : Prop := ta ρ ω (fun rs ω1 => match rs with
  | [.int n] => ((-(2 ^ 62) ≤ n ∧ n < 2 ^ 62) ∨ farLow n) ∧ k ((List.range n.toNat).map fun i => .int ((i : Nat) : Int)) ω1
  | _ => False) x
section
variable {X : Cx} {K : PySem.W.Frag}
theorem do_mulA (hK : X.K = K) : OpR X (binaryOp .Mult) (lift2 K mulAD) := by
  subst hK
  intro pins s σ H x y v u Q I rx ry ⟨J, ω, dx, dy, q, w, hx, hy, c, z⟩
  unfold mulAD at z
  split at z
  · rename_i i j ex
    obtain rfl := (rp_flat (ω := ω) hx).2.1 _ ex
    cases hy
    exact op_mul pins s σ H _ _ v u Q I rx ry ⟨i, j, rfl, rfl, z.1, c.now w z.2 (.int _)⟩
  · rename_i xs k ex
    obtain ⟨a, vs, rfl, ha, ra⟩ := rp_list w hx ex
    cases hy
    exact op_rep pins s σ H _ _ v u Q I rx ry ⟨a, k, vs, rfl, rfl, ha, z.1, z.2.1, by rw [ra.length]; exact z.2.2.1, fun p hp => c.newL w z.2.2.2 (ra.rep _) hp⟩
  · exact False.elim z
def notBD : RD2 := fun x y _ Q => ∃ a b, x = .bool a ∧ y = .bool b ∧ Q (.bool (!decide (a = b)))
theorem do_isnotB (hK : X.K = K) : OpR X (compareOp .IsNot) (lift2 K notBD) := by
  intro pins s σ H x y v u Q I rx ry ⟨J, ω, dx, dy, q, w, hx, hy, c, a, b, e1, e2, z⟩
  subst e1 e2
  cases hx
  cases hy
  exact op_isnot_bl pins s σ H _ _ v u Q I rx ry ⟨a, b, rfl, rfl, c.now w z (.bl _)⟩
theorem do_pow (hK : X.K = K) : OpR X (binaryOp .Pow) (lift2 K (intD CPow fun i j => .int (i ^ j.toNat))) := do_int op_pow hK (fun _ _ h => h) fun _ _ _ => .int _
theorem dm_rmul {C : Addr} {j k : Nat} {ps : List Str} {sp : DSp} (hK : X.K = K) (M : Mfn X.prog X.w X.K X.mg X.base CX0 j C "__rmul__" ps (spD K sp)) (c : Ct X.mg X.A k) (h : j ≤ k) (L : LeftI K C) (hn : dunderR "mul" = "__rmul__" := by rfl) : OpR X (binaryOp .Mult) (lift2M K (rmR C sp)) := by
  subst hK
  obtain ⟨f, fd, F, hm, hb⟩ := M
  intro pins s σ H x y v u Q I rx ry ⟨J, ω, dx, dy, q, w, r1, r2, cq, ⟨i, e⟩, i2, z⟩
  subst e
  cases r1
  obtain ⟨t, rfl⟩ := (show ∃ t, v = Value.int i t from rx)
  obtain ⟨b, d2, od2, rfl, rfl, J2⟩ := insD_at w I r2 ry i2
  have run := own_run F hb (c.r.mono h) c.g I.env0 I (.cons ry (.cons rx .nil)) w (.cons r2 (.cons (.int i) .nil)) cq z
  obtain ⟨o1, h1⟩ := L.op
  obtain ⟨o2, h2⟩ := L.rop
  obtain ⟨g, h3⟩ := L.has
  exact ref_int I.kIn J2 L.first h1 h2 L.sub h3 (by rw [hn]; exact hm.at_) hm.fn (thn run fun v' s' ⟨z', H', I', rz, qz⟩ => SlX.cmpback rz ⟨z', H', I', rz, qz⟩)
variable {W : WX} {tg : Expr} {tA : DTA}
theorem far_low {n : Int} (h : farLow n) : n ≤ 0 := by
  have := h.2
  rw [rangeSize_one] at this
  split at this <;> omega
theorem di_rangeW {a : Expr} {p pos : Pos} (hg : Gl X "range") (hm : X.mg "range" = none) (ha : DAs W X K [a] tA) (hs : starEach [a] X.env = [(false, eval a X.env)] := by rfl) : DI W X K tg (.Call (.Name "range" p) [a] [] pos) (diRangeW tA) := by
  obtain ⟨t, pp, k⟩ := ha
  refine ⟨_, pi_rangeW hg hm pp (fun n h => far_low h) hs, fun σ H J ω ρ kk x R w s c cx z => k σ H J ω ρ _ x _ w s (fun rs ω1 vs J1 H1 z1 g1 w1 rps => ?_) cx z⟩
  split at z1
  · cases rps with
    | cons r1 r2 =>
      cases r1
      cases r2
      refine ⟨_, rfl, z1.1, c _ _ _ _ _ z1.2 g1 w1 ?_⟩
      have := walkD_range (K := K) (J := J1) (lo := 0) (n := Int.toNat (by assumption))
      simpa using this
  · exact False.elim z1
theorem far_k10 : farLow (0 - 10 ^ 20) := by
  refine ⟨by decide +kernel, ?_⟩
  rw [rangeSize_one]
  decide +kernel
end
end Tx

namespace Tx
open PySem PySem.Spec PyProof.Rows L2
/-! ## a def f(a, *r) where no repr is under way; a class called by a local name; C.m(..) by a classmethod -/
structure FnV (P : Program) (w : World) (K : PySem.W.Frag) (mg : Str → Option Value) (base : Heap) (CX : CXT) (k : Nat) (f : Addr) (sp : Sp) : Prop where
  run : ∀ (A : Around) (out : List Env) (s : Shared) (H : Hp) (us : List Value) (vs : List V) (Q : VK) (E : XK), Room k A → A.guards = some [] → Env0 P w K mg base A out s H → Vals vs us → sp vs H Q E →
      codeAny (model P w) A (.call (.ref f) ⟨us, []⟩) (CR CX out P w H s Q E) s
theorem cx_new {P : Program} {w : World} : CXNew (L2.CX P w) := by
  intro outer s H h2 p rest E e s' kp hp hn ⟨a, B, H', cls, d, e1, fl, hok, ub, na, os, ag, z⟩
  have np : ∀ b o, s.heap.get? b = some o → b ≠ p := fun b o e z => absurd (Heap.lt_size e) (Nat.not_lt.mpr (by rw [z]; exact hp))
  refine ⟨a, B, H', cls, d, e1, fl, hok, ⟨fun b o q n f => ?_, fun b o q f => ?_, fun b o q n => ?_, fun b o q f => ?_, fun b xs q => ?_, fun b o xs q => ?_, fun b ps q => ?_⟩, na, os, ag, z⟩
  · exact ub.keep b o (kp b o q) (by rw [upd_ne (np b o q)]; exact n) f
  · exact ub.slot b o (kp b o q) f
  · exact ub.free b o (kp b o q) (by rw [upd_ne (np b o q)]; exact n)
  · exact ub.there b o (kp b o q) f
  · exact ub.tups b xs (by rw [upd_ne (fun z => by rw [z, hn] at q; cases q)]; exact q)
  · exact ub.frzs b o xs (by rw [upd_ne (fun z => by rw [z, hn] at q; cases q)]; exact q)
  · exact ub.tbls b ps (by rw [upd_ne (fun z => by rw [z, hn] at q; cases q)]; exact q)
section
variable {P : Program} {w : World} {K : PySem.W.Frag} {mg : Str → Option Value} {base : Heap} {CX : CXT} {k : Nat} {f : Addr} {fd : FuncData} {x qual : Str} {st : Stmt} {N : List Str} {pa pv : Str} {sp : Sp}
theorem env0_tup {A : Around} {out : List Env} {s : Shared} {H : Hp} {rest : List V} {ur : List Value} (e0 : Env0 P w K mg base A out s H) (rr : Vals rest ur) (hl : rest.length ≤ sizeLine) :
    Env0 P w K mg base A out { s with heap := s.heap.push ({ cls := .type "tuple", data := .seq ur.toArray } : Obj) } (upd H s.heap.objs.size (.tup rest)) := by
  have kp : ∀ b o, s.heap.get? b = some o → (s.heap.push ({ cls := .type "tuple", data := .seq ur.toArray } : Obj)).get? b = some o := fun b o e => Heap.get?_push_of_some _ e
  have new : ObjOk P w (upd H s.heap.objs.size (.tup rest)) (s.heap.push ({ cls := .type "tuple", data := .seq ur.toArray } : Obj)) s.heap.objs.size (.tup rest) := ⟨hl, ur, rr, ⟨_, Heap.get?_push_size _ rfl, rfl, _, rfl⟩⟩
  refine ⟨e0.frames, e0.mod, fun b o e => ⟨kp b o (e0.bs b o e).1, ?_⟩, ?_, Heap.FunFrames.of_keeps (fun b o e _ => ⟨o, kp b o e, rfl⟩) e0.funs, fun b hb => ?_, e0.hok.laid kp (Nat.le_refl _) new, e0.bare⟩
  · rw [upd_ne (Nat.ne_of_lt (Heap.lt_size (e0.bs b o e).1))]
    exact (e0.bs b o e).2
  · show base.objs.size ≤ (s.heap.push _).objs.size
    rw [Heap.size_push]
    exact Nat.le_succ_of_le e0.bsz
  · obtain ⟨_, o, ho, _⟩ := e0.funs.mem hb
    rw [upd_ne (Nat.ne_of_lt (Heap.lt_size ho))]
    exact e0.frf b hb
theorem okV (F : Fun K x qual st f fd) (S : FnScope N [pa, pv] (defScope st)) (hb : ∀ (u : Value) (rest : List Value), rest.length ≤ 5 → bindArgs fd ⟨u :: rest, []⟩ = (newTuple rest >>= fun t => pure [(pa, u), (pv, t)])) (hCX : CXNew CX)
    (body : ∀ (cv : Value) (A : Around) (out : List Env) (s : Shared) (H : Hp) (vs : List V) (Q : VK) (E : XK), Room k (A.deeper (envOfC qual (defScope st) s.heap.objs.size f cv)) → A.guards = some [] → sp vs H Q E →
      ∃ t, PSs (cxOf CX P w K mg base N qual (defScope st) f cv A out s H E) (defBody st) t ∧ t { nx := fun _ H' => Q .non H', rt := Q } (start N vs) H) :
    FnV P w K mg base CX (k + 1) f (fun vs H Q E => ∃ v rest, vs = v :: rest ∧ rest.length ≤ 5 ∧ ∀ p, H p = none → sp [v, .ref p] (upd H p (.tup rest)) Q E) := by
  obtain ⟨_, _, _, _, _, _, cv, _, _, rfl, at_f, code⟩ := F.ex
  refine ⟨fun A out s H us vs Q E room gd e0 rel ask => ?_⟩
  obtain ⟨v, rest, rfl, hl, ask⟩ := ask
  cases rel with
  | @cons _ u _ ur rv rr =>
  have sz : rest.length ≤ sizeLine := Nat.le_trans hl (by decide)
  have hlu : ur.length ≤ 5 := by rw [← rr.length]; exact hl
  have hn : H s.heap.objs.size = none := e0.hok.fresh (Nat.le_refl _)
  have inH : K.In s.heap := e0.mod.kin.keeps fun b o z => (e0.bs b o z).1
  have e2 := env0_tup e0 rr sz
  have kp : ∀ b o, s.heap.get? b = some o → (s.heap.push ({ cls := .type "tuple", data := .seq ur.toArray } : Obj)).get? b = some o := fun b o e => Heap.get?_push_of_some _ e
  have un : Un (frs out) [] H (upd H s.heap.objs.size (.tup rest)) s.heap (s.heap.push ({ cls := .type "tuple", data := .seq ur.toArray } : Obj)) := Un.laid kp (Nat.le_refl _) hn
  have free : (s.heap.push ({ cls := .type "tuple", data := .seq ur.toArray } : Obj)).NoLimit := e0.mod.nolimit.keeps fun b o z => (e2.bs b o z).1
  refine codeAny_call_function room.depth (inH _ _ at_f) rfl S.co S.gen rfl (PySem.W.codeRec_of inH code) ?_
  rw [hb u ur hlu]
  refine wpAny_bind (wpAny_newTuple (wpAny_pure ?_) (Nat.le_trans hlu (by decide)))
  refine wpAny_newFunctionEnv_cells (s := { s with heap := s.heap.push ({ cls := .type "tuple", data := .seq ur.toArray } : Obj) }) S.kind ?kinds ?entered
  case kinds =>
    intro y hz
    rcases S.par y.1 (List.of_mem_zip (l₁ := [pa, pv]) (l₂ := [u, Value.ref s.heap.objs.size]) hz).1 with q | q
    · exact .inl q
    · exact .inr ⟨q, PySem.W.cellsFrom_some _ _ _ (.inl q)⟩
  case entered =>
    intro env he s1 ic
    subst he
    obtain ⟨t, pss, rd⟩ := body cv A out { s with heap := s.heap.push ({ cls := .type "tuple", data := .seq ur.toArray } : Obj) } (upd H s.heap.objs.size (.tup rest)) [v, .ref s.heap.objs.size] Q E (room.deeper _) gd (ask _ hn)
    have r2 : Vals [v, V.ref s.heap.objs.size] [u, Value.ref s.heap.objs.size] := .cons rv (.cons rfl .nil)
    have I := inv_start (CX := CX) (E := E) S room.hd e2 rfl r2 ic
    refine ⟨free.keeps ic.toInCall.keep, codeAny_func (wpAny_mono (pss.run [] s1 (start N [v, .ref s.heap.objs.size]) _ _ I rd) ?_ fun e s2 z => ?_)⟩
    · intro fl s2 got
      cases fl with
      | next => obtain ⟨_, H2, J, q⟩ := got; exact ⟨.non, H2, J.os, J.bare, un.trans J.base, J.hok, rfl, q⟩
      | ret u => obtain ⟨v, _, H2, J, r, q⟩ := got; exact ⟨v, H2, J.os, J.bare, un.trans J.base, J.hok, r, q⟩
      | brk => obtain ⟨_, _, _, q⟩ := got; exact False.elim q
      | cont => obtain ⟨_, _, _, q⟩ := got; exact False.elim q
    · exact wpAny_mono z (fun _ s3 y => hCX out s H _ _ rest E e s3 kp (Nat.le_refl _) hn y) fun e' s3 y => hCX out s H _ _ rest E e' s3 kp (Nat.le_refl _) hn y
end
end Tx

namespace Tx
open PySem PySem.Spec PyProof.Rows L2
/-! ## C.m(..) by a classmethod with a star parameter; a class called by a local name -/
def spV (K : PySem.W.Frag) (sp : DSp) : Sp := fun vs H Q E => ∃ v rest, vs = v :: rest ∧ rest.length ≤ 5 ∧ ∀ p, H p = none → spD K sp [v, .ref p] (upd H p (.tup rest)) Q E
def Vfn (P : Program) (w : World) (K : PySem.W.Frag) (mg : Str → Option Value) (base : Heap) (CX : CXT) (k : Nat) (C : Addr) (m : Str) (sp : DSp) : Prop := ∃ mc p g, ClX.CRead K C mc ∧ ClX.CMet K C mc m p g ∧ FnV P w K mg base CX k g (spV K sp)
def HasV (K : PySem.W.Frag) (C : Addr) (m qual : Str) (st : Stmt) : Prop := ∃ mc p g fd, ClX.CRead K C mc ∧ ClX.CMet K C mc m p g ∧ Fun K m qual st g fd
def BindsV (x qual : Str) (st : Stmt) (pa pv : Str) : Prop := ∀ (kV doc pm : Value) (an : Option Addr) (cdv ct : Value) (u : Value) (rest : List Value), rest.length ≤ 5 →
  bindArgs (PySem.W.fnOf x qual (defArgs st) (defBody st) (defScope st) .none kV doc pm an cdv ct) ⟨u :: rest, []⟩ = (newTuple rest >>= fun t => pure [(pa, u), (pv, t)])
section
variable {P : Program} {w : World} {K : PySem.W.Frag} {mg : Str → Option Value} {base : Heap} {k : Nat} {C : Addr} {m qual : Str} {N : List Str} {pa pv : Str} {sp : DSp} {st : Stmt}
theorem vfnDX (h : HasV K C m qual st) (B : Bi mg) (S : FnScope N [pa, pv] (defScope st)) (bd : BindsV m qual st pa pv)
    (body : ∀ (f : Addr) (cv : Value) (A : Around) (out : List Env) (s : Shared) (H : Hp) (E : XK), Ct mg (A.deeper (envOfC qual (defScope st) s.heap.objs.size f cv)) k →
      ∃ td, DSs (fun cl d _ H => E cl d H) (cxOf (L2.CX P w) P w K mg base N qual (defScope st) f cv A out s H E) K (defBody st) td ∧ ∀ ts ω q xx, sp ts ω q xx → td (endsD q xx) (startD N ts) ω) :
    Vfn P w K mg base (L2.CX P w) (k + 1) C m sp := by
  obtain ⟨mc, p, g, fd, r, c, F⟩ := h
  refine ⟨mc, p, g, r, c, okV (k := k) F S ?_ cx_new ?_⟩
  · obtain ⟨_, _, kV, doc, pm, an, cdv, ct, _, rfl, _, _⟩ := F.ex
    exact fun u rest hl => bd kV doc pm an cdv ct u rest hl
  intro cv A out s H vs Q E room gd ask
  obtain ⟨J, ω, ts, q, xx, w, r, cq, cx, z⟩ := ask
  obtain ⟨td, ⟨t, p, kk⟩, hb⟩ := body g cv A out s H E ⟨B, room, gd⟩
  exact ⟨t, p, kk _ _ _ H J ω _ w (sl_start r) ⟨fun _ _ _ _ _ z g w _ => cq _ _ _ _ _ z g w .non, fun _ _ _ _ _ z _ _ _ => False.elim z, fun _ _ _ _ _ z _ _ _ => False.elim z, cq, fun C fs _ ω' d _ J' H' z g w _ x => cx C fs ω' d J' H' z g w x⟩ (hb ts ω q xx z)⟩
end
def dCM (C : Addr) (sp : DSp) (ta : DTA) (ρ : DS) (ω : Wd) (q : DQ) (x : DXK) : Prop := ta ρ ω (fun ts ω1 => ts.length ≤ 5 ∧ sp [refD C, .tuple ts] ω1 q x) x
def dMakeL (i : Nat) (C : Addr) (sp : DSp) (ta : DTA) (ρ : DS) (ω : Wd) (q : DQ) (x : DXK) : Prop := ρ[i]? = some (some (refD C)) ∧ dMake C sp ta ρ ω q x
section
variable {W : WX} {X : Cx} {K : PySem.W.Frag} {CX : CXT} {j k : Nat} {C : Addr} {m : Str} {sp : DSp} {o e : Expr} {es : List Expr} {tA : DTA} {t : TA} {apos pos p : Pos} {ps : List Str} {x : Str}
theorem pe_cmethG {pl : Sem Bool} {E : L2.St → XK} (he : PE X o (tC (.ref C))) (V : Vfn X.prog X.w X.K X.mg X.base CX k C m sp) (hr : Room k X.A) (gd : X.A.guards = some []) (hx : ∀ σ, PassesAt CX X σ (E σ)) (ha : PA X (e :: es) t)
    (hst : starEach (e :: es) X.env = (false, eval e X.env) :: starEach es X.env := by rfl) (hpl : (backTo pos (starEach es X.env)).any (·.1) = false := by rfl)
    (ht : eval (.Call (.Attribute o m apos) (e :: es) [] pos) X.env = (do
      let ov ← eval o X.env
      standAt apos.atName
      let (f, first) ← holding [ov] (getMethod ov m pl)
      callWith pos f first (backTo pos (starEach (e :: es) X.env)) (backToKw pos (keywordEach [] X.env))) := by rfl) :
    PE X (.Call (.Attribute o m apos) (e :: es) [] pos) (fun σ H Q => t σ H fun vs H2 => spV X.K sp (.ref C :: vs) H2 Q (E σ)) := by
  obtain ⟨mc, p, g, r, c, F⟩ := V
  refine ⟨fun pins s σ H Q I h => ?_⟩
  refine PySem.W.methodCall_KW (pl := pl) (thn (he.run pins s σ H (fun v H1 => v = .ref C ∧ t σ H1 fun vs H2 => spV X.K sp (.ref C :: vs) H2 Q (E σ)) I ⟨rfl, h⟩) fun u s1 ⟨x, H1, I1, rx, ex, q⟩ => ?_) ht
  subst ex
  obtain rfl : u = Value.ref C := rx
  refine ClX.getmethcm_ok I1 r c fun s2 I2 => ?_
  refine ClX.callwith_cm I2 (ClX.base_none I1 (Nat.le_refl _)) c.fi (thn (ha.run pos _ s2 σ H1 _ I2 q) fun us s3 ⟨vs, H2, I3, rv, q2⟩ => ⟨⟨ClX.pin_at I3, I3.kIn⟩, ?_⟩) hst hpl
  have zz : wpAny (model X.prog X.w) X.A (call (.ref s1.heap.objs.size) us) (EP X ((s1.heap.objs.size, PySem.W.methodObj (.ref g) (.ref C)) :: pins) σ Q) X.xe s3 := by
    refine wpAny_call (PySem.W.method_call (ClX.pin_at I3) (codeAny_mono (F.run X.A X.stack s3 H2 (.ref C :: us) (.ref C :: vs) Q (E σ) hr gd I3.env0 (.cons rfl rv) q2) ?_))
    intro r s4 got
    match r, got with
    | .ok (.ret u), got => exact I3.after got
    | .ok .next, got => exact False.elim got
    | .ok .brk, got => exact False.elim got
    | .ok .cont, got => exact False.elim got
    | .error er, got => exact hx σ _ H2 s3 er s4 I3 got
  exact thn zz fun _ _ y => ClX.unpinE y
theorem de_cmeth {pl : Sem Bool} (hK : X.K = K) (he : PE X o (tC (.ref C))) (V : Vfn X.prog X.w X.K X.mg X.base CX j C m sp) (c : Ct X.mg X.A k) (h : j ≤ k) (px : PX CX X W) (args : DAs W X K (e :: es) tA)
    (hst : starEach (e :: es) X.env = (false, eval e X.env) :: starEach es X.env := by rfl) (hpl : (backTo pos (starEach es X.env)).any (·.1) = false := by rfl)
    (ht : eval (.Call (.Attribute o m apos) (e :: es) [] pos) X.env = (do
      let ov ← eval o X.env
      standAt apos.atName
      let (f, first) ← holding [ov] (getMethod ov m pl)
      callWith pos f first (backTo pos (starEach (e :: es) X.env)) (backToKw pos (keywordEach [] X.env))) := by rfl) :
    DE W X K (.Call (.Attribute o m apos) (e :: es) [] pos) (dCM C sp tA) := by
  subst hK
  obtain ⟨t, pp, kk⟩ := args
  refine ⟨_, pe_cmethG (E := fun σ cl d H => W cl d σ H) he V (c.r.mono h) c.g px pp hst hpl ht, fun σ H J ω ρ q x Q w s cq cx z => kk σ H J ω ρ _ x _ w s (fun ts ω1 vs J1 H1 z1 g1 w1 rps => ?_) cx z⟩
  refine ⟨.ref C, vs, rfl, by rw [rps.length]; exact z1.1, fun p hp => ?_⟩
  have g2 := g1.trans (Grow.frz w1 hp (.tup vs))
  exact ⟨_, ω1, _, q, x, w1.frz hp _, .cons (.ref C) (.cons (.tup (SqT.of upd_same) (rpAll_mono (same_new (w1.jh.free hp) _) _ _ rps)) .nil), cq.step g2, cx.step g2, z1.2⟩
theorem pe_makeL {i : Nat} {y : Str} {sp : Sp} {E : L2.St → XK} (c : ClsD X.K X.mg y C) (M : Mfn X.prog X.w X.K X.mg X.base CX k C "__init__" ps sp) (hr : Room (k + 1) X.A) (gd : X.A.guards = some []) (hN : X.N[i]? = some x) (hv : Vis X.env.scope x) (hx : ∀ σ, PassesAt CX X σ (E σ)) (ha : PA X (e :: es) t)
    (hdb : (x == ("__debug__" : Str)) = false := by decide) (hcd : (x == ("__classdict__" : Str)) = false := by decide) (he : starEach (e :: es) X.env = (false, eval e X.env) :: starEach es X.env := by rfl) (hpl : (backTo pos (starEach es X.env)).any (·.1) = false := by rfl) :
    PE X (.Call (.Name x p) (e :: es) [] pos) (fun σ H Q => σ[i]? = some (some (.ref C)) ∧ tMakeS C sp E t σ H Q) := by
  obtain ⟨f, fd, F, hm, hb⟩ := M
  constructor
  intro pins s00 σ H00 Q I00 ⟨hs, h0⟩
  refine wpAny_Call_Name_kw (thn ((pe_var (pos := p) hN hv hdb hcd).run pins s00 σ H00 (fun v H1 => v = .ref C ∧ H1 = H00) I00 ⟨.ref C, hs, rfl, rfl⟩) fun u0 s0 ⟨v0, H0, I0, r0, q0⟩ => ?_)
  obtain ⟨rfl, rfl⟩ := q0
  cases r0
  refine PySem.W.callWith_K (h₀ := X.base) I0.ok.mod.kin c.kp (thn (ha.run pos pins s0 σ _ _ I0 h0) fun us s ⟨vs, H, I, r, h⟩ => ⟨I.kIn, ?_⟩) he hpl
  have hq := h (s.heap.objs.size + 1) s.heap.objs.size (I.hok.fresh (Nat.le_succ _)) (I.hok.fresh (Nat.le_refl _)) (Nat.ne_of_lt (Nat.lt_succ_self _))
  have I2 := Inv.made (C := C) I
  have r2 : Vals (V.ref (s.heap.objs.size + 1) :: vs) (Value.ref (s.heap.objs.size + 1) :: us) := .cons rfl r
  have hl : ((Value.ref (s.heap.objs.size + 1) :: us) ++ []).length = ps.length := by
    rw [List.append_nil, ← r2.length]
    exact F.len _ _ _ _ hq
  have b := hb _ (Value.ref (s.heap.objs.size + 1) :: us) I2.kIn hl
  rw [List.append_nil] at b
  refine wpAny_call (make_map (f := f) I.kIn c.mks hm.at_ (beq_iff_eq.mp hm.fn) (codeAny_mono (F.run _ X.stack _ _ ⟨Value.ref (s.heap.objs.size + 1) :: us, []⟩ (Value.ref (s.heap.objs.size + 1) :: us) _ _ (E σ) (hr.make C us []) gd
    (I2.env0.make C us []) b r2 hq) ?_))
  intro r s' got
  match r, got with
  | .ok (.ret u), got =>
    obtain ⟨v, H', I3, rv, ev, q3⟩ := I2.after got
    subst ev
    exact ⟨rv, ⟨V.ref (s.heap.objs.size + 1), H', I3, rfl, q3⟩⟩
  | .ok .next, got => exact False.elim got
  | .ok .brk, got => exact False.elim got
  | .ok .cont, got => exact False.elim got
  | .error er, got => exact hx σ pins _ _ er s' I2 got
theorem de_makeL {i : Nat} {y : Str} (hK : X.K = K) (cl : ClsD K X.mg y C) (M : Mfn X.prog X.w X.K X.mg X.base CX j C "__init__" ps (spD K sp)) (c : Ct X.mg X.A k) (h : j + 1 ≤ k) (hN : X.N[i]? = some x) (hv : Vis X.env.scope x) (px : PX CX X W) (args : DAs W X K (e :: es) tA)
    (hdb : (x == ("__debug__" : Str)) = false := by decide) (hcd : (x == ("__classdict__" : Str)) = false := by decide) (he : starEach (e :: es) X.env = (false, eval e X.env) :: starEach es X.env := by rfl) (hpl : (backTo pos (starEach es X.env)).any (·.1) = false := by rfl) :
    DE W X K (.Call (.Name x p) (e :: es) [] pos) (dMakeL i C sp tA) := by
  subst hK
  obtain ⟨t, pp, kk⟩ := args
  refine ⟨_, pe_makeL (E := fun σ cl d H => W cl d σ H) cl M (c.r.mono h) c.g hN hv px pp hdb hcd he hpl, fun σ H J ω ρ q x Q w s cq cx z => ?_⟩
  obtain ⟨v, e1, r1⟩ := s.2 i _ z.1
  obtain rfl := rp_ref r1
  refine ⟨e1, kk σ H J ω ρ _ x _ w s (fun ts ω1 vs J1 H1 z1 g1 w1 rps => ?_) cx z.2⟩
  intro a dx ha hd ne
  have w2 := w1.junk hd (.own a)
  have ha2 : upd H1 dx (.own a) a = none := by rw [upd_ne (Ne.symm ne)]; exact ha
  have w3 := w2.own (m := .ins C dx []) (o := .ins C dx []) rfl ha2 ⟨[], upd_same, .nil⟩
  have g3 : Grow J H ω J1 (upd (upd H1 dx (.own a)) a (.ins C dx [])) (updW ω1 a (.ins C dx [])) := (g1.trans (Grow.junk hd _)).trans (Grow.own rfl ha2 _)
  refine ⟨J1, _, _, _, x, w3, .cons (.ref a) rps, fun r ω' v J' H' z' g' w' rp => ?_, cx.step g3, z1 a dx (w1.free ha).1⟩
  obtain ⟨rfl, z'⟩ := z'
  cases rp
  exact ⟨rfl, (cq.step g3) _ _ _ _ _ z' g' w' (.ref a)⟩
end
end Tx

namespace Tx
open PySem PySem.Spec PyProof.Rows L2
/-! ## classmethods with plain parameters and defaults; stars in a tuple; a class's constant -/
def HasK (K : PySem.W.Frag) (C : Addr) (m qual : Str) (st : Stmt) (dvs : List V) : Prop := ∃ mc p g fd, ClX.CRead K C mc ∧ ClX.CMet K C mc m p g ∧ FunD K m qual (defArgs st) (defBody st) (defScope st) dvs [] g fd
def Kfn (P : Program) (w : World) (K : PySem.W.Frag) (mg : Str → Option Value) (base : Heap) (CX : CXT) (k : Nat) (C : Addr) (m : Str) (ps : List Str) (dv : List V) (sp : Sp) : Prop :=
  ∃ mc p g fd ds, ClX.CRead K C mc ∧ ClX.CMet K C mc m p g ∧ FnG P w K mg base CX k g fd ps sp ∧ Vals dv ds ∧ Binds K fd ps ds
section
variable {P : Program} {w : World} {K : PySem.W.Frag} {mg : Str → Option Value} {base : Heap} {CX : CXT} {k : Nat} {f : Addr} {fd : FuncData} {ps N : List Str} {sp : Sp} {x qual : Str} {st : Stmt} {dvs : List V} {kws : List (Str × V)}
theorem okGD (F : FunD K x qual (defArgs st) (defBody st) (defScope st) dvs kws f fd) (S : FnScope N ps (defScope st)) (len : ∀ vs H Q E, sp vs H Q E → vs.length = ps.length)
    (body : ∀ (cv : Value) (A : Around) (out : List Env) (s : Shared) (H : Hp) (vs : List V) (Q : VK) (E : XK),
      Room k (A.deeper (envOfC qual (defScope st) s.heap.objs.size f cv)) → A.guards = some [] → sp vs H Q E →
      ∃ t, PSs (cxOf CX P w K mg base N qual (defScope st) f cv A out s H E) (defBody st) t ∧ t { nx := fun _ H' => Q .non H', rt := Q } (start N vs) H) : FnG P w K mg base CX (k + 1) f fd ps sp := by
  obtain ⟨_, _, _, _, _, _, _, cv, _, _, rfl, at_f, code, _, _⟩ := F.ex
  refine ⟨len, fun A out s H ar us vs Q E room gd e0 bd rel ask => ?_⟩
  have inH : K.In s.heap := e0.mod.kin.keeps fun b o z => (e0.bs b o z).1
  have free : s.heap.NoLimit := e0.mod.nolimit.keeps fun b o z => (e0.bs b o z).1
  refine codeAny_call_function room.depth (inH _ _ at_f) rfl S.co S.gen rfl (PySem.W.codeRec_of inH code) (bd _ _ _ _ ?_)
  refine wpAny_newFunctionEnv_cells S.kind ?kinds ?entered
  case kinds =>
    rintro ⟨nm, val⟩ hz
    cases S.par nm (List.of_mem_zip hz).1 with
    | inl q => exact .inl q
    | inr q => exact .inr ⟨q, PySem.W.cellsFrom_some _ _ _ (.inl q)⟩
  case entered =>
    rintro env rfl s1 ic
    obtain ⟨t, pss, rd⟩ := body cv A out s H vs Q E (room.deeper _) gd ask
    have I := inv_start (CX := CX) (E := E) S room.hd e0 (len _ _ _ _ ask) rel ic
    refine ⟨free.keeps ic.toInCall.keep, codeAny_func (wpAny_mono (pss.run [] s1 (start N vs) H _ I rd) ?_ fun _ _ z => z)⟩
    intro fl s2 got
    cases fl with
    | next => obtain ⟨_, H2, J, q⟩ := got; exact ⟨.non, H2, J.os, J.bare, J.base, J.hok, rfl, q⟩
    | ret u => obtain ⟨v, _, H2, J, r, q⟩ := got; exact ⟨v, H2, J.os, J.bare, J.base, J.hok, r, q⟩
    | brk => obtain ⟨_, _, _, q⟩ := got; exact False.elim q
    | cont => obtain ⟨_, _, _, q⟩ := got; exact False.elim q
end
section
variable {P : Program} {w : World} {K : PySem.W.Frag} {mg : Str → Option Value} {base : Heap} {k : Nat} {C : Addr} {m qual : Str} {ps N : List Str} {sp : DSp} {st : Stmt} {dvs dv : List V}
theorem kfnD (h : HasK K C m qual st dvs) (B : Bi mg) (S : FnScope N ps (defScope st)) (bd : ∀ g fd, FunD K m qual (defArgs st) (defBody st) (defScope st) dvs [] g fd → ∃ ds, Vals dv ds ∧ Binds K fd ps ds) (len : ∀ ts ω q xx, sp ts ω q xx → ts.length = ps.length)
    (body : ∀ (f : Addr) (cv : Value) (A : Around) (out : List Env) (s : Shared) (H : Hp) (E : XK), Ct mg (A.deeper (envOfC qual (defScope st) s.heap.objs.size f cv)) k →
      ∃ td, DSs W0 (cxOf CX0 P w K mg base N qual (defScope st) f cv A out s H E).nox K (defBody st) td ∧ ∀ ts ω q xx, sp ts ω q xx → td (endsD q X0) (startD N ts) ω) :
    Kfn P w K mg base CX0 (k + 1) C m ps dv (spD K sp) := by
  obtain ⟨mc, p, f, fd, r, c, F⟩ := h
  obtain ⟨ds, hv, hb⟩ := bd f fd F
  refine ⟨mc, p, f, fd, ds, r, c, okGD F S (fun vs H Q E z => ?_) ?_, hv, hb⟩
  · obtain ⟨J, ω, ts, q, xx, w, r, _, _, z⟩ := z
    rw [r.length]
    exact len _ _ _ _ z
  intro cv A out s H vs Q E room gd ask
  obtain ⟨J, ω, ts, q, xx, w, r, cq, cx, z⟩ := ask
  obtain ⟨td, ⟨t, p, kk⟩, hb⟩ := body f cv A out s H E ⟨B, room, gd⟩
  exact ⟨t, p.nox, kk _ _ _ H J ω _ w (sl_start r) ⟨fun _ _ _ _ _ z g w _ => cq _ _ _ _ _ z g w .non, fun _ _ _ _ _ z _ _ _ => False.elim z, fun _ _ _ _ _ z _ _ _ => False.elim z, cq, fun _ _ _ _ _ _ _ _ z _ _ _ _ => False.elim z⟩ (hb ts ω q xx z)⟩
/-- no defaults -/
theorem bd0 (bd : BindsByQ m qual st ps) (g : Addr) (fd : FuncData) (F : FunD K m qual (defArgs st) (defBody st) (defScope st) [] [] g fd) : ∃ ds, Vals [] ds ∧ Binds K fd ps ds := by
  obtain ⟨oc, od, dV, kV, doc, pm, an, cdv, ct, osl, rfl, lk, hcd, hD, _⟩ := F.ex
  rcases hD with ⟨_, rfl⟩ | ⟨e, _⟩
  · exact ⟨[], .nil, Binds.all fun us hl => bd kV doc pm an cdv ct us hl⟩
  · exact absurd rfl e
end
section
variable {X : Cx} {CX : CXT} {k : Nat} {C : Addr} {ps : List Str} {sp : Sp} {dv : List V} {E : L2.St → XK} {m : Str} {pos apos : Pos} {e o : Expr} {es : List Expr} {t : TA}
theorem run_k {pins : List (Addr × Obj)} {σ : L2.St} {H : Hp} {s : Shared} {q g : Addr} {fd : FuncData} {ds : List Value} {Q : VK} {us : List Value} {vs : List V} (F : FnG X.prog X.w X.K X.mg X.base CX k g fd ps sp) (hr : Room k X.A) (gd : X.A.guards = some []) (dvr : Vals dv ds) (hb : Binds X.K fd ps ds) (hx : ∀ σ, PassesAt CX X σ (E σ))
    (I : Inv X ((q, PySem.W.methodObj (.ref g) (.ref C)) :: pins) σ H s) (r : Vals vs us) (h : sp (.ref C :: vs ++ dv) H Q (E σ)) : wpAny (model X.prog X.w) X.A (call (.ref q) us) (EP X pins σ Q) X.xe s := by
  have r2 : Vals (.ref C :: vs ++ dv) (.ref C :: us ++ ds) := .cons rfl (r.append dvr)
  have hl := F.len _ _ _ _ h
  rw [r2.length] at hl
  have zz : wpAny (model X.prog X.w) X.A (call (.ref q) us) (EP X ((q, PySem.W.methodObj (.ref g) (.ref C)) :: pins) σ Q) X.xe s := by
    refine wpAny_call (PySem.W.method_call (ClX.pin_at I) (codeAny_mono (F.run X.A X.stack s H ⟨.ref C :: us, []⟩ _ _ Q (E σ) hr gd I.env0 (hb s (.ref C :: us) I.kIn hl) r2 h) ?_))
    intro r s4 got
    match r, got with
    | .ok (.ret u), got => exact I.after got
    | .ok .next, got => exact False.elim got
    | .ok .brk, got => exact False.elim got
    | .ok .cont, got => exact False.elim got
    | .error er, got => exact hx σ _ H s er s4 I got
  exact thn zz fun _ _ y => ClX.unpinE y
theorem pe_kfn {pl : Sem Bool} (he : PE X o (tC (.ref C))) (M : Kfn X.prog X.w X.K X.mg X.base CX k C m ps dv sp) (hr : Room k X.A) (gd : X.A.guards = some []) (hx : ∀ σ, PassesAt CX X σ (E σ)) (ha : PA X (e :: es) t)
    (hst : starEach (e :: es) X.env = (false, eval e X.env) :: starEach es X.env := by rfl) (hpl : (backTo pos (starEach es X.env)).any (·.1) = false := by rfl)
    (ht : eval (.Call (.Attribute o m apos) (e :: es) [] pos) X.env = (do
      let ov ← eval o X.env
      standAt apos.atName
      let (f, first) ← holding [ov] (getMethod ov m pl)
      callWith pos f first (backTo pos (starEach (e :: es) X.env)) (backToKw pos (keywordEach [] X.env))) := by rfl) :
    PE X (.Call (.Attribute o m apos) (e :: es) [] pos) (fun σ H Q => t σ H fun vs H2 => sp (.ref C :: vs ++ dv) H2 Q (E σ)) := by
  obtain ⟨mc, p, g, fd, ds, r, c, F, dvr, hb⟩ := M
  refine ⟨fun pins s σ H Q I h => PySem.W.methodCall_KW (pl := pl) (thn (he.run pins s σ H (fun v H1 => v = .ref C ∧ t σ H1 fun vs H2 => sp (.ref C :: vs ++ dv) H2 Q (E σ)) I ⟨rfl, h⟩) fun u s1 ⟨x, H1, I1, rx, ex, q⟩ => ?_) ht⟩
  subst ex
  obtain rfl : u = Value.ref C := rx
  refine ClX.getmethcm_ok I1 r c fun s2 I2 => ?_
  exact ClX.callwith_cm I2 (ClX.base_none I1 (Nat.le_refl _)) c.fi (thn (ha.run pos _ s2 σ H1 _ I2 q) fun us s3 ⟨vs, H2, I3, rv, q2⟩ => ⟨⟨ClX.pin_at I3, I3.kIn⟩, run_k F hr gd dvr hb hx I3 rv q2⟩) hst hpl
theorem pe_kfn0 {pl : Sem Bool} (he : PE X o (tC (.ref C))) (M : Kfn X.prog X.w X.K X.mg X.base CX k C m ps dv sp) (hr : Room k X.A) (gd : X.A.guards = some []) (hx : ∀ σ, PassesAt CX X σ (E σ))
    (ht : eval (.Call (.Attribute o m apos) [] [] pos) X.env = (do
      let ov ← eval o X.env
      standAt apos.atName
      let (f, first) ← holding [ov] (getMethod ov m pl)
      callWith pos f first (backTo pos (starEach [] X.env)) (backToKw pos (keywordEach [] X.env))) := by rfl) :
    PE X (.Call (.Attribute o m apos) [] [] pos) (fun σ H Q => sp (.ref C :: dv) H Q (E σ)) := by
  obtain ⟨mc, p, g, fd, ds, r, c, F, dvr, hb⟩ := M
  refine ⟨fun pins s σ H Q I h => PySem.W.methodCall_KW (pl := pl) (thn (he.run pins s σ H (fun v H1 => v = .ref C ∧ sp (.ref C :: dv) H1 Q (E σ)) I ⟨rfl, h⟩) fun u s1 ⟨x, H1, I1, rx, ex, q⟩ => ?_) ht⟩
  subst ex
  obtain rfl : u = Value.ref C := rx
  refine ClX.getmethcm_ok I1 r c fun s2 I2 => ?_
  exact PySem.W.callWith_M0 (K := X.K) (first := []) ⟨ClX.pin_at I2, I2.kIn⟩ c.fi (run_k (vs := []) F hr gd dvr hb hx I2 .nil q)
end
/-- C.m(..), C a class -/
def dKM (C : Addr) (sp : DSp) (dv : List PyData) (ta : DTA) (ρ : DS) (ω : Wd) (q : DQ) (x : DXK) : Prop := ta ρ ω (fun ts ω1 => sp (refD C :: ts ++ dv) ω1 q x) x
/-- (*a, ..) -/
def dStar (te : DTE) (ta : DTA) (ρ : DS) (ω : Wd) (q : List PyData → Wd → Prop) (x : DXK) : Prop := te ρ ω (fun a ω1 => ∃ xs, (a = .tuple xs ∨ a = .list xs) ∧ ta ρ ω1 (fun ys ω2 => q (xs ++ ys) ω2) x) x
section
variable {W : WX} {X : Cx} {K : PySem.W.Frag} {CX : CXT} {j k : Nat} {C : Addr} {m : Str} {sp : DSp} {o e : Expr} {es : List Expr} {tA : DTA} {te : DTE} {apos pos p : Pos} {ps : List Str} {dv : List V} {dd : List PyData}
theorem de_kfn {pl : Sem Bool} (hK : X.K = K) (he : PE X o (tC (.ref C))) (V : Kfn X.prog X.w X.K X.mg X.base CX j C m ps dv (spD K sp)) (hd : ∀ J, RpAll K J dv dd) (c : Ct X.mg X.A k) (h : j ≤ k) (px : PX CX X W) (args : DAs W X K (e :: es) tA)
    (hst : starEach (e :: es) X.env = (false, eval e X.env) :: starEach es X.env := by rfl) (hpl : (backTo pos (starEach es X.env)).any (·.1) = false := by rfl)
    (ht : eval (.Call (.Attribute o m apos) (e :: es) [] pos) X.env = (do
      let ov ← eval o X.env
      standAt apos.atName
      let (f, first) ← holding [ov] (getMethod ov m pl)
      callWith pos f first (backTo pos (starEach (e :: es) X.env)) (backToKw pos (keywordEach [] X.env))) := by rfl) :
    DE W X K (.Call (.Attribute o m apos) (e :: es) [] pos) (dKM C sp dd tA) := by
  subst hK
  obtain ⟨t, pp, kk⟩ := args
  refine ⟨_, pe_kfn (E := fun σ cl d H => W cl d σ H) he V (c.r.mono h) c.g px pp hst hpl ht, fun σ H J ω ρ q x Q w s cq cx z => kk σ H J ω ρ _ x _ w s (fun ts ω1 vs J1 H1 z1 g1 w1 rps => ?_) cx z⟩
  exact ⟨J1, ω1, _, q, x, w1, .cons (.ref C) (rps.append (hd J1)), cq.step g1, cx.step g1, z1⟩
theorem de_kfn0 {pl : Sem Bool} (hK : X.K = K) (he : PE X o (tC (.ref C))) (V : Kfn X.prog X.w X.K X.mg X.base CX j C m ps dv (spD K sp)) (hd : ∀ J, RpAll K J dv dd) (c : Ct X.mg X.A k) (h : j ≤ k) (px : PX CX X W)
    (ht : eval (.Call (.Attribute o m apos) [] [] pos) X.env = (do
      let ov ← eval o X.env
      standAt apos.atName
      let (f, first) ← holding [ov] (getMethod ov m pl)
      callWith pos f first (backTo pos (starEach [] X.env)) (backToKw pos (keywordEach [] X.env))) := by rfl) :
    DE W X K (.Call (.Attribute o m apos) [] [] pos) (dKM C sp dd dNil) := by
  subst hK
  exact ⟨_, pe_kfn0 (E := fun σ cl d H => W cl d σ H) he V (c.r.mono h) c.g px ht, fun σ H J ω ρ q x Q w s cq cx z => ⟨J, ω, _, q, x, w, .cons (.ref C) (hd J), cq, cx, z⟩⟩
theorem da_star (hK : X.K = K) (he : DE W X K e te) (ha : DAs W X K es tA) : DAs W X K (.Starred e p :: es) (dStar te tA) := by
  subst hK
  obtain ⟨t, pp, kk⟩ := he
  obtain ⟨u, qq, ll⟩ := ha
  refine ⟨_, StX.pa_star pp qq, fun σ H J ω ρ q x Q w s cq cx z => kk σ H J ω ρ _ x _ w s (fun r ω1 v J1 H1 z1 g1 w1 rp => ?_) cx z⟩
  obtain ⟨xs, hx, z2⟩ := z1
  have fin : ∀ vs, RpAll X.K J1 vs xs → u σ H1 fun ys H2 => Q (vs ++ ys) H2 := fun vs rv => ll σ H1 J1 ω1 ρ _ x _ w1 (s.mono g1.jj) (fun ys ω2 us J2 H2 z3 g2 w2 rs => cq _ _ _ _ _ z3 (g1.trans g2) w2 ((rpAll_mono g2.jj _ _ rv).append rs)) (cx.step g1) z2
  rcases hx with rfl | rfl
  · cases rp with
    | tup hs ha => exact ⟨_, _, rfl, .inl (Same.sqT w1.jh hs), fin _ ha⟩
  · cases rp with
    | lst hs ha => exact ⟨_, _, rfl, .inr (SqL.of (w1.jh _ _ hs)), fin _ ha⟩
end
end Tx

namespace Tx
open PySem PySem.Spec PyProof.Rows L2
/-! ## int(..) and str(..) over data; enumerate's rows -/
def intOD : RD1 := fun xs _ Q => match xs with
  | [.int i] => Q (.int i)
  | [.bool b] => Q (.int (if b then 1 else 0))
  | _ => False
def strOD : RD1 := fun xs _ Q => match xs with
  | [.int i] => i.natAbs.log2 < 1920 ∧ Q (.str (toString i))
  | _ => False
section
variable {X : Cx} {K : PySem.W.Frag}
theorem dc_int (hK : X.K = K) : CallR X (.type "int") (liftA K intOD) := by
  subst hK
  intro pins s σ H xs us Q I rv ⟨J, ω, ds, q, w, rs, c, z⟩
  unfold intOD at z
  split at z
  · cases rs with
    | cons r1 r2 =>
    cases r1
    cases r2
    exact call_int1 pins s σ H _ us Q I rv (.inl ⟨_, rfl, c.now w z (.int _)⟩)
  · cases rs with
    | cons r1 r2 =>
    cases r1
    cases r2
    exact call_int1 pins s σ H _ us Q I rv (.inr ⟨_, rfl, c.now w z (.int _)⟩)
  · exact False.elim z
theorem dc_str (hK : X.K = K) : CallR X (.type "str") (liftA K strOD) := by
  subst hK
  intro pins s σ H xs us Q I rv ⟨J, ω, ds, q, w, rs, c, z⟩
  unfold strOD at z
  split at z
  · cases rs with
    | cons r1 r2 =>
    cases r1
    cases r2
    exact call_str_int pins s σ H _ us Q I rv ⟨_, rfl, z.1, c.now w z.2 (.str _)⟩
  · exact False.elim z
end
theorem enumD_get {xs : List PyData} {i : Nat} {y : PyData} (h : (enumD xs)[i]? = some y) : ∃ d, xs[i]? = some d ∧ y = .tuple [.int ((i : Nat) : Int), d] := by
  unfold enumD at h
  rw [List.getElem?_mapIdx] at h
  obtain ⟨d, h1, h2⟩ := Option.map_eq_some_iff.mp h
  exact ⟨d, h1, h2.symm⟩
theorem enumD_len (xs : List PyData) : (enumD xs).length = xs.length := by unfold enumD; rw [List.length_mapIdx]
end Tx

namespace Tx
open PySem PySem.Spec PyProof.Rows L2
/-! ## x = [.. for ..] as a list of one's own -/
section
variable {W : WX} {X : Cx} {K : PySem.W.Frag} {elt tg iter : Expr} {ifs : List Expr} {scope : Scope} {own : List (Str × Nat)} {pos : Pos} {is : List Nat} {di : DTIo} {gd : DTG} {tt : DTT} {te : DTE}
theorem ds_setLcO {i : Nat} {y : Str} {py spos : Pos} (hc : X.calm = true) (hN : X.N.Nodup) (hy : X.N[i]? = some y) (hyl : X.env.scope.names.lookup y = some .local)
    (hsw : swapsWith (.ListComp elt [⟨tg, iter, ifs, 0⟩] scope pos) (some (.Name y py)) spos.line X.env = pure true) (hi : DIo W X K tg iter di) (ok : BlkOk X.N X.env.scope scope own)
    (hg : ∀ (s : Shared) (H : Hp) (C : Addr) (cl : List (Str × Addr)) (fp : List Addr), DG (X.blk s H scope (compEnvC scope cl C X.env) fp) K tg is gd)
    (ht : ∀ (s : Shared) (H : Hp) (C : Addr) (cl : List (Str × Addr)) (fp : List Addr), DTs W0 (X.blk s H scope (compEnvC scope cl C X.env) fp) K ifs tt)
    (he : ∀ (s : Shared) (H : Hp) (C : Addr) (cl : List (Str × Addr)) (fp : List Addr), DE W0 (X.blk s H scope (compEnvC scope cl C X.env) fp) K elt te)
    (his : ∀ i ∈ is, i ∈ own.map (·.2) := by decide) (hs : ∀ x, foldedSetIterable iter X.env x = pure x := by intro _; rfl) :
    DSt W X K (.Assign [.Name y py] (.ListComp elt [⟨tg, iter, ifs, 0⟩] scope pos) spos) (dSet i (dLcO di gd tt te (own.map (·.2)))) := by
  obtain ⟨wi, p, k⟩ := hi
  refine ⟨_, ps_setLc hc hN hy hyl hsw p ok hg (fun s H C cl fp => (ht s H C cl fp).ps) (fun s H C cl fp => (he s H C cl fp).pe) hs, fun D DD σ H J ω ρ w s cs z => lcO_run (q := fun r ω1 => DD.nx (ρ.set i (some r)) ω1) k his w s (fun d ω1 v J1 H1 z1 g1 w1 rp => ?_) (cs.x s) z⟩
  exact cs.nx _ _ _ _ _ z1 g1 w1 ((s.mono g1.jj).set i rp)
end
end Tx

namespace Tx
open PySem PySem.Spec PyProof.Rows L2
/-! ## for over lists of one's own; things that are read for one expression; new lists as lists of one's own -/
def dForP (di : DTIo) (gd : DTG) (tb : DTS) (D : DEnds) (ρ : DS) (ω : Wd) : Prop := di ρ ω (fun xs P ω1 => ∃ Inv : Nat → DS → Wd → Prop, Inv 0 ρ ω1 ∧ (∀ i ρ' ω', Inv i ρ' ω' → P ω') ∧
  (∀ i x ρ' ω', xs[i]? = some x → Inv i ρ' ω' → gd x ρ' fun ρ'' => tb { D with nx := Inv (i + 1), ct := Inv (i + 1), bk := D.nx } ρ'' ω') ∧ ∀ ρ' ω', Inv xs.length ρ' ω' → D.nx ρ' ω') (xcOf D ρ)
theorem ds_forP {W : WX} {X : Cx} {K : PySem.W.Frag} {tg iter : Expr} {body : List Stmt} {pos : Pos} {di : DTIo} {gd : DTG} {is : List Nat} {t : DTS} (hp : PassesOwn (model X.prog X.w) X.A X.env X.xe) (hc : X.calm = true) (hi : DIo W X K tg iter di) (hg : DG X K tg is gd) (hb : DSs W X K body t) (hs : ∀ x, foldedSetIterable iter X.env x = pure x := by intro _; rfl) :
    DSt W X K (.For tg iter body [] pos) (dForP di gd t) := by
  obtain ⟨wi, pi, ki⟩ := hi
  obtain ⟨rb, pb, kb⟩ := hb
  refine ⟨_, ps_for hp hc pi hg pb hs, fun D DD σ H J ω ρ w s cs z => ki σ H J ω ρ _ _ _ w s (fun xs P ω1 J1 H1 I z1 g1 w1 wd => ?_) (cs.x s) z⟩
  obtain ⟨Inv, i0, hP, step, fin⟩ := z1
  obtain ⟨G, Y, wk, hG, hY⟩ := wd
  have cs1 := cs.step g1
  refine for_it wk (fun i σ' H' => ∃ J' ρ' ω', Grow J1 H1 ω1 J' H' ω' ∧ Rw K J' H' ω' ∧ Sl K J' σ' ρ' ∧ Inv i ρ' ω') ⟨J1, ρ, ω1, Grow.refl, w1, s.mono g1.jj, i0⟩ ?_ ?_ ?_
  · rintro i σ' H' _ ⟨J', ρ', ω', g, w', _, inv⟩
    exact hG J' H' ω' g.jj w' (hP i ρ' ω' inv)
  · rintro i v σ2 H2 H2' hi ⟨J2, ρ2, ω2, g2, w2, s2, inv⟩ y
    have go : ∀ (d : PyData) (J3 H3 : Hp), xs[i]? = some d → Grow J2 H2 ω2 J3 H3 ω2 → Rw K J3 H3 ω2 → Rp K J3 v d → liftG K is gd v σ2 H3 fun σ2 H2 => rb { D with nx := fun σ' H' => ∃ J' ρ' ω', Grow J1 H1 ω1 J' H' ω' ∧ Rw K J' H' ω' ∧ Sl K J' σ' ρ' ∧ Inv (i + 1) ρ' ω', ct := fun σ' H' => ∃ J' ρ' ω', Grow J1 H1 ω1 J' H' ω' ∧ Rw K J' H' ω' ∧ Sl K J' σ' ρ' ∧ Inv (i + 1) ρ' ω', bk := D.nx } σ2 H2 := by
      intro d J3 H3 e3 g3 w3 r3
      refine ⟨J3, ω2, ρ2, d, _, w3, s2.mono g3.jj, r3, fun ρ' σ' z4 s4 _ => ?_, step i d ρ2 ω2 e3 inv⟩
      have g := g2.trans g3
      have cs3 := cs1.step g
      exact kb _ { DD with nx := Inv (i + 1), ct := Inv (i + 1), bk := DD.nx } σ' H3 J3 ω2 ρ' w3 s4 ⟨fun ρ5 ω5 σ5 J5 H5 z5 g5 w5 s5 => ⟨J5, ρ5, ω5, g.trans g5, w5, s5, z5⟩, cs3.nx, fun ρ5 ω5 σ5 J5 H5 z5 g5 w5 s5 => ⟨J5, ρ5, ω5, g.trans g5, w5, s5, z5⟩, cs3.rt, cs3.xc⟩ z4
    rcases hY i H2 v H2' J2 ω2 hi g2.jj w2 (hP i ρ2 ω2 inv) y with ⟨rfl, d, e1, e2⟩ | ⟨T, us2, ds, rfl, hT, rfl, e1, e2⟩
    · exact go d J2 _ e1 Grow.refl w2 e2
    · exact go (.tuple ds) _ _ e2 (Grow.frz w2 hT _) (w2.frz hT _) (.tup (SqT.of upd_same) (rpAll_mono (same_new (w2.jh.free hT) _) _ _ e1))
  · rintro σ2 H2 ⟨J2, ρ2, ω2, g2, w2, s2, inv⟩
    exact cs1.nx _ _ _ _ _ (fin ρ2 ω2 inv) g2 w2 s2
/-- zip of two lists of one's own -/
def zipO (xs ys : List PyData) : List PyData := List.zipWith (fun x y => .tuple [x, y]) xs ys
def dioZipO (ta : DTA) (ρ : DS) (ω : Wd) (k : List PyData → (Wd → Prop) → Wd → Prop) (x : DXK) : Prop := ta ρ ω (fun rs ω1 => ∃ a b xs ys, rs = [refD a, refD b] ∧ ω1 a = some (.lst xs) ∧ ω1 b = some (.lst ys) ∧ xs.length = ys.length ∧ k (zipO xs ys) (fun ω' => ω' a = some (.lst xs) ∧ ω' b = some (.lst ys)) ω1) x
theorem walk_zipO {K : PySem.W.Frag} {a b : Addr} {n : Nat} : Walk (Itz K a b) n (fun H => ∃ vs us, H a = some (.lst vs) ∧ H b = some (.lst us) ∧ vs.length = n ∧ us.length = n) (fun i H v H' => ∃ T x y, v = .ref T ∧ H T = none ∧ H' = upd H T (.tup [x, y]) ∧ (∀ vs, H a = some (.lst vs) → vs[i]? = some x) ∧ ∀ us, H b = some (.lst us) → us[i]? = some y) := by
  refine ⟨fun i H hi ⟨vs, us, e, e2, l, l2⟩ => ?_, fun H ⟨vs, us, e, e2, l, l2⟩ => ⟨vs, us, SqL.of e, SqL.of e2, by omega⟩, fun i H v H' hi _ y => ?_⟩
  · have h1 : i < vs.length := by omega
    have h2 : i < us.length := by omega
    exact ⟨vs, us, vs[i], us[i], SqL.of e, SqL.of e2, List.getElem?_eq_getElem h1, List.getElem?_eq_getElem h2⟩
  · obtain ⟨T, x, y, h1, h2, h3, h4, h5⟩ := y
    exact ⟨T, x, y, h1, h2, h3, fun vs e => h4 vs (SqL.of e), fun us e => h5 us (SqL.of e)⟩
theorem walkP_zipO {K : PySem.W.Frag} {J : Hp} {a b : Addr} {xs ys : List PyData} (hl : xs.length = ys.length) : WalkP K J (Itz K a b) (zipO xs ys) (fun ω => ω a = some (.lst xs) ∧ ω b = some (.lst ys)) := by
  have el : (zipO xs ys).length = xs.length := by unfold zipO; rw [List.length_zipWith]; omega
  refine ⟨_, _, walk_zipO, fun J' H' ω' _ r p => ?_, fun i H v H' J' ω' hi _ r p y => .inr ?_⟩
  · obtain ⟨vs, e, ra⟩ := r.cell a _ p.1
    obtain ⟨us, e2, ra2⟩ := r.cell b _ p.2
    exact ⟨vs, us, e, e2, by rw [el]; exact ra.length, by rw [el, hl]; exact ra2.length⟩
  · obtain ⟨T, x, y, e1, e2, e3, e4, e5⟩ := y
    obtain ⟨vs, e, ra⟩ := r.cell a _ p.1
    obtain ⟨us, f, rb⟩ := r.cell b _ p.2
    obtain ⟨d, e6, e7⟩ := ra.get (e4 vs e)
    obtain ⟨d2, f6, f7⟩ := rb.get (e5 us f)
    exact ⟨T, _, [d, d2], e1, e2, e3, .cons e7 (.cons f7 .nil), by unfold zipO; rw [List.getElem?_zipWith, e6, f6]⟩
theorem dio_zipO {W : WX} {X : Cx} {K : PySem.W.Frag} {tA : DTA} {e e2 : Expr} {p pos tpos : Pos} {elts : List Expr} {kk : Nat} (hK : X.K = K) (hg : Gl X "zip") (hm : X.mg "zip" = none) (ha : DAs W X K [e, e2] tA)
    (hs : starEach [e, e2] X.env = (false, eval e X.env) :: starEach [e2] X.env := by rfl) (hpl : (backTo pos (starEach [e2] X.env)).any (·.1) = false := by rfl) :
    DIo W X K (.Tuple elts kk tpos) (.Call (.Name "zip" p) [e, e2] [] pos) (dioZipO tA) := by
  subst hK
  obtain ⟨t, pp, k⟩ := ha
  refine ⟨_, pi_zip hg hm pp hs hpl, fun σ H J ω ρ kk x R w s c cx z => k σ H J ω ρ _ x _ w s (fun rs ω1 vs J1 H1 z1 g1 w1 rps => ?_) cx z⟩
  obtain ⟨a, b, xs, ys, rfl, e1, e2, hl, z1⟩ := z1
  cases rps with
  | cons r1 r2 =>
  cases r2 with
  | cons r2 r3 =>
  cases r3
  obtain rfl := rp_ref r1
  obtain rfl := rp_ref r2
  obtain ⟨vs, f1, _⟩ := w1.cell a _ e1
  obtain ⟨us, f2, _⟩ := w1.cell b _ e2
  exact ⟨a, b, _, _, rfl, SqL.of f1, SqL.of f2, c _ _ _ _ _ _ z1 g1 w1 (walkP_zipO hl)⟩
end Tx

namespace Tx
open PySem PySem.Spec PyProof.Rows L2
/-! ## while over data -/
theorem ds_while {W : WX} {X : Cx} {K : PySem.W.Frag} {c : Expr} {body : List Stmt} {pos : Pos} {dc : DTT} {t : DTS} (hp : PassesOwn (model X.prog X.w) X.A X.env X.xe) (hc : DT W X K c dc) (hb : DSs W X K body t) : DSt W X K (.While c body [] pos) (dWhile dc t) := by
  obtain ⟨rc, pc, kc⟩ := hc
  obtain ⟨rb, pb, kb⟩ := hb
  refine ⟨_, ps_while hp pc pb, fun D DD σ H J ω ρ w s cs z => ?_⟩
  obtain ⟨Inv, ⟨m, i0⟩, step⟩ := z
  refine ⟨fun n σ' H' => ∃ J' ρ' ω', Grow J H ω J' H' ω' ∧ Rw K J' H' ω' ∧ Sl K J' σ' ρ' ∧ Inv n ρ' ω', ⟨m, J, ρ, ω, Grow.refl, w, s, i0⟩, ?_⟩
  rintro n σ1 H1 ⟨J1, ρ1, ω1, g1, w1, s1, inv⟩
  have cs1 := cs.step g1
  refine kc σ1 H1 J1 ω1 ρ1 _ _ _ w1 s1 (fun b ω2 J2 H2 z2 g2 w2 => ?_) (cs1.x s1) (step n ρ1 ω1 inv)
  have cs2 := cs1.step g2
  cases b with
  | true =>
    refine iteT ⟨fun σ' H' => ∃ n', n' < n ∧ ∃ J' ρ' ω', Grow J H ω J' H' ω' ∧ Rw K J' H' ω' ∧ Sl K J' σ' ρ' ∧ Inv n' ρ' ω', fun σ' H' h => h, ?_⟩
    exact kb _ { DD with nx := fun ρ2 ω2 => ∃ m', m' < n ∧ Inv m' ρ2 ω2, ct := fun ρ2 ω2 => ∃ m', m' < n ∧ Inv m' ρ2 ω2, bk := DD.nx } σ1 H2 J2 ω2 ρ1 w2 (s1.mono g2.jj)
      ⟨fun ρ5 ω5 σ5 J5 H5 ⟨m', hm, z5⟩ g5 w5 s5 => ⟨m', hm, J5, ρ5, ω5, (g1.trans g2).trans g5, w5, s5, z5⟩, cs2.nx, fun ρ5 ω5 σ5 J5 H5 ⟨m', hm, z5⟩ g5 w5 s5 => ⟨m', hm, J5, ρ5, ω5, (g1.trans g2).trans g5, w5, s5, z5⟩, cs2.rt, cs2.xc⟩ z2
  | false => exact cs2.nx _ _ _ _ _ z2 Grow.refl w2 (s1.mono g2.jj)
end Tx

namespace Tx
open PySem PySem.Spec PyProof.Rows L2
/-! ## Dicts over data -/
theorem paired_map {α β γ δ : Type} {F : α → β → Prop} {G : γ → δ → Prop} {f : α → γ} {g : β → δ} (h : ∀ p q, F p q → G (f p) (g q)) : ∀ {l : List α} {m : List β}, Paired F l m → Paired G (l.map f) (m.map g)
  | _, _, .nil => .nil
  | _, _, .cons a t => .cons (h _ _ a) (paired_map h t)
section
variable {κ : Type} [DecidableEq κ]
def dval (kvs : List (κ × PyData)) (k : κ) : Option PyData := match kvs with
  | [] => none
  | p :: r => if p.1 = k then some p.2 else dval r k
def dhas (kvs : List (κ × PyData)) (k : κ) : Bool := (dval kvs k).isSome
def dput (kvs : List (κ × PyData)) (k : κ) (d : PyData) : List (κ × PyData) := if dhas kvs k = true then kvs.map fun p => if p.1 = k then (p.1, d) else p else kvs ++ [(k, d)]
variable {K : PySem.W.Frag} {J : Hp} {ws : List (κ × V)} {kvs : List (κ × PyData)} {k : κ} {v : V} {d : PyData}
theorem RpK.val (h : RpK K J ws kvs) : (∀ d, dval kvs k = some d → ∃ v, valV ws k = some v ∧ Rp K J v d) ∧ (dval kvs k = none → valV ws k = none) := by
  induction h with
  | nil => exact ⟨(fun d e => nomatch e), fun _ => rfl⟩
  | @cons p q ps qs g t ih =>
    obtain ⟨g1, g2⟩ := g
    unfold dval
    by_cases z : q.1 = k
    · rw [if_pos z]
      exact ⟨fun d e => ⟨p.2, valV_pos (g1.trans z), by cases e; exact g2⟩, (fun e => nomatch e)⟩
    · rw [if_neg z, valV_neg (fun y => z (g1.symm.trans y))]
      exact ih
theorem RpK.isSome (h : RpK K J ws kvs) : (valV ws k).isSome = dhas kvs k := by
  unfold dhas
  cases e : dval kvs k with
  | none => rw [h.val.2 e]; rfl
  | some d => obtain ⟨v, e2, _⟩ := h.val.1 d e; rw [e2]; rfl
theorem RpK.put (h : RpK K J ws kvs) (r : Rp K J v d) : RpK K J (putK ws k v) (dput kvs k d) := by
  unfold putK dput
  rw [valV_any, h.isSome]
  split
  · refine paired_map (fun p q g => ?_) h
    obtain ⟨g1, g2⟩ := g
    by_cases z : q.1 = k
    · rw [if_pos z, if_pos (g1.trans z)]; exact ⟨g1, r⟩
    · rw [if_neg z, if_neg (fun y => z (g1.symm.trans y))]; exact ⟨g1, g2⟩
  · exact Paired.snoc h ⟨rfl, r⟩
theorem RpK.length (h : RpK K J ws kvs) : ws.length = kvs.length := Paired.length h
end
def unKey : PyData → Option Key
  | .int i => some (.inl i)
  | .str x => some (.inr x)
  | _ => none
def unPs : List (PyData × PyData) → Option (List (Key × PyData))
  | [] => some []
  | (e, d) :: r => match unKey e, unPs r with
    | some k, some t => some ((k, d) :: t)
    | _, _ => none
/-- a dict that is read: a cell, or data -/
def rdk (ω : Wd) : PyData → Option (List (Key × PyData))
  | .dict [(.int i, .none)] => match ω i.toNat with
    | some (.dk kvs) => some kvs
    | _ => none
  | .dict [(.int _, .dict ps)] => unPs ps
  | _ => none
theorem rdk_cell {ω : Wd} {a : Addr} {kvs : List (Key × PyData)} (h : ω a = some (.dk kvs)) : rdk ω (refD a) = some kvs := by
  show (match ω (((a : Nat) : Int).toNat) with | some (.dk kvs) => some kvs | _ => none) = _
  rw [Int.toNat_natCast, h]
section
variable {K : PySem.W.Frag} {J H : Hp} {ω : Wd} {v : V} {d : PyData} {kvs : List (Key × PyData)} {k : Key}
theorem rp_key (r : Rp K J v d) (e : unKey d = some k) : v = kV k := by
  cases r with
  | int i => cases e; rfl
  | str x => cases e; rfl
  | _ => cases e
theorem rpP_dk : ∀ {ws : List (Key × V)} {ps : List (PyData × PyData)} {kvs : List (Key × PyData)}, RpP K J (ws.map fun q => (kV q.1, q.2)) ps → unPs ps = some kvs → RpK K J ws kvs
  | [], _, _, h, e => by cases h; cases e; exact .nil
  | w :: ws, _, _, h, e => by
    cases h with
    | @cons _ _ _ e1 d1 ds h1 h2 h3 =>
    unfold unPs at e
    split at e
    · rename_i k t ek et
      cases e
      exact .cons ⟨kV_inj (rp_key h1 ek), h2⟩ (rpP_dk h3 et)
    · cases e
theorem rp_dk (w : Rw K J H ω) (h : Rp K J v d) (e : rdk ω d = some kvs) : ∃ a ws, v = .ref a ∧ H a = some (.dK ws) ∧ RpK K J ws kvs := by
  cases h with
  | non => cases e
  | bl b => cases e
  | int i => cases e
  | str x => cases e
  | lst hs ha => cases e
  | tup hs ha => cases e
  | scr hs => cases e
  | pub _ => cases e
  | obj _ _ => cases e
  | dic h1 h2 => exact ⟨_, _, rfl, w.jh _ _ h1, rpP_dk h2 e⟩
  | ref a =>
    have e2 : (match ω (((a : Nat) : Int).toNat) with | some (.dk kvs) => some kvs | _ => none) = some kvs := e
    rw [Int.toNat_natCast] at e2
    split at e2
    · rename_i ds q
      cases e2
      obtain ⟨ws, h1, h2⟩ := w.cell a _ q
      exact ⟨a, ws, rfl, h1, h2⟩
    · cases e2
end
/-! ### what is asked of a dict -/
def dkGet : RD2 := fun d y ω Q => ∃ kvs k v, rdk ω d = some kvs ∧ unKey y = some k ∧ dval kvs k = some v ∧ Q v
def dkIn : RD2 := fun y d ω Q => ∃ kvs k, rdk ω d = some kvs ∧ unKey y = some k ∧ Q (.bool (dhas kvs k))
def dkNin : RD2 := fun y d ω Q => ∃ kvs k, rdk ω d = some kvs ∧ unKey y = some k ∧ Q (.bool (!dhas kvs k))
def listDk : RD1 := fun xs ω Q => ∃ d kvs, xs = [d] ∧ rdk ω d = some kvs ∧ Q (.list (kvs.map fun p => keyD p.1))
def dDNew (_ : DS) (ω : Wd) (q : DQ) (_ : DXK) : Prop := ∀ a, ω a = none → q (refD a) (updW ω a (.dk []))
def dGet2 (to ty tz : DTE) (ρ : DS) (ω : Wd) (q : DQ) (x : DXK) : Prop := to ρ ω (fun o ω1 => (∃ kvs, rdk ω1 o = some kvs) ∧ ty ρ ω1 (fun y ω2 => tz ρ ω2 (fun z ω3 => ∃ kvs k, rdk ω3 o = some kvs ∧ unKey y = some k ∧ q ((dval kvs k).getD z) ω3) x) x) x
def dSetd (to ty tz : DTE) (ρ : DS) (ω : Wd) (q : DQ) (x : DXK) : Prop := to ρ ω (fun o ω1 => (∃ kvs, rdk ω1 o = some kvs) ∧ ty ρ ω1 (fun y ω2 => tz ρ ω2 (fun z ω3 => ∃ a kvs k, o = refD a ∧ ω3 a = some (.dk kvs) ∧ unKey y = some k ∧ kvs.length < sizeLine ∧ (∀ d, dval kvs k = some d → q d ω3) ∧ (dval kvs k = none → q z (updW ω3 a (.dk (dput kvs k z))))) x) x) x
def dDPut (to ty te : DTE) (D : DEnds) (ρ : DS) (ω : Wd) : Prop := te ρ ω (fun v ω1 => to ρ ω1 (fun o ω2 => ty ρ ω2 (fun y ω3 => ∃ a kvs k, o = refD a ∧ ω3 a = some (.dk kvs) ∧ unKey y = some k ∧ kvs.length < sizeLine ∧ D.nx ρ (updW ω3 a (.dk (dput kvs k v)))) (xcOf D ρ)) (xcOf D ρ)) (xcOf D ρ)
section
variable {W : WX} {X : Cx} {K : PySem.W.Frag} {a b e f o : Expr} {ta tb te tf to : DTE} {pos pos' apos cpos : Pos}
theorem de_dnew : DE W X K (.Dict [] [] pos) dDNew := ⟨_, pe_dnewK, fun σ H J ω ρ q x Q w s cq cx z p hp => cq _ _ _ _ _ (z p (w.free hp).1) (Grow.own rfl hp _) (w.own rfl hp ⟨[], upd_same, .nil⟩) (.ref p)⟩
theorem de_dget (hK : X.K = K) (hu : X.A.units + 1 < cLine) (ha : DE W X K a ta) (hb : DE W X K b tb) (hs : NoSl b) : DE W X K (.Subscript a b pos) (dOp dkGet ta tb) := by
  subst hK
  obtain ⟨ra, pa, ka⟩ := ha
  obtain ⟨rb, pb, kb⟩ := hb
  refine ⟨_, pe_dget hu pa pb hs, fun σ H J ω ρ q x Q w s cq cx z => ka σ H J ω ρ _ x _ w s (fun a1 ω1 v J1 H1 z1 g1 w1 r1 => ?_) cx z⟩
  refine kb σ H1 J1 ω1 ρ _ x _ w1 (s.mono g1.jj) (fun b1 ω2 u J2 H2 z2 g2 w2 r2 => ?_) (cx.step g1) z1
  obtain ⟨kvs, k, d, e1, e2, e3, z2⟩ := z2
  obtain ⟨ad, ws, rfl, e4, rk⟩ := rp_dk w2 (rp_mono g2.jj _ _ r1) e1
  obtain ⟨v, e5, rv⟩ := rk.val.1 d e3
  obtain rfl := rp_key r2 e2
  exact ⟨ad, v, rfl, by rw [← e5]; exact DGet.k e4, ((cq.step g1).step g2).now w2 z2 rv⟩
theorem do_inD (hK : X.K = K) (hu : X.A.units + 1 < cLine) : OpR X (compareOp .In) (lift2 K dkIn) := by
  subst hK
  intro pins s σ H x y v u Q I rx ry ⟨J, ω, dx, dy, q, w, r1, r2, cq, kvs, k, e1, e2, z⟩
  obtain ⟨ad, ws, rfl, e4, rk⟩ := rp_dk w r2 e1
  obtain rfl := rp_key r1 e2
  obtain rfl : u = Value.ref ad := ry
  refine d_in hu I (DGet.k e4) rx fun s' I' => ⟨.bl _, H, I', rfl, ?_⟩
  rw [rk.isSome]
  exact cq.now w z (.bl _)
theorem do_ninD (hK : X.K = K) (hu : X.A.units + 1 < cLine) : OpR X (compareOp .NotIn) (lift2 K dkNin) := by
  subst hK
  intro pins s σ H x y v u Q I rx ry ⟨J, ω, dx, dy, q, w, r1, r2, cq, kvs, k, e1, e2, z⟩
  obtain ⟨ad, ws, rfl, e4, rk⟩ := rp_dk w r2 e1
  obtain rfl := rp_key r1 e2
  obtain rfl : u = Value.ref ad := ry
  refine d_notIn hu I (DGet.k e4) rx fun s' I' => ⟨.bl _, H, I', rfl, ?_⟩
  rw [rk.isSome]
  exact cq.now w z (.bl _)
theorem rpAll_keys {J : Hp} {κ : List (Key × V)} {kvs : List (Key × PyData)} (h : RpK K J κ kvs) : RpAll K J (κ.map fun p => kV p.1) (kvs.map fun p => keyD p.1) := by
  induction h with
  | nil => exact .nil
  | @cons p q ps qs g t ih =>
    rw [List.map_cons, List.map_cons]
    refine .cons ?_ ih
    rw [g.1]
    cases q.1 with
    | inl i => exact .int i
    | inr x => exact .str x
theorem dc_listDk (hK : X.K = K) (hc : X.calm = true) : CallR X (.type "list") (liftA K listDk) := by
  subst hK
  intro pins s σ H xs us Q I rel ⟨J, ω, ds, q, w, rs, cq, d, kvs, e, e1, z⟩
  subst e
  cases rs with
  | cons r1 r2 =>
  cases r2
  obtain ⟨ad, ws, rfl, e4, rk⟩ := rp_dk w r1 e1
  exact call_list_dK hc pins s σ H _ us Q I rel ⟨ad, ws, rfl, e4, fun p hp => cq.newL w z (rpAll_keys rk) hp⟩
theorem de_dget2 (hK : X.K = K) (hu : X.A.units + 1 < cLine) (ho : DE W X K o to) (he : DE W X K e te) (hf : DE W X K f tf) (m : M2 X o "get" apos e f cpos) : DE W X K (.Call (.Attribute o "get" apos) [e, f] [] cpos) (dGet2 to te tf) := by
  subst hK
  obtain ⟨ro, po, ko⟩ := ho
  obtain ⟨re, pe, ke⟩ := he
  obtain ⟨rf, pf, kf⟩ := hf
  refine ⟨_, pe_dget2 hu po pe pf m, fun σ H J ω ρ q x Q w s cq cx z => ko σ H J ω ρ _ x _ w s (fun a1 ω1 v J1 H1 z1 g1 w1 r1 => ?_) cx z⟩
  obtain ⟨⟨kvs0, e0⟩, z1⟩ := z1
  obtain ⟨ad, ws0, rfl, e00, _⟩ := rp_dk w1 r1 e0
  refine ⟨ad, rfl, .inl ⟨ws0, .inl e00⟩, ke σ H1 J1 ω1 ρ _ x _ w1 (s.mono g1.jj) (fun b1 ω2 u J2 H2 z2 g2 w2 r2 => ?_) (cx.step g1) z1⟩
  refine kf σ H2 J2 ω2 ρ _ x _ w2 (s.mono (g1.trans g2).jj) (fun b3 ω3 u3 J3 H3 z3 g3 w3 r3 => ?_) (cx.step (g1.trans g2)) z2
  obtain ⟨kvs, k, e1, e2, z3⟩ := z3
  obtain ⟨ad', ws, eq, e4, rk⟩ := rp_dk w3 (rp_mono (g2.trans g3).jj _ _ r1) e1
  cases eq
  obtain rfl := rp_key r2 e2
  refine ⟨valV ws k, DGet.k e4, ?_⟩
  have cq3 := cq.step ((g1.trans g2).trans g3)
  cases ev : dval kvs k with
  | none => rw [rk.val.2 ev]; rw [ev] at z3; exact cq3.now w3 z3 r3
  | some d =>
    obtain ⟨v, e5, rv⟩ := rk.val.1 d ev
    rw [e5]; rw [ev] at z3; exact cq3.now w3 z3 rv
theorem de_dsetd (hK : X.K = K) (ho : DE W X K o to) (he : DE W X K e te) (hf : DE W X K f tf) (m : M2 X o "setdefault" apos e f cpos) : DE W X K (.Call (.Attribute o "setdefault" apos) [e, f] [] cpos) (dSetd to te tf) := by
  subst hK
  obtain ⟨ro, po, ko⟩ := ho
  obtain ⟨re, pe, ke⟩ := he
  obtain ⟨rf, pf, kf⟩ := hf
  refine ⟨_, pe_dsetd po pe pf m, fun σ H J ω ρ q x Q w s cq cx z => ko σ H J ω ρ _ x _ w s (fun a1 ω1 v J1 H1 z1 g1 w1 r1 => ?_) cx z⟩
  obtain ⟨⟨kvs0, e0⟩, z1⟩ := z1
  obtain ⟨ad, ws0, rfl, e00, _⟩ := rp_dk w1 r1 e0
  refine ⟨ad, rfl, .inl ⟨ws0, .inl e00⟩, ke σ H1 J1 ω1 ρ _ x _ w1 (s.mono g1.jj) (fun b1 ω2 u J2 H2 z2 g2 w2 r2 => ?_) (cx.step g1) z1⟩
  refine kf σ H2 J2 ω2 ρ _ x _ w2 (s.mono (g1.trans g2).jj) (fun b3 ω3 u3 J3 H3 z3 g3 w3 r3 => ?_) (cx.step (g1.trans g2)) z2
  obtain ⟨a, kvs, k, rfl, e1, e2, hl, zs, zn⟩ := z3
  obtain rfl : ad = a := by have := rp_ref r1; cases this; rfl
  obtain ⟨ws, e4, rk⟩ := w3.cell _ _ e1
  obtain rfl := rp_key r2 e2
  have g := (g1.trans g2).trans g3
  refine ⟨ws, k, e4, rfl, by rw [rk.length]; exact hl, fun v ev => ?_, fun ev => ?_⟩
  · cases q1 : dval kvs k with
    | none => rw [rk.val.2 q1] at ev; cases ev
    | some d =>
      obtain ⟨v', e5, rv⟩ := rk.val.1 d q1
      rw [e5] at ev
      cases ev
      exact (cq.step g).now w3 (zs d q1) rv
  · cases q1 : dval kvs k with
    | some d => obtain ⟨v', e5, rv⟩ := rk.val.1 d q1; rw [e5] at ev; cases ev
    | none => exact cq _ _ _ _ _ (zn q1) (g.trans (Grow.set e1 rfl _)) (w3.set e1 rfl ⟨_, upd_same, rk.put r3⟩) r3
theorem ds_dput (hK : X.K = K) (hu : X.A.units + 1 < cLine) (ho : DE W X K o to) (hi : DE W X K b tb) (he : DE W X K e te) (hs : swapsWith e (some (.Subscript o b pos')) pos.line X.env = pure false := by rfl) : DSt W X K (.Assign [.Subscript o b pos'] e pos) (dDPut to tb te) := by
  subst hK
  obtain ⟨ro, po, ko⟩ := ho
  obtain ⟨rb, pb, kb⟩ := hi
  obtain ⟨re, pe, ke⟩ := he
  refine ⟨_, ps_dput hu po pb pe hs, fun D DD σ H J ω ρ w s cs z => ke σ H J ω ρ _ _ _ w s (fun r ω1 v J1 H1 z1 g1 w1 rp => ?_) (cs.x s) z⟩
  refine ko σ H1 J1 ω1 ρ _ _ _ w1 (s.mono g1.jj) (fun r2 ω2 v2 J2 H2 z2 g2 w2 rp2 => ?_) ((cs.x s).step g1) z1
  refine kb σ H2 J2 ω2 ρ _ _ _ w2 (s.mono (g1.trans g2).jj) (fun r3 ω3 v3 J3 H3 z3 g3 w3 rp3 => ?_) ((cs.x s).step (g1.trans g2)) z2
  obtain ⟨a, kvs, k, rfl, e1, e2, hl, z3⟩ := z3
  obtain rfl := rp_ref rp2
  obtain rfl := rp_key rp3 e2
  obtain ⟨ws, e4, rk⟩ := w3.cell _ _ e1
  have g := (g1.trans g2).trans g3
  exact ⟨a, _, rfl, DPut.k e4 (by rw [rk.length]; exact hl), cs.nx _ _ _ _ _ z3 (g.trans (Grow.set e1 rfl _)) (w3.set e1 rfl ⟨_, upd_same, rk.put (rp_mono (g2.trans g3).jj _ _ rp)⟩) (s.mono g.jj)⟩
end
/-! ### o.f op= e -/
def dFldAug (K : PySem.W.Frag) (to te : DTE) (rd : RD2) (f : Str) (D : DEnds) (ρ : DS) (ω : Wd) : Prop := to ρ ω (fun o ω1 => ∃ a C dx fs v, o = refD a ∧ ω1 a = some (.ins C dx fs) ∧ Cls K C ∧ NoAttr K C f ∧ fs.lookup f = some v ∧
  te ρ ω1 (fun r ω2 => rd v r ω2 fun z => ∃ dx' fs', ω2 a = some (.ins C dx' fs') ∧ fs'.length < 1000 ∧ D.nx ρ (updW ω2 a (.ins C dx' (putD f z fs')))) (xcOf D ρ)) (xcOf D ρ)
theorem ds_fldaug {W : WX} {X : Cx} {K : PySem.W.Frag} {e o : Expr} {te to : DTE} {rd : RD2} {f : Str} {op : Operator} {pos tpos : Pos} (hK : X.K = K) (ho : DE W X K o to) (he : DE W X K e te) (hop : OpR X (inplaceOp op) (lift2 K rd)) : DSt W X K (.AugAssign (.Attribute o f tpos) op e pos) (dFldAug K to te rd f) := by
  subst hK
  obtain ⟨ro, po, ko⟩ := ho
  obtain ⟨re, pe, ke⟩ := he
  refine ⟨_, ps_fldaug po pe hop, fun D DD σ H J ω ρ w s cs z => ko σ H J ω ρ _ _ _ w s (fun r ω1 v J1 H1 z1 g1 w1 rp => ?_) (cs.x s) z⟩
  obtain ⟨a, C, dx, fs, d, rfl, e1, cl, na, l, z1⟩ := z1
  obtain rfl := rp_ref rp
  obtain ⟨gs, e2, r2⟩ := w1.cell a _ e1
  obtain ⟨u, l2, r3⟩ := rpf_lookup r2 l
  refine ⟨a, C, dx, gs, u, rfl, e2, cl, na, l2, ke σ H1 J1 ω1 ρ _ _ _ w1 (s.mono g1.jj) (fun r4 ω2 v2 J2 H2 z2 g2 w2 rp2 => ?_) ((cs.x s).step g1) z1⟩
  have g := g1.trans g2
  refine ⟨J2, ω2, d, r4, fun z ω' => ω' = ω2 ∧ ∃ dx' fs', ω2 a = some (.ins C dx' fs') ∧ fs'.length < 1000 ∧ DD.nx ρ (updW ω2 a (.ins C dx' (putD f z fs'))), w2, rp_mono g2.jj _ _ r3, rp2, fun r5 ω3 v3 J3 H3 z3 g3 w3 rp3 => ?_, ?_⟩
  · obtain ⟨rfl, dx', fs', e3, hl, z3⟩ := z3
    obtain ⟨gs', e4, r6⟩ := w3.cell a _ e3
    exact ⟨dx', gs', e4, by rw [r6.length]; exact hl, cs.nx _ _ _ _ _ z3 ((g.trans g3).trans (Grow.set e3 rfl _)) (w3.set e3 rfl ⟨_, upd_same, rpf_put rp3 r6⟩) (s.mono (g.trans g3).jj)⟩
  · have : (fun r => (fun (z : PyData) (ω' : Wd) => ω' = ω2 ∧ ∃ dx' fs', ω2 a = some (.ins C dx' fs') ∧ fs'.length < 1000 ∧ DD.nx ρ (updW ω2 a (.ins C dx' (putD f z fs')))) r ω2) = fun (z : PyData) => ∃ dx' fs', ω2 a = some (.ins C dx' fs') ∧ fs'.length < 1000 ∧ DD.nx ρ (updW ω2 a (.ins C dx' (putD f z fs'))) := by
      funext r
      exact propext ⟨fun h => h.2, fun h => ⟨rfl, h⟩⟩
    rw [this]
    exact z2
theorem do_iadd {X : Cx} {K : PySem.W.Frag} (hK : X.K = K) : OpR X (inplaceOp .Add) (lift2 K (intD (fun _ _ => True) fun i j => .int (i + j))) := do_int0 iop_add hK fun _ _ _ => .int _
end Tx

namespace Tx
open PySem PySem.Spec PyProof.Rows L2
/-! ## Further rules over data: lists that are empty, texts in tuples, one sign in a text, tuples of the text, own slices, constants of a class, split, int of a text -/
/-- a list, or another one, that is empty -/
def eqNl : RD2 := fun x y ω Q => ∃ xs, rsv ω x = .list xs ∧ rsv ω y = .list [] ∧ Q (.bool xs.isEmpty)
def neNl : RD2 := fun x y ω Q => ∃ xs, rsv ω x = .list xs ∧ rsv ω y = .list [] ∧ Q (.bool (!xs.isEmpty))
def inTx : RD2 := fun x y ω Q => ∃ (z : Str) (zs : List Str), x = .str z ∧ (rsv ω y = .list (zs.map PyData.str) ∨ rsv ω y = .tuple (zs.map PyData.str)) ∧ Q (.bool (decide (z ∈ zs)))
def ninTx : RD2 := fun x y ω Q => ∃ (z : Str) (zs : List Str), x = .str z ∧ (rsv ω y = .list (zs.map PyData.str) ∨ rsv ω y = .tuple (zs.map PyData.str)) ∧ Q (.bool (!decide (z ∈ zs)))
def inCh : RD2 := fun x y _ Q => ∃ (c : Nat) (s : Str), x = .str ⟨#[c]⟩ ∧ y = .str s ∧ Q (.bool (decide (c ∈ s.cps.toList)))
section
variable {X : Cx} {K : PySem.W.Frag}
theorem isl_of {pins : List (Addr × Obj)} {σ : L2.St} {H : Hp} {s : Shared} {a : Addr} {vs : List V} (I : L2.Inv X pins σ H s) (h : H a = some (.lst vs)) : ∃ its : List Value, Vals vs its ∧ s.heap.IsList a its.toArray := by
  obtain ⟨its, rv, p, _⟩ := I.list (SqL.of h)
  exact ⟨its, rv, p.isList⟩
theorem do_eqN (hK : X.K = K) (hu : X.A.units + 64 < cLine) : OpR X (compareOp .Eq) (lift2 K eqNl) := by
  subst hK
  intro pins s σ H x y v u Q I rx ry ⟨J, ω, dx, dy, q, w, hx, hy, c, xs, e1, e2, z⟩
  obtain ⟨a, vs, rfl, ha, ra⟩ := rp_list w hx e1
  obtain ⟨b, ws, rfl, hb, rb⟩ := rp_list w hy e2
  cases rb
  obtain rfl : v = Value.ref a := rx
  obtain rfl : u = Value.ref b := ry
  obtain ⟨its, rv, il⟩ := isl_of I ha
  obtain ⟨its2, rv2, il2⟩ := isl_of I hb
  cases rv2
  have hl := rv.length
  cases xs with
  | nil =>
    cases ra
    cases rv
    exact SeqAt.eq_listAt (e := fun _ => true) il il2 rfl (by omega) (fun j h1 => absurd h1 (Nat.not_lt_zero j)) ⟨.bl true, H, I, rfl, c.now w z (.bl _)⟩
  | cons d ds =>
    cases ra with
    | cons r1 r2 =>
    cases rv with
    | cons q1 q2 =>
    exact SeqAt.eq_list_lengthsAt il il2 (by simp) (by omega) ⟨.bl false, H, I, rfl, c.now w z (.bl _)⟩
theorem do_neN (hK : X.K = K) (hu : X.A.units + 64 < cLine) : OpR X (compareOp .NotEq) (lift2 K neNl) := by
  subst hK
  intro pins s σ H x y v u Q I rx ry ⟨J, ω, dx, dy, q, w, hx, hy, c, xs, e1, e2, z⟩
  obtain ⟨a, vs, rfl, ha, ra⟩ := rp_list w hx e1
  obtain ⟨b, ws, rfl, hb, rb⟩ := rp_list w hy e2
  cases rb
  obtain rfl : v = Value.ref a := rx
  obtain rfl : u = Value.ref b := ry
  obtain ⟨its, rv, il⟩ := isl_of I ha
  obtain ⟨its2, rv2, il2⟩ := isl_of I hb
  cases rv2
  cases xs with
  | nil =>
    cases ra
    cases rv
    exact SeqAt.RcNeAt.lists (e := fun _ => true) il il2 rfl (by omega) (fun j h1 => absurd h1 (Nat.not_lt_zero j)) _ _ _ _ ⟨.bl false, H, I, rfl, c.now w z (.bl _)⟩
  | cons d ds =>
    cases ra with
    | cons r1 r2 =>
    cases rv with
    | cons q1 q2 =>
    exact SeqAt.RcNeAt.lists_lengths il il2 (by simp) (by omega) _ _ _ _ ⟨.bl true, H, I, rfl, c.now w z (.bl _)⟩
theorem rpAll_strs {J : Hp} : ∀ {zs : List Str} {vs : List V}, RpAll K J vs (zs.map PyData.str) → vs = zs.map V.str
  | [], _, h => by cases h; rfl
  | z :: zs, _, h => by
    cases h with
    | cons h1 h2 => cases h1; rw [rpAll_strs h2]; rfl
theorem inV_strs (z : Str) : ∀ zs : List Str, L2.inV (.str z) (zs.map V.str) = decide (z ∈ zs)
  | [] => rfl
  | y :: zs => by
    have ih := inV_strs z zs
    unfold L2.inV at ih ⊢
    rw [List.map_cons, List.any_cons, ih]
    by_cases e : y = z
    · subst e; simp [L2.eqV]
    · have : ¬ z = y := fun q => e q.symm
      simp [L2.eqV, this, e]
theorem flat_strs : ∀ zs : List Str, (zs.map V.str).all L2.flatV = true
  | [] => rfl
  | y :: zs => by rw [List.map_cons, List.all_cons, flat_strs zs]; rfl
theorem do_inS (hK : X.K = K) : OpR X (compareOp .In) (lift2 K inTx) := by
  subst hK
  intro pins s σ H x y v u Q I rx ry ⟨J, ω, dx, dy, q, w, hx, hy, c, z, zs, ez, e, k⟩
  subst ez
  cases hx
  have go : ∀ (a : Addr) (vs : List V), y = .ref a → (SqL X.K H a vs ∨ SqT X.K H a vs) → RpAll X.K J vs (zs.map PyData.str) → wpAny (model X.prog X.w) X.A (compareOp .In v u) (EP X pins σ Q) X.xe s := fun a vs ey hs ra => by
    obtain rfl := rpAll_strs ra
    refine op_in_seq pins s σ H _ _ v u Q I rx ry ⟨a, _, ey, hs, rfl, flat_strs zs, ?_⟩
    rw [if_neg (by decide), inV_strs]
    exact c.now w k (.bl _)
  rcases e with e | e
  · obtain ⟨a, vs, ey, ha, ra⟩ := rp_list w hy e
    exact go a vs ey (.inl (SqL.of ha)) ra
  · obtain ⟨a, vs, ey, ha, ra, _⟩ := rp_tup w hy e
    exact go a vs ey (.inr ha) ra
theorem do_ninS (hK : X.K = K) : OpR X (compareOp .NotIn) (lift2 K ninTx) := by
  subst hK
  intro pins s σ H x y v u Q I rx ry ⟨J, ω, dx, dy, q, w, hx, hy, c, z, zs, ez, e, k⟩
  subst ez
  cases hx
  have go : ∀ (a : Addr) (vs : List V), y = .ref a → (SqL X.K H a vs ∨ SqT X.K H a vs) → RpAll X.K J vs (zs.map PyData.str) → wpAny (model X.prog X.w) X.A (compareOp .NotIn v u) (EP X pins σ Q) X.xe s := fun a vs ey hs ra => by
    obtain rfl := rpAll_strs ra
    refine op_notIn_seq pins s σ H _ _ v u Q I rx ry ⟨a, _, ey, hs, rfl, flat_strs zs, ?_⟩
    rw [if_pos rfl, inV_strs]
    exact c.now w k (.bl _)
  rcases e with e | e
  · obtain ⟨a, vs, ey, ha, ra⟩ := rp_list w hy e
    exact go a vs ey (.inl (SqL.of ha)) ra
  · obtain ⟨a, vs, ey, ha, ra, _⟩ := rp_tup w hy e
    exact go a vs ey (.inr ha) ra
theorem do_inC (hK : X.K = K) : OpR X (compareOp .In) (lift2 K inCh) := by
  subst hK
  intro pins s σ H x y v u Q I rx ry ⟨J, ω, dx, dy, q, w, hx, hy, c, ch, z, ex, ey, k⟩
  subst ex ey
  cases hx
  cases hy
  exact op_in_sign pins s σ H _ _ v u Q I rx ry ⟨ch, z, rfl, rfl, c.now w k (.bl _)⟩
end
/-! ### tuples that stand in the text -/
def ConT (K : PySem.W.Frag) (mg : Str → Option Value) (x : Str) (ds : List PyData) : Prop := ∃ a, mg x = some (.ref a) ∧ ∀ J, Rp K J (.ref a) (.tuple ds)
theorem conT_of {K : PySem.W.Frag} {mg : Str → Option Value} {h : Heap} {x : Str} {a : Addr} {zs : List Str} {o : Obj} {its : Array Value} {n : Nat} (KX : K.In h) (G : h.Ns mainGlobals mg) (e : PySem.W.nsIn K mainGlobals x = some (some (.ref a)))
    (l : K.lookup a = some o) (cl : o.cls = .type "tuple") (dt : o.data = .seq its n) (sz : its.size ≤ sizeLine) (vs : Vals (zs.map V.str) its.toList) : ConT K mg x (zs.map PyData.str) := by
  refine ⟨a, PySem.W.mg_of KX G e, fun J => .tup (.inr ⟨o, its, n, l, cl, dt, sz, vs⟩) ?_⟩
  clear vs
  induction zs with
  | nil => exact .nil
  | cons z zs ih => exact .cons (.str z) ih
theorem de_conT {W : WX} {X : Cx} {K : PySem.W.Frag} {x : Str} {ds : List PyData} {pos : Pos} (h : ConT K X.mg x ds) (gl : Gl X x) (hd : (x == ("__debug__" : Str)) = false := by decide) : DE W X K (.Name x pos) (dC (.tuple ds)) := by
  obtain ⟨a, e, r⟩ := h
  exact de_c (v := .ref a) (pe_glob (v := .ref a) gl e rfl hd) r
/-- a constant of the class, read through an instance -/
def dConI (K : PySem.W.Frag) (te : DTE) (f : Str) (v : V) (d : PyData) (ρ : DS) (ω : Wd) (q : DQ) (x : DXK) : Prop := te ρ ω (fun o ω1 => ∃ a C dx fs, o = refD a ∧ ω1 a = some (.ins C dx fs) ∧ Cls K C ∧ (∃ u, Con K C f v u) ∧ fs.lookup f = none ∧ q d ω1) x
theorem de_conI {W : WX} {X : Cx} {K : PySem.W.Frag} {e : Expr} {te : DTE} {f : Str} {v : V} {d : PyData} {pos : Pos} (hK : X.K = K) (he : DE W X K e te) (r : ∀ J, Rp K J v d) (hb : attributeBase e f X.env (eval e X.env) = eval e X.env := by rfl) : DE W X K (.Attribute e f pos) (dConI K te f v d) := by
  subst hK
  obtain ⟨t, p, k⟩ := he
  refine ⟨_, pe_con p hb, fun σ H J ω ρ q x Q w s cq cx z => k σ H J ω ρ _ x _ w s (fun o ω1 v1 J1 H1 z1 g1 w1 rp => ?_) cx z⟩
  obtain ⟨a, C, dx, fs, rfl, e1, cl, ⟨u, cn⟩, l, z1⟩ := z1
  obtain rfl := rp_ref rp
  obtain ⟨gs, e2, r2⟩ := w1.cell a _ e1
  exact ⟨a, C, dx, gs, v, u, rfl, e2, cl, cn, rpf_none r2 l, (cq.step g1).now w1 z1 (r J1)⟩
/-! ### o[i:j], a list of one's own -/
def dSlO (te : DTE) (lo hi : Option DTE) (ρ : DS) (ω : Wd) (q : DQ) (x : DXK) : Prop := te ρ ω (fun a ω1 =>
  (match lo with
    | none => fun (k : Option Int → Wd → Prop) => k none ω1
    | some tl => fun k => tl ρ ω1 (fun l ω2 => match l with
      | .int i => k (some i) ω2
      | _ => False) x) fun l ω2 =>
  (match hi with
    | none => fun (k : Option Int → Wd → Prop) => k none ω2
    | some tl => fun k => tl ρ ω2 (fun l ω3 => match l with
      | .int i => k (some i) ω3
      | _ => False) x) fun h ω3 => ∃ xs, rsv ω3 a = PyData.list xs ∧ ∀ p, ω3 p = none → q (refD p) (updW ω3 p (MO.lst (cutD xs l h)))) x
theorem de_slO {W : WX} {X : Cx} {K : PySem.W.Frag} {a : Expr} {ta : DTE} {lo hi : Option Expr} {tl th : Option DTE} {p2 pos : Pos} (hK : X.K = K) (h : DE W X K a ta) (hl : DO W X K lo tl) (hh : DO W X K hi th) : DE W X K (.Subscript a (.Slice lo hi none p2) pos) (dSlO ta tl th) := by
  subst hK
  obtain ⟨ra, pa, ka⟩ := h
  obtain ⟨rl, pl, kl⟩ := hl
  obtain ⟨rh, ph, kh⟩ := hh
  refine ⟨_, pe_slice sl_list pa pl ph, fun σ H J ω ρ q x Q w s cq cx z => ka σ H J ω ρ _ x _ w s (fun r ω1 v J1 H1 z1 g1 w1 rp => ?_) cx z⟩
  refine kl σ H1 J1 ω1 ρ _ x _ w1 (s.mono g1.jj) (fun l ω2 J2 H2 z2 g2 w2 => ?_) (cx.step g1) z1
  refine kh σ H2 J2 ω2 ρ _ x _ w2 ((s.mono g1.jj).mono g2.jj) (fun l3 ω3 J3 H3 z3 g3 w3 => ?_) ((cx.step g1).step g2) z2
  obtain ⟨xs, e, z3⟩ := z3
  obtain ⟨b, vs, rfl, hb, rb⟩ := rp_list w3 (rp_mono (g2.jj.trans g3.jj) _ _ rp) e
  exact ⟨b, vs, rfl, SqL.of hb, fun p hp => cq _ _ _ _ _ (z3 p (w3.free hp).1) (((g1.trans g2).trans g3).trans (Grow.own rfl hp _)) (w3.own rfl hp ⟨_, upd_same, rpAll_cut rb l l3⟩) (.ref p)⟩
/-! ### split, int of a text -/
def dSplit (to te : DTE) (ρ : DS) (ω : Wd) (q : DQ) (x : DXK) : Prop := to ρ ω (fun a ω1 => ∃ y, a = .str y ∧ te ρ ω1 (fun b ω2 => ∃ z, b = .str z ∧ (z.length == 0) = false ∧ y.length + 2 ≤ sizeLine ∧ q (.list ((Txt.split y z).map PyData.str)) ω2) x) x
theorem rpAll_ofStrs {K : PySem.W.Frag} {J : Hp} (zs : List Str) : RpAll K J (zs.map V.str) (zs.map PyData.str) := by
  induction zs with
  | nil => exact .nil
  | cons z zs ih => exact .cons (.str z) ih
theorem de_split {W : WX} {X : Cx} {K : PySem.W.Frag} {o e : Expr} {to te : DTE} {apos pos : Pos} (hK : X.K = K) (ho : DE W X K o to) (he : DE W X K e te) (hs : starEach [e] X.env = [(false, eval e X.env)] := by rfl) (hbase : attributeBase o "split" X.env (eval o X.env) = eval o X.env := by rfl) (hline : (apos.endLine == pos.line) = true := by rfl) :
    DE W X K (.Call (.Attribute o "split" apos) [e] [] pos) (dSplit to te) := by
  subst hK
  obtain ⟨ro, po, ko⟩ := ho
  obtain ⟨re, pe, ke⟩ := he
  refine ⟨_, pe_split po pe hs hbase hline, fun σ H J ω ρ q x Q w s cq cx z => ko σ H J ω ρ _ x _ w s (fun a ω1 v J1 H1 z1 g1 w1 r1 => ?_) cx z⟩
  obtain ⟨y, rfl, z1⟩ := z1
  cases r1
  refine ⟨⟨y, rfl⟩, ke σ H1 J1 ω1 ρ _ x _ w1 (s.mono g1.jj) (fun b ω2 u J2 H2 z2 g2 w2 r2 => ?_) (cx.step g1) z1⟩
  obtain ⟨zz, rfl, l0, l1, z2⟩ := z2
  cases r2
  exact ⟨y, zz, rfl, rfl, l0, l1, fun p hp => ((cq.step g1).step g2).newL w2 z2 (rpAll_ofStrs _) hp⟩
def intTx : RD1 := fun xs _ Q => ∃ (z : Str) (n : Int), xs = [.str z] ∧ PySem.intText? z = some n ∧ z.length ≤ 640 ∧ Q (.int n)
theorem dc_intTx {X : Cx} {K : PySem.W.Frag} (hK : X.K = K) : CallR X (.type "int") (liftA K intTx) := by
  subst hK
  intro pins s σ H xs us Q I rel ⟨J, ω, ds, q, w, rs, cq, z, n, e, e1, l, k⟩
  subst e
  cases rs with
  | cons r1 r2 =>
  cases r2
  cases r1
  exact call_int_str pins s σ H _ us Q I rel ⟨z, n, rfl, e1, l, cq.now w k (.int _)⟩
end Tx

namespace Tx
open PySem PySem.Spec PyProof.Rows L2
/-! ## Methods with a star, with defaults, by keywords; C() without arguments -/
def MVfn (P : Program) (w : World) (K : PySem.W.Frag) (mg : Str → Option Value) (base : Heap) (CX : CXT) (k : Nat) (C : Addr) (m : Str) (sp : DSp) : Prop := ∃ f, FnV P w K mg base CX k f (spV K sp) ∧ Meth K C m f
/-- a method whose last parameter has a default -/
def MDfn (P : Program) (w : World) (K : PySem.W.Frag) (mg : Str → Option Value) (base : Heap) (CX : CXT) (k : Nat) (C : Addr) (m : Str) (ps : List Str) (kw : Str) (dv : V) (sp : Sp) : Prop :=
  ∃ f fd d, FnG P w K mg base CX k f fd ps sp ∧ Meth K C m f ∧ RelV dv d ∧ Binds K fd ps [d] ∧ ∀ (s : Shared) (u1 u2 v : Value), K.In s.heap → BindsTo s fd ⟨[u1, u2], [kw].zip [v]⟩ (ps.zip [u1, u2, v])
def HasMD (K : PySem.W.Frag) (C : Addr) (m qual : Str) (st : Stmt) (dvs : List V) : Prop := ∃ f fd, FunD K m qual (defArgs st) (defBody st) (defScope st) dvs [] f fd ∧ Meth K C m f
section
variable {P : Program} {w : World} {K : PySem.W.Frag} {mg : Str → Option Value} {base : Heap} {k : Nat} {C : Addr} {m qual : Str} {N ps : List Str} {pa pv : Str} {sp : DSp} {st : Stmt}
theorem mvfnDX (h : HasM K C m qual st) (B : Bi mg) (S : FnScope N [pa, pv] (defScope st)) (bd : BindsV m qual st pa pv)
    (body : ∀ (f : Addr) (cv : Value) (A : Around) (out : List Env) (s : Shared) (H : Hp) (E : XK), Ct mg (A.deeper (envOfC qual (defScope st) s.heap.objs.size f cv)) k →
      ∃ td, DSs (fun cl d _ H => E cl d H) (cxOf (L2.CX P w) P w K mg base N qual (defScope st) f cv A out s H E) K (defBody st) td ∧ ∀ ts ω q xx, sp ts ω q xx → td (endsD q xx) (startD N ts) ω) :
    MVfn P w K mg base (L2.CX P w) (k + 1) C m sp := by
  obtain ⟨g, fd, F, mt⟩ := h
  refine ⟨g, okV (k := k) F S ?_ cx_new ?_, mt⟩
  · obtain ⟨_, _, kV, doc, pm, an, cdv, ct, _, rfl, _, _⟩ := F.ex
    exact fun u rest hl => bd kV doc pm an cdv ct u rest hl
  intro cv A out s H vs Q E room gd ask
  obtain ⟨J, ω, ts, q, xx, w, r, cq, cx, z⟩ := ask
  obtain ⟨td, ⟨t, p, kk⟩, hb⟩ := body g cv A out s H E ⟨B, room, gd⟩
  exact ⟨t, p, kk _ _ _ H J ω _ w (sl_start r) ⟨fun _ _ _ _ _ z g w _ => cq _ _ _ _ _ z g w .non, fun _ _ _ _ _ z _ _ _ => False.elim z, fun _ _ _ _ _ z _ _ _ => False.elim z, cq, fun C fs _ ω' d _ J' H' z g w _ x => cx C fs ω' d J' H' z g w x⟩ (hb ts ω q xx z)⟩
theorem mdfnDX {kw : Str} {dv : V} (h : HasMD K C m qual st [dv]) (B : Bi mg) (S : FnScope N ps (defScope st)) (len : ∀ ts ω q xx, sp ts ω q xx → ts.length = ps.length) (hl : ps.length = 3)
    (bd : ∀ (T : Addr) (kV doc pm : Value) (an : Option Addr) (cdv ct : Value) (us its : List Value), us.length = 2 → its.length = 1 →
      ∃ k, bindArgs (PySem.W.fnOf m qual (defArgs st) (defBody st) (defScope st) (.ref T) kV doc pm an cdv ct) ⟨us, []⟩ = seqItems? (.ref T) >>= k ∧ k (some its.toArray) = pure (ps.zip (us ++ its.drop 0)))
    (bk : ∀ (T : Addr) (kV doc pm : Value) (an : Option Addr) (cdv ct : Value) (u1 u2 v d : Value),
      ∃ k, bindArgs (PySem.W.fnOf m qual (defArgs st) (defBody st) (defScope st) (.ref T) kV doc pm an cdv ct) ⟨[u1, u2], [kw].zip [v]⟩ = seqItems? (.ref T) >>= k ∧ k (some [d].toArray) = pure (ps.zip [u1, u2, v]))
    (body : ∀ (f : Addr) (cv : Value) (A : Around) (out : List Env) (s : Shared) (H : Hp) (E : XK), Ct mg (A.deeper (envOfC qual (defScope st) s.heap.objs.size f cv)) k →
      ∃ td, DSs (fun cl d _ H => E cl d H) (cxOf (L2.CX P w) P w K mg base N qual (defScope st) f cv A out s H E) K (defBody st) td ∧ ∀ ts ω q xx, sp ts ω q xx → td (endsD q xx) (startD N ts) ω) :
    MDfn P w K mg base (L2.CX P w) (k + 1) C m ps kw dv (spD K sp) := by
  obtain ⟨f, fd, F, mt⟩ := h
  obtain ⟨ds, hv, hb⟩ := F.binds1 2 0 (by simp) (by rw [hl]; rfl) bd
  have ok : FnG P w K mg base (L2.CX P w) (k + 1) f fd ps (spD K sp) := okGD F S (fun vs H Q E z => by
      obtain ⟨J, ω, ts, q, xx, w, r, _, _, z⟩ := z
      rw [r.length]
      exact len _ _ _ _ z) fun cv A out s H vs Q E room gd ask => by
    obtain ⟨J, ω, ts, q, xx, w, r, cq, cx, z⟩ := ask
    obtain ⟨td, ⟨t, p, kk⟩, hb⟩ := body f cv A out s H E ⟨B, room, gd⟩
    exact ⟨t, p, kk _ _ _ H J ω _ w (sl_start r) ⟨fun _ _ _ _ _ z g w _ => cq _ _ _ _ _ z g w .non, fun _ _ _ _ _ z _ _ _ => False.elim z, fun _ _ _ _ _ z _ _ _ => False.elim z, cq, fun C fs _ ω' d _ J' H' z g w _ x => cx C fs ω' d J' H' z g w x⟩ (hb ts ω q xx z)⟩
  cases hv with
  | cons r1 r2 =>
  cases r2
  refine ⟨f, fd, _, ok, mt, r1, hb, fun s u1 u2 v X => ?_⟩
  obtain ⟨oc, od, dV, kV, doc, pm, an, cdv, ct, osl, rfl, lk, hcd, hD, hK⟩ := F.ex
  rcases hD with ⟨e, _⟩ | ⟨_, T, o, its, n, rfl, lT, oT, rT⟩
  · cases e
  · cases rT with
    | cons q1 q2 =>
    cases q2
    obtain ⟨k, e1, e2⟩ := bk T kV doc pm an cdv ct u1 u2 v _
    refine BindsTo.of_looks fun M => ?_
    rw [e1]
    exact looks_items X lT oT (.of_pure e2)
end
section
variable {X : Cx} {CX : CXT} {k : Nat} {C : Addr} {ps : List Str} {sp : DSp} {E : L2.St → XK} {x m kw : Str} {p pos apos kpos : Pos} {e e2 o : Expr} {es : List Expr} {ta te te2 : TE} {t : TA} {dv : V}
theorem pe_methV {pl : Sem Bool} (he : PE X o ta) (c : Cls X.K C) (M : MVfn X.prog X.w X.K X.mg X.base CX k C m sp) (hr : Room k X.A) (gd : X.A.guards = some []) (hx : ∀ σ, PassesAt CX X σ (E σ)) (ha : PA X (e :: es) t)
    (hst : starEach (e :: es) X.env = (false, eval e X.env) :: starEach es X.env := by rfl) (hpl : (backTo pos (starEach es X.env)).any (·.1) = false := by rfl)
    (ht : eval (.Call (.Attribute o m apos) (e :: es) [] pos) X.env = (do
      let ov ← eval o X.env
      standAt apos.atName
      let (f, first) ← holding [ov] (getMethod ov m pl)
      callWith pos f first (backTo pos (starEach (e :: es) X.env)) (backToKw pos (keywordEach [] X.env))) := by rfl) :
    PE X (.Call (.Attribute o m apos) (e :: es) [] pos) (tMethS C m (spV X.K sp) E ta t) := by
  obtain ⟨f, F, hm⟩ := M
  constructor
  intro pins s σ H Q I h
  refine PySem.W.methodCall_KW (pl := pl) (thn (he.run pins s σ H _ I h) fun u s1 ⟨x, H1, I1, rx, a, dx, fs, ex, ea, l, q⟩ => ?_) ht
  subst ex
  obtain rfl : u = Value.ref a := rx
  refine getmeth_ok I1 ea c hm l ?_
  refine PySem.W.callWith_K (first := [.ref a]) (h₀ := X.base) I.ok.mod.kin hm.kp (thn (ha.run pos pins s1 σ H1 _ I1 q) fun us s2 ⟨vs, H2, I2, r, q2⟩ => ⟨I2.kIn, ?_⟩) hst hpl
  refine wpAny_call (codeAny_mono (F.run X.A X.stack s2 H2 (.ref a :: us) (.ref a :: vs) Q (E σ) hr gd I2.env0 (.cons rfl r) q2) ?_)
  intro r s3 got
  match r, got with
  | .ok (.ret u), got => exact I2.after got
  | .ok .next, got => exact False.elim got
  | .ok .brk, got => exact False.elim got
  | .ok .cont, got => exact False.elim got
  | .error er, got => exact hx σ pins H2 s2 er s3 I2 got
/-- o.m(a): the default fills up -/
theorem pe_methD {pl : Sem Bool} {sp : Sp} (he : PE X o ta) (c : Cls X.K C) (M : MDfn X.prog X.w X.K X.mg X.base CX k C m ps kw dv sp) (hr : Room k X.A) (gd : X.A.guards = some []) (hx : ∀ σ, PassesAt CX X σ (E σ)) (ha : PA X (e :: es) t)
    (hst : starEach (e :: es) X.env = (false, eval e X.env) :: starEach es X.env := by rfl) (hpl : (backTo pos (starEach es X.env)).any (·.1) = false := by rfl)
    (ht : eval (.Call (.Attribute o m apos) (e :: es) [] pos) X.env = (do
      let ov ← eval o X.env
      standAt apos.atName
      let (f, first) ← holding [ov] (getMethod ov m pl)
      callWith pos f first (backTo pos (starEach (e :: es) X.env)) (backToKw pos (keywordEach [] X.env))) := by rfl) :
    PE X (.Call (.Attribute o m apos) (e :: es) [] pos) (tMethS C m (fun vs H Q E => sp (vs ++ [dv]) H Q E) E ta t) := by
  obtain ⟨f, fd, d, F, hm, rd, hb, _⟩ := M
  constructor
  intro pins s σ H Q I h
  refine PySem.W.methodCall_KW (pl := pl) (thn (he.run pins s σ H _ I h) fun u s1 ⟨x, H1, I1, rx, a, dx, fs, ex, ea, l, q⟩ => ?_) ht
  subst ex
  obtain rfl : u = Value.ref a := rx
  refine getmeth_ok I1 ea c hm l ?_
  refine PySem.W.callWith_K (first := [.ref a]) (h₀ := X.base) I.ok.mod.kin hm.kp (thn (ha.run pos pins s1 σ H1 _ I1 q) fun us s2 ⟨vs, H2, I2, r, q2⟩ => ⟨I2.kIn, ?_⟩) hst hpl
  have r2 : Vals (.ref a :: vs ++ [dv]) (.ref a :: us ++ [d]) := Vals.append (.cons rfl r) (.cons rd .nil)
  have hl : (Value.ref a :: us ++ [d]).length = ps.length := by rw [← r2.length]; exact F.len _ _ _ _ q2
  refine wpAny_call (codeAny_mono (F.run X.A X.stack s2 H2 ⟨.ref a :: us, []⟩ _ _ Q (E σ) hr gd I2.env0 (hb s2 (.ref a :: us) I2.kIn hl) r2 q2) ?_)
  intro r s3 got
  match r, got with
  | .ok (.ret u), got => exact I2.after got
  | .ok .next, got => exact False.elim got
  | .ok .brk, got => exact False.elim got
  | .ok .cont, got => exact False.elim got
  | .error er, got => exact hx σ pins H2 s2 er s3 I2 got
def tMethW (C : Addr) (m : Str) (sp : Sp) (E : L2.St → XK) (ta te te2 : TE) : TE := fun σ H Q => ta σ H fun x H1 => ∃ a dx fs, x = .ref a ∧ H1 a = some (.ins C dx fs) ∧ fs.lookup m = none ∧ tCons te tNil σ H1 fun vs H2 => tCons te2 tNil σ H2 fun zs H3 => ∃ v1 v2, vs = [v1] ∧ zs = [v2] ∧ sp [x, v1, v2] H3 Q (E σ)
/-- o.m(a, k = b) -/
theorem pe_methW {pl : Sem Bool} {sp : Sp} (he : PE X o ta) (c : Cls X.K C) (M : MDfn X.prog X.w X.K X.mg X.base CX k C m ps kw dv sp) (hr : Room k X.A) (gd : X.A.guards = some []) (hx : ∀ σ, PassesAt CX X σ (E σ)) (h1 : PE X e te) (h2 : PE X e2 te2)
    (hks : (backToKw pos (keywordEach [⟨some kw, e2, kpos⟩] X.env)).filterMap (·.1) = [kw] := by rfl) (hall : (backToKw pos (keywordEach [⟨some kw, e2, kpos⟩] X.env)).all (·.1.isSome) = true := by rfl)
    (hst : starEach [e] X.env = (false, eval e X.env) :: starEach [] X.env := by rfl) (hpl : ((backTo pos (starEach [e] X.env)).any (·.1) || (backToKw pos (keywordEach [⟨some kw, e2, kpos⟩] X.env)).any (·.1.isNone)) = false := by rfl)
    (ht : eval (.Call (.Attribute o m apos) [e] [⟨some kw, e2, kpos⟩] pos) X.env = (do
      let ov ← eval o X.env
      standAt apos.atName
      let (f, first) ← holding [ov] (getMethod ov m pl)
      callWith pos f first (backTo pos (starEach [e] X.env)) (backToKw pos (keywordEach [⟨some kw, e2, kpos⟩] X.env))) := by rfl) :
    PE X (.Call (.Attribute o m apos) [e] [⟨some kw, e2, kpos⟩] pos) (tMethW C m sp E ta te te2) := by
  obtain ⟨f, fd, d, F, hm, rd, _, hk⟩ := M
  constructor
  intro pins s σ H Q I h
  refine PySem.W.methodCall_KW (pl := pl) (thn (he.run pins s σ H _ I h) fun u s1 ⟨x, H1, I1, rx, a, dx, fs, ex, ea, l, q⟩ => ?_) ht
  subst ex
  obtain rfl : u = Value.ref a := rx
  refine getmeth_ok I1 ea c hm l ?_
  refine PySem.W.callWith_KW (first := [.ref a]) (h₀ := X.base) I.ok.mod.kin hm.kp hall (thn ((pa_cons h1 pa_nil hst).run pos pins s1 σ H1 _ I1 q) fun us s2 ⟨vs, H2, I2, r, q2⟩ => ?_) hpl hst
  refine thn ((pk_cons (nm := some kw) (kpos := kpos) h2 pk_nil).run pos pins s2 σ H2 _ I2 q2) fun ws s3 ⟨zs, H3, I3, rz, v1, v2, ev, ez, q3⟩ => ⟨I3.kIn, ?_⟩
  subst ev ez
  cases r with
  | @cons _ w1 _ _ r1 r2 =>
  cases r2
  cases rz with
  | @cons _ w2 _ _ r3 r4 =>
  cases r4
  rw [hks]
  refine wpAny_call (codeAny_mono (F.run X.A X.stack s3 H3 ⟨[.ref a, w1], [kw].zip [w2]⟩ [.ref a, w1, w2] [.ref a, v1, v2] Q (E σ) hr gd I3.env0 (hk s3 (.ref a) w1 w2 I3.kIn) (.cons rfl (.cons r1 (.cons r3 .nil))) q3) ?_)
  intro r s4 got
  match r, got with
  | .ok (.ret u), got => exact I3.after got
  | .ok .next, got => exact False.elim got
  | .ok .brk, got => exact False.elim got
  | .ok .cont, got => exact False.elim got
  | .error er, got => exact hx σ pins H3 s3 er s4 I3 got
/-- C() -/
def tMake0 (C : Addr) (sp : Sp) (E : L2.St → XK) : TE := fun σ H1 Q => ∀ x dx, H1 x = none → H1 dx = none → dx ≠ x →
  sp [.ref x] (upd (upd H1 dx (.own x)) x (.ins C dx [])) (fun v H2 => v = .non ∧ Q (.ref x) H2) (E σ)
theorem pe_make0 {sp : Sp} (c : ClsD X.K X.mg x C) (M : Mfn X.prog X.w X.K X.mg X.base CX k C "__init__" ps sp) (hr : Room (k + 1) X.A) (gd : X.A.guards = some []) (hg : Gl X x) (hx : ∀ σ, PassesAt CX X σ (E σ)) (hdb : (x == ("__debug__" : Str)) = false := by decide) : PE X (.Call (.Name x p) [] [] pos) (tMake0 C sp E) := by
  obtain ⟨f, fd, F, hm, hb⟩ := M
  constructor
  intro pins s σ H Q I h
  refine wpAny_Call_Name_kw (ld_glob I hg c.gC ?_ hdb)
  have hq := h (s.heap.objs.size + 1) s.heap.objs.size (I.hok.fresh (Nat.le_succ _)) (I.hok.fresh (Nat.le_refl _)) (Nat.ne_of_lt (Nat.lt_succ_self _))
  have I2 := Inv.made (C := C) I
  have r2 : Vals [V.ref (s.heap.objs.size + 1)] [Value.ref (s.heap.objs.size + 1)] := .cons rfl .nil
  have hl : ([Value.ref (s.heap.objs.size + 1)] ++ []).length = ps.length := by
    rw [List.append_nil, ← r2.length]
    exact F.len _ _ _ _ hq
  have b := hb _ [Value.ref (s.heap.objs.size + 1)] I2.kIn hl
  rw [List.append_nil] at b
  refine PySem.W.callWith_K0 (first := []) I.kIn c.kp (wpAny_call (make_map (f := f) I.kIn c.mks hm.at_ (beq_iff_eq.mp hm.fn) (codeAny_mono (F.run _ X.stack _ _ ⟨[Value.ref (s.heap.objs.size + 1)], []⟩ [Value.ref (s.heap.objs.size + 1)] _ _ (E σ) (hr.make C [] []) gd
    (I2.env0.make C [] []) b r2 hq) ?_)))
  intro r s' got
  match r, got with
  | .ok (.ret u), got =>
    obtain ⟨v, H', I3, rv, ev, q3⟩ := I2.after got
    subst ev
    exact ⟨rv, ⟨V.ref (s.heap.objs.size + 1), H', I3, rfl, q3⟩⟩
  | .ok .next, got => exact False.elim got
  | .ok .brk, got => exact False.elim got
  | .ok .cont, got => exact False.elim got
  | .error er, got => exact hx σ pins _ _ er s' I2 got
end
/-! ### over data -/
def dMethV (C : Addr) (m : Str) (sp : DSp) (to : DTE) (ta : DTA) (ρ : DS) (ω : Wd) (q : DQ) (x : DXK) : Prop := to ρ ω (fun o ω1 => ∃ a mo, o = refD a ∧ ω1 a = some mo ∧ isIns C m mo ∧ ta ρ ω1 (fun ts ω2 => ts.length ≤ 5 ∧ sp [o, .tuple ts] ω2 q x) x) x
def dMethW (C : Addr) (m : Str) (sp : DSp) (to te te2 : DTE) (ρ : DS) (ω : Wd) (q : DQ) (x : DXK) : Prop := to ρ ω (fun o ω1 => ∃ a mo, o = refD a ∧ ω1 a = some mo ∧ isIns C m mo ∧ te ρ ω1 (fun u ω2 => te2 ρ ω2 (fun v ω3 => sp [o, u, v] ω3 q x) x) x) x
def dMake0 (C : Addr) (sp : DSp) (_ : DS) (ω : Wd) (q : DQ) (x : DXK) : Prop := ∀ a dx, ω a = none → sp [refD a] (updW ω a (.ins C dx [])) (fun v ω2 => v = .none ∧ q (refD a) ω2) x
section
variable {W : WX} {X : Cx} {K : PySem.W.Frag} {CX : CXT} {j k : Nat} {C : Addr} {ps : List Str} {sp : DSp} {x m kw : Str} {p pos apos kpos : Pos} {e e2 o : Expr} {es : List Expr} {to te te2 : DTE} {tA : DTA} {dv : V} {dd : PyData}
theorem de_methV {pl : Sem Bool} (hK : X.K = K) (M : MVfn X.prog X.w X.K X.mg X.base CX j C m sp) (cl : Cls K C) (c : Ct X.mg X.A k) (h : j ≤ k) (px : PX CX X W) (ho : DE W X K o to) (args : DAs W X K (e :: es) tA)
    (hst : starEach (e :: es) X.env = (false, eval e X.env) :: starEach es X.env := by rfl) (hpl : (backTo pos (starEach es X.env)).any (·.1) = false := by rfl)
    (ht : eval (.Call (.Attribute o m apos) (e :: es) [] pos) X.env = (do
      let ov ← eval o X.env
      standAt apos.atName
      let (f, first) ← holding [ov] (getMethod ov m pl)
      callWith pos f first (backTo pos (starEach (e :: es) X.env)) (backToKw pos (keywordEach [] X.env))) := by rfl) :
    DE W X K (.Call (.Attribute o m apos) (e :: es) [] pos) (dMethV C m sp to tA) := by
  subst hK
  obtain ⟨ro, po, ko⟩ := ho
  obtain ⟨t, pp, kk⟩ := args
  refine ⟨_, pe_methV (E := fun σ cl d H => W cl d σ H) po cl M (c.r.mono h) c.g px pp hst hpl ht, fun σ H J ω ρ q x Q w s cq cx z => ko σ H J ω ρ _ x _ w s (fun r ω1 v J1 H1 z1 g1 w1 rp => ?_) cx z⟩
  obtain ⟨a, mo, rfl, e1, i, z1⟩ := z1
  obtain rfl := rp_ref rp
  obtain ⟨dx, fs, e2, l⟩ := w1.ins e1 i
  refine ⟨a, dx, fs, rfl, e2, l, kk σ H1 J1 ω1 ρ _ x _ w1 (s.mono g1.jj) (fun ts ω2 vs J2 H2 z2 g2 w2 rps => ?_) (cx.step g1) z1⟩
  refine ⟨.ref a, vs, rfl, by rw [rps.length]; exact z2.1, fun p hp => ?_⟩
  have g3 := (g1.trans g2).trans (Grow.frz w2 hp (.tup vs))
  exact ⟨_, ω2, _, q, x, w2.frz hp _, .cons (.ref a) (.cons (.tup (SqT.of upd_same) (rpAll_mono (same_new (w2.jh.free hp) _) _ _ rps)) .nil), cq.step g3, cx.step g3, z2.2⟩
theorem de_methD {pl : Sem Bool} (hK : X.K = K) (M : MDfn X.prog X.w X.K X.mg X.base CX j C m ps kw dv (spD K sp)) (hd : ∀ J, Rp K J dv dd) (cl : Cls K C) (c : Ct X.mg X.A k) (h : j ≤ k) (px : PX CX X W) (ho : DE W X K o to) (args : DAs W X K (e :: es) tA)
    (hst : starEach (e :: es) X.env = (false, eval e X.env) :: starEach es X.env := by rfl) (hpl : (backTo pos (starEach es X.env)).any (·.1) = false := by rfl)
    (ht : eval (.Call (.Attribute o m apos) (e :: es) [] pos) X.env = (do
      let ov ← eval o X.env
      standAt apos.atName
      let (f, first) ← holding [ov] (getMethod ov m pl)
      callWith pos f first (backTo pos (starEach (e :: es) X.env)) (backToKw pos (keywordEach [] X.env))) := by rfl) :
    DE W X K (.Call (.Attribute o m apos) (e :: es) [] pos) (dMeth C m (fun ts => sp (ts ++ [dd])) to tA) := by
  subst hK
  obtain ⟨ro, po, ko⟩ := ho
  obtain ⟨t, pp, kk⟩ := args
  refine ⟨_, pe_methD (E := fun σ cl d H => W cl d σ H) po cl M (c.r.mono h) c.g px pp hst hpl ht, fun σ H J ω ρ q x Q w s cq cx z => ko σ H J ω ρ _ x _ w s (fun r ω1 v J1 H1 z1 g1 w1 rp => ?_) cx z⟩
  obtain ⟨a, mo, rfl, e1, i, z1⟩ := z1
  obtain rfl := rp_ref rp
  obtain ⟨dx, fs, e2, l⟩ := w1.ins e1 i
  refine ⟨a, dx, fs, rfl, e2, l, kk σ H1 J1 ω1 ρ _ x _ w1 (s.mono g1.jj) (fun ts ω2 vs J2 H2 z2 g2 w2 rps => ?_) (cx.step g1) z1⟩
  exact ⟨J2, ω2, _, q, x, w2, (RpAll.cons (.ref a) rps).append (.one (hd J2)), (cq.step g1).step g2, (cx.step g1).step g2, z2⟩
theorem de_methW {pl : Sem Bool} (hK : X.K = K) (M : MDfn X.prog X.w X.K X.mg X.base CX j C m ps kw dv (spD K sp)) (cl : Cls K C) (c : Ct X.mg X.A k) (h : j ≤ k) (px : PX CX X W) (ho : DE W X K o to) (he : DE W X K e te) (he2 : DE W X K e2 te2)
    (hks : (backToKw pos (keywordEach [⟨some kw, e2, kpos⟩] X.env)).filterMap (·.1) = [kw] := by rfl) (hall : (backToKw pos (keywordEach [⟨some kw, e2, kpos⟩] X.env)).all (·.1.isSome) = true := by rfl)
    (hst : starEach [e] X.env = (false, eval e X.env) :: starEach [] X.env := by rfl) (hpl : ((backTo pos (starEach [e] X.env)).any (·.1) || (backToKw pos (keywordEach [⟨some kw, e2, kpos⟩] X.env)).any (·.1.isNone)) = false := by rfl)
    (ht : eval (.Call (.Attribute o m apos) [e] [⟨some kw, e2, kpos⟩] pos) X.env = (do
      let ov ← eval o X.env
      standAt apos.atName
      let (f, first) ← holding [ov] (getMethod ov m pl)
      callWith pos f first (backTo pos (starEach [e] X.env)) (backToKw pos (keywordEach [⟨some kw, e2, kpos⟩] X.env))) := by rfl) :
    DE W X K (.Call (.Attribute o m apos) [e] [⟨some kw, e2, kpos⟩] pos) (dMethW C m sp to te te2) := by
  subst hK
  obtain ⟨ro, po, ko⟩ := ho
  obtain ⟨re, pe, ke⟩ := he
  obtain ⟨rf, pf, kf⟩ := he2
  refine ⟨_, pe_methW (E := fun σ cl d H => W cl d σ H) po cl M (c.r.mono h) c.g px pe pf hks hall hst hpl ht, fun σ H J ω ρ q x Q w s cq cx z => ko σ H J ω ρ _ x _ w s (fun r ω1 v J1 H1 z1 g1 w1 rp => ?_) cx z⟩
  obtain ⟨a, mo, rfl, e1, i, z1⟩ := z1
  obtain rfl := rp_ref rp
  obtain ⟨dx, fs, e2, l⟩ := w1.ins e1 i
  refine ⟨a, dx, fs, rfl, e2, l, ke σ H1 J1 ω1 ρ _ x _ w1 (s.mono g1.jj) (fun u ω2 v2 J2 H2 z2 g2 w2 r2 => ?_) (cx.step g1) z1⟩
  refine kf σ H2 J2 ω2 ρ _ x _ w2 (s.mono (g1.trans g2).jj) (fun u3 ω3 v3 J3 H3 z3 g3 w3 r3 => ?_) (cx.step (g1.trans g2)) z2
  exact ⟨v2, v3, rfl, rfl, J3, ω3, _, q, x, w3, .cons (.ref a) (.cons (rp_mono g3.jj _ _ r2) (.cons r3 .nil)), ((cq.step g1).step g2).step g3, ((cx.step g1).step g2).step g3, z3⟩
theorem de_make0 (hK : X.K = K) (cl : ClsD K X.mg x C) (M : Mfn X.prog X.w X.K X.mg X.base CX j C "__init__" ps (spD K sp)) (c : Ct X.mg X.A k) (h : j + 1 ≤ k) (gl : Gl X x) (px : PX CX X W) (hdb : (x == ("__debug__" : Str)) = false := by decide) : DE W X K (.Call (.Name x p) [] [] pos) (dMake0 C sp) := by
  subst hK
  refine ⟨_, pe_make0 (E := fun σ cl d H => W cl d σ H) cl M (c.r.mono h) c.g gl px hdb, fun σ H J ω ρ q x Q w s cq cx z => ?_⟩
  intro a dx ha hd ne
  have w2 := w.junk hd (.own a)
  have ha2 : upd H dx (.own a) a = none := by rw [upd_ne (Ne.symm ne)]; exact ha
  have w3 := w2.own (m := .ins C dx []) (o := .ins C dx []) rfl ha2 ⟨[], upd_same, .nil⟩
  have g3 : Grow J H ω J (upd (upd H dx (.own a)) a (.ins C dx [])) (updW ω a (.ins C dx [])) := (Grow.junk hd _).trans (Grow.own rfl ha2 _)
  refine ⟨J, _, _, _, x, w3, .cons (.ref a) .nil, fun r ω' v J' H' z' g' w' rp => ?_, cx.step g3, z a dx (w.free ha).1⟩
  obtain ⟨rfl, z'⟩ := z'
  cases rp
  exact ⟨rfl, (cq.step g3) _ _ _ _ _ z' g' w' (.ref a)⟩
end
end Tx

namespace Tx
open PySem PySem.Spec PyProof.Rows L2
/-! ## Further: ints in place, numbers of the text, len of a dict, the greatest value of a dict, several classes -/
theorem _root_.L2.Room.units1 {k : Nat} {A : Around} (r : Room k A) : A.units + 1 < cLine := by have := r.un; omega
def iaddM : RM2 := fun x y ω q => ∃ i j, x = .int i ∧ y = .int j ∧ q (.int (i + j)) ω
def lenDk : RD1 := fun xs ω Q => ∃ d kvs, xs = [d] ∧ rdk ω d = some kvs ∧ Q (.int kvs.length)
def maxVd (td : DTE) (ρ : DS) (ω : Wd) (q : DQ) (x : DXK) : Prop := td ρ ω (fun o ω1 => ∃ kvs ns, rdk ω1 o = some kvs ∧ kvs.map (·.2) = ns.map PyData.int ∧ ns ≠ [] ∧ ∀ m, m ∈ ns → (∀ j ∈ ns, j ≤ m) → q (.int m) ω1) x
section
variable {X : Cx} {K : PySem.W.Frag}
theorem dm_iadd (hK : X.K = K) : PIp X .Add (lift2M K iaddM) := by
  subst hK
  intro pins s σ H x y v u Q I rx ry ⟨J, ω, dx, dy, q, w, r1, r2, cq, i, j, e1, e2, z⟩
  subst e1 e2
  cases r1
  cases r2
  exact iop_add pins s σ H _ _ v u Q I rx ry ⟨i, j, rfl, rfl, cq.now w z (.int _)⟩
theorem pe_gi {x : Str} {i : Int} {pos : Pos} (h : ∃ t, X.mg x = some (.int i t)) (gl : Gl X x) (hd : (x == ("__debug__" : Str)) = false := by decide) : PE X (.Name x pos) (tC (.int i)) := by
  obtain ⟨t, e⟩ := h
  exact pe_glob gl e ⟨t, rfl⟩ hd
theorem dc_lenDk (hK : X.K = K) : CallR X (.builtin "len") (liftA K lenDk) := by
  subst hK
  intro pins s σ H xs us Q I rel ⟨J, ω, ds, q, w, rs, cq, d, kvs, e, e1, z⟩
  subst e
  cases rs with
  | cons r1 r2 =>
  cases r2
  obtain ⟨ad, ws, rfl, e4, rk⟩ := rp_dk w r1 e1
  obtain ⟨u, rfl, rx⟩ := vals1 rel
  obtain rfl : u = Value.ref ad := rx
  refine d_len I (.inl e4) fun t s' I' => ⟨.int ws.length, H, I', ⟨t, rfl⟩, ?_⟩
  rw [rk.length]
  exact cq.now w z (.int _)
end
theorem consti_of {K : PySem.W.Frag} {mg : Str → Option Value} {h : Heap} {x : Str} {i : Int} {t : Tok} (X : K.In h) (G : h.Ns mainGlobals mg) (a : PySem.W.nsIn K mainGlobals x = some (some (.int i t))) : ∃ t, mg x = some (.int i t) := ⟨t, PySem.W.mg_of X G a⟩
def tMaxV (td : TE) : TE := fun σ H Q => td σ H fun x H1 => ∃ a kvs ns, x = V.ref a ∧ H1 a = some (.dK kvs) ∧ kvs.map (·.2) = ns.map V.int ∧ ns ≠ [] ∧ ∀ m, m ∈ ns → (∀ j ∈ ns, j ≤ m) → Q (.int m) H1
section
variable {X : Cx} {o : Expr} {p pos apos mpos : Pos} {td : TE}
theorem kv_ints {kvs : List (Key × V)} {vs : List (Key × Value)} {ns : List Int} (rel : KV kvs vs) (hv : kvs.map (·.2) = ns.map V.int) {i : Nat} {k : Key} {v : Value} (e : vs[i]? = some (k, v)) : ∃ t, v = Value.int (ns.getD i 0) t := by
  obtain ⟨x, h1, h2⟩ := KV.at' rel e
  have a1 : (ns.map V.int)[i]? = some x := by rw [← hv, List.getElem?_map, h1]; rfl
  rw [List.getElem?_map] at a1
  cases q : ns[i]? with
  | none => rw [q] at a1; cases a1
  | some j =>
    rw [q] at a1
    cases a1
    rw [List.getD_eq_getElem?_getD, q]
    exact h2
theorem pe_maxV (hc : X.calm = true) (hg : Gl X "max") (hm : X.mg "max" = none) (hd : PE X o td) (hbase : attributeBase o "values" X.env (eval o X.env) = eval o X.env := by rfl) (hline : (apos.endLine == mpos.line) = true := by rfl)
    (hse : starEach [Expr.Call (.Attribute o "values" apos) [] [] mpos] X.env = [(false, eval (Expr.Call (.Attribute o "values" apos) [] [] mpos) X.env)] := by rfl) :
    PE X (.Call (.Name "max" p) [.Call (.Attribute o "values" apos) [] [] mpos] [] pos) (tMaxV td) := by
  constructor
  intro pins s σ H Q I h
  apply wpAny_Call_Name_kw (ld_blt I hg hm (u := .builtin "max") (by decide +kernel) ?_ (by decide) (by decide))
  rw [hse]
  apply PySem.callWith_builtin1
  apply wpAny_Call_method0_late hbase hline
  refine thn (hd.run pins s σ H _ I h) fun v s1 hh => ?_
  obtain ⟨x, H1, I1, r1, a, kvs, ns, rfl, ha, hv, hne, q⟩ := hh
  cases (show v = Value.ref a from r1)
  obtain ⟨_, hsys, vs, rel, dof⟩ := dk_of I1.hok ha
  obtain ⟨ep, dat⟩ := dof.dictAt
  obtain ⟨ob, es, ho, ex, hdat, hko, hpr, hnd⟩ := id dat
  refine ⟨"dict", "dict.values", F.plainAttrs_dict, F.slot_dict_values, F.type_dict_values, ⟨ob, ho, ex.1⟩, fun b e => ⟨ob, (by cases e; exact ho), ex.2.1⟩, ?_⟩
  apply Calls.callWith_builtin rfl
  apply PySem.evalArgs_none
  refine call_meetsIn F.slot_dict_values (show s1.TypeIs (.ref a) "dict" from ⟨ob, ho, ex.1⟩) F.entry_dict_values (F.args_dict_values_1 _) (meets_dict_values (mixKind X.prog X.w) a hsys) ⟨⟨vs, dof⟩, ?_⟩
  have vl : kvs.length = ns.length := by simpa using congrArg List.length hv
  have vl2 : kvs.length = vs.length := KV.length rel
  have npos : 0 < ns.length := List.length_pos_iff.mpr hne
  have hlt : a < s1.heap.objs.size := Heap.lt_size ho
  have k1 : ∀ b u, s1.heap.get? b = some u → (s1.heap.push { cls := .type "dict_values", data := .fields #[.ref a] }).get? b = some u := fun b u e => Heap.get?_push_of_some _ e
  have dat1 := dat.keep k1
  have hval : ∀ (i : Nat) (v : Value), (∃ k, vs[i]? = some (k, v)) → ∃ t, v = Value.int (ns.getD i 0) t := fun i v ⟨k, e⟩ => kv_ints rel hv e
  have z1 : (s1.heap.push { cls := .type "dict_values", data := .fields #[.ref a] }).objs.size = s1.heap.objs.size + 1 := Heap.size_push _ _
  apply call_max_walk
  apply wpAny_pyIter_values (v := s1.heap.objs.size) (d := a) ⟨_, Heap.get?_push_size _ rfl, rfl, rfl⟩ dat1
  refine ⟨_, _, _, _, _, _, _, rfl, Walks.dictValues (knd := mixKind X.prog X.w) (A := X.A.in1) (I.ok.hd hc) _ a (by rw [z1]; exact Nat.ne_of_lt (Nat.lt_succ_of_lt hlt)) vs ep, ⟨⟨_, Heap.get?_push_size _ rfl, rfl, rfl⟩, dat1.keep fun b u e => Heap.get?_push_of_some _ e⟩, fun b hb => ?_, by omega, CmpOf.ints_gt (fun i => ns.getD i 0) hval, fun v h' tk hP hk => ?_⟩
  · show b < ((s1.heap.push _).push _).objs.size
    rw [Heap.size_push, Heap.size_push]
    simp only [List.mem_cons, List.mem_singleton, List.not_mem_nil, or_false] at hb
    rcases hb with e | e
    · rw [e, z1]; exact Nat.lt_succ_self _
    · rw [e]; exact Nat.lt_succ_of_lt (Nat.lt_succ_of_lt hlt)
  · obtain ⟨t, rfl⟩ := hval _ v hP
    obtain ⟨b1, b2⟩ := argBest_gt (fun i => ns.getD i 0) (vs.length - 1)
    have keep1 : ∀ b u, s1.heap.get? b = some u → h'.get? b = some u := fun b u e => hk b u (fun hmem => by
      have e1 := List.mem_singleton.mp hmem
      have e2 := Heap.lt_size e
      rw [z1] at e1
      rw [e1] at e2
      exact (Nat.lt_irrefl _ (Nat.lt_of_succ_lt e2)).elim) (Heap.get?_push_of_some _ (k1 b u e))
    have gd : ∀ i, i < ns.length → ns.getD i 0 ∈ ns := fun i hi => by rw [List.getD_eq_getElem?_getD, List.getElem?_eq_getElem hi]; exact List.getElem_mem hi
    refine ⟨.int _, H1, I1.kept (t' := tk) keep1, ⟨t, rfl⟩, q _ (gd _ (by omega)) fun j hj => ?_⟩
    obtain ⟨i, hi, e⟩ := List.mem_iff_getElem.mp hj
    have e2 : ns.getD i 0 = j := by rw [List.getD_eq_getElem?_getD, List.getElem?_eq_getElem hi, ← e]; rfl
    rw [← e2]
    exact b2 i (by omega)
theorem rpK_vals {K : PySem.W.Frag} {J : Hp} {ws : List (Key × V)} {kvs : List (Key × PyData)} (h : RpK K J ws kvs) : ∀ {ns : List Int}, kvs.map (·.2) = ns.map PyData.int → ws.map (·.2) = ns.map V.int := by
  induction h with
  | nil => intro ns e; cases ns with
    | nil => rfl
    | cons _ _ => cases e
  | @cons p r ps qs g t ih =>
    intro ns e
    cases ns with
    | nil => cases e
    | cons n ns =>
      rw [List.map_cons, List.map_cons] at e
      obtain ⟨e1, e2⟩ := List.cons.inj e
      rw [List.map_cons, List.map_cons, ih e2]
      have r2 := g.2
      rw [e1] at r2
      cases hp : p.2 <;> rw [hp] at r2 <;> cases r2
      rfl
end
theorem de_maxVals {W : WX} {X : Cx} {K : PySem.W.Frag} {o : Expr} {td : DTE} {p pos apos mpos : Pos} (hK : X.K = K) (hc : X.calm = true) (hg : Gl X "max") (hm : X.mg "max" = none) (hd : DE W X K o td) (hbase : attributeBase o "values" X.env (eval o X.env) = eval o X.env := by rfl) (hline : (apos.endLine == mpos.line) = true := by rfl)
    (hse : starEach [Expr.Call (.Attribute o "values" apos) [] [] mpos] X.env = [(false, eval (Expr.Call (.Attribute o "values" apos) [] [] mpos) X.env)] := by rfl) :
    DE W X K (.Call (.Name "max" p) [.Call (.Attribute o "values" apos) [] [] mpos] [] pos) (maxVd td) := by
  subst hK
  obtain ⟨t, pp, k⟩ := hd
  refine ⟨_, pe_maxV hc hg hm pp hbase hline hse, fun σ H J ω ρ q x Q w s cq cx z => k σ H J ω ρ _ x _ w s (fun r ω1 v J1 H1 z1 g1 w1 rp => ?_) cx z⟩
  obtain ⟨kvs, ns, e1, e2, hne, z1⟩ := z1
  obtain ⟨ad, ws, rfl, e4, rk⟩ := rp_dk w1 rp e1
  exact ⟨ad, ws, ns, rfl, e4, rpK_vals rk e2, hne, fun m h1 h2 => (cq.step g1).now w1 (z1 m h1 h2) (.int _)⟩
/-! ### texts compared -/
section
variable {a b : Str} {i j : Int} {ω : Wd} {Q : PyData → Prop}
theorem neS_t (h : ¬ a = b) (z : Q (.bool true)) : neD (.str a) (.str b) ω Q := by
  show Q (.bool (!decide (a = b)))
  rw [decide_eq_false h]; exact z
theorem neS_f (h : a = b) (z : Q (.bool false)) : neD (.str a) (.str b) ω Q := by
  show Q (.bool (!decide (a = b)))
  rw [decide_eq_true h]; exact z
theorem eqS_t (h : a = b) (z : Q (.bool true)) : eqD (.str a) (.str b) ω Q := by
  show Q (.bool (decide (a = b)))
  rw [decide_eq_true h]; exact z
theorem eqS_f (h : ¬ a = b) (z : Q (.bool false)) : eqD (.str a) (.str b) ω Q := by
  show Q (.bool (decide (a = b)))
  rw [decide_eq_false h]; exact z
theorem eqI_t (h : i = j) (z : Q (.bool true)) : eqD (.int i) (.int j) ω Q := by
  show Q (.bool (decide (i = j)))
  rw [decide_eq_true h]; exact z
theorem eqI_f (h : ¬ i = j) (z : Q (.bool false)) : eqD (.int i) (.int j) ω Q := by
  show Q (.bool (decide (i = j)))
  rw [decide_eq_false h]; exact z
end
/-! ### classes of the text -/
def NoA (K : PySem.W.Frag) (C : Addr) : List Str → Prop
  | [] => True
  | f :: r => NoAttr K C f ∧ NoA K C r
theorem NoA.get {K : PySem.W.Frag} {C : Addr} {f : Str} : ∀ {fs : List Str}, NoA K C fs → f ∈ fs → NoAttr K C f
  | [], _, m => by cases m
  | g :: r, h, m => by
    rcases List.mem_cons.mp m with e | m
    · subst e; exact h.1
    · exact NoA.get h.2 m
structure OP (K : PySem.W.Frag) (mg : Str → Option Value) (x : Str) (fs : List Str) (C : Addr) : Prop where
  cd : ClsD K mg x C
  na : NoA K C fs
theorem OP.no {K : PySem.W.Frag} {mg : Str → Option Value} {x : Str} {fs : List Str} {C : Addr} (h : OP K mg x fs C) {f : Str} (m : f ∈ fs := by decide) : NoAttr K C f := h.na.get m
end Tx

namespace Tx
open PySem PySem.Spec PyProof.Rows L2
/-! ## Rules: o.f, o.g = ..; a display of a dict of texts; a dict of one text that stands in the text -/
def gFld (K : PySem.W.Frag) (to : TE) (f : Str) : TG := fun v σ H Q => to σ H fun x H1 => ∃ a C dx fs, x = .ref a ∧ H1 a = some (.ins C dx fs) ∧ Cls K C ∧ NoAttr K C f ∧ fs.length < 1000 ∧ Q σ (upd H1 a (.ins C dx (putF f v fs)))
theorem pg_fld {X : Cx} {o : Expr} {to : TE} {f : Str} {pos : Pos} (ho : PE X o to) : PG X (.Attribute o f pos) (gFld X.K to f) := by
  refine ⟨fun pins s σ H v u Q I r h => ?_⟩
  rw [PySem.assign_Attribute]
  refine wpAny_bind (wpAny_holding (thn (ho.run pins s σ H _ I h) fun ov s1 ⟨x, H1, I1, rx, a, C, dx, fs, ex, ea, c, n, l, q⟩ => ?_))
  subst ex
  obtain rfl : ov = Value.ref a := rx
  refine wpAny_bind (wpAny_standAt (wpAny_bind (wpAny_holding (setattr_ok I1 ea c n l r fun s3 I3 => ?_))))
  exact wpAny_release ⟨σ, _, I3, q⟩
/-- o.f, o2.g = e -/
def dAsgF2 (K : PySem.W.Frag) (te to to2 : DTE) (f g : Str) (D : DEnds) (ρ : DS) (ω : Wd) : Prop := te ρ ω (fun r ω1 => ∃ u v, r = .tuple [u, v] ∧ to ρ ω1 (fun o ω2 => ∃ a C dx fs, o = refD a ∧ ω2 a = some (.ins C dx fs) ∧ Cls K C ∧ NoAttr K C f ∧ fs.length < 1000 ∧
  to2 ρ (updW ω2 a (.ins C dx (putD f u fs))) (fun o3 ω3 => ∃ a3 C3 dx3 fs3, o3 = refD a3 ∧ ω3 a3 = some (.ins C3 dx3 fs3) ∧ Cls K C3 ∧ NoAttr K C3 g ∧ fs3.length < 1000 ∧ D.nx ρ (updW ω3 a3 (.ins C3 dx3 (putD g v fs3)))) (xcOf D ρ)) (xcOf D ρ)) (xcOf D ρ)
theorem ds_asgF2 {W : WX} {X : Cx} {K : PySem.W.Frag} {o o2 e : Expr} {te to to2 : DTE} {f g : Str} {p1 p2 pt pos : Pos} {kt} (hK : X.K = K) (hc : X.calm = true) (ho : DE W X K o to) (ho2 : DE W X K o2 to2) (he : DE W X K e te)
    (hn : (assignEach [.Attribute o f p1, .Attribute o2 g p2] X.env).length = 2 := by rfl) (hst : (assignEach [.Attribute o f p1, .Attribute o2 g p2] X.env).findIdx? (·.1) = none := by rfl)
    (hm : (assignEach [.Attribute o f p1, .Attribute o2 g p2] X.env).map (·.2) = assign (.Attribute o f p1) X.env :: (assignEach [.Attribute o2 g p2] X.env).map (·.2) := by rfl) (hm2 : (assignEach [.Attribute o2 g p2] X.env).map (·.2) = assign (.Attribute o2 g p2) X.env :: (assignEach [] X.env).map (·.2) := by rfl)
    (hs : swapsWithSole [.Tuple [.Attribute o f p1, .Attribute o2 g p2] kt pt] e pos.line X.env = pure false := by rfl) (hw : swappedStores [.Tuple [.Attribute o f p1, .Attribute o2 g p2] kt pt] e X.env = pure none := by rfl) (h1 : (assignEach [.Tuple [.Attribute o f p1, .Attribute o2 g p2] kt pt] X.env).map (·.2) = [assign (.Tuple [.Attribute o f p1, .Attribute o2 g p2] kt pt) X.env] := by rfl) :
    DSt W X K (.Assign [.Tuple [.Attribute o f p1, .Attribute o2 g p2] kt pt] e pos) (dAsgF2 K te to to2 f g) := by
  subst hK
  obtain ⟨re, pe, ke⟩ := he
  obtain ⟨ro, po, ko⟩ := ho
  obtain ⟨rp, pp, kp⟩ := ho2
  refine ⟨_, ps_asg pe (pg_tup hc (pgs_cons (pg_fld po) (pgs_cons (pg_fld pp) pgs_nil hm2) hm) hn hst) hs hw h1, fun D DD σ H J ω ρ w s cs z => ke σ H J ω ρ _ _ _ w s (fun r ω1 v J1 H1 z1 g1 w1 rp1 => ?_) (cs.x s) z⟩
  obtain ⟨u1, u2, rfl, z1⟩ := z1
  cases rp1 with
  | tup hT hA =>
  cases hA with
  | cons r1 hA =>
  cases hA with
  | cons r2 hA =>
  cases hA
  refine ⟨_, _, rfl, Same.sqT w1.jh hT, rfl, _, _, rfl, ?_⟩
  refine ko σ H1 J1 ω1 ρ _ _ _ w1 (s.mono g1.jj) (fun r3 ω2 v2 J2 H2 z2 g2 w2 rp2 => ?_) ((cs.x s).step g1) z1
  obtain ⟨a, C, dx, fs, rfl, e1, cl, na, l, z2⟩ := z2
  obtain rfl := rp_ref rp2
  obtain ⟨gs, e2, r4⟩ := w2.cell a _ e1
  refine ⟨a, C, dx, gs, rfl, e2, cl, na, by rw [r4.length]; exact l, _, _, rfl, ?_⟩
  have g12 := g1.trans g2
  have w3 := w2.set (n := .ins C dx (putD f u1 fs)) (o := .ins C dx (putF f _ gs)) e1 rfl ⟨_, upd_same, rpf_put (rp_mono g2.jj _ _ r1) r4⟩
  refine kp σ _ J2 _ ρ _ _ _ w3 (s.mono g12.jj) (fun r5 ω4 v4 J4 H4 z4 g4 w4 rp4 => ?_) ((cs.x s).step (g12.trans (Grow.set (n := .ins C dx (putD f u1 fs)) e1 rfl _))) z2
  obtain ⟨a3, C3, dx3, fs3, rfl, e3, cl3, na3, l3, z4⟩ := z4
  obtain rfl := rp_ref rp4
  obtain ⟨gs3, e4, r6⟩ := w4.cell a3 _ e3
  refine ⟨a3, C3, dx3, gs3, rfl, e4, cl3, na3, by rw [r6.length]; exact l3, rfl, ?_⟩
  have g3 := g12.trans ((Grow.set (n := .ins C dx (putD f u1 fs)) e1 rfl _).trans g4)
  exact cs.nx _ _ _ _ _ z4 (g3.trans (Grow.set e3 rfl _)) (w4.set e3 rfl ⟨_, upd_same, rpf_put (rp_mono (g2.jj.trans g4.jj) _ _ r2) r6⟩) (s.mono g3.jj)
/-! ### {"a": "b", ..} -/
def dDispC (kvs : List (Str × Str)) (_ : DS) (ω : Wd) (q : DQ) (_ : DXK) : Prop := ∀ a, ω a = none → q (refD a) (updW ω a (.dk (kvs.map fun p => (.inr p.1, .str p.2))))
theorem pairs_c {σ : L2.St} {H : Hp} {Q : List (V × V) → Hp → Prop} : ∀ {kvs : List (Str × Str)}, Q (kvs.map fun p => (V.str p.1, V.str p.2)) H → tPairs (kvs.map fun p => (tC (.str p.1), tC (.str p.2))) σ H Q
  | [], h => h
  | p :: kvs, h => pairs_c (kvs := kvs) (Q := fun r H2 => Q ((V.str p.1, V.str p.2) :: r) H2) h
theorem rpk_c {K : PySem.W.Frag} {J : Hp} : ∀ kvs : List (Str × Str), RpK K J (kvs.map fun p => ((.inr p.1 : Key), V.str p.2)) (kvs.map fun p => ((.inr p.1 : Key), PyData.str p.2))
  | [] => .nil
  | p :: kvs => .cons ⟨rfl, .str _⟩ (rpk_c kvs)
theorem de_dispC {W : WX} {X : Cx} {K : PySem.W.Frag} {pos : Pos} {keys : List (Option Expr)} {values : List Expr} {kvs : List (Str × Str)} (h : PPs X pos keys values (kvs.map fun p => (tC (.str p.1), tC (.str p.2)))) (hall : keys.all (·.isSome) = true := by rfl) (hl : keys.length = values.length := by rfl) (h0 : keys ≠ [] := by simp)
    (h15 : keys.length ≤ 15 := by decide) (hk : kvs.length ≤ 15 := by decide) (hm : mergeK [] (kvs.map fun p => ((.inr p.1 : Key), V.str p.2)) = kvs.map fun p => ((.inr p.1 : Key), V.str p.2) := by decide +kernel) : DE W X K (.Dict keys values pos) (dDispC kvs) := by
  refine ⟨_, pe_disp h hall hl h0 h15, fun σ H J ω ρ q x Q w s cq cx z p hp => ?_⟩
  refine pairs_c ⟨upd_same, kvs.map fun p => ((.inr p.1 : Key), V.str p.2), by rw [List.map_map]; rfl, by rw [List.length_map]; exact hk, ?_⟩
  rw [hm]
  have e : upd (upd H p (.dK [])) p (.dK (kvs.map fun p => ((.inr p.1 : Key), V.str p.2))) = upd H p (.dK (kvs.map fun p => ((.inr p.1 : Key), V.str p.2))) := by funext b; unfold upd; split <;> rfl
  rw [e]
  exact cq _ _ _ _ _ (z p (w.free hp).1) (Grow.own rfl hp _) (w.own rfl hp ⟨_, upd_same, rpk_c kvs⟩) (.ref p)
/-! ### a dict of the text with one key -/
structure ConK (K : PySem.W.Frag) (w : World) (mg : Str → Option Value) (x kx vx : Str) : Prop where
  ex : ∃ (a : Addr) (e : DictEntry) (n : Nat) (t u : Tok), mg x = some (.ref a) ∧ K.lookup a = some ⟨.type "dict", none, .dict #[e] n, #[]⟩ ∧ PySem.W.KeysLit w.params [e] ∧ (a == sysModules) = false ∧ e.key = .str kx t ∧ e.val = .str vx u
theorem conK_of {K : PySem.W.Frag} {w : World} {mg : Str → Option Value} {h : Heap} {x kx vx : Str} {a : Addr} {e : DictEntry} {n : Nat} {t u : Tok} (KX : K.In h) (G : h.Ns mainGlobals mg) (en : PySem.W.nsIn K mainGlobals x = some (some (.ref a))) (l : K.lookup a = some ⟨.type "dict", none, .dict #[e] n, #[]⟩)
    (k : PySem.W.KeysLit w.params [e]) (hs : (a == sysModules) = false) (ek : e.key = .str kx t) (ev : e.val = .str vx u) : ConK K w mg x kx vx := ⟨a, e, n, t, u, PySem.W.mg_of KX G en, l, k, hs, ek, ev⟩
def tKGet (kx vx : Str) (ty tx : TE) : TE := fun σ H Q => ty σ H fun y H2 => tx σ H2 fun z H3 => ∃ k, y = .str k ∧ Q (if k = kx then .str vx else z) H3
theorem pe_kget {X : Cx} {x kx vx : Str} {e f : Expr} {p apos cpos : Pos} {ty tx : TE} (h : ConK X.K X.w X.mg x kx vx) (gl : Gl X x) (he : PE X e ty) (hf : PE X f tx) (m : M2 X (.Name x p) "get" apos e f cpos) (hd : (x == ("__debug__" : Str)) = false := by decide) : PE X (.Call (.Attribute (.Name x p) "get" apos) [e, f] [] cpos) (tKGet kx vx ty tx) := by
  obtain ⟨a, en, n, t, u, e1, l, kl, hs, ek, ev⟩ := h
  refine ⟨fun pins s σ H Q I h => ?_⟩
  refine wpAny_Call_method m.base m.few m.line PySem.F.plainAttrs_dict PySem.F.slot_dict_get PySem.F.type_dict_get (thn ((pe_glob (v := .ref a) gl e1 rfl hd).run pins s σ H _ I ((show tC (.ref a) σ H fun x H1 => x = .ref a ∧ H1 = H from ⟨rfl, rfl⟩))) fun u1 s1 ⟨x1, H1, I1, rx, ex, eh⟩ => ?_)
  subst ex eh
  obtain rfl : u1 = Value.ref a := rx
  have hg := I1.kIn _ _ l
  refine ⟨⟨_, hg, rfl⟩, fun b q => by cases q; exact ⟨_, hg, rfl⟩, ?_⟩
  rw [m.trees]
  refine Calls.callWith_builtin rfl (Calls.evalArgs_plain (Calls.spliced_cons (thn (he.run pins s1 σ H1 _ I1 h) fun iv s2 ⟨y, H2, I2, ry, q2⟩ =>
    Calls.spliced_cons (thn (hf.run pins s2 σ H2 _ I2 q2) fun fv s3 ⟨z, H3, I3, rz, k, ey, q3⟩ => Calls.spliced_nil ?_))))
  subst ey
  obtain ⟨tk, rfl⟩ := ry
  have mo := PySem.W.mapOf_K (prog := X.prog) (w := X.w) I3.kIn l kl
  have hg3 := I3.kIn _ _ l
  refine call_meetsIn PySem.F.slot_dict_get ⟨_, hg3, rfl⟩ PySem.F.entry_dict_get (PySem.F.args_dict_get_3 _ _ _) (meets_dict_get_default (strKind X.prog X.w) a (strKind_is X.prog X.w k tk) hs fv) ⟨_, mo, _, H3, I3.tok _, ?_, q3⟩
  unfold findBy
  rw [List.find?_toArray]
  simp only [List.find?_cons, List.find?_nil, ek]
  by_cases e5 : k = kx
  · rw [if_pos e5]
    subst e5
    simp only [Value.isStrOf, beq_self_eq_true]
    show L2.RelV (V.str vx) en.val
    rw [ev]
    exact ⟨u, rfl⟩
  · rw [if_neg e5]
    have : (kx == k) = false := beq_eq_false_iff_ne.mpr fun z => e5 z.symm
    have : (k == kx) = false := beq_eq_false_iff_ne.mpr e5
    simp only [Value.isStrOf, *]
    exact rz
def dKGet (kx vx : Str) (te tz : DTE) (ρ : DS) (ω : Wd) (q : DQ) (x : DXK) : Prop := te ρ ω (fun y ω1 => tz ρ ω1 (fun z ω2 => ∃ k, y = .str k ∧ q (if k = kx then .str vx else z) ω2) x) x
theorem de_kget {W : WX} {X : Cx} {K : PySem.W.Frag} {x kx vx : Str} {e f : Expr} {p apos cpos : Pos} {te tf : DTE} (hK : X.K = K) (h : ConK K X.w X.mg x kx vx) (gl : Gl X x) (he : DE W X K e te) (hf : DE W X K f tf) (m : M2 X (.Name x p) "get" apos e f cpos) (hd : (x == ("__debug__" : Str)) = false := by decide) : DE W X K (.Call (.Attribute (.Name x p) "get" apos) [e, f] [] cpos) (dKGet kx vx te tf) := by
  subst hK
  obtain ⟨re, pe, ke⟩ := he
  obtain ⟨rf, pf, kf⟩ := hf
  refine ⟨_, pe_kget h gl pe pf m hd, fun σ H J ω ρ q x Q w s cq cx z => ke σ H J ω ρ _ x _ w s (fun b1 ω2 u J2 H2 z2 g2 w2 r2 => ?_) cx z⟩
  refine kf σ H2 J2 ω2 ρ _ x _ w2 (s.mono g2.jj) (fun b3 ω3 u3 J3 H3 z3 g3 w3 r3 => ?_) (cx.step g2) z2
  obtain ⟨k, rfl, z3⟩ := z3
  cases r2
  refine ⟨k, rfl, ?_⟩
  have cq3 := (cq.step g2).step g3
  by_cases e : k = kx
  · rw [if_pos e]; rw [if_pos e] at z3; exact cq3.now w3 z3 (.str _)
  · rw [if_neg e]; rw [if_neg e] at z3; exact cq3.now w3 z3 r3
end Tx

namespace Tx
open PySem PySem.Spec PyProof.Rows L2
/-! ## dicts whose keys are tuples of ints and texts -/
def unKeys : List PyData → Option (List Key)
  | [] => some []
  | d :: r => match unKey d, unKeys r with
    | some k, some t => some (k :: t)
    | _, _ => none
def dDNewT (_ : DS) (ω : Wd) (q : DQ) (_ : DXK) : Prop := ∀ a, ω a = none → q (refD a) (updW ω a (.dt []))
/-- o.get((..), z) -/
def dGet2T (to : DTE) (tA : DTA) (tz : DTE) (ρ : DS) (ω : Wd) (q : DQ) (x : DXK) : Prop := to ρ ω (fun o ω1 => ∃ a kvs0, o = refD a ∧ ω1 a = some (.dt kvs0) ∧ tA ρ ω1 (fun ys ω2 => ys.length ≤ sizeLine ∧ tz ρ ω2 (fun z ω3 => ∃ kvs ks, ω3 a = some (.dt kvs) ∧ unKeys ys = some ks ∧ q ((dval kvs ks).getD z) ω3) x) x) x
/-- o[(..)] = e -/
def dDPutT (to : DTE) (tA : DTA) (te : DTE) (D : DEnds) (ρ : DS) (ω : Wd) : Prop := te ρ ω (fun v ω1 => to ρ ω1 (fun o ω2 => tA ρ ω2 (fun ys ω3 => ys.length ≤ sizeLine ∧ ∃ a kvs ks, o = refD a ∧ ω3 a = some (.dt kvs) ∧ unKeys ys = some ks ∧ kvs.length < sizeLine ∧ D.nx ρ (updW ω3 a (.dt (dput kvs ks v)))) (xcOf D ρ)) (xcOf D ρ)) (xcOf D ρ)
section
variable {W : L2.WX} {X : Cx} {K : PySem.W.Frag} {e f o : Expr} {es : List Expr} {tA : DTA} {te tf to : DTE} {pos pos' apos cpos tpos : Pos} {x1 : Nat}
theorem rp_keys {J : Hp} : ∀ {ys : List PyData} {vs : List V} {ks : List Key}, RpAll K J vs ys → unKeys ys = some ks → vs = ks.map kV
  | [], _, _, h, e => by cases h; cases e; rfl
  | d :: r, _, _, h, e => by
    cases h with
    | cons h1 h2 =>
    unfold unKeys at e
    split at e
    · rename_i k t ek et
      cases e
      rw [rp_key h1 ek, rp_keys h2 et]
      rfl
    · cases e
theorem de_dnewT : DE W X K (.Dict [] [] pos) dDNewT := ⟨_, pe_dnewT, fun σ H J ω ρ q x Q w s cq cx z p hp => cq _ _ _ _ _ (z p (w.free hp).1) (Grow.own rfl hp _) (w.own rfl hp ⟨[], upd_same, .nil⟩) (.ref p)⟩
theorem de_dget2T (hK : X.K = K) (hu : X.A.units + 1 < cLine) (ho : DE W X K o to) (hes : DAs W X K es tA) (hf : DE W X K f tf) (m : M2 X o "get" apos (.Tuple es x1 tpos) f cpos) : DE W X K (.Call (.Attribute o "get" apos) [.Tuple es x1 tpos, f] [] cpos) (dGet2T to tA tf) := by
  subst hK
  obtain ⟨ro, po, ko⟩ := ho
  obtain ⟨re, pe, ke⟩ := hes
  obtain ⟨rf, pf, kf⟩ := hf
  refine ⟨_, pe_dget2 hu po (pe_tup pe) pf m, fun σ H J ω ρ q x Q w s cq cx z => ko σ H J ω ρ _ x _ w s (fun a1 ω1 v J1 H1 z1 g1 w1 r1 => ?_) cx z⟩
  obtain ⟨a, kvs0, rfl, e0, z1⟩ := z1
  obtain rfl := rp_ref r1
  obtain ⟨ws0, e00, _⟩ := w1.cell a _ e0
  refine ⟨a, rfl, .inr ⟨ws0, .inl e00⟩, ke σ H1 J1 ω1 ρ _ x _ w1 (s.mono g1.jj) (fun ys ω2 us J2 H2 z2 g2 w2 r2 => ?_) (cx.step g1) z1⟩
  refine ⟨by rw [r2.length]; exact z2.1, fun p hp => ?_⟩
  have g2' := Grow.frz w2 hp (.tup us)
  have w2' := w2.frz hp (.tup us)
  have g := (g1.trans g2).trans g2'
  refine kf σ _ _ ω2 ρ _ x _ w2' (s.mono g.jj) (fun b3 ω3 u3 J3 H3 z3 g3 w3 r3 => ?_) (cx.step g) z2.2
  obtain ⟨kvs, ks, e1, e2, z3⟩ := z3
  obtain ⟨ws, e4, rk⟩ := w3.cell a _ e1
  have hp3 : H3 p = some (.tup (ks.map kV)) := by
    rw [← rp_keys r2 e2]
    exact w3.jh _ _ (g3.jj _ _ upd_same)
  refine ⟨valV ws ks, DGet.t e4 hp3, ?_⟩
  have cq3 := cq.step (g.trans g3)
  cases ev : dval kvs ks with
  | none => rw [rk.val.2 ev]; rw [ev] at z3; exact cq3.now w3 z3 r3
  | some d =>
    obtain ⟨v, e5, rv⟩ := rk.val.1 d ev
    rw [e5]; rw [ev] at z3; exact cq3.now w3 z3 rv
theorem ds_dputT (hK : X.K = K) (hu : X.A.units + 1 < cLine) (ho : DE W X K o to) (hes : DAs W X K es tA) (he : DE W X K e te) (hs : swapsWith e (some (.Subscript o (.Tuple es x1 tpos) pos')) pos.line X.env = pure false := by rfl) : DSt W X K (.Assign [.Subscript o (.Tuple es x1 tpos) pos'] e pos) (dDPutT to tA te) := by
  subst hK
  obtain ⟨ro, po, ko⟩ := ho
  obtain ⟨rb, pb, kb⟩ := hes
  obtain ⟨re, pe, ke⟩ := he
  refine ⟨_, ps_dput hu po (pe_tup pb) pe hs, fun D DD σ H J ω ρ w s cs z => ke σ H J ω ρ _ _ _ w s (fun r ω1 v J1 H1 z1 g1 w1 rp => ?_) (cs.x s) z⟩
  refine ko σ H1 J1 ω1 ρ _ _ _ w1 (s.mono g1.jj) (fun r2 ω2 v2 J2 H2 z2 g2 w2 rp2 => ?_) ((cs.x s).step g1) z1
  refine kb σ H2 J2 ω2 ρ _ _ _ w2 (s.mono (g1.trans g2).jj) (fun ys ω3 us J3 H3 z3 g3 w3 rp3 => ?_) ((cs.x s).step (g1.trans g2)) z2
  obtain ⟨hl, a, kvs, ks, rfl, e1, e2, hz, z3⟩ := z3
  refine ⟨by rw [rp3.length]; exact hl, fun p hp => ?_⟩
  obtain rfl := rp_ref rp2
  have g3' := Grow.frz w3 hp (.tup us)
  have w3' := w3.frz hp (.tup us)
  have hp3 : upd H3 p (.tup us) p = some (.tup (ks.map kV)) := by rw [upd_same, rp_keys rp3 e2]
  obtain ⟨ws, e4, rk⟩ := w3'.cell _ _ e1
  have g := ((g1.trans g2).trans g3).trans g3'
  exact ⟨a, _, rfl, DPut.t e4 hp3 (by rw [rk.length]; exact hz), cs.nx _ _ _ _ _ z3 (g.trans (Grow.set e1 rfl _)) (w3'.set e1 rfl ⟨_, upd_same, rk.put (rp_mono ((g2.trans g3).trans g3').jj _ _ rp)⟩) (s.mono g.jj)⟩
end
end Tx

namespace Tx
open PySem PySem.Spec PyProof.Rows L2
/-! ## f-strings over data -/
def dJs : List DTE → Str → DS → Wd → (Str → Wd → Prop) → DXK → Prop
  | [], acc, _, ω, q, _ => q acc ω
  | t :: ts, acc, ρ, ω, q, x => t ρ ω (fun r ω1 => ∃ y, r = .str y ∧ (acc ++ y).length ≤ sizeLine ∧ dJs ts (acc ++ y) ρ ω1 q x) x
structure DJ (W : WX) (X : Cx) (K : PySem.W.Frag) (es : List Expr) (tds : List DTE) : Prop where
  ex : ∃ ts, PJ X es ts ∧ ∀ acc σ H J ω ρ (q : Str → Wd → Prop) x (Q : Str → Hp → Prop), Rw K J H ω → Sl K J σ ρ → (∀ y ω' J' H', q y ω' → Grow J H ω J' H' ω' → Rw K J' H' ω' → Q y H') → CovX K J H ω x (fun c d H => W c d σ H) → dJs tds acc ρ ω q x → tJs ts acc σ H Q
def dJoined (tds : List DTE) (ρ : DS) (ω : Wd) (q : DQ) (x : DXK) : Prop := dJs tds Str.empty ρ ω (fun y ω1 => q (.str y) ω1) x
/-- {x}: a text -/
def dFmtS (te : DTE) (ρ : DS) (ω : Wd) (q : DQ) (x : DXK) : Prop := te ρ ω (fun v ω1 => ∃ z, v = .str z ∧ z.length ≤ sizeLine ∧ q (.str z) ω1) x
section
variable {W : WX} {X : Cx} {K : PySem.W.Frag} {e : Expr} {es : List Expr} {te : DTE} {tds : List DTE} {pos : Pos}
theorem de_fmtS (he : DE W X K e te) : DE W X K (.FormattedValue e (-1) none pos) (dFmtS te) := by
  obtain ⟨r, p, kk⟩ := he
  refine ⟨_, pe_fmt p, fun σ H J ω ρ q x Q w s cq cx z => kk σ H J ω ρ _ x _ w s (fun v ω1 u J1 H1 z1 g1 w1 rp => ?_) cx z⟩
  obtain ⟨y, rfl, hl, z1⟩ := z1
  cases rp
  exact .inl ⟨y, rfl, hl, cq _ _ _ _ _ z1 g1 w1 (.str _)⟩
theorem dj_nil : DJ W X K [] [] := ⟨⟨[], .nil, fun acc σ H J ω ρ q x Q w s c cx z => c _ _ _ _ z Grow.refl w⟩⟩
theorem dj_cons (he : DE W X K e te) (hs : DJ W X K es tds) : DJ W X K (e :: es) (te :: tds) := by
  obtain ⟨r, p, kk⟩ := he
  obtain ⟨ts, pj, kj⟩ := hs
  refine ⟨⟨r :: ts, .cons p pj, fun acc σ H J ω ρ q x Q w s c cx z => kk σ H J ω ρ _ x _ w s (fun v ω1 u J1 H1 z1 g1 w1 rp => ?_) cx z⟩⟩
  obtain ⟨y, rfl, hl, z1⟩ := z1
  cases rp
  exact ⟨y, rfl, hl, kj _ σ H1 J1 ω1 ρ q x Q w1 (s.mono g1.jj) (fun y ω' J' H' z g w => c y ω' J' H' z (g1.trans g) w) (cx.step g1) z1⟩
theorem de_joined {v1 v2 : Expr} {rest : List Expr} (h : DJ W X K (v1 :: v2 :: rest) tds) : DE W X K (.JoinedStr (v1 :: v2 :: rest) pos) (dJoined tds) := by
  obtain ⟨ts, pj, kj⟩ := h
  exact ⟨_, pe_joined pj, fun σ H J ω ρ q x Q w s cq cx z => kj _ σ H J ω ρ _ x _ w s (fun y ω' J' H' z g w => cq _ _ _ _ _ z g w (.str _)) cx z⟩
end
end Tx

namespace Tx
open PySem PySem.Spec PyProof.Rows L2
/-! ## f'{n:>3}', f'{kind:<8}' -/
def FTs : List Str := ["slip", "letter", "fail", "refuse", "endless"]
def fateD (f : Str × Nat) : PyData := .tuple [.str f.1, .int ((f.2 : Nat) : Int)]
def pad3 (n : Nat) : Str := Txt.mul " " (3 - (((toString (n : Int) : String).length : Nat) : Int)) ++ Str.ofString (toString (n : Int))
def pad8 (k : Str) : Str := k ++ Txt.mul " " (8 - ((k.length : Nat) : Int))
def dgs (n : Nat) : List Nat := (Nat.toDigits 10 n).map Char.toNat
theorem dgs_text (n : Nat) : (Str.ofString (toString ((n : Nat) : Int))).cps.toList = dgs n := by
  rw [PyProof.Rows.signs_ofString]
  show (Nat.repr n).toList.map Char.toNat = _
  rw [Nat.toList_repr]
  rfl
theorem dgs_len (n : Nat) : (toString ((n : Nat) : Int) : String).length = (dgs n).length := by
  rw [← PySem.ofString_length, ← dgs_text]
  exact (Array.length_toList).symm
theorem dgs_le {n : Nat} (hn : n < 10000) : 1 ≤ (dgs n).length ∧ (dgs n).length ≤ 4 := by
  unfold dgs
  rw [List.length_map]
  refine ⟨?_, PyProof.Rows.digits10_le (k := 4) (by decide) hn⟩
  have := (PyProof.Rows.dCore_len_ge 10 (n + 1) n [])
  by_cases h0 : (Nat.toDigits 10 n).length = 0
  · exact absurd (List.length_eq_zero_iff.mp h0) (Nat.toDigits_ne_nil)
  · omega
def padL (D : List Nat) : Str :=
  ⟨(List.replicate ((3 : Int) - (((0 : Nat) : Int) + ((0 : Nat) : Int) + ((0 : Nat) : Int)) - (((if D.isEmpty = true then [] else List.replicate ((0 : Int).toNat - D.length) 48 ++ D).length : Nat) : Int)).toNat 32 ++ [] ++ [] ++ List.replicate 0 32 ++ (if D.isEmpty = true then [] else List.replicate ((0 : Int).toNat - D.length) 48 ++ D) ++ [] ++ List.replicate 0 32).toArray⟩
theorem pad_eq {n : Nat} (hn : n < 10000) : padL (dgs n) = pad3 n := by
  obtain ⟨h1, h4⟩ := dgs_le hn
  have e0 : (dgs n).isEmpty = false := by
    cases h : dgs n with
    | nil => rw [h] at h1; exact absurd h1 (by decide)
    | cons a l => rfl
  have em : ∀ (k : Int) (l : Nat), k = 3 - ((l : Nat) : Int) → 1 ≤ l → l ≤ 4 → (Txt.mul " " k).cps.toList = List.replicate k.toNat 32 := by
    intro k l hk l1 l4
    have : k = 2 ∨ k = 1 ∨ k = 0 ∨ k = -1 := by omega
    rcases this with rfl | rfl | rfl | rfl <;> decide +kernel
  have : pad3 n = ⟨(pad3 n).cps.toList.toArray⟩ := by cases pad3 n; simp
  rw [this]
  unfold padL pad3
  congr 2
  rw [e0, if_neg Bool.false_ne_true]
  show _ = ((Txt.mul " " (3 - (((toString ((n : Nat) : Int) : String).length : Nat) : Int))).cps ++ (Str.ofString (toString ((n : Nat) : Int))).cps).toList
  rw [Array.toList_append, dgs_text, em _ (dgs n).length (by rw [dgs_len]) h1 h4, dgs_len]
  simp
theorem pad_len {n : Nat} (hn : n < 10000) : (pad3 n).length ≤ sizeLine := by
  obtain ⟨h1, h4⟩ := dgs_le hn
  have sl : 2000000 ≤ sizeLine := by decide
  rw [← pad_eq hn]
  unfold padL Str.length
  simp only [List.size_toArray, List.length_append, List.length_replicate]
  split <;> simp <;> omega
section
variable {M : Model} {A : Around} {E : Value → Shared → Prop} {s : Shared} {α : Type} {a b : Sem α} {Q : α → Shared → Prop} {c : Prop}
theorem wno {i : Decidable c} (hc : ¬ c) (h : wpAny M A b Q E s) : wpAny M A (@ite _ c i a b) Q E s := by rw [if_neg hc]; exact h
theorem wyes {i : Decidable c} (hc : c) (h : wpAny M A a Q E s) : wpAny M A (@ite _ c i a b) Q E s := by rw [if_pos hc]; exact h
end
section
variable {prog : Program} {w : World} {A : Around} {E : Value → Shared → Prop} {s : Shared} {t : Tok}
theorem fmt_kind {k : Str} {Q : Value → Shared → Prop} (hk : k ∈ FTs) (h : ∀ t' n, Q (.str (pad8 k) t') { s with toks := n }) : wpAny (model prog w) A (formatField (.str k t) ("<8" : Str)) Q E s := by
  simp only [FTs, List.mem_cons, List.not_mem_nil, or_false] at hk
  have e1 : pad8 "slip" = "slip    " := by decide +kernel
  have e2 : pad8 "letter" = "letter  " := by decide +kernel
  have e3 : pad8 "fail" = "fail    " := by decide +kernel
  have e4 : pad8 "refuse" = "refuse  " := by decide +kernel
  have e5 : pad8 "endless" = "endless " := by decide +kernel
  rcases hk with rfl | rfl | rfl | rfl | rfl
  · rw [e1] at h; exact PySem.W.KXf.field_str (y := "slip    ") rfl rfl (by decide +kernel) (by decide +kernel) (by kxf_run_s) h
  · rw [e2] at h; exact PySem.W.KXf.field_str (y := "letter  ") rfl rfl (by decide +kernel) (by decide +kernel) (by kxf_run_s) h
  · rw [e3] at h; exact PySem.W.KXf.field_str (y := "fail    ") rfl rfl (by decide +kernel) (by decide +kernel) (by kxf_run_s) h
  · rw [e4] at h; exact PySem.W.KXf.field_str (y := "refuse  ") rfl rfl (by decide +kernel) (by decide +kernel) (by kxf_run_s) h
  · rw [e5] at h; exact PySem.W.KXf.field_str (y := "endless ") rfl rfl (by decide +kernel) (by decide +kernel) (by kxf_run_s) h
theorem fmt_num {n : Nat} {Q : Value → Shared → Prop} (hn : n < 10000) (h : ∀ t' k, Q (.str (pad3 n) t') { s with toks := k }) : wpAny (model prog w) A (formatField (.int (n : Int) t) (">3" : Str)) Q E s := by
  have hl : (n : Int).natAbs.log2 < 1920 := by
    rw [Int.natAbs_natCast]
    by_cases h0 : n = 0
    · subst h0; decide
    · exact (Nat.log2_lt h0).mpr (Nat.lt_of_lt_of_le hn (Nat.le_trans (by decide : 10000 ≤ 2 ^ 14) (Nat.pow_le_pow_right (by decide) (by decide))))
  refine PySem.W.KXf.field_int (y := pad3 n) rfl (by decide +kernel) (by decide +kernel) (fun u => ?_) h
  apply PySem.W.KPc.meets_of
  intro _ _ _ _ _ _ hm
  unfold Builtin.«int.__format__»
  refine wpAny_bind (wpAny_of_eq (a := (_, _)) rfl ?_)
  refine wpAny_bind (wpAny_of_eq (a := _) rfl ?_)
  kxf_if
  refine wpAny_bind (wpAny_typeNameOf (T := "str") (typeIs_str _ _ _) (by decide) fun _ => ?_)
  refine wpAny_bind (wpAny_of_eq (a := some _) rfl ?_)
  kxf_if
  kxf_if
  refine wpAny_bind (wpAny_typeNameOfCut_int ?_)
  have hp : Builtin.Float.parseFormatSpec (">3" : Str).cps.toList "int" 62 = .ok { align := 62, width := some 3 } := by kernel_rfl
  rw [hp]
  dsimp only
  have ht : (none : Option Nat).getD (if ((">3" : Str).cps.back? == some 0) = true then 0 else 100) = 100 := by decide +kernel
  rw [ht]
  refine wyes ?hc ?_; (case hc => decide +kernel)
  refine wpAny_bind (wpAny_of_eq (PySem.overDigitLimit_small hl) ?_)
  have hneg : decide (((n : Nat) : Int) < 0) = false := decide_eq_false (by omega)
  have key := pad_eq hn
  have len := pad_len hn
  refine PySem.W.KXf.ret_text (T := pad3 n) ?_ ?_ hm
  · simp only [hneg]
    exact key
  · simp only [hneg]
    exact Nat.le_trans (Nat.le_of_eq (congrArg Str.length key)) len
end
end Tx

namespace Tx
open PySem PySem.Spec PyProof.Rows L2
/-! ## {x:spec} over data; str.format of one part -/
def tFmtSp (te ts : TE) : TE := fun σ H Q => te σ H fun x H1 => ts σ H1 fun z H2 => (z = .str ">3" ∧ ∃ n : Nat, x = .int ((n : Nat) : Int) ∧ n < 10000 ∧ Q (.str (pad3 n)) H2) ∨ (z = .str "<8" ∧ ∃ k : Str, x = .str k ∧ k ∈ FTs ∧ Q (.str (pad8 k)) H2)
theorem pe_fmtSp {X : Cx} {e sp : Expr} {te ts : TE} {pos : Pos} (he : PE X e te) (hs : PE X sp ts) : PE X (.FormattedValue e (-1) (some sp) pos) (tFmtSp te ts) := by
  refine ⟨fun pins s σ H Q I h => ?_⟩
  refine wpAny_FormattedValue_spec (thn (he.run pins s σ H _ I h) fun v s1 hv => ?_)
  obtain ⟨x, H1, I1, r1, q⟩ := hv
  refine thn (hs.run pins s1 σ H1 _ I1 q) fun r s2 hr => ?_
  obtain ⟨z, H2, I2, r2, q2⟩ := hr
  rcases q2 with ⟨rfl, n, rfl, hn, q2⟩ | ⟨rfl, k, rfl, hk, q2⟩
  · obtain ⟨t, rfl⟩ := r1
    obtain ⟨u, rfl⟩ := r2
    exact ⟨_, _, rfl, fmt_num hn fun t' j => ⟨.str (pad3 n), H2, I2.tok _, ⟨_, rfl⟩, q2⟩⟩
  · obtain ⟨t, rfl⟩ := r1
    obtain ⟨u, rfl⟩ := r2
    exact ⟨_, _, rfl, fmt_kind hk fun t' j => ⟨.str (pad8 k), H2, I2.tok _, ⟨_, rfl⟩, q2⟩⟩
def dFmtSp (te ts : DTE) (ρ : DS) (ω : Wd) (q : DQ) (x : DXK) : Prop := te ρ ω (fun v ω1 => ts ρ ω1 (fun z ω2 => (z = .str ">3" ∧ ∃ n : Nat, v = .int ((n : Nat) : Int) ∧ n < 10000 ∧ q (.str (pad3 n)) ω2) ∨ (z = .str "<8" ∧ ∃ k : Str, v = .str k ∧ k ∈ FTs ∧ q (.str (pad8 k)) ω2)) x) x
section
variable {W : L2.WX} {X : Cx} {K : PySem.W.Frag} {e sp : Expr} {te ts : DTE} {pos : Pos}
theorem de_joined1 (he : DE W X K e te) : DE W X K (.JoinedStr [e] pos) te := by
  obtain ⟨r, p, kk⟩ := he
  exact ⟨r, pe_joined1 p, kk⟩
theorem de_fmtSp (he : DE W X K e te) (hs : DE W X K sp ts) : DE W X K (.FormattedValue e (-1) (some sp) pos) (dFmtSp te ts) := by
  obtain ⟨r, p, kk⟩ := he
  obtain ⟨r2, p2, kk2⟩ := hs
  refine ⟨_, pe_fmtSp p p2, fun σ H J ω ρ q x Q w s cq cx z => kk σ H J ω ρ _ x _ w s (fun v ω1 u J1 H1 z1 g1 w1 rp => ?_) cx z⟩
  refine kk2 σ H1 J1 ω1 ρ _ x _ w1 (s.mono g1.jj) (fun y ω2 u2 J2 H2 z2 g2 w2 rp2 => ?_) (cx.step g1) z1
  have cq2 := cq.step (g1.trans g2)
  rcases z2 with ⟨rfl, n, rfl, hn, z2⟩ | ⟨rfl, k, rfl, hk, z2⟩
  · obtain rfl := rp_int rp
    cases rp2
    exact .inl ⟨rfl, n, rfl, hn, cq2.now w2 z2 (.str _)⟩
  · cases rp
    cases rp2
    exact .inr ⟨rfl, k, rfl, hk, cq2.now w2 z2 (.str _)⟩
end
end Tx

namespace Tx
open PySem PySem.Spec PyProof.Rows L2
/-! ## dicts with tuple keys: repr, list, o[k] -/
def keyPD : Key → PyData
  | .inl i => .int i
  | .inr z => .str z
def tkD (ks : List Key) : PyData := .tuple (ks.map keyPD)
def dtD (kvs : List (List Key × PyData)) : PyData := .dict (kvs.map fun p => (tkD p.1, p.2))
/-- the cells that hold nothing of their own -/
def bareW (ω : Wd) : Wd := fun a => match ω a with
  | some m => if m.bare = true then some m else none
  | none => none
theorem bareW_at {ω : Wd} {a : Addr} {m : MO} (h : ω a = some m) (hb : m.bare = true) : bareW ω a = some m := by
  unfold bareW
  rw [h]
  exact if_pos hb
theorem bareW_some {ω : Wd} {a : Addr} {m : MO} (h : bareW ω a = some m) : ω a = some m ∧ m.bare = true := by
  unfold bareW at h
  cases e : ω a with
  | none => rw [e] at h; cases h
  | some k =>
    rw [e] at h
    dsimp only at h
    split at h
    · rename_i hb
      cases h
      exact ⟨rfl, hb⟩
    · cases h
theorem dp_keys {K : PySem.W.Frag} {H : Hp} : ∀ ks : List Key, DpAll K H (ks.map kV) (ks.map keyPD)
  | [] => .nil
  | .inl i :: ks => .cons (.int i) (dp_keys ks)
  | .inr z :: ks => .cons (.str z) (dp_keys ks)
theorem rp_keysD {K : PySem.W.Frag} {J : Hp} : ∀ ks : List Key, RpAll K J (ks.map kV) (ks.map keyPD)
  | [] => .nil
  | .inl i :: ks => .cons (.int i) (rp_keysD ks)
  | .inr z :: ks => .cons (.str z) (rp_keysD ks)
theorem dt_reads {X : Cx} {pins : List (Addr × Obj)} {σ : L2.St} {H J : Hp} {s : Shared} (I : Inv X pins σ H s) (sj : Same J H) : ∀ {ws : List (List Key × V)} {kvs : List (List Key × PyData)} {ts : List (List Key × Addr × Value)}, RpK X.K J ws kvs →
    Paired (fun (p : List Key × V) (q : List Key × Addr × Value) => p.1 = q.1 ∧ H q.2.1 = some (.tup (p.1.map kV)) ∧ RelV p.2 q.2.2) ws ts → (∀ p ∈ kvs, p.2.canLay0 = true) →
    (∃ as, ReadsAll s.heap (ts.map fun t => Value.ref t.2.1) (kvs.map fun p => tkD p.1) as) ∧ ∃ bs, ReadsAll s.heap (ts.map fun t => t.2.2) (kvs.map fun p => p.2) bs
  | _, _, _, .nil, h, _ => by
    cases h
    exact ⟨⟨_, .nil⟩, ⟨_, .nil⟩⟩
  | _, _, _, .cons h1 r1, h, lay => by
    cases h with
    | cons h2 r2 =>
    obtain ⟨⟨as, a1⟩, bs, b1⟩ := dt_reads I sj r1 r2 fun p hp => lay p (List.mem_cons_of_mem _ hp)
    obtain ⟨k1, k2⟩ := h1
    obtain ⟨l1, l2, l3⟩ := h2
    have dk : Dp X.K H (.ref _) (tkD _) := .tup (SqT.of l2) (dp_keys _)
    obtain ⟨as2, a2⟩ := Dp.reads I _ _ (.ref _) dk rfl
    have dv := dp_mono sj _ _ (rp_dp _ _ (lay _ (List.mem_cons_self ..)) k2)
    obtain ⟨bs2, b2⟩ := Dp.reads I _ _ _ dv l3
    rw [k1] at a2
    exact ⟨⟨_, .cons a2 a1⟩, ⟨_, .cons b2 b1⟩⟩
def reprTD : RD1 := fun xs ω Q => ∃ (a : Addr) (kvs : List (List Key × PyData)), xs = [refD a] ∧ ω a = some (.dt kvs) ∧ (∀ p ∈ kvs, p.2.canLay0 = true) ∧ (dtD kvs).showable = true ∧ (dtD kvs).depth ≤ 60 ∧ (dtD kvs).shown.length ≤ sizeLine ∧ Q (.str (dtD kvs).shown)
theorem keys_nodict : ∀ ks : List Key, PyData.hasDictAll (ks.map keyPD) = false
  | [] => rfl
  | .inl i :: ks => by
    rw [List.map_cons]
    simp only [keyPD, PyData.hasDictAll, PyData.hasDict, keys_nodict ks, Bool.or_self]
  | .inr z :: ks => by
    rw [List.map_cons]
    simp only [keyPD, PyData.hasDictAll, PyData.hasDict, keys_nodict ks, Bool.or_self]
theorem tks_nodict : ∀ kvs : List (List Key × PyData), PyData.hasDictAll (kvs.map fun p => tkD p.1) = false
  | [] => rfl
  | p :: l => by
    rw [List.map_cons]
    simp only [tkD, PyData.hasDictAll, PyData.hasDict, keys_nodict, tks_nodict l, Bool.or_self]
    exact tks_nodict l
theorem vals_nodict : ∀ kvs : List (List Key × PyData), (∀ p ∈ kvs, p.2.canLay0 = true) → PyData.hasDictAll (kvs.map fun p => p.2) = false
  | [], _ => rfl
  | p :: l, h => by
    rw [List.map_cons]
    simp only [PyData.hasDictAll, PyData.hasDict_of_canLay _ (h p (List.mem_cons_self ..)), vals_nodict l fun q hq => h q (List.mem_cons_of_mem _ hq), Bool.or_self]
theorem dc_reprT {X : Cx} {K : PySem.W.Frag} (hK : X.K = K) (gd : X.A.guards = some []) (hu : X.A.units + 64 < cLine) : CallR X (.builtin "repr") (liftA K reprTD) := by
  subst hK
  intro pins s σ H xs us Q I rel ⟨J, ω, ds, q, w, hx, c, a, kvs, e1, e2, lay, sh, dp, sz, z⟩
  subst e1
  cases hx with
  | cons hx h0 =>
  cases h0
  obtain rfl := rp_ref hx
  rw [Vals.ref1 rel]
  obtain ⟨ws, h1, rk⟩ := w.cell a _ e2
  obtain ⟨_, hsys, ts, pr, o, es, ep, ho, hxd, hdt, he, hn⟩ := (show ObjOk X.prog X.w H s.heap a (.dT ws) from I.hok a _ h1)
  obtain ⟨⟨as, ra⟩, bs, rb⟩ := dt_reads I w.jh rk pr lay
  have ek : es.toList.map (·.key) = ts.map fun t => Value.ref t.2.1 := by rw [he, List.map_map]; rfl
  have ev : es.toList.map (·.val) = ts.map fun t => t.2.2 := by rw [he, List.map_map]; rfl
  have mk : (kvs.map fun p => (tkD p.1, p.2)).map (·.1) = kvs.map fun p => tkD p.1 := by rw [List.map_map]; rfl
  have mv : (kvs.map fun p => (tkD p.1, p.2)).map (·.2) = kvs.map fun p => p.2 := by rw [List.map_map]; rfl
  rw [← ek, ← mk] at ra
  rw [← ev, ← mv] at rb
  have hz' : (dictText (PyData.shownKv (kvs.map fun p => (tkD p.1, p.2)))).length ≤ sizeLine := by simpa only [PyData.shown, dtD] using sz
  obtain ⟨hs1, hs2⟩ := PyData.showableKv_split (kvs.map fun p => (tkD p.1, p.2)) (by simpa only [PyData.showable, dtD] using sh)
  obtain ⟨b1, hb1, k1⟩ := ReprAllK.of_readsAll (prog := X.prog) (w := X.w) ra hs1 (fun h => by rw [mk, tks_nodict] at h; cases h) (fun t ht => let ⟨p, hp, hl⟩ := PyData.shownKv_key_le _ t ht; Nat.le_trans hl (Nat.le_trans (dictText_mem_le hp) hz'))
  obtain ⟨b2, hb2, k2⟩ := ReprAllK.of_readsAll (prog := X.prog) (w := X.w) rb hs2 (fun h => by rw [mv, vals_nodict kvs lay] at h; cases h) (fun t ht => let ⟨p, hp, hl⟩ := PyData.shownKv_val_le _ t ht; Nat.le_trans hl (Nat.le_trans (dictText_mem_le hp) hz'))
  have hb := (hb1.mono (PyData.depthAll_keys_le _)).append (hb2.mono (PyData.depthAll_vals_le _))
  have dd : PyData.depthKv (kvs.map fun p => (tkD p.1, p.2)) < (dtD kvs).depth := by
    unfold dtD
    simp only [PyData.depth]
    omega
  have hna := not_mem_of_deeper (.dict ho hxd.1 hdt ra rb) dd hb
  have hu2 : X.A.in1.units + (PyData.depthKv (kvs.map fun p => (tkD p.1, p.2)) + 1) < cLine := by
    show X.A.units + 1 + _ < cLine
    omega
  refine call_repr_slot (by omega) ⟨o, ho, hxd.1⟩ F.slot_dict_repr (call_dict_reprK ho hxd.1 hdt hsys hna (ReprEntriesK.of_two es.toList _ _ (k1.more_le (fun b hb => List.mem_append_left _ hb) (PyData.depthAll_keys_le _)) (k2.more_le (fun b hb => List.mem_append_right _ hb) (PyData.depthAll_vals_le _))) gd (fun b _ => Clear.nil b) hu2 (fun _ _ z => z) (fun h' u tk hk => ?_) (by rw [← PyData.shownKv_eq]; exact hz'))
  refine ⟨_, _, rfl, .str (dtD kvs).shown, H, I.kept (t' := tk) hk, ⟨u, ?_⟩, c.now w z (.str _)⟩
  unfold dtD
  simp only [PyData.shown, PyData.shownKv_eq]
end Tx

namespace Tx
open PySem PySem.Spec PyProof.Rows L2
/-! ## dicts with tuple keys: list(d) as data, o[k] -/
/-- the frozen part with the key tuples and the new list -/
def adoptJ (J H : Hp) (p : Addr) (bs : List Addr) : Hp := fun c => if c = p then some (.lst (bs.map V.ref)) else if c ∈ bs then H c else J c
theorem cell_tup {K : PySem.W.Frag} {J H : Hp} {a : Addr} {m : MO} {us : List V} (h : Cell K J H a m) (hb : m.bare = true) (e : H a = some (.tup us)) : False := by
  cases m with
  | lst ds => obtain ⟨_, h, _⟩ := h; rw [h] at e; cases e
  | bag => obtain ⟨_, _, h⟩ := h; rw [h] at e; cases e
  | ins C dx fs => obtain ⟨_, h, _⟩ := h; rw [h] at e; cases e
  | xd fs => obtain ⟨_, h, _⟩ := h; rw [h] at e; cases e
  | tmp N d => cases hb
  | ent C dx p f ds => cases hb
  | dk kvs => obtain ⟨_, h, _⟩ := h; rw [h] at e; cases e
  | dt kvs => obtain ⟨_, h, _⟩ := h; rw [h] at e; cases e
theorem adopt {K : PySem.W.Frag} {J H : Hp} {ω : Wd} {p : Addr} {bs : List Addr} (w : Rw K J H ω) (hp : H p = none) (hb : ∀ b ∈ bs, ∃ us, H b = some (.tup us)) : Grow J H ω (adoptJ J H p bs) (upd H p (.lst (bs.map V.ref))) (bareW ω) ∧ Rw K (adoptJ J H p bs) (upd H p (.lst (bs.map V.ref))) (bareW ω) := by
  have hj : J p = none := w.jh.free hp
  have jj : Same J (adoptJ J H p bs) := fun a o e => by
    unfold adoptJ
    have ne : a ≠ p := fun y => by rw [y, hj] at e; cases e
    rw [if_neg ne]
    split
    · exact w.jh a o e
    · exact e
  have fr : ∀ a, Fr ω a → Fr (bareW ω) a := fun a h => by
    refine ⟨?_, fun c m e => h.2 c m (bareW_some e).1⟩
    cases e : bareW ω a with
    | none => rfl
    | some m => have := (bareW_some e).1; rw [h.1] at this; cases this
  refine ⟨⟨jj, fun a h => ?_, fun a o h _ => ?_, fun a h _ j => ?_, fun a _ z => fr a z⟩, ⟨fun a o e => ?_, fun a m e => ?_, fun a m e => ?_, fun a m e b pb => ?_⟩⟩
  · rw [upd_ne (ne_new h hp)]; exact h
  · rw [upd_ne (ne_of_none h hp)]; exact h
  · obtain ⟨o, e, nt⟩ := h
    unfold adoptJ
    rw [if_neg (fun y => by rw [y, hp] at e; cases e), if_neg (fun hm => by obtain ⟨us, e2⟩ := hb a hm; rw [e] at e2; cases e2; exact nt _ rfl)]
    exact j
  · unfold adoptJ at e
    by_cases y : a = p
    · rw [if_pos y] at e
      cases e
      rw [y, upd_same]
    · rw [if_neg y] at e
      rw [upd_ne y]
      split at e
      · exact e
      · exact w.jh a o e
  · obtain ⟨e1, e2⟩ := bareW_some e
    have hc := w.cell a m e1
    have ne : a ≠ p := fun y => by
      have := (w.free hp).1
      rw [← y, e1] at this
      cases this
    unfold adoptJ
    rw [if_neg ne, if_neg (fun hm => by obtain ⟨us, e3⟩ := hb a hm; exact cell_tup hc e2 e3)]
    exact w.out a m e1
  · obtain ⟨e1, e2⟩ := bareW_some e
    refine (w.cell a m e1).mono jj fun b o _ h => ?_
    rw [upd_ne (ne_of_none h hp)]
    exact h
  · obtain ⟨e1, e2⟩ := bareW_some e
    exact absurd pb (MO.bare_priv e2)
def rmListT : RM1 := fun ds ω q => ∃ (a : Addr) (kvs : List (List Key × PyData)), ds = [refD a] ∧ ω a = some (.dt kvs) ∧ q (.list (kvs.map fun p => tkD p.1)) (bareW ω)
theorem isKeys_mem {H : Hp} : ∀ {ws : List (List Key × V)} {bs : List Addr}, IsKeys H ws bs → ∀ b ∈ bs, ∃ us, H b = some (.tup us)
  | _, _, .nil, b, hb => nomatch hb
  | _, _, .cons h r, b, hb => by
    rcases List.mem_cons.mp hb with rfl | hb
    · exact ⟨_, h⟩
    · exact isKeys_mem r b hb
theorem rp_refs {K : PySem.W.Frag} {J J1 : Hp} {H : Hp} : ∀ {ws : List (List Key × V)} {bs : List Addr} {kvs : List (List Key × PyData)}, IsKeys H ws bs → RpK K J ws kvs → (∀ b ∈ bs, ∀ us, H b = some (.tup us) → J1 b = some (.tup us)) → RpAll K J1 (bs.map V.ref) (kvs.map fun p => tkD p.1)
  | _, _, _, .nil, h, _ => by cases h; exact .nil
  | _, _, _, .cons h1 r1, h, hj => by
    cases h with
    | cons h2 r2 =>
    refine .cons ?_ (rp_refs r1 r2 fun b hb => hj b (List.mem_cons_of_mem _ hb))
    have e := hj _ (List.mem_cons_self ..) _ h1
    rw [h2.1] at e
    exact .tup (SqT.of e) (rp_keysD _)
theorem dc_listT {X : Cx} {K : PySem.W.Frag} (hK : X.K = K) (hc : X.calm = true) : L2.CallR X (.type "list") (liftAM K rmListT) := by
  subst hK
  intro pins s σ H xs us Q I rel ⟨J, ω, ds, q, w, hx, c, a, kvs, e1, e2, z⟩
  subst e1
  cases hx with
  | cons hx h0 =>
  cases h0
  obtain rfl := rp_ref hx
  obtain ⟨ws, h1, rk⟩ := w.cell a _ e2
  refine call_list_dT hc pins s σ H _ us Q I rel ⟨a, ws, rfl, .inl h1, fun p bs hp hk => ?_⟩
  have hb := isKeys_mem hk
  obtain ⟨g, w2⟩ := adopt w hp hb
  have ne : ∀ b ∈ bs, b ≠ p := fun b h y => by obtain ⟨us, e⟩ := hb b h; rw [y, hp] at e; cases e
  have jb : ∀ b ∈ bs, ∀ us, H b = some (.tup us) → adoptJ J H p bs b = some (.tup us) := fun b h us e => by
    unfold adoptJ
    rw [if_neg (ne b h), if_pos h]
    exact e
  have hpj : adoptJ J H p bs p = some (.lst (bs.map V.ref)) := by
    unfold adoptJ
    rw [if_pos rfl]
  exact c _ _ (.ref p) _ _ z g w2 (.lst hpj (rp_refs hk rk jb))
def dGetT (to : DTE) (tA : DTA) (ρ : DS) (ω : Wd) (q : DQ) (x : DXK) : Prop := to ρ ω (fun o ω1 => tA ρ ω1 (fun ys ω2 => ys.length ≤ sizeLine ∧ ∃ (a : Addr) (kvs : List (List Key × PyData)) (ks : List Key) (d : PyData), o = refD a ∧ ω2 a = some (.dt kvs) ∧ unKeys ys = some ks ∧ dval kvs ks = some d ∧ q d ω2) x) x
section
variable {W : L2.WX} {X : Cx} {K : PySem.W.Frag} {o : Expr} {es : List Expr} {tA : DTA} {to : DTE} {pos tpos : Pos} {x1 : Nat}
theorem de_getT (hK : X.K = K) (hu : X.A.units + 1 < cLine) (ho : DE W X K o to) (hes : DAs W X K es tA) (hs : NoSl (.Tuple es x1 tpos) := by intro _ _; rfl) : DE W X K (.Subscript o (.Tuple es x1 tpos) pos) (dGetT to tA) := by
  subst hK
  obtain ⟨ro, po, ko⟩ := ho
  obtain ⟨re, pe, ke⟩ := hes
  refine ⟨_, pe_dget hu po (pe_tup pe) hs, fun σ H J ω ρ q x Q w s cq cx z => ko σ H J ω ρ _ x _ w s (fun a1 ω1 v J1 H1 z1 g1 w1 r1 => ?_) cx z⟩
  refine ke σ H1 J1 ω1 ρ _ x _ w1 (s.mono g1.jj) (fun ys ω2 us J2 H2 z2 g2 w2 r2 => ?_) (cx.step g1) z1
  obtain ⟨hl, a, kvs, ks, d, rfl, e1, e2, e3, z2⟩ := z2
  obtain rfl := rp_ref r1
  refine ⟨by rw [r2.length]; exact hl, fun p hp => ?_⟩
  have g2' := Grow.frz w2 hp (.tup us)
  have w2' := w2.frz hp (.tup us)
  obtain ⟨ws, e4, rk⟩ := w2'.cell a _ e1
  have hp3 : upd H2 p (.tup us) p = some (.tup (ks.map kV)) := by rw [upd_same, rp_keys r2 e2]
  obtain ⟨v, e5, rv⟩ := rk.val.1 d e3
  exact ⟨a, v, rfl, e5 ▸ DGet.t e4 hp3, (cq.step ((g1.trans g2).trans g2')).now w2' z2 rv⟩
end
end Tx

namespace Tx
open PySem PySem.Spec PyProof.Rows L2
/-! ## fates as data (the same lemmas stand in wE) -/
theorem fate_eqv (a b : Str × Nat) : PyData.eqv (fateD a) (fateD b) = decide (a = b) := by
  obtain ⟨a1, a2⟩ := a
  obtain ⟨b1, b2⟩ := b
  unfold fateD
  simp only [PyData.eqv, PyData.eqvAll, eqv_str, eqv_int, Bool.and_true]
  by_cases e1 : a1 = b1
  · by_cases e2 : a2 = b2
    · subst e1 e2; simp
    · have : ¬ ((a2 : Nat) : Int) = ((b2 : Nat) : Int) := by omega
      simp [e2, this]
  · simp [e1]
theorem fate_any (l : List (Str × Nat)) (f : Str × Nat) : ((l.map fateD).any fun z => PyData.eqv z (fateD f)) = decide (f ∈ l) := by
  induction l with
  | nil => rfl
  | cons a l ih =>
    rw [List.map_cons, List.any_cons, ih, fate_eqv]
    by_cases e : a = f
    · subst e; simp
    · have : ¬ f = a := fun z => e z.symm
      simp [e, this]
theorem fts_ok : ∀ k ∈ FTs, PyData.strOk k = true := by decide +kernel
theorem fate_lay {f : Str × Nat} (h : f.1 ∈ FTs) : (fateD f).canLay0 = true := by
  unfold fateD
  simp only [PyData.canLay0, PyData.canLayAll0, fts_ok _ h, Bool.and_self, Bool.and_true]
theorem fate_shaped {f : Str × Nat} (h : f.1 ∈ FTs) : SeqAt.shaped (fateD f) = true := by
  unfold SeqAt.shaped
  rw [fate_lay h, Bool.true_and]
  refine decide_eq_true ?_
  simp [fateD, PyData.depth, PyData.depthAll]
theorem fates_shaped {l : List (Str × Nat)} (h : ∀ f ∈ l, f.1 ∈ FTs) : SeqAt.shaped (.list (l.map fateD)) = true := by
  have h1 : PyData.canLayAll0 (l.map fateD) = true := by
    induction l with
    | nil => rfl
    | cons a l ih =>
      rw [List.map_cons]
      simp only [PyData.canLayAll0, fate_lay (h a (by simp)), ih fun f hf => h f (List.mem_cons_of_mem _ hf), Bool.and_self]
  unfold SeqAt.shaped
  simp only [PyData.canLay0, h1, Bool.true_and]
  refine decide_eq_true ?_
  have := depthAll_le (n := 1) (xs := l.map fateD) fun x hx => by
    obtain ⟨f, _, rfl⟩ := List.mem_map.mp hx
    simp [fateD, PyData.depth, PyData.depthAll]
  simp only [PyData.depth]
  omega
end Tx

namespace Tx
open PySem PySem.Spec PyProof.Rows L2
/-! ## sorted of a list of fates -/
def leF (f g : Str × Nat) : Bool := PySem.W.dataLe false fateD f g
def sortFD : RD1 := fun xs ω Q => ∃ (x : PyData) (fs : List (Str × Nat)), xs = [x] ∧ rsv ω x = .list (fs.map fateD) ∧ (∀ f ∈ fs, f.1 ∈ FTs) ∧ Q (.list ((fs.mergeSort leF).map fateD))
theorem fate_alike (f g : Str × Nat) : PySem.W.alike (fateD f) (fateD g) = true := rfl
theorem rp_zip {K : PySem.W.Frag} {J : Hp} : ∀ bs : List ((Str × Nat) × V), (∀ b ∈ bs, Rp K J b.2 (fateD b.1)) → RpAll K J (bs.map (·.2)) (bs.map fun b => fateD b.1)
  | [], _ => .nil
  | b :: bs, h => .cons (h b (List.mem_cons_self ..)) (rp_zip bs fun c hc => h c (List.mem_cons_of_mem _ hc))
theorem rp_zip_mem {K : PySem.W.Frag} {J : Hp} : ∀ {fs : List (Str × Nat)} {vs : List V}, RpAll K J vs (fs.map fateD) → ∀ b ∈ fs.zip vs, Rp K J b.2 (fateD b.1)
  | [], _, h, b, hb => by cases h; cases hb
  | f :: fs, _, h, b, hb => by
    cases h with
    | cons h1 h2 =>
    rw [List.zip_cons_cons] at hb
    rcases List.mem_cons.mp hb with e | hb
    · rw [e]; exact h1
    · exact rp_zip_mem h2 b hb
theorem each_fate {X : Cx} {pins : List (Addr × Obj)} {σ : L2.St} {H J : Hp} {s : Shared} (I : Inv X pins σ H s) (sj : Same J H) : ∀ {fs : List (Str × Nat)} {vs : List V} {its : List Value}, (∀ f ∈ fs, f.1 ∈ FTs) → RpAll X.K J vs (fs.map fateD) → Vals vs its →
    PySem.W.EachIs (fun (u : Value) (b : (Str × Nat) × V) => RelV b.2 u) its (fs.zip vs) ∧ PySem.W.EachIs (fun (u : Value) (b : (Str × Nat) × V) => ∃ as, Reads s.heap u (fateD b.1) as) its (fs.zip vs)
  | [], _, _, _, h, r => by cases h; cases r; exact ⟨.nil, .nil⟩
  | f :: fs, _, _, ok, h, r => by
    cases h with
    | cons h1 h2 =>
    cases r with
    | cons r1 r2 =>
    obtain ⟨e1, e2⟩ := each_fate I sj (fun g hg => ok g (List.mem_cons_of_mem _ hg)) h2 r2
    have dp := dp_mono sj _ _ (rp_dp _ _ (shaped_lay (fate_shaped (ok f (List.mem_cons_self ..)))) h1)
    exact ⟨.cons r1 e1, .cons (Dp.reads I _ _ _ dp r1) e2⟩
theorem vals_of_each : ∀ {bs : List ((Str × Nat) × V)} {out : List Value}, PySem.W.EachIs (fun (u : Value) (b : (Str × Nat) × V) => RelV b.2 u) out bs → Vals (bs.map (·.2)) out
  | [], _, h => by cases h; exact .nil
  | b :: bs, _, h => by
    cases h with
    | cons h1 h2 => exact .cons h1 (vals_of_each h2)
theorem dc_sortedF {X : Cx} {K : PySem.W.Frag} (hK : X.K = K) (hu : X.A.units + 64 < cLine) : CallR X (.builtin "sorted") (liftA K sortFD) := by
  subst hK
  intro pins s σ H xs us Q I rv ⟨J, ω, ds, q, w, rs, c, x, fs, e1, e2, ok, z⟩
  subst e1
  cases rs with
  | cons r1 r2 =>
  cases r2
  obtain ⟨a, vs, rfl, ha, ra⟩ := rp_list w r1 e2
  obtain ⟨its, rv2, hl, hz⟩ := I.list (SqL.of ha)
  rw [Vals.ref1 rv]
  obtain ⟨e, er⟩ := each_fate I w.jh ok ra rv2
  have hv : fs.length = vs.length := by rw [ra.length, List.length_map]
  have lz : (fs.zip vs).length = vs.length := by rw [List.length_zip]; omega
  refine PySem.W.sorted_data (enc := fun b : (Str × Nat) × V => fateD b.1) hl.isList e er (PySem.W.AllAlike.of fun b b' => fate_alike _ _) (PySem.W.Sortable.tuples fun b => ⟨_, _, rfl⟩) (by rw [lz]; exact hz) (fun b hb => ?_) fun out ol oe => ?_
  · have : (fateD b.1).depth = 1 := rfl
    rw [this]
    show X.A.units + 2 + 1 < cLine
    omega
  have vo := vals_of_each oe
  have hm : ((fs.zip vs).mergeSort (PySem.W.dataLe false fun b : (Str × Nat) × V => fateD b.1)).map (fun b => fateD b.1) = (fs.mergeSort leF).map fateD := by
    have h1 : ∀ l : List ((Str × Nat) × V), l.map (fun b => fateD b.1) = (l.map Prod.fst).map fateD := fun l => by rw [List.map_map]; rfl
    rw [h1, List.map_mergeSort (r := PySem.W.dataLe false fun b : (Str × Nat) × V => fateD b.1) (s := leF) (f := Prod.fst) (fun _ _ _ _ => rfl), List.map_fst_zip (by omega)]
  have rp : RpAll X.K J (((fs.zip vs).mergeSort (PySem.W.dataLe false fun b : (Str × Nat) × V => fateD b.1)).map (·.2)) ((fs.mergeSort leF).map fateD) := by
    rw [← hm]
    exact rp_zip _ fun b hb => rp_zip_mem ra b ((List.mergeSort_perm _ _).mem_iff.mp hb)
  obtain ⟨ep, he'⟩ := PyProof.Rows.sortedAll_at s.heap its (List.toArray out)
  have hlen : (((fs.zip vs).mergeSort (PySem.W.dataLe false fun b : (Str × Nat) × V => fateD b.1)).map (·.2)).length ≤ sizeLine := by
    rw [List.length_map, List.length_mergeSort, lz]
    exact hz
  exact ⟨.ref _, upd H (s.heap.objs.size + 1) (.lst _), I.laid (t' := s.toks) (fun _ _ => PyProof.Rows.sortedAll_old) (Nat.le_succ _) ⟨hlen, _, ep, vo, he'⟩, rfl, c.newL w z rp (I.hok.fresh (Nat.le_succ _))⟩
end Tx

namespace Tx
open PySem PySem.Spec PyProof.Rows L2
/-! ## The law's draws with bags of three numbers (other numbers than in wN) -/
abbrev sBag3 : Stmt := top 3
theorem scBag3 : FnScope ["_law_script", "_law_at", "_law_cell"] ["_law_script", "_law_at"] (defScope sBag3) := ⟨rfl, rfl, rfl, by decide +kernel, rfl, by decide +kernel, by decide +kernel⟩
/-- 0 _law_bag_here, 1 _law_many, 2 _law_mixed, 3 _law_digit -/
abbrev sTake3 : Stmt := top 4
theorem scTake3 : FnScope ["_law_bag_here", "_law_many", "_law_mixed", "_law_digit"] ["_law_bag_here", "_law_many"] (defScope sTake3) := ⟨rfl, rfl, rfl, by decide +kernel, rfl, by decide +kernel, by decide +kernel⟩
/-- the bag at b, behind at most n draws -/
def Bg (ω : Wd) (b : Addr) (n : Nat) : Prop := ∃ x m c : Int, ω b = some (.lst [.int x, .int m, .int c]) ∧ 0 ≤ m ∧ m < 12000000000000000000 ∧ 0 ≤ c ∧ c ≤ n
/-- all cells but that at b stay -/
def Off (b : Addr) (ω ω' : Wd) : Prop := ∀ a m, a ≠ b → ω a = some m → ω' a = some m
theorem Off.refl {b : Addr} {ω : Wd} : Off b ω ω := fun _ _ _ h => h
theorem Off.trans {b : Addr} {ω ω1 ω2 : Wd} (h : Off b ω ω1) (k : Off b ω1 ω2) : Off b ω ω2 := fun a m n e => k a m n (h a m n e)
theorem Off.upd {b : Addr} {ω : Wd} {m : MO} : Off b ω (updW ω b m) := fun a _ n e => by rw [updW_ne n]; exact e
theorem Off.sub {b : Addr} {ω ω' : Wd} (h : SubW ω ω') : Off b ω ω' := fun a m _ e => h a m e
theorem Bg.mono {b : Addr} {ω : Wd} {n k : Nat} (h : Bg ω b n) (l : n ≤ k) : Bg ω b k := by
  obtain ⟨x, m, c, e, h1, h2, h3, h4⟩ := h
  exact ⟨x, m, c, e, h1, h2, h3, by omega⟩
def dsTake3 : DSp := fun ts ω q _ => ∃ (b : Addr) (k : Int) (n : Nat), ts = [refD b, .int k] ∧ Bg ω b n ∧ n < 1000000000 ∧ 0 < k ∧ k < 1073741824 ∧ ∀ (r : Int) ω', 0 ≤ r → r < k → Off b ω ω' → Bg ω' b (n + 1) → q (.int r) ω'
def spBag3 (K : PySem.W.Frag) : Sp := fun vs H Q _ => ∃ (a : Addr) (ns : List Int) (i : Int), vs = [.ref a, .int i] ∧ SqL K H a (ns.map V.int) ∧ 0 ≤ i ∧ i < 1000 ∧
  ∀ (b : Addr) (H' : Hp) (x m : Int), Same H H' → H b = none → H' b = some (.lst [.int x, .int m, .int 0]) → 0 ≤ m → m < 12000000000000000000 → Q (.ref b) H'
def dsBag3 : DSp := fun ts ω q _ => ∃ (a : Addr) (ns : List Int) (i : Int), ts = [scrD a ns, .int i] ∧ 0 ≤ i ∧ i < 1000 ∧ ∀ b ω', ω b = none → SubW ω ω' → Bg ω' b 0 → q (refD b) ω'
section
variable {X : Cx} {K : PySem.W.Frag}
def absD : RD1 := fun xs _ Q => ∃ i : Int, xs = [.int i] ∧ Q (.int (if i < 0 then -i else i))
end
section
variable {P : Program} {w : World} {K : PySem.W.Frag} {mg : Str → Option Value} {base : Heap}
theorem d_bag3 (h : Has K mg "_law_bag" sBag3) (B : Bi mg) : Dfn P w K mg base CX0 1 "_law_bag" ["_law_script", "_law_at"] (spBag3 K) := by
  refine dfn0 h B scBag3 (fun _ _ _ _ _ _ us hl => match us, hl with | [_, _], _ => rfl) (fun vs H Q E h => ?_) (fun f cv A out s H vs Q E c h => ?_)
  · obtain ⟨a, ns, i, rfl, _⟩ := h
    rfl
  obtain ⟨a, ns, i, rfl, hS, i0, i1, q⟩ := h
  refine ⟨_, (pss_cons (ps_set (i := 2) scBag3.nd rfl (Or.inl rfl) (pe_ifExp (pt_cmpR op_lt (pv 1) (pe_callB call_len_seq (by rfl) c.b.len PySem.boot_len (pa_cons (pv 0) pa_nil)) (nomark _)) (pe_callB call_abs (by rfl) c.b.abs (by decide +kernel) (pa_cons (pe_ix ix_list (pv 0) (pv 1) (fun _ _ => rfl)) pa_nil)) pe_int))
    (pss_one (ps_ret (pe_lst (pa_cons (pe_ifExp (pt_cmpR op_ge (pv 2) (pe_op op_pow pe_int pe_int) (nomark _)) (pv 2) pe_int) (pa_cons (pe_op op_add (pe_op op_add (pe_op op_mul (pe_op op_mod (pe_callTy call_int1 (by rfl) c.b.int (by decide +kernel) (pa_cons (pv 2) pa_nil)) pe_int) pe_int) (pe_op op_mul pe_int (pv 1))) pe_int) (pa_cons pe_int pa_nil))))))), ?_⟩
  have hl : (ns.map V.int).length = ns.length := List.length_map _
  refine ⟨_, rfl, _, rfl, a, _, rfl, .inl hS, _, _, rfl, rfl, _, rfl, ?_⟩
  refine ite2 (fun lt => ?one) (fun _ => ?two)
  case' one =>
    have lt' : i < (((ns.map V.int).length : Nat) : Int) := of_decide_eq_true lt
    obtain ⟨y, at_i, e2⟩ := atI_of i0 lt'
    obtain ⟨z, rfl⟩ := int_of_get e2
    refine ⟨_, rfl, _, rfl, a, _, _, _, rfl, rfl, hS, at_i, _, rfl, ?_⟩
  all_goals
    refine ⟨_, rfl, _, _, rfl, rfl, ⟨by decide, by decide, by decide⟩, _, _, rfl, rfl, _, rfl, ite2 (fun _ => ?_) (fun _ => ?_)⟩
    · refine ⟨_, rfl, _, rfl, .inl ⟨_, rfl, _, _, rfl, rfl, (by show (0 : Int) < 2305843009213693951; decide), _, _, rfl, rfl, .inr ⟨by decide, by decide⟩, ?_⟩⟩
      refine ⟨_, rfl, _, _, rfl, rfl, .inl ⟨by decide, by decide⟩, _, _, rfl, rfl, _, _, rfl, rfl, (by show 3 ≤ sizeLine; decide), fun p hp => ?_⟩
      exact q p _ _ _ (same_new hp _) hp upd_same (by omega) (by omega)
    · refine ⟨_, rfl, .inl ⟨_, rfl, _, _, rfl, rfl, (by show (0 : Int) < 2305843009213693951; decide), _, _, rfl, rfl, .inr ⟨by decide, by decide⟩, ?_⟩⟩
      refine ⟨_, rfl, _, _, rfl, rfl, .inl ⟨by decide, by decide⟩, _, _, rfl, rfl, _, _, rfl, rfl, (by show 3 ≤ sizeLine; decide), fun p hp => ?_⟩
      exact q p _ _ _ (same_new hp _) hp upd_same (by omega) (by omega)
theorem dd_take3 (h : Has K mg "_law_take" sTake3) (B : Bi mg) : Dfn P w K mg base CX0 1 "_law_take" ["_law_bag_here", "_law_many"] (spD K dsTake3) := by
  refine dfnD (k := 0) h B scTake3 (fun _ _ _ _ _ _ us hl => match us, hl with | [_, _], _ => rfl) (fun ts ω q xx h => ?_) (fun f cv A out s H E c => ⟨_, (dss_cons (ds_if (dt_cmp (do_gt rfl) (de_ix rfl (de_var (pv 0)) de_int (fun _ _ => rfl)) de_int (nomark _)) (dss_cons (ds_set (i := 3) scTake3.nd rfl (Or.inl rfl) (de_op (do_mod rfl) (de_callTy (dc_int rfl) (by rfl) c.b.int (by decide +kernel) (da_cons (de_ix rfl (de_var (pv 0)) de_int (fun _ _ => rfl)) da_nil)) (de_var (pv 1))))
    (dss_cons (ds_setS (de_var (pv 0)) de_int (de_op (do_fdiv rfl) (de_ix rfl (de_var (pv 0)) de_int (fun _ _ => rfl)) (de_var (pv 1))) set_listO)
    (dss_one (ds_ret (de_var (pv 3)))))) dss_nil)
    (dss_cons (ds_setS (de_var (pv 0)) de_int (de_op (do_add rfl) (de_ix rfl (de_var (pv 0)) de_int (fun _ _ => rfl)) de_int) set_listO)
    (dss_cons (ds_set (i := 2) scTake3.nd rfl (Or.inl rfl) (de_op (do_mod rfl) (de_callTy (dc_int rfl) (by rfl) c.b.int (by decide +kernel) (da_cons (de_op (do_pow rfl) (de_op (do_add rfl) (de_ix rfl (de_var (pv 0)) de_int (fun _ _ => rfl)) (de_op (do_mul rfl) de_int (de_ix rfl (de_var (pv 0)) de_int (fun _ _ => rfl)))) de_int) da_nil)) de_int))
    (dss_cons (ds_set (i := 2) scTake3.nd rfl (Or.inl rfl) (de_op (do_mod rfl) (de_callTy (dc_int rfl) (by rfl) c.b.int (by decide +kernel) (da_cons (de_op (do_pow rfl) (de_op (do_add rfl) (de_var (pv 2)) (de_op (do_mul rfl) de_int (de_ix rfl (de_var (pv 0)) de_int (fun _ _ => rfl)))) de_int) da_nil)) de_int))
    (dss_one (ds_ret (de_op (do_mod rfl) (de_callTy (dc_int rfl) (by rfl) c.b.int (by decide +kernel) (da_cons (de_op (do_fdiv rfl) (de_var (pv 2)) de_int) da_nil)) (de_var (pv 1))))))))), fun ts ω q xx z => ?_⟩)
  · obtain ⟨b, k, n, rfl, _⟩ := h
    rfl
  obtain ⟨b, k, n, rfl, ⟨x, m, c, hb, m0, m1, c0, c1⟩, nn, k0, k1, z⟩ := z
  unfold dSeq dIfS dTest dOp dVar
  refine ixD_cell hb rfl ⟨trivial, ite2 (fun _ => ?_) (fun _ => ?_)⟩
  · refine ixD_cell hb rfl ⟨k0, ?_⟩
    refine ixD_cell hb rfl ⟨⟨k0, k1⟩, ?_⟩
    refine ⟨b, _, 0, 0, rfl, rfl, hb, rfl, ?_⟩
    exact z _ _ (Int.emod_nonneg _ (by omega)) (Int.emod_lt_of_pos _ k0) Off.upd ⟨x / k, m, c, updW_same, m0, m1, c0, by omega⟩
  · refine ixD_cell hb rfl ?_
    refine ⟨b, _, 2, 2, rfl, rfl, hb, rfl, ?_⟩
    have hb2 : updW ω b (MO.lst [PyData.int x, PyData.int m, PyData.int (c + 1)]) b = some (MO.lst [PyData.int x, PyData.int m, PyData.int (c + 1)]) := updW_same
    refine ixD_cell hb2 rfl ?_
    refine ixD_cell hb2 rfl ⟨.inl ⟨by decide, by decide⟩, ⟨by decide, by decide, ?_⟩, (by show (0 : Int) < 2305843009213693921; decide), ?_⟩
    · show (m + 15485863 * (c + 1)).natAbs < 2 ^ 64
      omega
    refine ixD_cell hb2 rfl ⟨.inl ⟨by decide, by decide⟩, ⟨by decide, by decide, ?_⟩, (by show (0 : Int) < 2305843009213693951; decide), ?_⟩
    · have hM0 : 0 ≤ (m + 15485863 * (c + 1)) ^ (3 : Int).toNat % 2305843009213693921 := Int.emod_nonneg _ (by decide)
      have hM1 : (m + 15485863 * (c + 1)) ^ (3 : Int).toNat % 2305843009213693921 < 2305843009213693921 := Int.emod_lt_of_pos _ (by decide)
      show ((m + 15485863 * (c + 1)) ^ (3 : Int).toNat % 2305843009213693921 + 86028121 * (c + 1)).natAbs < 2 ^ 64
      revert hM0 hM1
      generalize (m + 15485863 * (c + 1)) ^ (3 : Int).toNat % 2305843009213693921 = M
      intro h1 h2
      omega
    refine ⟨⟨by decide, by decide⟩, k0, ?_⟩
    exact z _ _ (Int.emod_nonneg _ (by omega)) (Int.emod_lt_of_pos _ k0) Off.upd ⟨x, m, c + 1, updW_same, m0, m1, by omega, by omega⟩
theorem map_intI : ∀ {xs ys : List Int}, xs.map PyData.int = ys.map PyData.int → xs = ys
  | [], [], _ => rfl
  | [], _ :: _, h => by cases h
  | _ :: _, [], h => by cases h
  | x :: xs, y :: ys, h => by
    rw [List.map_cons, List.map_cons] at h
    obtain ⟨h1, h2⟩ := List.cons.inj h
    rw [PyData.int.inj h1, map_intI h2]
theorem dd_bag3 (h : Has K mg "_law_bag" sBag3) (B : Bi mg) : Dfn P w K mg base CX0 1 "_law_bag" ["_law_script", "_law_at"] (spD K dsBag3) := by
  refine (d_bag3 h B).toD fun vs H Q E z => ?_
  obtain ⟨J, ω, ts, q, x, w, r, cq, cx, a, ns, i, rfl, i0, i1, z⟩ := z
  cases r with
  | cons r1 r2 => cases r2 with | cons r2 r3 =>
  cases r3
  obtain rfl := rp_int r2
  have key : ∀ (d : PyData) (v : V), Rp K J v d → d = scrD a ns → v = .ref a ∧ SqL K J a (ns.map V.int) := by
    intro d v h e
    cases h with
    | @scr a' ns' hs =>
      have e1 := PyData.dict.inj e
      have e2 := (List.cons.inj e1).1
      obtain ⟨e3, e4⟩ := Prod.mk.inj e2
      have e5 := PyData.int.inj e3
      have e6 := PyData.list.inj e4
      have ea : a' = a := by exact_mod_cast e5
      have en : ns' = ns := map_intI e6
      subst ea en
      exact ⟨rfl, hs⟩
    | ref a' => cases e
    | _ => cases e
  obtain ⟨rfl, hs⟩ := key _ _ r1 rfl
  refine ⟨a, ns, i, rfl, w.jh.seq hs, i0, i1, fun b H' x m sm hn hB m0 m1 => ?_⟩
  have g0 : Grow J H ω J H' (updW ω b (MO.lst [PyData.int x, PyData.int m, PyData.int 0])) := ⟨Same.refl _, fun c hc => by
      cases qc : H c with
      | none => exact absurd qc hc
      | some o => rw [sm _ _ qc]; simp, fun c o hc _ => sm c o hc, fun _ _ _ j => j, fun c hc zc => fr_upd rfl zc (ne_new hc hn)⟩
  have fp := w.free hn
  have w1 : Rw K J H' ω := w.step (Same.refl _) (w.jh.trans sm) (fun _ _ j => j) fun c m e => .inl ⟨e, fun b' o _ h => sm b' o h⟩
  exact cq _ _ _ _ _ (z b _ fp.1 (SubW.upd fp.1) ⟨x, m, 0, updW_same, m0, m1, Int.le_refl _, Int.le_refl _⟩) g0 (w1.own2 (w.jh.free hn) fp hB (.cons (.int _) (.cons (.int _) (.cons (.int _) .nil)))) (.ref b)
end
end Tx

namespace Tx
open PySem PySem.Spec PyProof.Rows L2
/-! ## Places as data -/
/-- (i,) + place -/
theorem dp_cons {K : PySem.W.Frag} {H : Hp} {i : Nat} {p : List Nat} {xs : List V} (h : DpAll K H xs (p.map fun (n : Nat) => PyData.int (n : Int))) : DpAll K H (.int (i : Int) :: xs) ((i :: p).map fun (n : Nat) => PyData.int (n : Int)) := .cons (.int _) h
theorem plD_shaped (p : List Nat) : SeqAt.shaped (plD p) = true := by
  have h1 : ∀ p : List Nat, PyData.canLayAll0 (p.map fun (n : Nat) => PyData.int (n : Int)) = true := fun p => by
    induction p with
    | nil => rfl
    | cons n p ih => simp only [List.map_cons, PyData.canLayAll0, PyData.canLay0, ih, Bool.and_self]
  have h2 : ∀ p : List Nat, PyData.depthAll (p.map fun (n : Nat) => PyData.int (n : Int)) = 0 := fun p => by
    induction p with
    | nil => rfl
    | cons n p ih => simp only [List.map_cons, PyData.depthAll, PyData.depth, ih]; rfl
  unfold SeqAt.shaped plD
  simp only [PyData.canLay0, PyData.depth, h1, h2]
  decide
theorem eqv_pl_nil (p : List Nat) : PyData.eqv (plD p) (.tuple []) = p.isEmpty := by
  cases p with
  | nil => simp [plD, PyData.eqv, PyData.eqvAll]
  | cons n p => simp [plD, PyData.eqv, PyData.eqvAll]
theorem cutV_from1 (xs : List V) : cutV xs (some 1) none = xs.drop 1 := by
  unfold cutV
  have e : HT.sIx xs.length 0 (some 1) = min 1 xs.length := HT.sIx_nat xs.length 0 1
  rw [HT.sIx_none, e]
  cases xs with
  | nil => rfl
  | cons x xs =>
    have : min 1 (x :: xs).length = 1 := by simp
    rw [this, List.drop_one, List.tail_cons]
    exact List.take_of_length_le (by simp)
end Tx

namespace Tx
open PySem PySem.Spec PyProof.Rows L2
/-! ## Texts of letters, plain -/
theorem sum_int : ∀ ds : List PyData, (ds.map fun d => (szD d : Int)).sum = (((ds.map szD).sum : Nat) : Int)
  | [] => rfl
  | x :: xs => by simp only [List.map_cons, List.sum_cons, sum_int xs]; omega
theorem ltr_append {x y : Str} (hx : ltr x = true) (hy : ltr y = true) : ltr (x ++ y) = true := by
  have e : (x ++ y).cps = x.cps ++ y.cps := rfl
  unfold ltr at *
  rw [e, Array.toList_append, List.all_append, hx, hy]
  rfl
theorem ltr_get {x : Str} (hx : ltr x = true) {i : Nat} {c : Nat} (h : x.cps.toList[i]? = some c) : ltr ⟨#[c]⟩ = true := by
  unfold ltr at *
  have hc := List.all_eq_true.mp hx c (List.mem_of_getElem? h)
  simp only [List.all_cons, List.all_nil, Bool.and_true]
  exact hc
end Tx

namespace Tx
open PySem PySem.Spec PyProof.Rows L2
/-! ## The items of a value, as data -/
def sgD (z : Str) : List PyData := z.cps.toList.map fun c => PyData.str ⟨#[c]⟩
/-- the items of a value -/
def itD : PyData → List PyData
  | .list ds => ds
  | .str z => sgD z
  | _ => []
theorem ltr_sgD {z : Str} (h : ltr z = true) {d : PyData} (m : d ∈ sgD z) : Val 0 2 d := by
  obtain ⟨c, hc, rfl⟩ := List.mem_map.mp m
  obtain ⟨i, hi⟩ := List.getElem?_of_mem hc
  exact ⟨by simpa only [isVal] using ltr_get h hi, by simp [PyData.depth], by simp only [szD]; exact Nat.le_refl _⟩
theorem dp_sgn {K : PySem.W.Frag} {H : Hp} (z : Str) : DpAll K H (sgn z) (sgD z) := by
  unfold sgn sgD
  induction z.cps.toList with
  | nil => exact .nil
  | cons c l ih => exact .cons (.str _) ih
theorem Val.items {n m : Nat} {d : PyData} (h : Val n m d) (m2 : 2 ≤ m) {e : PyData} (he : e ∈ itD d) : Val n m e := by
  cases d with
  | list ds => exact (h.item he).mono (by omega) (by omega)
  | str z => exact (ltr_sgD (by simpa only [isVal] using h.val) he).mono (by omega) (by omega)
  | none => simp [itD] at he
  | bool _ => simp [itD] at he
  | int _ => simp [itD] at he
  | tuple _ => simp [itD] at he
  | dict _ => simp [itD] at he
theorem szAll_sgD (z : Str) : szAll (sgD z) = 2 * z.length := by
  show _ = 2 * z.cps.size
  rw [← Array.length_toList]
  unfold sgD
  induction z.cps.toList with
  | nil => rfl
  | cons c l ih =>
    simp only [List.map_cons, szAll, List.length_cons, ih, szD]
    show 1 + 1 + _ = _
    omega
theorem Val.itemsL {n m : Nat} {d : PyData} (h : Val n m d) (m2 : 2 ≤ m) : Val (n + 1) (2 * m + 1) (.list (itD d)) := by
  refine ⟨?_, ?_, ?_⟩
  · simp only [isVal]; exact isValAll_iff.mpr fun e he => (h.items m2 he).val
  · have := depthAll_le (n := n) (xs := itD d) fun e he => (h.items m2 he).deep
    simp only [PyData.depth]; omega
  · have hs := h.size
    simp only [szD]
    cases d with
    | list ds => simp only [szD] at hs; simp only [itD]; omega
    | str z => simp only [szD] at hs; simp only [itD, szAll_sgD]; omega
    | none => simp [itD, szAll]
    | bool _ => simp [itD, szAll]
    | int _ => simp [itD, szAll]
    | tuple _ => simp [itD, szAll]
    | dict _ => simp [itD, szAll]
theorem list_of {K : PySem.W.Frag} {H : Hp} {x : V} {d : PyData} (hd : Dp K H x d) (vd : Val 20 100000 d) (ne : d ≠ .none) :
    (∃ p ys, x = V.ref p ∧ SqL K H p ys ∧ DpAll K H ys (itD d)) ∨ (∃ z : Str, x = V.str z ∧ z.length ≤ sizeLine ∧ DpAll K H (sgn z) (itD d)) := by
  have val := vd.val
  have sz := vd.size
  cases hd with
  | non => exact absurd rfl ne
  | bl _ => simp [isVal] at val
  | int _ => simp [isVal] at val
  | str z =>
    simp only [szD] at sz
    exact .inr ⟨z, rfl, by rw [sizeLine_eq]; omega, dp_sgn z⟩
  | lst hs ha => exact .inl ⟨_, _, rfl, hs, ha⟩
  | tup _ _ => simp [isVal] at val
end Tx

namespace Tx
open PySem PySem.Spec PyProof.Rows L2
/-! ## one of some values -/
/-- 0 _law_bag_here, 1 _law_some -/
abbrev sOf3 : Stmt := top 5
theorem scOf3 : FnScope ["_law_bag_here", "_law_some"] ["_law_bag_here", "_law_some"] (defScope sOf3) := ⟨rfl, rfl, rfl, by decide +kernel, rfl, by decide +kernel, by decide +kernel⟩
def dsOf3 : DSp := fun ts ω q _ => ∃ (b : Addr) (n : Nat) (x : PyData) (xs : List PyData), ts = [refD b, x] ∧ Bg ω b n ∧ n < 1000000000 ∧ (x = .list xs ∨ ∃ z, x = .str z ∧ z.length ≤ sizeLine ∧ xs = sgD z) ∧ 0 < xs.length ∧ xs.length < 1000000 ∧ ∀ d ω', d ∈ xs → Off b ω ω' → Bg ω' b (n + 1) → q d ω'
theorem Bg.ne {ω : Wd} {b f : Addr} {n : Nat} (h : Bg ω b n) (hf : ω f = none) : b ≠ f := fun y => by
  obtain ⟨_, _, _, e, _⟩ := h
  rw [y, hf] at e
  cases e
theorem Bg.off {ω : Wd} {b f : Addr} {n : Nat} {m : MO} (h : Bg ω b n) (hf : b ≠ f) : Bg (updW ω f m) b n := by
  obtain ⟨x, m, c, e, r⟩ := h
  exact ⟨x, m, c, by rw [updW_ne hf]; exact e, r⟩
theorem Bg.sb {ω ω' : Wd} {b : Addr} {n : Nat} (h : Bg ω b n) (s : SubW ω ω') : Bg ω' b n := by
  obtain ⟨x, m, c, e, r⟩ := h
  exact ⟨x, m, c, s _ _ e, r⟩
theorem Bg.new {ω : Wd} {b f : Addr} {n : Nat} {m : MO} (h : Bg ω b n) (hf : ω f = none) : Bg (updW ω f m) b n := h.off (h.ne hf)
theorem Bg.del {ω : Wd} {b f : Addr} {n : Nat} (h : Bg ω b n) (hf : b ≠ f) : Bg (delW ω f) b n := by
  obtain ⟨x, m, c, e, r⟩ := h
  exact ⟨x, m, c, by rw [delW_ne hf]; exact e, r⟩
section
variable {P : Program} {w : World} {K : PySem.W.Frag} {mg : Str → Option Value} {base : Heap}
theorem dd_of3 (h : Has K mg "_law_of" sOf3) (B : Bi mg) (D_law_take : Dfn P w K mg base CX0 1 "_law_take" ["_law_bag_here", "_law_many"] (spD K dsTake3)) : Dfn P w K mg base CX0 2 "_law_of" ["_law_bag_here", "_law_some"] (spD K dsOf3) := by
  refine dfnD (k := 1) h B scOf3 (fun _ _ _ _ _ _ us hl => match us, hl with | [_, _], _ => rfl) (fun ts ω q xx h => ?_) (fun f cv A out s H E c => ⟨_, (dss_one (ds_ret (de_ix rfl (de_var (pv 1)) (de_d D_law_take c (by omega) (by rfl) (da_cons (de_var (pv 0)) (da_cons (de_callB (dc_len rfl) (by rfl) c.b.len (by decide +kernel) (da_cons (de_var (pv 1)) da_nil)) da_nil))) (fun _ _ => rfl)))), fun ts ω q xx z => ?_⟩)
  · obtain ⟨b, n, x, xs, rfl, _⟩ := h
    rfl
  obtain ⟨b, n, x, xs, rfl, bg, nn, e, h0, h1, z⟩ := z
  rcases e with rfl | ⟨y, rfl, e1, rfl⟩
  · refine ⟨b, (xs.length : Int), n, rfl, bg, nn, by omega, by omega, fun r ω' r0 r1 of bg' => ?_⟩
    have hr : r.toNat < xs.length := by omega
    refine ⟨xs[r.toNat], ?_, z _ _ (List.getElem_mem hr) of bg'⟩
    unfold atI ixN
    rw [if_pos r0, if_pos r1]
    exact List.getElem?_eq_getElem hr
  · have el : (sgD y).length = y.length := by unfold sgD; rw [List.length_map, Array.length_toList]; rfl
    refine ⟨e1, b, (y.length : Int), n, rfl, bg, nn, by omega, by omega, fun r ω' r0 r1 of bg' => ?_⟩
    have hr : r.toNat < (sgD y).length := by omega
    have hy : r.toNat < y.cps.toList.length := by rw [Array.length_toList]; show r.toNat < y.length; omega
    have ey : y.cps.toList[r.toNat]? = some y.cps.toList[r.toNat] := List.getElem?_eq_getElem hy
    refine ⟨e1, y.cps.toList[r.toNat], ?_, z _ _ (List.mem_map.mpr ⟨_, List.getElem_mem hy, rfl⟩) of bg'⟩
    unfold atI ixN
    have hl : (y.cps.toList.length : Int) = (y.length : Int) := by rw [Array.length_toList]; rfl
    rw [if_pos r0, if_pos (by omega)]
    exact ey
end
end Tx

namespace Tx
open PySem PySem.Spec PyProof.Rows L2
/-! ## text.join of a list of texts -/
def dJoin (to te : DTE) (ρ : DS) (ω : Wd) (q : DQ) (x : DXK) : Prop := to ρ ω (fun o ω1 => ∃ a : Str, o = .str a ∧ te ρ ω1 (fun r ω2 => ∃ ys : List Str, rsv ω2 r = .list (ys.map PyData.str) ∧ (ys.map (·.length)).sum + ys.length * a.length ≤ 16777216 ∧ q (.str (Txt.join a ys)) ω2) x) x
theorem de_join {W : WX} {X : Cx} {K : PySem.W.Frag} {o e : Expr} {to te : DTE} {apos pos : Pos} (hK : X.K = K) (ho : DE W X K o to) (he : DE W X K e te) (hs : starEach [e] X.env = [(false, eval e X.env)] := by rfl) (hbase : attributeBase o "join" X.env (eval o X.env) = eval o X.env := by rfl) (hline : (apos.endLine == pos.line) = true := by rfl) :
    DE W X K (.Call (.Attribute o "join" apos) [e] [] pos) (dJoin to te) := by
  subst hK
  obtain ⟨t, pp, k⟩ := ho
  obtain ⟨u, qq, l⟩ := he
  refine ⟨_, pe_join pp qq hs hbase hline, fun σ H J ω ρ q x Q w s cq cx z => k σ H J ω ρ _ x _ w s (fun r ω1 v J1 H1 z1 g1 w1 rp => ?_) cx z⟩
  obtain ⟨a, rfl, z1⟩ := z1
  cases rp
  refine ⟨⟨a, rfl⟩, l σ H1 J1 ω1 ρ _ x _ w1 (s.mono g1.jj) (fun r2 ω2 v2 J2 H2 z2 g2 w2 rp2 => ?_) (cx.step g1) z1⟩
  obtain ⟨ys, e1, hl, z3⟩ := z2
  obtain ⟨b, vs, rfl, hb, ra⟩ := rp_list w2 rp2 e1
  rw [rpAll_strs ra] at hb
  exact ⟨a, _, ys, rfl, rfl, .inl (SqL.of hb), hl, cq _ _ _ _ _ z3 (g1.trans g2) w2 (.str _)⟩
theorem fold_sglN : ∀ (l : List Nat) (acc : Array Nat), ((l.map fun c => (⟨#[c]⟩ : Str)).foldl (fun acc p => acc ++ ("" : Str).cps ++ p.cps) acc).toList = acc.toList ++ l
  | [], acc => by simp
  | c :: l, acc => by
    rw [List.map_cons, List.foldl_cons, fold_sglN l]
    have : ("" : Str).cps = #[] := by decide +kernel
    rw [this]
    simp
theorem join_sglN (z : Str) : Txt.join "" (z.cps.toList.map fun c => (⟨#[c]⟩ : Str)) = z := by
  have key : (Txt.join "" (z.cps.toList.map fun c => (⟨#[c]⟩ : Str))).cps.toList = z.cps.toList := by
    cases e : z.cps.toList with
    | nil => decide +kernel
    | cons c l =>
      show ((((c :: l).map fun c => (⟨#[c]⟩ : Str)).drop 1).foldl (fun acc p => acc ++ ("" : Str).cps ++ p.cps) (((c :: l).map fun c => (⟨#[c]⟩ : Str)).headD Str.empty).cps).toList = c :: l
      rw [List.map_cons, List.drop_one, List.tail_cons, List.headD_cons, fold_sglN]
      rfl
  generalize Txt.join "" (z.cps.toList.map fun c => (⟨#[c]⟩ : Str)) = y at key
  obtain ⟨a⟩ := y
  obtain ⟨b⟩ := z
  simp only at key
  rw [Array.toList_inj.mp key]
end Tx

namespace Tx
open PySem PySem.Spec PyProof.Rows L2
/-! ## text * number told exactly -/
def mulTD : RD2 := fun x y _ Q => match x, y with
  | .str z, .int n => 0 ≤ n ∧ n ≤ 1000 ∧ z.length ≤ 1000 ∧ Q (.str (Txt.mul z n))
  | _, _ => False
theorem mulOk_of {z : Str} {n : Int} (n0 : 1 ≤ n) (n1 : n ≤ 1000) (z1 : z.length ≤ 1000) : MulOk z n := by
  have le : z.length * n.toNat ≤ 1000 * 1000 := Nat.mul_le_mul z1 (by omega)
  refine ⟨?_, fun _ _ => ?_, fun _ _ => ?_⟩
  · simp only [Bool.or_eq_false_iff, decide_eq_false_iff_not]
    omega
  · have h1 : (9223372036854775 : Int) ≤ (2 ^ 63 - 1) / n := by
      rw [Int.le_ediv_iff_mul_le (by omega)]
      omega
    omega
  · unfold PySem.Builtin.Str.tooLong
    simp only [decide_eq_false_iff_not]
    rw [sizeLine_eq]
    omega
section
variable {X : Cx} {K : PySem.W.Frag}
theorem do_mulT (hK : X.K = K) : OpR X (binaryOp .Mult) (lift2 K mulTD) := by
  subst hK
  intro pins s σ H x y v u Q I rx ry ⟨J, ω, dx, dy, q, w, hx, hy, c, z⟩
  unfold mulTD at z
  split at z
  · rename_i t n
    cases hx
    cases hy
    obtain ⟨tk, rfl⟩ := rx
    obtain ⟨tk', rfl⟩ := ry
    obtain ⟨n0, n1, z1, z⟩ := z
    have hok : MulOk t n := by
      by_cases h : n < 1
      · refine ⟨?_, fun h2 _ => absurd h h2, fun h2 _ => absurd h h2⟩
        simp only [Bool.or_eq_false_iff, decide_eq_false_iff_not]
        omega
      · exact mulOk_of (by omega) n1 z1
    refine SB.mul hok fun t2 k => ?_
    exact ⟨.str (Txt.mul t n), H, I.tok k, ⟨t2, rfl⟩, c.now w z (.str _)⟩
  · exact False.elim z
end
end Tx

namespace Tx
open PySem PySem.Spec PyProof.Rows L2
/-! ## text * number, also of a number below 0 -/
def mulT2D : RD2 := fun x y _ Q => match x, y with
  | .str z, .int n => -1000 ≤ n ∧ n ≤ 1000 ∧ z.length ≤ 1000 ∧ Q (.str (Txt.mul z n))
  | _, _ => False
section
variable {X : Cx} {K : PySem.W.Frag}
theorem do_mulT2 (hK : X.K = K) : OpR X (binaryOp .Mult) (lift2 K mulT2D) := by
  subst hK
  intro pins s σ H x y v u Q I rx ry ⟨J, ω, dx, dy, q, w, hx, hy, c, z⟩
  unfold mulT2D at z
  split at z
  · rename_i t n
    cases hx
    cases hy
    obtain ⟨tk, rfl⟩ := rx
    obtain ⟨tk', rfl⟩ := ry
    obtain ⟨n0, n1, z1, z⟩ := z
    have hok : MulOk t n := by
      by_cases h : n < 1
      · refine ⟨?_, fun h2 _ => absurd h h2, fun h2 _ => absurd h h2⟩
        simp only [Bool.or_eq_false_iff, decide_eq_false_iff_not]
        omega
      · exact mulOk_of (by omega) n1 z1
    refine SB.mul hok fun t2 k => ?_
    exact ⟨.str (Txt.mul t n), H, I.tok k, ⟨t2, rfl⟩, c.now w z (.str _)⟩
  · exact False.elim z
end
end Tx

namespace Tx
open PySem PySem.Spec PyProof.Rows L2
/-! ## k64: drawn texts and values -/
/-- 0 _law_bag_here, 1 _law_many, 2 _law_k -/
abbrev sTx64 : Stmt := top 6
theorem scTx64 : FnScope ["_law_bag_here", "_law_many", "_law_k"] ["_law_bag_here", "_law_many"] (defScope sTx64) := ⟨rfl, rfl, rfl, by decide +kernel, rfl, by decide +kernel, by decide +kernel⟩
/-- 0 _law_bag_here, 1 _law_deep, 2 _law_room, 3 _law_wanted, 4 _law_sort, 5 _law_found, 6 _law_turn -/
abbrev sVa64 : Stmt := top 7
theorem scVa64 : FnScope ["_law_bag_here", "_law_deep", "_law_room", "_law_wanted", "_law_sort", "_law_found", "_law_turn"] ["_law_bag_here", "_law_deep", "_law_room", "_law_wanted"] (defScope sVa64) := ⟨rfl, rfl, rfl, by decide +kernel, rfl, by decide +kernel, by decide +kernel⟩
theorem offT {p : Addr} {a b c : Wd} (h : Off p a b) (k : Off p b c) : Off p a c := h.trans k
/-- all cells but those at b and p stay -/
def Off2 (b p : Addr) (ω ω' : Wd) : Prop := ∀ a m, a ≠ b → a ≠ p → ω a = some m → ω' a = some m
theorem Off2.trans {b p : Addr} {ω ω1 ω2 : Wd} (h : Off2 b p ω ω1) (k : Off2 b p ω1 ω2) : Off2 b p ω ω2 := fun a m n1 n2 e => k a m n1 n2 (h a m n1 n2 e)
theorem Off2.of {b p : Addr} {ω ω1 : Wd} (h : Off b ω ω1) : Off2 b p ω ω1 := fun a m n1 _ e => h a m n1 e
def costA : Nat → Nat
  | 0 => 3000
  | d + 1 => 3000 + 4 * costA d
def lenL : List PyData := [.int 0, .int 1, .int 1, .int 2, .int 3, .int 5]
def dsTx64 : DSp := fun ts ω q _ => ∃ (b : Addr) (m : Nat) (n : Nat), ts = [refD b, .int ((m : Nat) : Int)] ∧ Bg ω b n ∧ n + 2000 < 1000000000 ∧ m ≤ 1000 ∧ ∀ z ω', ltr z = true → z.length = m → Off b ω ω' → Bg ω' b (n + 2000) → q (.str z) ω'
/-- room: how many items may still come -/
def dsVa64 (k : Nat) : DSp := fun ts ω q _ => ∃ (b p : Addr) (deep room n : Nat), ts = [refD b, .int ((deep : Nat) : Int), refD p, .str ""] ∧ deep < k ∧ Bg ω b n ∧ n + costA deep < 1000000000 ∧ ω p = some (.lst [.int ((room : Nat) : Int)]) ∧ b ≠ p ∧ room ≤ 1000 ∧
  ∀ d ω' (room' : Nat), room' ≤ room → Val deep (6 + 6 * (room - room')) d → Off2 b p ω ω' → Bg ω' b (n + costA deep) → ω' p = some (.lst [.int ((room' : Nat) : Int)]) → q d ω'
theorem emp_app (y : Str) : ("" : Str) ++ y = y := by
  cases y with
  | mk a => exact congrArg Str.mk (Array.empty_append)
theorem atI_n {α : Type} {xs : List α} {j : Nat} {d : α} (h : xs[j]? = some d) : atI xs ((j : Nat) : Int) = some d := by
  have hl := (List.getElem?_eq_some_iff.mp h).1
  unfold atI ixN
  rw [if_pos (by omega), if_pos (by omega)]
  show xs[((j : Nat) : Int).toNat]? = some d
  rw [Int.toNat_natCast]
  exact h
section
variable {P : Program} {w : World} {K : PySem.W.Frag} {mg : Str → Option Value} {base : Heap}
theorem ltr_chars {cs : List Nat} (h : ∀ c ∈ cs, 97 ≤ c ∧ c ≤ 122) : ltr ⟨cs.toArray⟩ = true := by
  unfold ltr
  simp only [List.all_eq_true, decide_eq_true_eq]
  exact h
theorem sum_sgl : ∀ cs : List Nat, ((cs.map fun c => (⟨#[c]⟩ : Str)).map (·.length)).sum = cs.length
  | [] => rfl
  | c :: cs => by
    rw [List.map_cons, List.map_cons, List.sum_cons, sum_sgl cs]
    show 1 + cs.length = _
    rw [List.length_cons]
    omega
theorem dd_tx64 (h : Has K mg "_law_text" sTx64) (B : Bi mg) (D_law_take : Dfn P w K mg base CX0 1 "_law_take" ["_law_bag_here", "_law_many"] (spD K dsTake3)) : Dfn P w K mg base CX0 2 "_law_text" ["_law_bag_here", "_law_many"] (spD K dsTx64) := by
  refine dfnD (k := 1) h B scTx64 (fun _ _ _ _ _ _ us hl => match us, hl with | [_, _], _ => rfl) (fun ts ω q xx h => ?_) (fun f cv A out s H E c => ⟨_, (dss_one (ds_ret (de_join rfl de_str (de_lc (own := [("_law_k", 2)]) (gd := (dgName 2)) (is := [2]) (tt := dYes) rfl scTx64.nd (di_range1 (by rfl) c.b.range (da_cons (de_var (pv 1)) da_nil)) (blkOk_by (own := [("_law_k", 2)]) (N := ["_law_bag_here", "_law_many", "_law_k"]) (sc := defScope sTx64) (by decide +kernel)) (fun _ _ _ _ _ => (dg_name (pg_name (i := 2) scTx64.nd rfl (Or.inl rfl)))) (fun _ _ _ _ _ => dts_nil) (fun _ _ _ _ _ => (de_ix rfl de_str (de_d D_law_take c (by omega) (by rfl) (da_cons (de_var (pv 0)) (da_cons de_int da_nil))) (fun _ _ => rfl))))))), fun ts ω q xx z => ?_⟩)
  · obtain ⟨b, m, n, rfl, _⟩ := h
    rfl
  obtain ⟨b, m, n, rfl, bg, nn, m1, z⟩ := z
  have sl : 1000000 ≤ sizeLine := by decide
  have hab : ("abcdefghijklmnopqrstuvwxyz" : Str).length = 26 ∧ ∀ c ∈ ("abcdefghijklmnopqrstuvwxyz" : Str).cps.toList, 97 ≤ c ∧ c ≤ 122 := by decide +kernel
  refine ⟨"", rfl, by omega, by omega, ?_⟩
  have e0 : ((m : Nat) : Int).toNat = m := Int.toNat_natCast m
  rw [e0]
  have hl : ((List.range m).map fun i => PyData.int ((i : Nat) : Int)).length = m := by rw [List.length_map, List.length_range]
  refine ⟨by rw [hl]; omega, fun i acc ω3 => ∃ cs : List Nat, acc = cs.map (fun c => PyData.str ⟨#[c]⟩) ∧ cs.length = i ∧ (∀ c ∈ cs, 97 ≤ c ∧ c ≤ 122) ∧ Off b ω ω3 ∧ Bg ω3 b (n + i), ⟨[], rfl, rfl, by simp, Off.refl, bg⟩, ?_, ?_⟩
  · rintro i x acc ω3 hx ⟨cs, rfl, hc, hL, of3, bg3⟩ _
    have hi : i < m := by rw [← hl]; exact (List.getElem?_eq_some_iff.mp hx).1
    refine ⟨b, 26, n + i, rfl, bg3, by omega, by decide, by decide, fun r ω4 r0 r1 of4 bg4 => ?_⟩
    have hr : r.toNat < ("abcdefghijklmnopqrstuvwxyz" : Str).cps.toList.length := by rw [Array.length_toList]; show r.toNat < ("abcdefghijklmnopqrstuvwxyz" : Str).length; omega
    obtain ⟨c, ec⟩ : ∃ c, ("abcdefghijklmnopqrstuvwxyz" : Str).cps.toList[r.toNat]? = some c := ⟨_, List.getElem?_eq_getElem hr⟩
    have ea : atI ("abcdefghijklmnopqrstuvwxyz" : Str).cps.toList r = some c := by
      have : r = ((r.toNat : Nat) : Int) := by omega
      rw [this]
      exact atI_n ec
    have la : ("abcdefghijklmnopqrstuvwxyz" : Str).length ≤ sizeLine := by rw [hab.1]; omega
    refine ⟨la, c, ea, cs ++ [c], by rw [List.map_append]; rfl, by rw [List.length_append, hc]; rfl, fun c' h' => ?_, of3.trans of4, bg4⟩
    rcases List.mem_append.mp h' with h' | h'
    · exact hL c' h'
    · obtain rfl := List.mem_singleton.mp h'
      exact hab.2 _ (List.mem_of_getElem? ec)
  · rintro acc ω3 _ ⟨cs, rfl, hc, hL, of3, bg3⟩
    rw [hl] at hc bg3
    have e0 : ("" : Str).length = 0 := by decide
    have s1 := sum_sgl cs
    refine ⟨cs.map fun c => (⟨#[c]⟩ : Str), by rw [List.map_map]; rfl, by rw [s1, e0]; omega, ?_⟩
    have ej : Txt.join "" (cs.map fun c => (⟨#[c]⟩ : Str)) = ⟨cs.toArray⟩ := join_sglN ⟨cs.toArray⟩
    rw [ej]
    have lz : (⟨cs.toArray⟩ : Str).length = cs.length := by show cs.toArray.size = _; simp
    exact z _ _ (ltr_chars hL) (by rw [lz]; omega) of3 (bg3.mono (by omega))
theorem dd_va64 (h : Has K mg "_law_value" sVa64) (B : Bi mg) (D_law_take : Dfn P w K mg base CX0 1 "_law_take" ["_law_bag_here", "_law_many"] (spD K dsTake3)) (D_law_of : Dfn P w K mg base CX0 2 "_law_of" ["_law_bag_here", "_law_some"] (spD K dsOf3)) (D_law_text : Dfn P w K mg base CX0 2 "_law_text" ["_law_bag_here", "_law_many"] (spD K dsTx64)) : ∀ k, Dfn P w K mg base CX0 (k + 3) "_law_value" ["_law_bag_here", "_law_deep", "_law_room", "_law_wanted"] (spD K (dsVa64 k))
  | 0 => (dfnD_none h (fun _ _ _ _ _ _ us hl => match us, hl with | [_, _, _, _], _ => rfl) fun ts ω q xx z => by
    obtain ⟨b, p, deep, room, n, _, z, _⟩ := z
    omega).mono (by omega)
  | k + 1 => by
    have D_law_value := dd_va64 h B D_law_take D_law_of D_law_text k
    refine dfnD (k := k + 3) h B scVa64 (fun _ _ _ _ _ _ us hl => match us, hl with | [_, _, _, _], _ => rfl) (fun ts ω q xx h => ?_) (fun f cv A out s H E c => ⟨_, (dss_cons (ds_set (i := 4) scVa64.nd rfl (Or.inl rfl) (de_d D_law_take c (by omega) (by rfl) (da_cons (de_var (pv 0)) (da_cons de_int da_nil))))
    (dss_cons (ds_if (DW.dt (dw_and (dt_cmp (do_gt rfl) (de_var (pv 4)) de_int (nomark _)) (dw_and1 (dt_cmp (do_gt rfl) (de_var (pv 1)) de_int (nomark _))))) (dss_cons (ds_set (i := 5) scVa64.nd rfl (Or.inl rfl) (de_lstO da_nil))
    (dss_cons (ds_for PassesOwn.never rfl (di_range1 (by rfl) c.b.range (da_cons (de_d D_law_take c (by omega) (by rfl) (da_cons (de_var (pv 0)) (da_cons de_int da_nil))) da_nil)) (dg_name (pg_name (i := 6) scVa64.nd rfl (Or.inl rfl)))
    (dss_one (ds_if (dt_cmp (do_gt rfl) (de_ix rfl (de_var (pv 2)) de_int (fun _ _ => rfl)) de_int (nomark _)) (dss_cons (ds_setS (de_var (pv 2)) de_int (de_op (do_sub rfl) (de_ix rfl (de_var (pv 2)) de_int (fun _ _ => rfl)) de_int) set_listO)
    (dss_one (ds_expr (de_append rfl (de_var (pv 5)) (de_d D_law_value c (by omega) (by rfl) (da_cons (de_var (pv 0)) (da_cons (de_op (do_sub rfl) (de_var (pv 1)) de_int) (da_cons (de_var (pv 2)) (da_cons (de_var (pv 3)) da_nil))))))))) dss_nil)))
    (dss_one (ds_ret (de_frz (pv 5)))))) dss_nil)
    (dss_cons (ds_if (dt_cmp (do_eq rfl c.r.units) (de_var (pv 4)) de_int (nomark _)) (dss_one (ds_retS de_non)) dss_nil)
    (dss_cons (ds_if (dt_cmp (do_eq rfl c.r.units) (de_var (pv 4)) de_int (nomark _)) (dss_one (ds_retS (de_op (do_add rfl) (de_var (pv 3)) (de_d D_law_text c (by omega) (by rfl) (da_cons (de_var (pv 0)) (da_cons (de_d D_law_take c (by omega) (by rfl) (da_cons (de_var (pv 0)) (da_cons de_int da_nil))) da_nil)))))) dss_nil)
    (dss_one (ds_retS (de_d D_law_text c (by omega) (by rfl) (da_cons (de_var (pv 0)) (da_cons (de_d D_law_of c (by omega) (by rfl) (da_cons (de_var (pv 0)) (da_cons (de_lst (da_cons de_int (da_cons de_int (da_cons de_int (da_cons de_int (da_cons de_int (da_cons de_int da_nil))))))) da_nil))) da_nil))))))))), fun ts ω q xx z => ?_⟩)
    · obtain ⟨b, p, deep, room, n, rfl, _⟩ := h
      rfl
    obtain ⟨b, p, deep, room, n, rfl, dk, bg, nn, hp, bp, r1, z⟩ := z
    have sl : 1000000 ≤ sizeLine := by decide
    have cge : 3000 ≤ costA deep := by cases deep <;> simp only [costA] <;> omega
    refine ⟨b, 9, n, rfl, bg, by omega, by decide, by decide, fun so ω1 s0 s1 of1 bg1 => ?_⟩
    have hp1 : ω1 p = some (.lst [.int ((room : Nat) : Int)]) := of1 p _ (Ne.symm bp) hp
    refine ⟨trivial, ite2 (fun h4 => ⟨trivial, ite2 (fun hd => ?lst) (fun _ => ?r1)⟩) (fun _ => iteF (A := _) ?r2)⟩
    case' lst =>
      obtain ⟨j, rfl⟩ : ∃ j, deep = j + 1 := by
        have := of_decide_eq_true hd
        exact ⟨deep - 1, by omega⟩
      have ec : costA (j + 1) = 3000 + 4 * costA j := rfl
      refine ⟨by decide, fun f hf => ?_⟩
      have bf : b ≠ f := bg1.ne hf
      have pf : p ≠ f := fun e => by rw [← e, hp1] at hf; cases hf
      have hf0 : ω f = none := by
        cases e : ω f with
        | none => rfl
        | some mo => rw [of1 f mo bf.symm e] at hf; cases hf
      refine ⟨b, 4, n + 1, rfl, bg1.new hf, by omega, by decide, by decide, fun r ω2 q0 q1 of2 bg2 => ?_⟩
      refine ⟨by omega, by omega, fun i ρ ω' => ∃ (u6 : Option PyData) (xs : List PyData) (room' : Nat), ρ = [some (refD b), some (.int ((j + 1 : Nat) : Int)), some (refD p), some (.str ""), some (.int so), some (refD f), u6] ∧ ω' f = some (.lst xs) ∧ ω' p = some (.lst [.int ((room' : Nat) : Int)]) ∧ room' ≤ room ∧ (∀ x ∈ xs, isVal x = true ∧ x.depth ≤ j) ∧ szAll xs ≤ 6 * (room - room') ∧ xs.length ≤ i ∧ Off2 b p ω ω' ∧ Bg ω' b (n + 2 + i * costA j), ⟨none, [], room, rfl, of2 f _ bf.symm updW_same, of2 p _ bp.symm (by rw [updW_ne pf]; exact hp1), Nat.le_refl _, by simp, by simp only [szAll]; omega, Nat.le_refl _, fun a m n1 n2 e => of2 a m n1 (by rw [updW_ne (fun y => by rw [y, hf0] at e; cases e)]; exact of1 a m n1 e), bg2.mono (by omega)⟩, ?_, ?_⟩
      · rintro i y ρ ω3 hy ⟨u6, xs, room', rfl, hf3, hp3, lr, hv, hs, hl, of3, bg3⟩
        have hi : i < 4 := by
          have := (List.getElem?_eq_some_iff.mp hy).1
          rw [List.length_map, List.length_range] at this
          omega
        have cm : i * costA j ≤ 3 * costA j := Nat.mul_le_mul_right _ (by omega)
        refine ixD_cell hp3 rfl ⟨trivial, ite2 (fun hgt => ?_) (fun _ => ?_)⟩
        · have hr1 : 1 ≤ room' := by have := of_decide_eq_true hgt; omega
          refine ixD_cell hp3 rfl ⟨trivial, ?_⟩
          refine ⟨p, _, 0, 0, rfl, rfl, hp3, rfl, ?_⟩
          have hf4 : updW ω3 p (.lst [.int (((room' : Nat) : Int) - 1)]) f = some (.lst xs) := by rw [updW_ne pf.symm]; exact hf3
          have ep : (.lst [.int (((room' : Nat) : Int) - 1)] : MO) = .lst [.int ((room' - 1 : Nat) : Int)] := by rw [show ((room' : Nat) : Int) - 1 = ((room' - 1 : Nat) : Int) by omega]
          refine ⟨f, xs, rfl, hf4, trivial, b, p, j, room' - 1, n + 2 + i * costA j, congrArg (fun k => [refD b, PyData.int k, refD p, PyData.str ""]) (show (((j + 1 : Nat) : Int) - 1) = ((j : Nat) : Int) by omega), by omega, ?_, by omega, by rw [← ep]; exact updW_same, bp, by omega, fun d ω4 room2 le2 vd of4 bg4 hp4 => ?_⟩
          · obtain ⟨x, m, c, e, r⟩ := bg3
            exact ⟨x, m, c, (updW_ne bp).trans e, r⟩
          have hf5 := of4 f _ bf.symm pf.symm hf4
          refine ⟨xs, hf5, by omega, ?_⟩
          refine ⟨_, xs ++ [d], room2, rfl, updW_same, by rw [updW_ne pf]; exact hp4, by omega, fun x hx => ?_, ?_, by rw [List.length_append]; show _ + 1 ≤ _; omega, fun a m n1 n2 e => ?_, ?_⟩
          · rcases List.mem_append.mp hx with hx | hx
            · exact hv x hx
            · rw [List.mem_singleton.mp hx]
              exact ⟨vd.val, vd.deep⟩
          · rw [szAll_append]
            have := vd.size
            have e1 : szAll [d] = szD d := by simp only [szAll]; omega
            omega
          · have n3 : a ≠ f := fun y => by rw [y, hf0] at e; cases e
            rw [updW_ne n3]
            exact of4 a m n1 n2 (by rw [updW_ne n2]; exact of3 a m n1 n2 e)
          · refine (Bg.off bg4 bf).mono ?_
            rw [Nat.add_mul]
            omega
        · exact ⟨_, xs, room', rfl, hf3, hp3, lr, hv, hs, by omega, of3, bg3.mono (by rw [Nat.add_mul]; omega)⟩
      · rintro ρ ω3 ⟨u6, xs, room', rfl, hf3, hp3, lr, hv, hs, hl, of3, bg3⟩
        have hl4 : xs.length ≤ 3 := by
          rw [List.length_map, List.length_range] at hl
          omega
        have cm : ((List.range r.toNat).map fun i => PyData.int ((i : Nat) : Int)).length * costA j ≤ 3 * costA j := Nat.mul_le_mul_right _ (by rw [List.length_map, List.length_range]; omega)
        refine ⟨f, xs, rfl, hf3, z (.list xs) (delW ω3 f) room' lr ⟨?_, ?_, ?_⟩ (fun a m n1 n2 e => ?_) ((Bg.del bg3 bf).mono (by omega)) (by rw [delW_ne pf]; exact hp3)⟩
        · simp only [isVal]
          exact isValAll_iff.mpr fun x hx => (hv x hx).1
        · have := depthAll_le (n := j) (xs := xs) fun x hx => (hv x hx).2
          simp only [PyData.depth]
          omega
        · simp only [szD]
          omega
        · rw [delW_ne (fun y => by rw [y, hf0] at e; cases e)]
          exact of3 a m n1 n2 e
    all_goals
      refine ite2 (fun h0 => ⟨ω1, fun _ _ h => h, z .none ω1 room (Nat.le_refl _) ⟨rfl, Nat.zero_le _, by simp only [szD]; omega⟩ (.of of1) (bg1.mono (by omega)) hp1⟩) (fun h0 => ite2 (fun h1 => ?_) (fun h1 => ?_))
      · refine ⟨b, 2, n + 1, rfl, bg1, by omega, by decide, by decide, fun r ω2 q0 q1 of2 bg2 => ?_⟩
        refine ⟨b, r.toNat, n + 1 + 1, by rw [show ((r.toNat : Nat) : Int) = r from Int.toNat_of_nonneg q0], bg2, by omega, by omega, fun zt ω3 lz lzl of3 bg3 => ?_⟩
        refine ⟨by have e0 : ("" : Str).length = 0 := (by decide); rw [e0]; omega, ω3, fun _ _ h => h, ?_⟩
        rw [emp_app]
        exact z (.str zt) ω3 room (Nat.le_refl _) ⟨by simpa only [isVal] using lz, Nat.zero_le _, by simp only [szD]; omega⟩ (.of ((of1.trans of2).trans of3)) (bg3.mono (by omega)) ((of2.trans of3) p _ bp.symm hp1)
      · refine ⟨by decide, b, n + 1, _, lenL, rfl, bg1, by omega, .inl rfl, by decide, by decide, fun d ω2 hd of2 bg2 => ?_⟩
        obtain ⟨m, m5, rfl⟩ : ∃ m : Nat, m ≤ 5 ∧ d = .int ((m : Nat) : Int) := by
          simp only [lenL, List.mem_cons, List.not_mem_nil, or_false] at hd
          rcases hd with e | e | e | e | e | e <;> subst e
          · exact ⟨0, by decide, rfl⟩
          · exact ⟨1, by decide, rfl⟩
          · exact ⟨1, by decide, rfl⟩
          · exact ⟨2, by decide, rfl⟩
          · exact ⟨3, by decide, rfl⟩
          · exact ⟨5, by decide, rfl⟩
        refine ⟨b, m, n + 1 + 1, rfl, bg2, by omega, by omega, fun zt ω3 lz lzl of3 bg3 => ⟨ω3, fun _ _ h => h, ?_⟩⟩
        exact z (.str zt) ω3 room (Nat.le_refl _) ⟨by simpa only [isVal] using lz, Nat.zero_le _, by simp only [szD]; omega⟩ (.of ((of1.trans of2).trans of3)) (bg3.mono (by omega)) ((of2.trans of3) p _ bp.symm hp1)
end
end Tx

namespace Tx
open PySem PySem.Spec PyProof.Rows L2
/-! ## k64: the page of a dict of fates -/
/-- 0 found, 1 rows, 2 kind, 3 line, 4 value -/
abbrev sSv64 : Stmt := top 1
theorem scSv64 : FnScope ["found", "rows", "kind", "line", "value"] ["found"] (defScope sSv64) := ⟨rfl, rfl, rfl, by decide +kernel, rfl, by decide +kernel, by decide +kernel⟩
def keyF (f : Str × Nat) : List Key := [.inr f.1, .inl ((f.2 : Nat) : Int)]
def fk : List Key → Str × Nat
  | [.inr k, .inl i] => (k, i.toNat)
  | _ => ("", 0)
theorem fk_key (f : Str × Nat) : fk (keyF f) = f := by
  obtain ⟨k, n⟩ := f
  show (k, ((n : Nat) : Int).toNat) = (k, n)
  rw [Int.toNat_natCast]
abbrev KvT := List (List Key × PyData)
/-- a dict of fates -/
def Gd (kvs : KvT) : Prop := ∀ p ∈ kvs, ∃ f : Str × Nat, p.1 = keyF f ∧ f.1 ∈ FTs ∧ f.2 < 10000 ∧ Val 2 30 p.2
def fsOf (kvs : KvT) : List (Str × Nat) := kvs.map fun p => fk p.1
def srt (kvs : KvT) : List (Str × Nat) := (fsOf kvs).mergeSort leF
def valF (kvs : KvT) (f : Str × Nat) : PyData := (dval kvs (keyF f)).getD .none
def rowF (kvs : KvT) (f : Str × Nat) : Str := ((((Str.empty ++ pad3 f.2) ++ (" " : Str)) ++ pad8 f.1) ++ (" " : Str)) ++ (valF kvs f).shown
def page (kvs : KvT) : Str := Txt.join "\n" ((srt kvs).map (rowF kvs))
theorem Gd.nil : Gd [] := fun _ h => nomatch h
theorem Gd.put {kvs : KvT} (h : Gd kvs) {f : Str × Nat} {d : PyData} (hk : f.1 ∈ FTs) (hn : f.2 < 10000) (vd : Val 2 30 d) : Gd (dput kvs (keyF f) d) := by
  intro p hp
  unfold dput at hp
  split at hp
  · obtain ⟨q, hq, rfl⟩ := List.mem_map.mp hp
    obtain ⟨g, g1, g2, g3, g4⟩ := h q hq
    by_cases e : q.1 = keyF f
    · rw [if_pos e]
      exact ⟨f, e, hk, hn, vd⟩
    · rw [if_neg e]
      exact ⟨g, g1, g2, g3, g4⟩
  · rcases List.mem_append.mp hp with hp | hp
    · exact h p hp
    · rw [List.mem_singleton.mp hp]
      exact ⟨f, rfl, hk, hn, vd⟩
theorem put_len {kvs : KvT} {k : List Key} {d : PyData} : (dput kvs k d).length ≤ kvs.length + 1 := by
  unfold dput
  split
  · rw [List.length_map]; omega
  · rw [List.length_append]; exact Nat.le_refl _
theorem Gd.keys {kvs : KvT} (h : Gd kvs) : (kvs.map fun p => tkD p.1) = (fsOf kvs).map fateD := by
  unfold fsOf
  rw [List.map_map]
  refine List.map_congr_left fun p hp => ?_
  obtain ⟨f, e, _⟩ := h p hp
  show tkD p.1 = fateD (fk p.1)
  rw [e, fk_key]
  rfl
theorem dval_of : ∀ {kvs : KvT} {p : List Key × PyData}, p ∈ kvs → ∃ d, dval kvs p.1 = some d ∧ ∃ q ∈ kvs, q.2 = d
  | q :: r, p, hp => by
    show ∃ d, (if q.1 = p.1 then some q.2 else dval r p.1) = some d ∧ _
    by_cases e : q.1 = p.1
    · rw [if_pos e]
      exact ⟨q.2, rfl, q, List.mem_cons_self .., rfl⟩
    · rw [if_neg e]
      rcases List.mem_cons.mp hp with rfl | hp
      · exact absurd rfl e
      · obtain ⟨d, h1, g, h2, h3⟩ := dval_of hp
        exact ⟨d, h1, g, List.mem_cons_of_mem _ h2, h3⟩
theorem Gd.fate {kvs : KvT} (h : Gd kvs) {f : Str × Nat} (hf : f ∈ srt kvs) : f.1 ∈ FTs ∧ f.2 < 10000 ∧ dval kvs (keyF f) = some (valF kvs f) ∧ Val 2 30 (valF kvs f) := by
  have hf := (List.mergeSort_perm _ _).mem_iff.mp hf
  obtain ⟨p, hp, rfl⟩ := List.mem_map.mp hf
  obtain ⟨g, e, h1, h2, h3⟩ := h p hp
  have ef : fk p.1 = g := by rw [e, fk_key]
  show (fk p.1).1 ∈ FTs ∧ (fk p.1).2 < 10000 ∧ dval kvs (keyF (fk p.1)) = some (valF kvs (fk p.1)) ∧ Val 2 30 (valF kvs (fk p.1))
  rw [ef]
  obtain ⟨d, d1, q, hq, rfl⟩ := dval_of hp
  rw [e] at d1
  have ev : valF kvs g = q.2 := by unfold valF; rw [d1]; rfl
  rw [ev]
  obtain ⟨_, _, _, _, v⟩ := h q hq
  exact ⟨h1, h2, d1, v⟩
theorem Gd.fts {kvs : KvT} (h : Gd kvs) : ∀ f ∈ fsOf kvs, f.1 ∈ FTs := fun f hf => (h.fate ((List.mergeSort_perm _ _).mem_iff.mpr hf)).1
theorem srt_len (kvs : KvT) : (srt kvs).length = kvs.length := by
  unfold srt fsOf
  rw [List.length_mergeSort, List.length_map]
theorem pad8_len {k : Str} (h : k ∈ FTs) : (pad8 k).length = 8 := by
  have : ∀ k ∈ FTs, (pad8 k).length = 8 := by decide +kernel
  exact this k h
theorem pad3_len {n : Nat} (hn : n < 10000) : (pad3 n).length ≤ 7 := by
  obtain ⟨h1, h4⟩ := dgs_le hn
  rw [← pad_eq hn]
  unfold padL Str.length
  simp only [List.size_toArray, List.length_append, List.length_replicate]
  split <;> simp <;> omega
theorem lenA (a b : Str) : (a ++ b).length = a.length + b.length := by
  show (a.cps ++ b.cps).size = _
  rw [Array.size_append]
  rfl
theorem val_len {d : PyData} (h : Val 2 30 d) : d.shown.length ≤ 400 := by
  have h1 := val_wt d h.val
  have h2 := h.size
  have h3 := shown_wt d (val_fine d h.val)
  omega
theorem row_len {kvs : KvT} (h : Gd kvs) {f : Str × Nat} (hf : f ∈ srt kvs) : (rowF kvs f).length ≤ 500 := by
  obtain ⟨h1, h2, _, h3⟩ := h.fate hf
  have e1 : (" " : Str).length = 1 := by decide
  have e0 : Str.empty.length = 0 := rfl
  have p3 := pad3_len h2
  have p8 := pad8_len h1
  have pv := val_len h3
  unfold rowF
  rw [lenA, lenA, lenA, lenA, lenA, e1, e0, p8]
  omega
theorem sum_500 : ∀ l : List Str, (∀ t ∈ l, t.length ≤ 500) → (l.map (·.length)).sum ≤ 500 * l.length
  | [], _ => Nat.le_refl _
  | a :: l, h => by
    have h1 := h a (List.mem_cons_self ..)
    have h2 := sum_500 l fun t ht => h t (List.mem_cons_of_mem _ ht)
    rw [List.map_cons, List.sum_cons, List.length_cons]
    omega
def KeepB (ω ω' : Wd) : Prop := ∀ c m, ω c = some m → m.bare = true → ω' c = some m
def dsSv64 : DSp := fun ts ω q _ => ∃ (a : Addr) (kvs : KvT), ts = [refD a] ∧ ω a = some (.dt kvs) ∧ Gd kvs ∧ kvs.length ≤ 7 ∧ ∀ ω', KeepB ω ω' → q (.str (page kvs)) ω'
section
variable {P : Program} {w : World} {K : PySem.W.Frag} {mg : Str → Option Value} {base : Heap}
theorem dd_sv64 (h : Has K mg "survey_page" sSv64) (B : Bi mg) : Dfn P w K mg base CX0 1 "survey_page" ["found"] (spD K dsSv64) := by
  refine dfnD (k := 0) h B scSv64 (fun _ _ _ _ _ _ us hl => match us, hl with | [_], _ => rfl) (fun ts ω q xx h => ?_) (fun f cv A out s H E c => ⟨_, (dss_cons (ds_set (i := 1) scSv64.nd rfl (Or.inl rfl) (de_lstO da_nil))
    (dss_cons (ds_for PassesOwn.never rfl (di_data rfl (de_callB (dc_sortedF rfl c.r.units) (by rfl) c.b.sorted (by decide +kernel) (da_cons (de_callTyM (dc_listT rfl rfl) (by rfl) c.b.list (by decide +kernel) (da_cons (de_var (pv 0)) da_nil)) da_nil))) (dg_tup rfl rfl (dgs_cons (dg_name (pg_name (i := 2) scSv64.nd rfl (Or.inl rfl))) (dgs_cons (dg_name (pg_name (i := 3) scSv64.nd rfl (Or.inl rfl))) dgs_nil)))
    (dss_cons (ds_set (i := 4) scSv64.nd rfl (Or.inl rfl) (de_callB (dc_repr rfl c.g c.r.units) (by rfl) c.b.repr (by decide +kernel) (da_cons (de_getT rfl c.r.units1 (de_var (pv 0)) (da_cons (de_var (pv 2)) (da_cons (de_var (pv 3)) da_nil))) da_nil)))
    (dss_one (ds_expr (de_append rfl (de_var (pv 1)) (de_joined (dj_cons (de_fmtSp (de_var (pv 3)) (de_joined1 de_str)) (dj_cons de_str (dj_cons (de_fmtSp (de_var (pv 2)) (de_joined1 de_str)) (dj_cons de_str (dj_cons (de_fmtS (de_var (pv 4))) dj_nil)))))))))))
    (dss_one (ds_retS (de_join rfl de_str (de_var (pv 1))))))), fun ts ω q xx z => ?_⟩)
  · obtain ⟨a, kvs, rfl, _⟩ := h
    rfl
  obtain ⟨a, kvs, rfl, ha, gd, l7, z⟩ := z
  have sl : 1000000 ≤ sizeLine := by decide
  have e1 : (" " : Str).length = 1 := by decide
  have e0 : Str.empty.length = 0 := rfl
  refine ⟨by decide, fun f hf => ?_⟩
  have na : a ≠ f := fun e => by rw [← e, ha] at hf; cases hf
  refine ⟨a, kvs, rfl, by rw [updW_ne na]; exact ha, _, fsOf kvs, rfl, congrArg PyData.list gd.keys, gd.fts, ?_⟩
  refine ⟨_, rfl, fun j ρ ω' => ∃ t2 t3 t4 : Option PyData, ρ = [some (refD a), some (refD f), t2, t3, t4] ∧ ω' f = some (.lst (((srt kvs).take j).map fun f => PyData.str (rowF kvs f))) ∧ KeepB ω ω', ⟨_, _, _, rfl, bareW_at updW_same rfl, fun c m e hb => bareW_at (by rw [updW_ne (fun y => by rw [y, hf] at e; cases e)]; exact e) hb⟩, ?_, ?_⟩
  · rintro j y ρ ω1 hy ⟨t2, t3, t4, rfl, h1, kb⟩
    rw [List.getElem?_map] at hy
    obtain ⟨g, hg, rfl⟩ := Option.map_eq_some_iff.mp hy
    have hgm := List.mem_of_getElem? hg
    have hj := (List.getElem?_eq_some_iff.mp hg).1
    have sln := srt_len kvs
    have sln2 : (srt kvs).length = ((fsOf kvs).mergeSort leF).length := rfl
    obtain ⟨f1, f2, f3, f4⟩ := gd.fate hgm
    have ha1 := kb a _ ha rfl
    have p3 := pad3_len f2
    have p8 := pad8_len f1
    have pv := val_len f4
    refine ⟨rfl, rfl, ?_⟩
    refine ⟨by show 2 ≤ sizeLine; omega, a, kvs, keyF g, valF kvs g, rfl, ha1, rfl, f3, ?_⟩
    refine ⟨valF kvs g, .inl rfl, f4.ok (by decide) (by decide), ?_⟩
    refine ⟨f, _, rfl, h1, ?_⟩
    refine .inl ⟨rfl, g.2, rfl, f2, pad3 g.2, rfl, by rw [lenA, e0]; omega, " ", rfl, by rw [lenA, lenA, e0, e1]; omega, ?_⟩
    refine .inr ⟨rfl, g.1, rfl, f1, pad8 g.1, rfl, by rw [lenA, lenA, lenA, e0, e1]; omega, " ", rfl, by rw [lenA, lenA, lenA, lenA, e0, e1]; omega, ?_⟩
    refine ⟨_, rfl, by omega, _, rfl, by rw [lenA, lenA, lenA, lenA, lenA, e0, e1]; omega, ?_⟩
    refine ⟨_, h1, by rw [List.length_map, List.length_take]; omega, _, _, _, rfl, ?_, fun c m e hb => ?_⟩
    · rw [updW_same, List.take_add_one, show (srt kvs)[j]? = some g from hg, List.map_append]
      rfl
    · rw [updW_ne (fun y => by rw [y, hf] at e; cases e)]
      exact kb c m e hb
  · rintro ρ ω1 ⟨t2, t3, t4, rfl, h1, kb⟩
    have el : (((fsOf kvs).mergeSort leF).map fateD).length = (srt kvs).length := List.length_map _
    rw [el, List.take_length] at h1
    have sm := sum_500 ((srt kvs).map (rowF kvs)) fun t ht => by
      obtain ⟨g, hg, rfl⟩ := List.mem_map.mp ht
      exact row_len gd hg
    have sln := srt_len kvs
    have en : ("\n" : Str).length = 1 := by decide
    refine ⟨"\n", rfl, (srt kvs).map (rowF kvs), ?_, ?_, ω1, .refl, z ω1 kb⟩
    · rw [rsv_cell h1, List.map_map]
      rfl
    · rw [List.length_map] at sm ⊢
      rw [en]
      omega
end
end Tx

namespace Tx
open PySem PySem.Spec PyProof.Rows L2
/-! ## k64: the law -/
/-- 0 _law_script, 1 _law_kinds, 2 _law_at, 3 _law_bag_here, 4 _law_found, 5 _law_turn, 6 _law_line, 7 _law_kept, 8 _law_rows, 9 _law_kind, 10 _law_number -/
abbrev sLaw64 : Stmt := top 8
theorem scLaw64 : FnScope ["_law_script", "_law_kinds", "_law_at", "_law_bag_here", "_law_found", "_law_turn", "_law_line", "_law_kept", "_law_rows", "_law_kind", "_law_number"] ["_law_script"] (defScope sLaw64) := ⟨rfl, rfl, rfl, by decide +kernel, rfl, by decide +kernel, by decide +kernel⟩
def kindL : List PyData := [.str "slip", .str "letter", .str "fail", .str "refuse", .str "endless"]
def tensL : List PyData := [.int 10, .int 100, .int 1000, .int 10000]
/-- a row as the law makes it -/
def numF (n : Nat) : Str := (Txt.mul " " (3 - (((Str.ofString (toString ((n : Nat) : Int))).length : Nat) : Int)) ++ Str.ofString (toString ((n : Nat) : Int))) ++ (" " : Str)
def lawF (kvs : KvT) (f : Str × Nat) : Str := ((numF f.2 ++ f.1) ++ Txt.mul " " (9 - ((f.1.length : Nat) : Int))) ++ (valF kvs f).shown
theorem app_asc (a b c : Str) : (a ++ b) ++ c = a ++ (b ++ c) := congrArg Str.mk (Array.append_assoc ..)
theorem emp_app2 (y : Str) : Str.empty ++ y = y := by
  cases y with
  | mk a => exact congrArg Str.mk (Array.empty_append)
theorem kind_pad {k : Str} (h : k ∈ FTs) : pad8 k ++ (" " : Str) = k ++ Txt.mul " " (9 - ((k.length : Nat) : Int)) := by
  have : ∀ k ∈ FTs, pad8 k ++ (" " : Str) = k ++ Txt.mul " " (9 - ((k.length : Nat) : Int)) := by decide +kernel
  exact this k h
theorem num_pad (n : Nat) : numF n = pad3 n ++ (" " : Str) := by
  unfold numF pad3
  rw [PySem.ofString_length]
theorem rows_same {kvs : KvT} {f : Str × Nat} (h : f.1 ∈ FTs) : lawF kvs f = rowF kvs f := by
  unfold lawF rowF
  rw [num_pad, emp_app2]
  have e1 : ((pad3 f.2 ++ (" " : Str)) ++ pad8 f.1) ++ (" " : Str) = (pad3 f.2 ++ (" " : Str)) ++ (pad8 f.1 ++ (" " : Str)) := app_asc ..
  rw [e1, kind_pad h, ← app_asc (pad3 f.2 ++ (" " : Str))]
theorem lay_gd {kvs : KvT} (h : Gd kvs) : ∀ p ∈ kvs, p.2.canLay0 = true := fun p hp => by
  obtain ⟨_, _, _, _, v⟩ := h p hp
  exact fine_lay _ (val_fine _ v.val)
theorem show_gd : ∀ {kvs : KvT}, Gd kvs → PyData.showableKv (kvs.map fun p => (tkD p.1, p.2)) = true
  | [], _ => rfl
  | p :: l, h => by
    obtain ⟨f, e, h1, h2, v⟩ := h p (List.mem_cons_self ..)
    have hl : f.2.log2 < 1920 := by
      by_cases h0 : f.2 = 0
      · rw [h0]; decide
      · exact (Nat.log2_lt h0).mpr (Nat.lt_of_lt_of_le h2 (Nat.le_trans (by decide : 10000 ≤ 2 ^ 14) (Nat.pow_le_pow_right (by decide) (by decide))))
    have e2 : (tkD p.1).showable = true := by
      rw [e]
      have e3 : tkD (keyF f) = .tuple [.str f.1, .int ((f.2 : Nat) : Int)] := rfl
      rw [e3]
      simp only [PyData.showable, PyData.showableAll, Bool.and_true, Bool.true_and]
      refine decide_eq_true ?_
      rw [Int.natAbs_natCast]
      exact hl
    have e4 : p.2.showable = true := fine_showable _ (val_fine _ v.val)
    rw [List.map_cons]
    simp only [PyData.showableKv, e2, e4, show_gd fun q hq => h q (List.mem_cons_of_mem _ hq), Bool.and_self]
theorem depth_gd : ∀ {kvs : KvT}, Gd kvs → PyData.depthKv (kvs.map fun p => (tkD p.1, p.2)) ≤ 3
  | [], _ => by decide
  | p :: l, h => by
    obtain ⟨f, e, h1, h2, v⟩ := h p (List.mem_cons_self ..)
    have ih := depth_gd fun q hq => h q (List.mem_cons_of_mem _ hq)
    have e2 : (tkD p.1).depth ≤ 1 := by
      rw [e]
      have e3 : tkD (keyF f) = .tuple [.str f.1, .int ((f.2 : Nat) : Int)] := rfl
      rw [e3]
      simp only [PyData.depth, PyData.depthAll]
      omega
    have e4 := v.deep
    rw [List.map_cons]
    simp only [PyData.depthKv]
    omega
theorem kvs_len : ∀ {kvs : KvT}, Gd kvs → ((PyData.shownKv (kvs.map fun p => (tkD p.1, p.2))).map (·.length)).sum ≤ 6000 * kvs.length ∧ (PyData.shownKv (kvs.map fun p => (tkD p.1, p.2))).length = kvs.length
  | [], _ => by
    simp [PyData.shownKv]
  | p :: l, h => by
    obtain ⟨f, e, h1, h2, v⟩ := h p (List.mem_cons_self ..)
    obtain ⟨ih, il⟩ := kvs_len fun q hq => h q (List.mem_cons_of_mem _ hq)
    have hl : f.2.log2 < 1920 := by
      by_cases h0 : f.2 = 0
      · rw [h0]; decide
      · exact (Nat.log2_lt h0).mpr (Nat.lt_of_lt_of_le h2 (Nat.le_trans (by decide : 10000 ≤ 2 ^ 14) (Nat.pow_le_pow_right (by decide) (by decide))))
    have hk : ∀ k ∈ FTs, fine (.str k) = true ∧ k.length ≤ 7 := by decide +kernel
    obtain ⟨k1, k2⟩ := hk _ h1
    have e3 : tkD p.1 = .tuple [.str f.1, .int ((f.2 : Nat) : Int)] := by rw [e]; rfl
    have ft : fine (tkD p.1) = true := by
      rw [e3]
      simp only [fine, fineAll, Bool.and_true] at k1 ⊢
      rw [k1, Bool.true_and]
      refine decide_eq_true ?_
      rw [Int.natAbs_natCast]
      exact hl
    have w1 := shown_wt _ ft
    have w2 : wt (tkD p.1) ≤ 2200 := by
      rw [e3]
      simp only [wt, wtAll]
      omega
    have w3 := val_len v
    have el : (": " : Str).length = 2 := by decide
    rw [List.map_cons]
    simp only [PyData.shownKv, List.map_cons, List.sum_cons, List.length_cons, lenA, el]
    omega
theorem dict_len {kvs : KvT} (h : Gd kvs) (l7 : kvs.length ≤ 7) : (dtD kvs).shown.length ≤ sizeLine := by
  have sl : 1000000 ≤ sizeLine := by decide
  obtain ⟨h1, h2⟩ := kvs_len h
  have h3 := listText_len_le (PyData.shownKv (kvs.map fun p => (tkD p.1, p.2)))
  have e1 : (dtD kvs).shown = dictText (PyData.shownKv (kvs.map fun p => (tkD p.1, p.2))) := by unfold dtD; simp only [PyData.shown]
  have e2 : (dictText (PyData.shownKv (kvs.map fun p => (tkD p.1, p.2)))).length = (listText (PyData.shownKv (kvs.map fun p => (tkD p.1, p.2)))).length := by
    rw [listText_eq_join]
    unfold dictText
    rw [lenA, lenA, lenA, lenA]
    rfl
  rw [e1, e2]
  omega
theorem Bg.keep {ω ω' : Wd} {b : Addr} {n : Nat} (h : Bg ω b n) (k : KeepB ω ω') : Bg ω' b n := by
  obtain ⟨x, m, c, e, r⟩ := h
  exact ⟨x, m, c, k _ _ e rfl, r⟩
def fill64 : DTS := dFor (diRange1 (dCons (dCall dsTake3 (dCons (dVar 3) (dCons (dC (.int 7)) dNil))) dNil)) (dgName 5) (dSeq (dSet 6 (dCall dsTake3 (dCons (dVar 3) (dCons (dCall dsOf3 (dCons (dVar 3) (dCons (dLst (dCons (dC (.int 10)) (dCons (dC (.int 100)) (dCons (dC (.int 1000)) (dCons (dC (.int 10000)) dNil))))) dNil))) dNil))))
  (dDPutT (dVar 4) (dCons (dCall dsOf3 (dCons (dVar 3) (dCons (dVar 1) dNil))) (dCons (dVar 6) dNil)) (dCall (dsVa64 3) (dCons (dVar 3) (dCons (dC (.int 2)) (dCons (dLstO (dCons (dC (.int 4)) dNil)) (dCons (dC (.str "")) dNil)))))))
theorem fill_ok {D : DEnds} {ω : Wd} {a b : Addr} {n : Nat} {s0 s2 s5 s6 s7 s8 s9 s10 : Option PyData} (bg : Bg ω b n) (hn : n + 1000000 < 1000000000) (ha : ω a = some (.dt [])) (ab : a ≠ b)
    (z : ∀ ω' (kvs : KvT) t5 t6, Gd kvs → kvs.length ≤ 7 → ω' a = some (.dt kvs) → Bg ω' b (n + 900000) → D.nx [s0, some (.list kindL), s2, some (refD b), some (refD a), t5, t6, s7, s8, s9, s10] ω') :
    fill64 D [s0, some (.list kindL), s2, some (refD b), some (refD a), s5, s6, s7, s8, s9, s10] ω := by
  have sl : 1000000 ≤ sizeLine := by decide
  have c2 : costA 2 = 63000 := rfl
  refine ⟨b, 7, n, rfl, bg, by omega, by decide, by decide, fun r ω1 r0 r1 of1 bg1 => ?_⟩
  refine ⟨by omega, by omega, fun j ρ ω' => ∃ (kvs : KvT) (t5 t6 : Option PyData), ρ = [s0, some (.list kindL), s2, some (refD b), some (refD a), t5, t6, s7, s8, s9, s10] ∧ ω' a = some (.dt kvs) ∧ Gd kvs ∧ kvs.length ≤ j ∧ Bg ω' b (n + 1 + j * 64000), ⟨[], _, _, rfl, of1 a _ ab ha, Gd.nil, Nat.le_refl _, bg1.mono (by omega)⟩, ?_, ?_⟩
  · rintro j y ρ ω2 hy ⟨kvs, t5, t6, rfl, ha2, gd, hl, bg2⟩
    have hj : j < 7 := by
      have := (List.getElem?_eq_some_iff.mp hy).1
      rw [List.length_map, List.length_range] at this
      omega
    refine ⟨by decide, b, n + 1 + j * 64000, _, tensL, rfl, bg2, by omega, .inl rfl, by decide, by decide, fun d ω3 hd of3 bg3 => ?_⟩
    obtain ⟨k, rfl, k0, k1⟩ : ∃ k : Int, d = .int k ∧ 0 < k ∧ k ≤ 10000 := by
      simp only [tensL, List.mem_cons, List.not_mem_nil, or_false] at hd
      rcases hd with e | e | e | e <;> subst e <;> exact ⟨_, rfl, by decide, by decide⟩
    refine ⟨b, k, _, rfl, bg3, by omega, k0, by omega, fun l ω4 l0 l1 of4 bg4 => ?_⟩
    obtain ⟨ln, rfl⟩ : ∃ ln : Nat, l = ((ln : Nat) : Int) := ⟨l.toNat, (Int.toNat_of_nonneg l0).symm⟩
    have ha4 := of4 a _ ab (of3 a _ ab ha2)
    refine ⟨by decide, fun p hp => ?_⟩
    have bp : b ≠ p := bg4.ne hp
    have ap : a ≠ p := fun e => by rw [← e, ha4] at hp; cases hp
    refine ⟨b, p, 2, 4, _, rfl, by decide, bg4.new hp, by omega, updW_same, bp, by decide, fun v ω5 room' le vd of5 bg5 hp5 => ?_⟩
    have ha5 := of5 a _ ab ap (by rw [updW_ne ap]; exact ha4)
    refine ⟨b, _, _, kindL, rfl, bg5, by omega, .inl rfl, by decide, by decide, fun kd ω6 hk of6 bg6 => ?_⟩
    obtain ⟨kk, rfl, hkk⟩ : ∃ kk : Str, kd = .str kk ∧ kk ∈ FTs := by
      simp only [kindL, List.mem_cons, List.not_mem_nil, or_false] at hk
      rcases hk with e | e | e | e | e <;> subst e <;> exact ⟨_, rfl, by decide⟩
    have ha6 := of6 a _ ab ha5
    have pl := put_len (kvs := kvs) (k := keyF (kk, ln)) (d := v)
    refine ⟨by show 2 ≤ sizeLine; omega, a, kvs, keyF (kk, ln), rfl, ha6, rfl, by omega, ?_⟩
    refine ⟨dput kvs (keyF (kk, ln)) v, _, _, rfl, updW_same, gd.put hkk (by show ln < 10000; omega) (vd.mono (Nat.le_refl _) (by omega)), by omega, ?_⟩
    refine (Bg.off bg6 ab.symm).mono ?_
    rw [Nat.add_mul]
    omega
  · rintro ρ ω2 ⟨kvs, t5, t6, rfl, ha2, gd, hl, bg2⟩
    have hl7 : kvs.length ≤ 7 := by
      rw [List.length_map, List.length_range] at hl
      omega
    have hm : ((List.range r.toNat).map fun i => PyData.int ((i : Nat) : Int)).length * 64000 ≤ 7 * 64000 := Nat.mul_le_mul_right _ (by rw [List.length_map, List.length_range]; omega)
    exact z ω2 kvs _ _ gd hl7 ha2 (bg2.mono (by omega))
def rows64 : DTS := dFor (diData (dCB sortFD (dCons (dCBM rmListT (dCons (dVar 4) dNil)) dNil))) (dgTup 2 (dgCons (dgName 9) (dgCons (dgName 6) dgNil)))
  (dSeq (dSet 10 (dCB strOD (dCons (dVar 6) dNil)))
  (dSeq (dSet 10 (dOp addD (dOp addD (dOp mulT2D (dC (.str " ")) (dOp (intD (fun _ _ => True) fun i j => .int (i - j)) (dC (.int 3)) (dCB lenD (dCons (dVar 10) dNil)))) (dVar 10)) (dC (.str " "))))
  (dDrop (dAppend (dVar 8) (dOp addD (dOp addD (dOp addD (dVar 10) (dVar 9)) (dOp mulT2D (dC (.str " ")) (dOp (intD (fun _ _ => True) fun i j => .int (i - j)) (dC (.int 9)) (dCB lenD (dCons (dVar 9) dNil))))) (dCB reprD (dCons (dGetT (dVar 4) (dCons (dVar 9) (dCons (dVar 6) dNil))) dNil)))))))
theorem rows_ok {D : DEnds} {ω : Wd} {a f : Addr} {kvs : KvT} {s0 s1 s2 s3 s5 s6 s7 s9 s10 : Option PyData} (gd : Gd kvs) (l7 : kvs.length ≤ 7) (ha : ω a = some (.dt kvs)) (hf : ω f = some (.lst [])) (na : a ≠ f)
    (z : ∀ ω' t6 t9 t10, ω' f = some (.lst ((srt kvs).map fun g => PyData.str (rowF kvs g))) → (∀ c m, c ≠ f → ω c = some m → m.bare = true → ω' c = some m) → D.nx [s0, s1, s2, s3, some (refD a), s5, t6, s7, some (refD f), t9, t10] ω') :
    rows64 D [s0, s1, s2, s3, some (refD a), s5, s6, s7, some (refD f), s9, s10] ω := by
  have sl : 1000000 ≤ sizeLine := by decide
  have e1 : (" " : Str).length = 1 := by decide
  refine ⟨a, kvs, rfl, ha, _, fsOf kvs, rfl, congrArg PyData.list gd.keys, gd.fts, ?_⟩
  refine ⟨_, rfl, fun j ρ ω' => ∃ t6 t9 t10 : Option PyData, ρ = [s0, s1, s2, s3, some (refD a), s5, t6, s7, some (refD f), t9, t10] ∧ ω' f = some (.lst (((srt kvs).take j).map fun g => PyData.str (rowF kvs g))) ∧ (∀ c m, c ≠ f → ω c = some m → m.bare = true → ω' c = some m), ⟨_, _, _, rfl, bareW_at hf rfl, fun c m _ e hb => bareW_at e hb⟩, ?_, ?_⟩
  · rintro j y ρ ω1 hy ⟨t6, t9, t10, rfl, h1, kb⟩
    rw [List.getElem?_map] at hy
    obtain ⟨g, hg, rfl⟩ := Option.map_eq_some_iff.mp hy
    have hgm := List.mem_of_getElem? hg
    have hj := (List.getElem?_eq_some_iff.mp hg).1
    have sln := srt_len kvs
    have sln2 : (srt kvs).length = ((fsOf kvs).mergeSort leF).length := rfl
    obtain ⟨f1, f2, f3, f4⟩ := gd.fate hgm
    have ha1 := kb a _ na ha rfl
    have pv := val_len f4
    have hkl : ∀ k ∈ FTs, k.length ≤ 7 := by decide +kernel
    have kl := hkl _ f1
    have hl : g.2.log2 < 1920 := by
      by_cases h0 : g.2 = 0
      · rw [h0]; decide
      · exact (Nat.log2_lt h0).mpr (Nat.lt_of_lt_of_le f2 (Nat.le_trans (by decide : 10000 ≤ 2 ^ 14) (Nat.pow_le_pow_right (by decide) (by decide))))
    have nl : (Str.ofString (toString ((g.2 : Nat) : Int))).length ≤ 4 := by
      rw [PySem.ofString_length, dgs_len]
      exact (dgs_le f2).2
    have p3 := pad3_len f2
    have m3 : (Txt.mul " " (3 - (((Str.ofString (toString ((g.2 : Nat) : Int))).length : Nat) : Int))).length + (Str.ofString (toString ((g.2 : Nat) : Int))).length ≤ 7 := by
      rw [← lenA]
      have : pad3 g.2 = Txt.mul " " (3 - (((Str.ofString (toString ((g.2 : Nat) : Int))).length : Nat) : Int)) ++ Str.ofString (toString ((g.2 : Nat) : Int)) := by unfold pad3; rw [PySem.ofString_length]
      rw [← this]
      exact p3
    have p8 := pad8_len f1
    have m9 : g.1.length + (Txt.mul " " (9 - ((g.1.length : Nat) : Int))).length ≤ 9 := by
      rw [← lenA, ← kind_pad f1, lenA, p8, e1]
      exact Nat.le_refl _
    have nf : (numF g.2).length ≤ 8 := by
      rw [num_pad, lenA, e1]
      omega
    refine ⟨rfl, rfl, ?_⟩
    refine ⟨by rw [Int.natAbs_natCast]; exact hl, ?_⟩
    refine ⟨by omega, trivial, by omega, by omega, by rw [e1]; omega, by omega, by rw [lenA, e1]; omega, ?_⟩
    refine ⟨f, _, rfl, h1, ?_⟩
    refine ⟨by show (numF g.2).length + g.1.length ≤ _; omega, by omega, trivial, by omega, by omega, by rw [e1]; omega, ?_, ?_⟩
    · show (numF g.2 ++ g.1).length + _ ≤ _
      rw [lenA]
      omega
    refine ⟨by show 2 ≤ sizeLine; omega, a, kvs, keyF g, valF kvs g, rfl, ha1, rfl, f3, ?_⟩
    refine ⟨valF kvs g, .inl rfl, f4.ok (by decide) (by decide), ?_, ?_⟩
    · show ((numF g.2 ++ g.1) ++ Txt.mul " " (9 - ((g.1.length : Nat) : Int))).length + _ ≤ _
      rw [lenA, lenA]
      omega
    refine ⟨_, h1, by rw [List.length_map, List.length_take]; omega, _, _, _, rfl, ?_, fun c m hc e hb => by rw [updW_ne hc]; exact kb c m hc e hb⟩
    rw [updW_same, List.take_add_one, show (srt kvs)[j]? = some g from hg, List.map_append]
    show some (MO.lst (_ ++ [PyData.str (lawF kvs g)])) = _
    rw [rows_same f1]
    rfl
  · rintro ρ ω1 ⟨t6, t9, t10, rfl, h1, kb⟩
    have el : (((fsOf kvs).mergeSort leF).map fateD).length = (srt kvs).length := List.length_map _
    rw [el, List.take_length] at h1
    exact z ω1 _ _ _ h1 kb
end Tx
namespace Tx
open PySem PySem.Spec PyProof.Rows L2
section
variable {P : Program} {w : World} {K : PySem.W.Frag} {mg : Str → Option Value} {base : Heap}
theorem dd_law64 (h : Has K mg "law" sLaw64) (B : Bi mg) (D_law_bag : Dfn P w K mg base CX0 1 "_law_bag" ["_law_script", "_law_at"] (spD K dsBag3)) (D_law_take : Dfn P w K mg base CX0 1 "_law_take" ["_law_bag_here", "_law_many"] (spD K dsTake3)) (D_law_of : Dfn P w K mg base CX0 2 "_law_of" ["_law_bag_here", "_law_some"] (spD K dsOf3)) (D_law_value : Dfn P w K mg base CX0 6 "_law_value" ["_law_bag_here", "_law_deep", "_law_room", "_law_wanted"] (spD K (dsVa64 3))) (D_survey_page : Dfn P w K mg base CX0 1 "survey_page" ["found"] (spD K dsSv64)) :
    Dfn P w K mg base CX0 7 "law" ["_law_script"] (spD K dsLaw) := by
  refine dfnD (k := 6) h B scLaw64 (fun _ _ _ _ _ _ us hl => match us, hl with | [_], _ => rfl) (fun ts ω q xx h => ?_) (fun f cv A out s H E c => ⟨_, (dss_cons (ds_set (i := 1) scLaw64.nd rfl (Or.inl rfl) (de_lst (da_cons de_str (da_cons de_str (da_cons de_str (da_cons de_str (da_cons de_str da_nil)))))))
    (dss_cons (ds_for PassesOwn.never rfl (di_range1 (by rfl) c.b.range (da_cons (de_callB (dc_max2 rfl rfl) (by rfl) c.b.max (by decide +kernel) (da_cons de_int (da_cons (de_callB (dc_min2 rfl rfl) (by rfl) c.b.min (by decide +kernel) (da_cons de_int (da_cons (de_callB (dc_len rfl) (by rfl) c.b.len (by decide +kernel) (da_cons (de_var (pv 0)) da_nil)) da_nil))) da_nil))) da_nil)) (dg_name (pg_name (i := 2) scLaw64.nd rfl (Or.inl rfl)))
    (dss_cons (ds_set (i := 3) scLaw64.nd rfl (Or.inl rfl) (de_d D_law_bag c (by omega) (by rfl) (da_cons (de_var (pv 0)) (da_cons (de_var (pv 2)) da_nil))))
    (dss_cons (ds_set (i := 4) scLaw64.nd rfl (Or.inl rfl) de_dnewT)
    (dss_cons (ds_for PassesOwn.never rfl (di_range1 (by rfl) c.b.range (da_cons (de_d D_law_take c (by omega) (by rfl) (da_cons (de_var (pv 3)) (da_cons de_int da_nil))) da_nil)) (dg_name (pg_name (i := 5) scLaw64.nd rfl (Or.inl rfl)))
    (dss_cons (ds_set (i := 6) scLaw64.nd rfl (Or.inl rfl) (de_d D_law_take c (by omega) (by rfl) (da_cons (de_var (pv 3)) (da_cons (de_d D_law_of c (by omega) (by rfl) (da_cons (de_var (pv 3)) (da_cons (de_lst (da_cons de_int (da_cons de_int (da_cons de_int (da_cons de_int da_nil))))) da_nil))) da_nil))))
    (dss_one (ds_dputT rfl c.r.units1 (de_var (pv 4)) (da_cons (de_d D_law_of c (by omega) (by rfl) (da_cons (de_var (pv 3)) (da_cons (de_var (pv 1)) da_nil))) (da_cons (de_var (pv 6)) da_nil)) (de_d D_law_value c (by omega) (by rfl) (da_cons (de_var (pv 3)) (da_cons de_int (da_cons (de_lstO (da_cons de_int da_nil)) (da_cons de_str da_nil)))))))))
    (dss_cons (ds_par (i := 7) (j := 8) rfl scLaw64.nd rfl rfl (by decide) rfl rfl (da_cons (de_callB (dc_reprT rfl c.g c.r.units) (by rfl) c.b.repr (by decide +kernel) (da_cons (de_var (pv 4)) da_nil)) (da_cons (de_lstO da_nil) da_nil)) (by rfl))
    (dss_cons (ds_for PassesOwn.never rfl (di_data rfl (de_callB (dc_sortedF rfl c.r.units) (by rfl) c.b.sorted (by decide +kernel) (da_cons (de_callTyM (dc_listT rfl rfl) (by rfl) c.b.list (by decide +kernel) (da_cons (de_var (pv 4)) da_nil)) da_nil))) (dg_tup rfl rfl (dgs_cons (dg_name (pg_name (i := 9) scLaw64.nd rfl (Or.inl rfl))) (dgs_cons (dg_name (pg_name (i := 6) scLaw64.nd rfl (Or.inl rfl))) dgs_nil)))
    (dss_cons (ds_set (i := 10) scLaw64.nd rfl (Or.inl rfl) (de_callTy (dc_str rfl) (by rfl) c.b.str (by decide +kernel) (da_cons (de_var (pv 6)) da_nil)))
    (dss_cons (ds_set (i := 10) scLaw64.nd rfl (Or.inl rfl) (de_op (do_add rfl) (de_op (do_add rfl) (de_op (do_mulT2 rfl) de_str (de_op (do_sub rfl) de_int (de_callB (dc_len rfl) (by rfl) c.b.len (by decide +kernel) (da_cons (de_var (pv 10)) da_nil)))) (de_var (pv 10))) de_str))
    (dss_one (ds_expr (de_append rfl (de_var (pv 8)) (de_op (do_add rfl) (de_op (do_add rfl) (de_op (do_add rfl) (de_var (pv 10)) (de_var (pv 9))) (de_op (do_mulT2 rfl) de_str (de_op (do_sub rfl) de_int (de_callB (dc_len rfl) (by rfl) c.b.len (by decide +kernel) (da_cons (de_var (pv 9)) da_nil))))) (de_callB (dc_repr rfl c.g c.r.units) (by rfl) c.b.repr (by decide +kernel) (da_cons (de_getT rfl c.r.units1 (de_var (pv 4)) (da_cons (de_var (pv 9)) (da_cons (de_var (pv 6)) da_nil))) da_nil)))))))))
    (dss_one (ds_if (DW.dt (dw_or (dt_cmp (do_ne rfl c.r.units) (de_d D_survey_page c (by omega) (by rfl) (da_cons (de_var (pv 4)) da_nil)) (de_join rfl de_str (de_var (pv 8))) (nomark _)) (dw_or1 (dt_cmp (do_ne rfl c.r.units) (de_callB (dc_reprT rfl c.g c.r.units) (by rfl) c.b.repr (by decide +kernel) (da_cons (de_var (pv 4)) da_nil)) (de_var (pv 7)) (nomark _))))) (dss_one (ds_retS de_bl)) dss_nil))))))))
    (dss_one (ds_retS (de_cmp (do_eq rfl c.r.units) (de_d D_survey_page c (by omega) (by rfl) (da_cons de_dnewT da_nil)) de_str (nomark _)))))), fun ts ω q xx z => ?_⟩)
  · obtain ⟨a, ns, rfl, _⟩ := h
    rfl
  obtain ⟨a, ns, rfl, hn, rfl, z⟩ := z
  have es : ((ns.map PyData.int).length : Int) = (ns.length : Int) := by rw [List.length_map]
  have sl : 1000000 ≤ sizeLine := by decide
  have en : ("\n" : Str).length = 1 := by decide
  refine ⟨by decide, ?_⟩
  refine ⟨?_, ?_, fun i ρ ω => ∃ u2 u3 u4 u5 u6 u7 u8 u9 u10 : Option PyData, ρ = [some (scrD a ns), some (.list kindL), u2, u3, u4, u5, u6, u7, u8, u9, u10], ⟨_, _, _, _, _, _, _, _, _, rfl⟩, ?_, ?_⟩
  · show (-(2 ^ 62) : Int) ≤ _
    (repeat' split) <;> omega
  · show _ < (2 ^ 62 : Int)
    (repeat' split) <;> omega
  · rintro i y ρ ω2 hy ⟨u2, u3, u4, u5, u6, u7, u8, u9, u10, rfl⟩
    obtain ⟨i', hi', rfl⟩ : ∃ i' : Nat, i' < 1000 ∧ y = .int ((i' : Nat) : Int) := by
      rw [List.getElem?_map] at hy
      obtain ⟨i', hi, rfl⟩ := Option.map_eq_some_iff.mp hy
      obtain ⟨hl, e⟩ := List.getElem?_eq_some_iff.mp hi
      rw [List.getElem_range] at e
      rw [List.length_range] at hl
      refine ⟨i', ?_, rfl⟩
      rw [← e]
      refine Nat.lt_of_lt_of_le hl ?_
      (repeat' split) <;> omega
    refine ⟨a, ns, (i' : Int), rfl, by omega, by omega, fun b ω3 hb sb bg => ?_⟩
    refine fun d hd => ?_
    have db : d ≠ b := fun e => (bg.ne hd) e.symm
    show dSeq fill64 _ _ [some (scrD a ns), some (.list kindL), some (.int ((i' : Nat) : Int)), some (refD b), some (refD d), u5, u6, u7, u8, u9, u10] (updW ω3 d (.dt []))
    refine fill_ok (bg.new hd) (by omega) updW_same db fun ω4 kvs t5 t6 gd l7 hd4 bg4 => ?_
    have dep : (dtD kvs).depth ≤ 60 := by
      have := depth_gd gd
      unfold dtD
      simp only [PyData.depth]
      omega
    have shw : (dtD kvs).showable = true := by unfold dtD; simp only [PyData.showable]; exact show_gd gd
    refine ⟨d, kvs, rfl, hd4, lay_gd gd, shw, dep, dict_len gd l7, ?_⟩
    refine ⟨by decide, fun f hf => ?_⟩
    have df : d ≠ f := fun e => by rw [← e, hd4] at hf; cases hf
    show dSeq rows64 _ _ [some (scrD a ns), some (.list kindL), some (.int ((i' : Nat) : Int)), some (refD b), some (refD d), t5, t6, some (.str (dtD kvs).shown), some (refD f), u9, u10] (updW ω4 f (.lst []))
    refine rows_ok gd l7 (by rw [updW_ne df]; exact hd4) updW_same df fun ω5 t6 t9 t10 hf5 kb => ?_
    have hd5 := kb d _ df (by rw [updW_ne df]; exact hd4) rfl
    refine ⟨d, kvs, rfl, hd5, gd, l7, fun ω6 k6 => ?_⟩
    have hf6 := k6 f _ hf5 rfl
    have hd6 := k6 d _ hd5 rfl
    have sm := sum_500 ((srt kvs).map (rowF kvs)) fun t ht => by
      obtain ⟨g, hg, rfl⟩ := List.mem_map.mp ht
      exact row_len gd hg
    have sln := srt_len kvs
    refine ⟨"\n", rfl, (srt kvs).map (rowF kvs), by rw [rsv_cell hf6, List.map_map]; rfl, by rw [List.length_map] at sm ⊢; rw [en]; omega, ?_⟩
    show if (!decide (page kvs = page kvs)) = true then _ else _
    rw [decide_eq_true rfl]
    refine iteF (A := _) ?_
    refine ⟨d, kvs, rfl, hd6, lay_gd gd, shw, dep, dict_len gd l7, ?_⟩
    show if (!decide ((dtD kvs).shown = (dtD kvs).shown)) = true then _ else _
    rw [decide_eq_true rfl]
    refine iteF (A := _) ?_
    exact ⟨_, _, _, _, _, _, _, _, _, rfl⟩
  · rintro ρ ω2 ⟨u2, u3, u4, u5, u6, u7, u8, u9, u10, rfl⟩
    refine fun d hd => ⟨d, [], rfl, updW_same, Gd.nil, Nat.zero_le _, fun ω6 k6 => ?_⟩
    have e : page [] = "" := by
      show Txt.join "\n" ((List.mergeSort [] leF).map (rowF [])) = ""
      rw [List.mergeSort_nil]
      decide +kernel
    show ∃ ω7, SubW ω7 ω6 ∧ q (.bool (decide (page [] = ""))) ω7
    rw [decide_eq_true e]
    exact ⟨ω6, .refl, z _⟩
end
end Tx

namespace Tx
open PySem PySem.Spec PyProof.Rows L2
/-! ## k64: the main -/
theorem main {P : Program} {w : World} {K : PySem.W.Frag} {mg : Str → Option Value} {base : Heap}  (B : Bi mg) (hSv64 : Has K mg "survey_page" sSv64) (hBag3 : Has K mg "_law_bag" sBag3) (hTake3 : Has K mg "_law_take" sTake3) (hOf3 : Has K mg "_law_of" sOf3) (hTx64 : Has K mg "_law_text" sTx64) (hVa64 : Has K mg "_law_value" sVa64) (hLaw64 : Has K mg "law" sLaw64) :
    Dfn P w K mg base CX0 7 "law" ["_law_script"] (spLaw K) := by
  have D_law_take := dd_take3 (P := P) (w := w) (mg := mg) (base := base) hTake3 B
  have D_law_bag := dd_bag3 (P := P) (w := w) (mg := mg) (base := base) hBag3 B
  have D_law_of := dd_of3 (P := P) (w := w) (mg := mg) (base := base) hOf3 B D_law_take
  have D_law_text := dd_tx64 (P := P) (w := w) (mg := mg) (base := base) hTx64 B D_law_take
  have D_law_value := dd_va64 (P := P) (w := w) (mg := mg) (base := base) hVa64 B D_law_take D_law_of D_law_text 3
  have D_survey_page := dd_sv64 (P := P) (w := w) (mg := mg) (base := base) hSv64 B
  exact law_of (dd_law64 (P := P) (w := w) (mg := mg) (base := base) hLaw64 B D_law_bag D_law_take D_law_of D_law_value D_survey_page)
end Tx
open PySem PySem.W PyProof.Rows
set_option maxRecDepth 100000 in
set_option maxHeartbeats 0 in
theorem PySem.Challenge.cw_textorlist_k64_survey_page_holds : PySem.Challenge.rw_textorlist_k64_survey_page.Holds := by
  w_on; o_law; k_head; (case hw => w_witness2)
  k_fill
  refine Tx.walkG (l := PySem.Challenge.rw_textorlist_k64_survey_page) (k := 7) (x := "_law_script") (sp := Tx.spLaw) rfl rfl ⟨rfl, by decide, by decide⟩ (fun w h Y => PySem.W.kIn_of Y) ?F (fun K H a ns h1 h2 => ⟨a, ns, rfl, h2, h1, fun _ => rfl⟩)
  case F =>
    intro w mg fa h KX G hmg base b1 b2
    refine' Tx.to_law hmg (Tx.main (base := base) (Tx.bi_of KX G ?b0 ?b1 ?b2 ?b3 ?b4 ?b5 ?b6 ?b7 ?b8 ?b9 ?b10 ?b11 ?b12 ?b13 ?b14 ?b15 ?b16 ?b17 ?b18 ?b19) (Tx.has_of (st := Tx.sSv64) KX G ?ha0 ?hl0 ?hc0 ?hk0) (Tx.has_of (st := Tx.sBag3) KX G ?ha1 ?hl1 ?hc1 ?hk1) (Tx.has_of (st := Tx.sTake3) KX G ?ha2 ?hl2 ?hc2 ?hk2) (Tx.has_of (st := Tx.sOf3) KX G ?ha3 ?hl3 ?hc3 ?hk3) (Tx.has_of (st := Tx.sTx64) KX G ?ha4 ?hl4 ?hc4 ?hk4) (Tx.has_of (st := Tx.sVa64) KX G ?ha5 ?hl5 ?hc5 ?hk5) (Tx.has_of (st := Tx.sLaw64) KX G ?ha6 ?hl6 ?hc6 ?hk6))
    (case b0 => first | k_is | kit_is | k_exc | decide +kernel | rfl | exact .inl rfl | exact .inr ⟨_, rfl⟩)
    (case b1 => first | k_is | kit_is | k_exc | decide +kernel | rfl | exact .inl rfl | exact .inr ⟨_, rfl⟩)
    (case b2 => first | k_is | kit_is | k_exc | decide +kernel | rfl | exact .inl rfl | exact .inr ⟨_, rfl⟩)
    (case b3 => first | k_is | kit_is | k_exc | decide +kernel | rfl | exact .inl rfl | exact .inr ⟨_, rfl⟩)
    (case b4 => first | k_is | kit_is | k_exc | decide +kernel | rfl | exact .inl rfl | exact .inr ⟨_, rfl⟩)
    (case b5 => first | k_is | kit_is | k_exc | decide +kernel | rfl | exact .inl rfl | exact .inr ⟨_, rfl⟩)
    (case b6 => first | k_is | kit_is | k_exc | decide +kernel | rfl | exact .inl rfl | exact .inr ⟨_, rfl⟩)
    (case b7 => first | k_is | kit_is | k_exc | decide +kernel | rfl | exact .inl rfl | exact .inr ⟨_, rfl⟩)
    (case b8 => first | k_is | kit_is | k_exc | decide +kernel | rfl | exact .inl rfl | exact .inr ⟨_, rfl⟩)
    (case b9 => first | k_is | kit_is | k_exc | decide +kernel | rfl | exact .inl rfl | exact .inr ⟨_, rfl⟩)
    (case b10 => first | k_is | kit_is | k_exc | decide +kernel | rfl | exact .inl rfl | exact .inr ⟨_, rfl⟩)
    (case b11 => first | k_is | kit_is | k_exc | decide +kernel | rfl | exact .inl rfl | exact .inr ⟨_, rfl⟩)
    (case b12 => first | k_is | kit_is | k_exc | decide +kernel | rfl | exact .inl rfl | exact .inr ⟨_, rfl⟩)
    (case b13 => first | k_is | kit_is | k_exc | decide +kernel | rfl | exact .inl rfl | exact .inr ⟨_, rfl⟩)
    (case b14 => first | k_is | kit_is | k_exc | decide +kernel | rfl | exact .inl rfl | exact .inr ⟨_, rfl⟩)
    (case b15 => first | k_is | kit_is | k_exc | decide +kernel | rfl | exact .inl rfl | exact .inr ⟨_, rfl⟩)
    (case b16 => first | k_is | kit_is | k_exc | decide +kernel | rfl | exact .inl rfl | exact .inr ⟨_, rfl⟩)
    (case b17 => first | k_is | kit_is | k_exc | decide +kernel | rfl | exact .inl rfl | exact .inr ⟨_, rfl⟩)
    (case b18 => first | k_is | kit_is | k_exc | decide +kernel | rfl | exact .inl rfl | exact .inr ⟨_, rfl⟩)
    (case b19 => first | k_is | kit_is | k_exc | decide +kernel | rfl | exact .inl rfl | exact .inr ⟨_, rfl⟩)
    (case ha0 => first | k_is | kit_is | k_exc | decide +kernel | rfl | exact .inl rfl | exact .inr ⟨_, rfl⟩)
    (case hl0 => first | k_is | kit_is | k_exc | decide +kernel | rfl | exact .inl rfl | exact .inr ⟨_, rfl⟩)
    (case hc0 => first | k_is | kit_is | k_exc | decide +kernel | rfl | exact .inl rfl | exact .inr ⟨_, rfl⟩)
    (case hk0 => first | k_is | kit_is | k_exc | decide +kernel | rfl | exact .inl rfl | exact .inr ⟨_, rfl⟩)
    (case ha1 => first | k_is | kit_is | k_exc | decide +kernel | rfl | exact .inl rfl | exact .inr ⟨_, rfl⟩)
    (case hl1 => first | k_is | kit_is | k_exc | decide +kernel | rfl | exact .inl rfl | exact .inr ⟨_, rfl⟩)
    (case hc1 => first | k_is | kit_is | k_exc | decide +kernel | rfl | exact .inl rfl | exact .inr ⟨_, rfl⟩)
    (case hk1 => first | k_is | kit_is | k_exc | decide +kernel | rfl | exact .inl rfl | exact .inr ⟨_, rfl⟩)
    (case ha2 => first | k_is | kit_is | k_exc | decide +kernel | rfl | exact .inl rfl | exact .inr ⟨_, rfl⟩)
    (case hl2 => first | k_is | kit_is | k_exc | decide +kernel | rfl | exact .inl rfl | exact .inr ⟨_, rfl⟩)
    (case hc2 => first | k_is | kit_is | k_exc | decide +kernel | rfl | exact .inl rfl | exact .inr ⟨_, rfl⟩)
    (case hk2 => first | k_is | kit_is | k_exc | decide +kernel | rfl | exact .inl rfl | exact .inr ⟨_, rfl⟩)
    (case ha3 => first | k_is | kit_is | k_exc | decide +kernel | rfl | exact .inl rfl | exact .inr ⟨_, rfl⟩)
    (case hl3 => first | k_is | kit_is | k_exc | decide +kernel | rfl | exact .inl rfl | exact .inr ⟨_, rfl⟩)
    (case hc3 => first | k_is | kit_is | k_exc | decide +kernel | rfl | exact .inl rfl | exact .inr ⟨_, rfl⟩)
    (case hk3 => first | k_is | kit_is | k_exc | decide +kernel | rfl | exact .inl rfl | exact .inr ⟨_, rfl⟩)
    (case ha4 => first | k_is | kit_is | k_exc | decide +kernel | rfl | exact .inl rfl | exact .inr ⟨_, rfl⟩)
    (case hl4 => first | k_is | kit_is | k_exc | decide +kernel | rfl | exact .inl rfl | exact .inr ⟨_, rfl⟩)
    (case hc4 => first | k_is | kit_is | k_exc | decide +kernel | rfl | exact .inl rfl | exact .inr ⟨_, rfl⟩)
    (case hk4 => first | k_is | kit_is | k_exc | decide +kernel | rfl | exact .inl rfl | exact .inr ⟨_, rfl⟩)
    (case ha5 => first | k_is | kit_is | k_exc | decide +kernel | rfl | exact .inl rfl | exact .inr ⟨_, rfl⟩)
    (case hl5 => first | k_is | kit_is | k_exc | decide +kernel | rfl | exact .inl rfl | exact .inr ⟨_, rfl⟩)
    (case hc5 => first | k_is | kit_is | k_exc | decide +kernel | rfl | exact .inl rfl | exact .inr ⟨_, rfl⟩)
    (case hk5 => first | k_is | kit_is | k_exc | decide +kernel | rfl | exact .inl rfl | exact .inr ⟨_, rfl⟩)
    (case ha6 => first | k_is | kit_is | k_exc | decide +kernel | rfl | exact .inl rfl | exact .inr ⟨_, rfl⟩)
    (case hl6 => first | k_is | kit_is | k_exc | decide +kernel | rfl | exact .inl rfl | exact .inr ⟨_, rfl⟩)
    (case hc6 => first | k_is | kit_is | k_exc | decide +kernel | rfl | exact .inl rfl | exact .inr ⟨_, rfl⟩)
    (case hk6 => first | k_is | kit_is | k_exc | decide +kernel | rfl | exact .inl rfl | exact .inr ⟨_, rfl⟩)
#print axioms PySem.Challenge.cw_textorlist_k64_survey_page_holds
