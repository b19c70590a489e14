import PyProof.Rows.All
import Wide.All
import OpenK.AllK
import Wide.FinOn
import PyProof.ReprLen
import PyProof.ReprRoads
import PyProof.EqLayable
import HandS.ForMost
import HandS.Exc
import HandS.TryOnly
import HandS.ExcOwn
import HandS.WordsExc
import HandS.IsInst
import HandS.Walk
import HandS.Flow
import HandS.ExcInit
import HandS.ExcIs
import HandS.ExcField
import HandS.TryMany
import PyProof.ListStr
import KE.KExcIs
import HandS.TupAny
import KE.DataMinMax
import HandS.SortKw
import KE.KOpsOwn
import HandS.SlotsOwn
import PyProof.InstNe
import PyProof.LongRange
import HandS.TupLe
import HandS.Deep
import HandS.Style
import HandS.ClsMeth
import HandS.More
import HandS.FStr
import KE.SortCalls
import HandS.HotCalls
import HandS.ExcInitHot
import HandS.ExcCtx
import HandS.Iter
import PySem.Challenge.RW_textorlist_k14_whole_entries_by_a_model
set_option Elab.async false
set_option linter.all false
set_option maxRecDepth 100000
set_option maxHeartbeats 4000000
/-! ## Data: what can be shown, how long it is then -/
namespace Tx
open PySem

mutual
/-- no dict, letters of a text below the last code point, iv of less than 1920 bits -/
def fine : PyData → Bool
  | .none | .bool _ => true
  | .int i => decide (i.natAbs.log2 < 1920)
  | .str x => x.cps.toList.all fun c => decide (c < 0x110000)
  | .list xs | .tuple xs => fineAll xs
  | .dict _ => false
def fineAll : List PyData → Bool
  | [] => true
  | x :: xs => fine x && fineAll xs
end
mutual
/-- a bound for the number of signs of its repr -/
def wt : PyData → Nat
  | .none | .bool _ => 5
  | .int _ => 2000
  | .str x => 10 * x.length + 2
  | .list xs | .tuple xs => wtAll xs + 3
  | .dict _ => 0
def wtAll : List PyData → Nat
  | [] => 0
  | x :: xs => wt x + 2 + wtAll xs
end
theorem fineAll_iff : ∀ {xs : List PyData}, fineAll xs = true ↔ ∀ d ∈ xs, fine d = true
  | [] => by simp [fineAll]
  | x :: xs => by simp [fineAll, fineAll_iff (xs := xs)]
theorem wtAll_append : ∀ (xs ys : List PyData), wtAll (xs ++ ys) = wtAll xs + wtAll ys
  | [], ys => by simp [wtAll]
  | x :: xs, ys => by simp only [List.cons_append, wtAll, wtAll_append xs ys]; omega
theorem wtAll_le {B : Nat} : ∀ {xs : List PyData}, (∀ d ∈ xs, wt d ≤ B) → wtAll xs ≤ (B + 2) * xs.length
  | [], _ => by simp [wtAll]
  | x :: xs, h => by
    have h1 := h x List.mem_cons_self
    have h2 := wtAll_le (B := B) (xs := xs) fun d hd => h d (List.mem_cons_of_mem _ hd)
    simp only [wtAll, List.length_cons, Nat.mul_add, Nat.mul_one]
    omega
theorem depthAll_le {n : Nat} : ∀ {xs : List PyData}, (∀ d ∈ xs, d.depth ≤ n) → PyData.depthAll xs ≤ n
  | [], _ => by simp [PyData.depthAll]
  | x :: xs, h => by
    have h1 := h x List.mem_cons_self
    have h2 := depthAll_le (n := n) (xs := xs) fun d hd => h d (List.mem_cons_of_mem _ hd)
    simp only [PyData.depthAll]
    omega
theorem depth_mem : ∀ {xs : List PyData} {d : PyData}, d ∈ xs → d.depth ≤ PyData.depthAll xs
  | [], d, h => by simp at h
  | x :: xs, d, h => by
    simp only [PyData.depthAll]
    cases h with
    | head => omega
    | tail _ h => have := depth_mem h; omega
theorem wt_mem : ∀ {xs : List PyData} {d : PyData}, d ∈ xs → wt d + 2 ≤ wtAll xs
  | [], d, h => by simp at h
  | x :: xs, d, h => by
    simp only [wtAll]
    cases h with
    | head => omega
    | tail _ h => have := wt_mem h; omega
mutual
theorem fine_showable : ∀ d : PyData, fine d = true → d.showable = true
  | .none, _ => rfl
  | .bool _, _ => rfl
  | .str _, _ => rfl
  | .int i, h => by simpa [fine, PyData.showable] using h
  | .list xs, h => by simp only [fine] at h; simp only [PyData.showable]; exact fineAll_showable xs h
  | .tuple xs, h => by simp only [fine] at h; simp only [PyData.showable]; exact fineAll_showable xs h
  | .dict _, h => by simp [fine] at h
theorem fineAll_showable : ∀ xs : List PyData, fineAll xs = true → PyData.showableAll xs = true
  | [], _ => rfl
  | x :: xs, h => by
    simp only [fineAll, Bool.and_eq_true] at h
    simp only [PyData.showableAll, fine_showable x h.1, fineAll_showable xs h.2, Bool.and_self]
end
mutual
theorem fine_lay : ∀ d : PyData, fine d = true → d.canLay0 = true
  | .none, _ => rfl
  | .bool _, _ => rfl
  | .int _, _ => rfl
  | .str x, h => by
    simp only [fine, List.all_eq_true, decide_eq_true_eq] at h
    simp only [PyData.canLay0]
    show x.cps.all (· < 0x110000) = true
    rw [Array.all_eq_true_iff_forall_mem]
    intro c hc
    exact decide_eq_true (h c (Array.mem_toList_iff.mpr hc))
  | .list xs, h => by simp only [fine] at h; simp only [PyData.canLay0]; exact fineAll_lay xs h
  | .tuple xs, h => by simp only [fine] at h; simp only [PyData.canLay0]; exact fineAll_lay xs h
  | .dict _, h => by simp [fine] at h
theorem fineAll_lay : ∀ xs : List PyData, fineAll xs = true → PyData.canLayAll0 xs = true
  | [], _ => rfl
  | x :: xs, h => by
    simp only [fineAll, Bool.and_eq_true] at h
    simp only [PyData.canLayAll0, fine_lay x h.1, fineAll_lay xs h.2, Bool.and_self]
end
mutual
theorem shown_wt : ∀ d : PyData, fine d = true → d.shown.length ≤ wt d
  | .none, _ => by decide
  | .bool b, _ => by cases b <;> decide
  | .int i, h => by
    have e := int_text_fits (a := i) (by simpa [fine] using h)
    have e2 := PyProof.Rows.int_text_len_1921 (i := i) (by simpa [fine] using h)
    simp only [PyData.shown, wt]
    omega
  | .str x, h => by
    simp only [fine, List.all_eq_true, decide_eq_true_eq] at h
    have e := StrLaws.reprText_len x fun c hc => by
      have := h c hc
      have e8 : (16 : Nat) ^ 8 = 4294967296 := by decide
      omega
    simpa only [PyData.shown, wt] using e
  | .list xs, h => by
    simp only [fine] at h
    have h1 := shownAll_wt xs h
    have h2 := listText_len_le (PyData.shownAll xs)
    simp only [PyData.shown, wt]
    omega
  | .tuple xs, h => by
    simp only [fine] at h
    have h1 := shownAll_wt xs h
    have h2 := tupleText_len_le (PyData.shownAll xs)
    simp only [PyData.shown, wt]
    omega
  | .dict _, h => by simp [fine] at h
theorem shownAll_wt : ∀ xs : List PyData, fineAll xs = true → ((PyData.shownAll xs).map (·.length)).sum + 2 * (PyData.shownAll xs).length ≤ wtAll xs
  | [], _ => by simp [PyData.shownAll, wtAll]
  | x :: xs, h => by
    simp only [fineAll, Bool.and_eq_true] at h
    have h1 := shown_wt x h.1
    have h2 := shownAll_wt xs h.2
    simp only [PyData.shownAll, wtAll, List.map_cons, List.sum_cons, List.length_cons]
    omega
end
/-- may be shown and compared -/
def Ok (d : PyData) : Prop := fine d = true ∧ d.depth ≤ 60 ∧ wt d ≤ 16000000
theorem Ok.fits {d : PyData} (h : Ok d) : d.shown.length ≤ sizeLine := by
  have := shown_wt d h.1
  have := h.2.2
  rw [sizeLine_eq]
  omega
theorem Ok.nodict {d : PyData} (h : Ok d) : d.hasDict = false := PyData.hasDict_of_canLay d (fine_lay d h.1)
theorem Ok.shaped {d : PyData} (h : Ok d) : SeqAt.shaped d = true := by
  unfold SeqAt.shaped
  rw [fine_lay d h.1, Bool.true_and]
  exact decide_eq_true (Nat.le_trans h.2.1 (by decide))
end Tx
/-! ## What the kit's hand layer lacks for these laws: a def that is run where no repr is under way (guards), repr of data of any depth -/
namespace Tx
open PySem PySem.Spec PyProof.Rows L2

/-- a def's promise, asked only where nothing is being shown -/
structure FnG (P : Program) (w : World) (K : PySem.W.Frag) (mg : Str → Option Value) (base : Heap) (CX : CXT) (k : Nat)
    (f : Addr) (fd : FuncData) (ps : List Str) (sp : Sp) : Prop where
  len : ∀ vs H Q E, sp vs H Q E → vs.length = ps.length
  run : ∀ (A : Around) (out : List Env) (s : Shared) (H : Hp) (ar : Args) (us : List Value) (vs : List V) (Q : VK) (E : XK),
    Room k A → A.guards = some [] → Env0 P w K mg base A out s H → BindsTo s fd ar (ps.zip us) → Vals vs us → sp vs H Q E →
      codeAny (model P w) A (.call (.ref f) ar) (CR CX out P w H s Q E) s

section
variable {P : Program} {w : World} {K : PySem.W.Frag} {mg : Str → Option Value} {base : Heap} {CX : CXT} {k : Nat} {f : Addr} {fd : FuncData}
  {ps N : List Str} {sp : Sp} {x qual : Str} {st : Stmt}
theorem FnG.of (F : FnOk P w K mg base CX k f fd ps sp) : FnG P w K mg base CX k f fd ps sp :=
  ⟨F.len, fun A out s H ar us vs Q E r _ e b v h => F.run A out s H ar us vs Q E r e b v h⟩
theorem FnG.mono {j : Nat} (F : FnG P w K mg base CX j f fd ps sp) (h : j ≤ k) : FnG P w K mg base CX k f fd ps sp :=
  ⟨F.len, fun A out s H ar us vs Q E r g e b v q => F.run A out s H ar us vs Q E (r.mono h) g e b v q⟩

/-- from the body's reading to the promise -/
theorem okG (F : Fun K x qual st f fd) (S : FnScope N ps (defScope st)) (len : ∀ vs H Q E, sp vs H Q E → vs.length = ps.length)
    (body : ∀ (cv : Value) (A : Around) (out : List Env) (s : Shared) (H : Hp) (vs : List V) (Q : VK) (E : XK),
      Room k (A.deeper (envOfC qual (defScope st) s.heap.objs.size f cv)) → A.guards = some [] → sp vs H Q E →
      ∃ t, PSs (cxOf CX P w K mg base N qual (defScope st) f cv A out s H E) (defBody st) t ∧
        t { nx := fun _ H' => Q .non H', rt := Q } (start N vs) H) :
    FnG P w K mg base CX (k + 1) f fd ps sp := by
  obtain ⟨_, _, _, _, _, _, cv, _, _, rfl, at_f, code⟩ := F.ex
  refine ⟨len, fun A out s H ar us vs Q E room gd e0 bd rel ask => ?_⟩
  have inH : K.In s.heap := e0.mod.kin.keeps fun b o z => (e0.bs b o z).1
  have free : s.heap.NoLimit := e0.mod.nolimit.keeps fun b o z => (e0.bs b o z).1
  refine codeAny_call_function room.depth (inH _ _ at_f) rfl S.co S.gen rfl (PySem.W.codeRec_of inH code) (bd _ _ _ _ ?_)
  refine wpAny_newFunctionEnv_cells S.kind ?kinds ?entered
  case kinds =>
    rintro ⟨nm, val⟩ hz
    cases S.par nm (List.of_mem_zip hz).1 with
    | inl q => exact .inl q
    | inr q => exact .inr ⟨q, PySem.W.cellsFrom_some _ _ _ (.inl q)⟩
  case entered =>
    rintro env rfl s1 ic
    obtain ⟨t, pss, rd⟩ := body cv A out s H vs Q E (room.deeper _) gd ask
    have I := inv_start (CX := CX) (E := E) S room.hd e0 (len _ _ _ _ ask) rel ic
    refine ⟨free.keeps ic.toInCall.keep, codeAny_func (wpAny_mono (pss.run [] s1 (start N vs) H _ I rd) ?_ fun _ _ z => z)⟩
    intro fl s2 got
    cases fl with
    | next => obtain ⟨_, H2, J, q⟩ := got; exact ⟨.non, H2, J.os, J.bare, J.base, J.hok, rfl, q⟩
    | ret u => obtain ⟨v, _, H2, J, r, q⟩ := got; exact ⟨v, H2, J.os, J.bare, J.base, J.hok, r, q⟩
    | brk => obtain ⟨_, _, _, q⟩ := got; exact False.elim q
    | cont => obtain ⟨_, _, _, q⟩ := got; exact False.elim q

end
section
variable {X : Cx} {CX : CXT} {k : Nat} {f : Addr} {fd : FuncData} {ps : List Str} {sp : Sp} {dvs : List V} {ds : List Value} {E : XK}
  {x : Str} {p pos : Pos} {e : Expr} {es : List Expr} {t : TA}
/-- f(e, ..) of such a def -/
theorem pe_callG (F : FnG X.prog X.w X.K X.mg X.base CX k f fd ps sp) (room : Room k X.A) (gd : X.A.guards = some []) (gl : Gl X x) (at_f : X.mg x = some (.ref f))
    (kp : PySem.W.keepIn X.K (.ref f) = true) (bd : Binds X.K fd ps ds) (dv : Vals dvs ds) (out : Passes CX X E) (args : PA X (e :: es) t)
    (nd : (x == ("__debug__" : Str)) = false := by decide)
    (plain : starEach (e :: es) X.env = (false, eval e X.env) :: starEach es X.env := by rfl)
    (bare : (backTo pos (starEach es X.env)).any (·.1) = false := by rfl) :
    PE X (.Call (.Name x p) (e :: es) [] pos) (tCall sp dvs E t) := by
  constructor
  intro pins s σ H Q I ask
  refine wpAny_Call_Name_kw (ld_glob I gl at_f ?_ nd)
  refine PySem.W.callWith_K (h₀ := X.base) I.ok.mod.kin kp (thn (args.run pos pins s σ H _ I ask) ?_) plain bare
  rintro us s1 ⟨vs, H1, J, rel, q⟩
  refine ⟨J.kIn, ?_⟩
  have both : Vals (vs ++ dvs) (us ++ ds) := rel.append dv
  have full : (us ++ ds).length = ps.length := both.length.symm.trans (F.len _ _ _ _ q)
  refine wpAny_call (codeAny_mono (F.run X.A X.stack s1 H1 ⟨us, []⟩ (us ++ ds) (vs ++ dvs) Q E room gd J.env0 (bd s1 us J.kIn full) both q) ?_)
  intro r s2 got
  match r, got with
  | .ok (.ret u), got => exact J.after got
  | .ok .next, got => exact False.elim got
  | .ok .brk, got => exact False.elim got
  | .ok .cont, got => exact False.elim got
  | .error er, got => exact out pins σ H1 s1 er s2 J got
end

/-! ### the end of a law row -/
section
/-- the abstract heap at the law's entry: the script alone, locked, unless it is an object of the module -/
def entryH (K : PySem.W.Frag) (a : Addr) (o : Obj) (xs : List V) : Hp := fun b => if b = a ∧ K.lookup a = none then some (.frz o (.lst xs)) else none
theorem entryH_some {K : PySem.W.Frag} {a b : Addr} {o : Obj} {xs : List V} {u : HO} (h : entryH K a o xs b = some u) : b = a ∧ K.lookup a = none ∧ u = .frz o (.lst xs) := by
  unfold entryH at h
  split at h
  · rename_i c; exact ⟨c.1, c.2, (Option.some.inj h).symm⟩
  · cases h
theorem lawG {P : Program} {w : World} {K : PySem.W.Frag} {mg mb : Str → Option Value} {k : Nat} {fa a : Addr} {x : Str} {sp : Sp} {s : Shared} {vs : List Value} {ns : List Int}
    (inK : K.In s.heap) (gl : s.heap.Ns mainGlobals mg) (bl : s.heap.Ns builtinsNs mb) (boot : ∀ y : Str, y ≠ "__name__" → mb y = bootBuiltins y) (lim : s.heap.NoLimit) (gens : s.gens = #[])
    (ob : s.heap.get? a = some { cls := .type "list", data := .seq vs.toArray }) (iv : IntsAre vs ns) (small : ns.length ≤ sizeLine) (room : Room k callerA)
    (F : ∀ base : Heap, K.In base → base.Ns mainGlobals mg → ∃ fd : FuncData, FnG P w K mg base CX0 k fa fd [x] sp ∧ Binds K fd [x] [])
    (ask : ∀ H : Hp, SqL K H a (ns.map V.int) → sp [.ref a] H (fun v _ => v = .bl true) fun _ _ _ => False) :
    codeAny (model P w) callerA (.call (.ref fa) ⟨[.ref a], []⟩) (fun r s' => r = .ok (.ret (.bool true)) ∧ OldK s.heap s'.heap ∧ s'.os = s.os ∧ AllBare s'.gens) s := by
  have rel := vals_ints iv
  have same := iv.length
  let o : Obj := { cls := .type "list", data := .seq vs.toArray }
  let H := entryH K a o (ns.map V.int)
  have sq : SqL K H a (ns.map V.int) := by
    cases hk : K.lookup a with
    | none => exact .inl (.inr ⟨o, if_pos ⟨rfl, hk⟩⟩)
    | some u =>
      have z := inK a u hk
      rw [ob] at z
      cases z
      exact .inr ⟨_, vs.toArray, _, hk, rfl, rfl, rfl, (by rw [List.size_toArray, same]; exact small), by simpa using rel⟩
  have hok : HOk P w H s.heap := by
    intro b u z
    obtain ⟨rfl, _, rfl⟩ := entryH_some z
    exact ⟨ob, by rw [List.length_map]; exact small, vs, _, rel, ob⟩
  have shown : ∀ {b : Addr} {u : Obj}, s.heap.get? b = some u → (b = a → K.lookup a ≠ none) → (hidT s.heap H).get? b = some u := by
    intro b u z n
    refine hidT_get z ?_
    show entryH K a o (ns.map V.int) b = none
    unfold entryH
    rw [if_neg]
    exact fun c => n c.1 c.2
  have names : ∀ {b : Addr} {m : Str → Option Value}, s.heap.Ns b m → (hidT s.heap H).Ns b m := by
    rintro b m ⟨u, es, ep, z, dt, more⟩
    refine ⟨u, es, ep, shown z ?_, dt, more⟩
    rintro rfl
    rw [ob] at z
    cases z
    cases dt
  have inB : K.In (hidT s.heap H) := fun b u z => shown (inK b u z) (by rintro rfl n; rw [z] at n; cases n)
  have md : Mod K mg (hidT s.heap H) := ⟨inB, names gl, ⟨mb, names bl, boot⟩, by obtain ⟨mc, z1, z2⟩ := lim; exact ⟨mc, names z1, z2⟩⟩
  have e0 : Env0 P w K mg (hidT s.heap H) callerA [] s H :=
    { frames := rfl, mod := md, bs := fun b u z => of_hidT z, bsz := Nat.le_of_eq (hidT_size _ _), funs := trivial, frf := fun b z => (nomatch z), hok := hok, bare := .of_eq gens }
  obtain ⟨fd, FF, bd⟩ := F _ inB (names gl)
  refine codeAny_mono (FF.run callerA [] s H ⟨[.ref a], []⟩ [.ref a] [.ref a] _ _ room rfl e0 (bd s [.ref a] inK rfl) (.cons rfl .nil) (ask H sq)) ?_
  intro r s' got
  match r, got with
  | .error er, got => exact False.elim got
  | .ok .next, got => exact False.elim got
  | .ok .brk, got => exact False.elim got
  | .ok .cont, got => exact False.elim got
  | .ok (.ret u), ⟨v, H', os, bare, un, hok', r', q⟩ =>
    have q' : v = .bl true := q
    subst q'
    obtain rfl : u = Value.bool true := r'
    refine ⟨rfl, OldK.of_keep fun b ou z => ?_, os, bare⟩
    cases hb : H b with
    | none => exact un.keep b ou z hb (fun y => nomatch y) (by simp)
    | some hu =>
      obtain ⟨rfl, _, rfl⟩ := entryH_some hb
      have z2 := hok' _ _ (un.frzs _ _ _ hb)
      rw [ob] at z
      cases z
      exact z2.1

/-- what k_head leaves, from the law's promise -/
theorem walkG {l : PySem.W.OpenLaw} {k : Nat} {q : Program} {loose : List Str} {XP : (Str → Option Value) → Heap → Prop} {YP : World → Heap → Prop} {d : DefRec} {K : Params → PySem.W.Frag} {sp : PySem.W.Frag → Sp} {x : Str}
    (most : l.most = some 63) (df : d.params.defaults = []) (room : Room k callerA) (inY : ∀ (w : World) (h : Heap), YP w h → (K w.params).In h)
    (F : ∀ (w : World) (mg : Str → Option Value) (fa : Addr) (h : Heap), (K w.params).In h → h.Ns mainGlobals mg → mg d.name = some (.ref fa) →
        ∀ base : Heap, (K w.params).In base → base.Ns mainGlobals mg → ∃ fd : FuncData, FnG l.prog w (K w.params) mg base CX0 k fa fd [x] (sp (K w.params)) ∧ Binds (K w.params) fd [x] [])
    (ask : ∀ (K : PySem.W.Frag) (H : Hp) (a : Addr) (ns : List Int), ns.length ≤ 63 → SqL K H a (ns.map V.int) → sp K [.ref a] H (fun v _ => v = .bl true) fun _ _ _ => False) :
    PySem.W.WalkO q loose XP YP l.row.toRowW d [] (fun f vs => PySem.call f vs) := by
  refine Att.attach_call most df ?_
  intro w s0 s mg mb fa o pm cd doc a vs ns G Y ho hd hcd hmg ob iv hlen gens
  exact lawG (inY w _ Y) G.T.g G.T.b G.T.builtins G.T.nolimit gens ob iv (Nat.le_trans hlen (by decide)) room (F w mg fa _ (inY w _ Y) G.T.g hmg) fun H hS => ask _ H a ns hlen hS
end

/-! ### repr of data, isinstance of data -/
section
variable {K : PySem.W.Frag} {H H' : Hp}
theorem Same.sqT {a : Addr} {xs : List V} (e : Same H H') (h : SqT K H a xs) : SqT K H' a xs := by
  rcases h with (h | ⟨o, h⟩) | h
  · exact .inl (.inl (e _ _ h))
  · exact .inl (.inr ⟨o, e _ _ h⟩)
  · exact .inr h
mutual
theorem dp_mono (e : Same H H') : ∀ (d : PyData) (v : V), Dp K H v d → Dp K H' v d
  | .none, _, h => by cases h; exact .non
  | .bool b, _, h => by cases h; exact .bl b
  | .int i, _, h => by cases h; exact .int i
  | .str x, _, h => by cases h; exact .str x
  | .list ds, _, h => by
    cases h with
    | lst hs ha => exact .lst (e.seq hs) (dpAll_mono e ds _ ha)
  | .tuple ds, _, h => by
    cases h with
    | tup hs ha => exact .tup (Same.sqT e hs) (dpAll_mono e ds _ ha)
  | .dict _, _, h => by cases h
theorem dpAll_mono (e : Same H H') : ∀ (ds : List PyData) (vs : List V), DpAll K H vs ds → DpAll K H' vs ds
  | [], _, h => by cases h; exact .nil
  | d :: ds, _, h => by
    cases h with
    | cons h1 h2 => exact .cons (dp_mono e d _ h1) (dpAll_mono e ds _ h2)
end
theorem DpAll.length : ∀ {ds : List PyData} {vs : List V}, DpAll K H vs ds → vs.length = ds.length
  | _, _, .nil => rfl
  | _, _, .cons _ t => by rw [List.length_cons, List.length_cons, DpAll.length t]
theorem DpAll.get : ∀ {ds : List PyData} {vs : List V} {i : Nat} {v : V}, DpAll K H vs ds → vs[i]? = some v → ∃ d, ds[i]? = some d ∧ Dp K H v d
  | _, _, _, _, .nil, e => by simp at e
  | _, _, 0, _, .cons h _, e => by simp at e; subst e; exact ⟨_, rfl, h⟩
  | _, _, i + 1, v, .cons _ t, e => by
    obtain ⟨d, h1, h2⟩ := DpAll.get (i := i) (v := v) t (by simpa using e)
    exact ⟨d, by simpa using h1, h2⟩
theorem DpAll.append : ∀ {ds es : List PyData} {vs ws : List V}, DpAll K H vs ds → DpAll K H ws es → DpAll K H (vs ++ ws) (ds ++ es)
  | _, _, _, _, .nil, h => h
  | _, _, _, _, .cons h t, g => .cons h (DpAll.append t g)
theorem DpAll.one {v : V} {d : PyData} (h : Dp K H v d) : DpAll K H [v] [d] := .cons h .nil
theorem DpAll.take : ∀ {ds : List PyData} {vs : List V} (n : Nat), DpAll K H vs ds → DpAll K H (vs.take n) (ds.take n)
  | _, _, 0, _ => by simpa using DpAll.nil
  | _, _, _ + 1, .nil => .nil
  | _, _, n + 1, .cons h t => .cons h (DpAll.take n t)
theorem DpAll.drop : ∀ {ds : List PyData} {vs : List V} (n : Nat), DpAll K H vs ds → DpAll K H (vs.drop n) (ds.drop n)
  | _, _, 0, h => by simpa using h
  | _, _, _ + 1, .nil => .nil
  | _, _, n + 1, .cons _ t => DpAll.drop n t
/-- the name of its class -/
def tyN : PyData → String
  | .none => "NoneType"
  | .bool _ => "bool"
  | .int _ => "int"
  | .str _ => "str"
  | .list _ => "list"
  | .tuple _ => "tuple"
  | .dict _ => "dict"
theorem tyx_of {v : V} {d : PyData} (h : Dp K H v d) : TyX K H v (.type (tyN d)) := by
  cases h with
  | non => exact .base .non
  | bl b => exact .base (.bl b)
  | int i => exact .base (.int i)
  | str x => exact .base (.str x)
  | lst hs _ =>
    rcases hs with (h | ⟨o, h⟩) | ⟨o, its, n, h, hc, _⟩
    · exact .base (.lst h)
    · exact .base (.frz h)
    · exact .kList h hc
  | tup hs _ =>
    rcases hs with (h | ⟨o, h⟩) | ⟨o, its, n, h, hc, _⟩
    · exact .base (.tup h)
    · exact .fTuple h
    · exact .kTuple h hc
end
section
variable {X : Cx}
/-- repr(v), v data -/
def rRepr (K : PySem.W.Frag) : List V → Hp → VK → Prop := fun xs H Q => ∃ (v : V) (d : PyData), xs = [v] ∧ Dp K H v d ∧ Ok d ∧ Q (.str d.shown) H
theorem call_repr (gd : X.A.guards = some []) (hu : X.A.units + 64 < cLine) : CallR X (.builtin "repr") (rRepr X.K) := by
  intro pins s σ H xs us Q I rel ask
  obtain ⟨v, d, rfl, hd, ok, q⟩ := ask
  cases rel with
  | @cons _ u _ _ r1 r2 =>
    cases r2
    obtain ⟨as, rd⟩ := Dp.reads I d v u hd r1
    have big : ∀ a, u = Value.ref a → wpAny (model X.prog X.w) X.A (call (.builtin "repr") [u]) (EP X pins σ Q) X.xe s := by
      rintro a rfl
      refine repr_of_reads' rd (fine_showable d ok.1) (PyData.noDict_hsm ok.nodict) gd (by have := ok.2.1; omega) (fun _ _ z => z) (fun h' t tk hk => ?_) ok.fits
      exact ⟨.str d.shown, H, I.kept (t' := tk) hk, ⟨t, rfl⟩, q⟩
    cases hd with
    | non =>
      obtain rfl : u = Value.none := r1
      exact PySem.P.repr_of_none ⟨.str _, H, I.tok _, ⟨_, rfl⟩, q⟩
    | bl b =>
      obtain rfl : u = Value.bool b := r1
      refine PySem.P.repr_of_bool ⟨.str _, H, I.tok _, ⟨s.toks, ?_⟩, q⟩
      cases b <;> rfl
    | int i =>
      obtain ⟨t, rfl⟩ := r1
      exact PySem.P.repr_of_int (by simpa [fine] using ok.1) ⟨.str _, H, I.tok _, ⟨_, rfl⟩, q⟩
    | str x =>
      obtain ⟨t, rfl⟩ := r1
      exact PySem.P.repr_of_str ⟨.str _, H, I.tok _, ⟨_, rfl⟩, q⟩ ok.fits
    | lst _ _ => exact big _ r1
    | tup _ _ => exact big _ r1
end
section
variable {X : Cx}
/-- isinstance(v, T), v data, T a built-in class -/
def rIsD (K : PySem.W.Frag) (T : String) : List V → Hp → VK → Prop := fun xs H Q => ∃ (v : V) (d : PyData) (b : Bool), xs = [v, .ty T] ∧ Dp K H v d ∧ kitB (tyN d) T = some b ∧ Q (.bl b) H
theorem call_isD {T : String} : CallR X (.builtin "isinstance") (rIsD X.K T) := by
  intro pins s σ H xs us Q I rel ask
  obtain ⟨v, d, b, rfl, hd, e, q⟩ := ask
  exact call_isi pins s σ H _ us Q I rel ⟨v, .ty T, .type (tyN d), .type T, b, rfl, .ty T, tyx_of hd, kit_ty e, q⟩
end
def isL : PyData → Bool
  | .list _ => true
  | _ => false
def isS : PyData → Bool
  | .str _ => true
  | _ => false
def isI : PyData → Bool
  | .int _ => true
  | .bool _ => true
  | _ => false
def isB : PyData → Bool
  | .bool _ => true
  | _ => false
def isT : PyData → Bool
  | .tuple _ => true
  | _ => false
theorem kit_list : ∀ d : PyData, kitB (tyN d) "list" = some (isL d)
  | .none => (by decide +kernel : kitB "NoneType" "list" = some false)
  | .bool _ => (by decide +kernel : kitB "bool" "list" = some false)
  | .int _ => (by decide +kernel : kitB "int" "list" = some false)
  | .str _ => (by decide +kernel : kitB "str" "list" = some false)
  | .list _ => (by decide +kernel : kitB "list" "list" = some true)
  | .tuple _ => (by decide +kernel : kitB "tuple" "list" = some false)
  | .dict _ => (by decide +kernel : kitB "dict" "list" = some false)
theorem kit_str : ∀ d : PyData, kitB (tyN d) "str" = some (isS d)
  | .none => (by decide +kernel : kitB "NoneType" "str" = some false)
  | .bool _ => (by decide +kernel : kitB "bool" "str" = some false)
  | .int _ => (by decide +kernel : kitB "int" "str" = some false)
  | .str _ => (by decide +kernel : kitB "str" "str" = some true)
  | .list _ => (by decide +kernel : kitB "list" "str" = some false)
  | .tuple _ => (by decide +kernel : kitB "tuple" "str" = some false)
  | .dict _ => (by decide +kernel : kitB "dict" "str" = some false)
theorem kit_int : ∀ d : PyData, kitB (tyN d) "int" = some (isI d)
  | .none => (by decide +kernel : kitB "NoneType" "int" = some false)
  | .bool _ => (by decide +kernel : kitB "bool" "int" = some true)
  | .int _ => (by decide +kernel : kitB "int" "int" = some true)
  | .str _ => (by decide +kernel : kitB "str" "int" = some false)
  | .list _ => (by decide +kernel : kitB "list" "int" = some false)
  | .tuple _ => (by decide +kernel : kitB "tuple" "int" = some false)
  | .dict _ => (by decide +kernel : kitB "dict" "int" = some false)
theorem kit_bool : ∀ d : PyData, kitB (tyN d) "bool" = some (isB d)
  | .none => (by decide +kernel : kitB "NoneType" "bool" = some false)
  | .bool _ => (by decide +kernel : kitB "bool" "bool" = some true)
  | .int _ => (by decide +kernel : kitB "int" "bool" = some false)
  | .str _ => (by decide +kernel : kitB "str" "bool" = some false)
  | .list _ => (by decide +kernel : kitB "list" "bool" = some false)
  | .tuple _ => (by decide +kernel : kitB "tuple" "bool" = some false)
  | .dict _ => (by decide +kernel : kitB "dict" "bool" = some false)
theorem kit_tuple : ∀ d : PyData, kitB (tyN d) "tuple" = some (isT d)
  | .none => (by decide +kernel : kitB "NoneType" "tuple" = some false)
  | .bool _ => (by decide +kernel : kitB "bool" "tuple" = some false)
  | .int _ => (by decide +kernel : kitB "int" "tuple" = some false)
  | .str _ => (by decide +kernel : kitB "str" "tuple" = some false)
  | .list _ => (by decide +kernel : kitB "list" "tuple" = some false)
  | .tuple _ => (by decide +kernel : kitB "tuple" "tuple" = some true)
  | .dict _ => (by decide +kernel : kitB "dict" "tuple" = some false)
end Tx

/-! ## The text's names; what a call needs -/
namespace Tx
open PySem PySem.Spec PyProof.Rows L2

/-- the built-in names that the texts use are not the module's -/
structure Bi (mg : Str → Option Value) : Prop where
  len : mg "len" = none
  int : mg "int" = none
  abs : mg "abs" = none
  range : mg "range" = none
  enumerate : mg "enumerate" = none
  min : mg "min" = none
  max : mg "max" = none
  isinstance : mg "isinstance" = none
  repr : mg "repr" = none
  sum : mg "sum" = none
  all : mg "all" = none
  any : mg "any" = none
  list : mg "list" = none
  str : mg "str" = none
  tuple : mg "tuple" = none
  bool : mg "bool" = none
  sorted : mg "sorted" = none
  ValueError : mg "ValueError" = none
  zip : mg "zip" = none
  set : mg "set" = none
theorem bi_of {K : PySem.W.Frag} {mg : Str → Option Value} {h : Heap} (X : K.In h) (G : h.Ns mainGlobals mg)
    (z0 : PySem.W.nsIn K mainGlobals "len" = some none)
    (z1 : PySem.W.nsIn K mainGlobals "int" = some none)
    (z2 : PySem.W.nsIn K mainGlobals "abs" = some none)
    (z3 : PySem.W.nsIn K mainGlobals "range" = some none)
    (z4 : PySem.W.nsIn K mainGlobals "enumerate" = some none)
    (z5 : PySem.W.nsIn K mainGlobals "min" = some none)
    (z6 : PySem.W.nsIn K mainGlobals "max" = some none)
    (z7 : PySem.W.nsIn K mainGlobals "isinstance" = some none)
    (z8 : PySem.W.nsIn K mainGlobals "repr" = some none)
    (z9 : PySem.W.nsIn K mainGlobals "sum" = some none)
    (z10 : PySem.W.nsIn K mainGlobals "all" = some none)
    (z11 : PySem.W.nsIn K mainGlobals "any" = some none)
    (z12 : PySem.W.nsIn K mainGlobals "list" = some none)
    (z13 : PySem.W.nsIn K mainGlobals "str" = some none)
    (z14 : PySem.W.nsIn K mainGlobals "tuple" = some none)
    (z15 : PySem.W.nsIn K mainGlobals "bool" = some none)
    (z16 : PySem.W.nsIn K mainGlobals "sorted" = some none)
    (z17 : PySem.W.nsIn K mainGlobals "ValueError" = some none)
    (z18 : PySem.W.nsIn K mainGlobals "zip" = some none)
    (z19 : PySem.W.nsIn K mainGlobals "set" = some none) : Bi mg :=
  ⟨PySem.W.mg_none_of X G z0, PySem.W.mg_none_of X G z1, PySem.W.mg_none_of X G z2, PySem.W.mg_none_of X G z3, PySem.W.mg_none_of X G z4, PySem.W.mg_none_of X G z5, PySem.W.mg_none_of X G z6, PySem.W.mg_none_of X G z7, PySem.W.mg_none_of X G z8, PySem.W.mg_none_of X G z9, PySem.W.mg_none_of X G z10, PySem.W.mg_none_of X G z11, PySem.W.mg_none_of X G z12, PySem.W.mg_none_of X G z13, PySem.W.mg_none_of X G z14, PySem.W.mg_none_of X G z15, PySem.W.mg_none_of X G z16, PySem.W.mg_none_of X G z17, PySem.W.mg_none_of X G z18, PySem.W.mg_none_of X G z19⟩
/-- what a body's context gives to its calls -/
structure Ct (mg : Str → Option Value) (A : Around) (k : Nat) : Prop where
  b : Bi mg
  r : Room k A
  g : A.guards = some []
theorem Ct.mono {mg : Str → Option Value} {A : Around} {j k : Nat} (c : Ct mg A k) (h : j ≤ k) : Ct mg A j := ⟨c.b, c.r.mono h, c.g⟩
/-- a def of the module -/
def Has (K : PySem.W.Frag) (mg : Str → Option Value) (x : Str) (st : Stmt) : Prop := ∃ (f : Addr) (fd : FuncData), Fun K x x st f fd ∧ mg x = some (.ref f)
theorem has_of {K : PySem.W.Frag} {mg : Str → Option Value} {h : Heap} {x : Str} {st : Stmt} {f : Addr} {oc kV dc pm cd ct : Value} {od an : Option Addr} {sl : Array (Option Value)} (X : K.In h) (G : h.Ns mainGlobals mg)
    (a : PySem.W.nsIn K mainGlobals x = some (some (.ref f)))
    (l : K.lookup f = some ⟨oc, od, .func (PySem.W.fnOf x x (defArgs st) (defBody st) (defScope st) .none kV dc pm an cd ct), sl⟩)
    (c : PySem.W.codeIn K cd x = true) (k : PySem.W.keepIn K (.ref f) = true) : Has K mg x st :=
  ⟨f, _, fun_mk l c k, PySem.W.mg_of X G a⟩
/-- a def of the module and its promise -/
def Dfn (P : Program) (w : World) (K : PySem.W.Frag) (mg : Str → Option Value) (base : Heap) (CX : CXT) (k : Nat) (x : Str) (ps : List Str) (sp : Sp) : Prop :=
  ∃ (f : Addr) (fd : FuncData), FnG P w K mg base CX k f fd ps sp ∧ mg x = some (.ref f) ∧ PySem.W.keepIn K (.ref f) = true ∧ Binds K fd ps []
section
variable {P : Program} {w : World} {K : PySem.W.Frag} {mg : Str → Option Value} {base : Heap} {CX : CXT} {k : Nat} {x : Str} {ps N : List Str} {sp : Sp} {st : Stmt}
theorem Dfn.mono {j : Nat} (D : Dfn P w K mg base CX j x ps sp) (h : j ≤ k) : Dfn P w K mg base CX k x ps sp := by
  obtain ⟨f, fd, F, r⟩ := D
  exact ⟨f, fd, F.mono h, r⟩
/-- how the arguments bind: one pattern a number of parameters -/
def BindsBy (x : Str) (st : Stmt) (ps : List Str) : Prop := ∀ (kV doc pm : Value) (an : Option Addr) (cdv ct : Value) (us : List Value), us.length = ps.length →
  bindArgs (PySem.W.fnOf x x (defArgs st) (defBody st) (defScope st) .none kV doc pm an cdv ct) ⟨us, []⟩ = pure (ps.zip us)
/-- a def that lets nothing out, by its body -/
theorem dfn0 (h : Has K mg x st) (B : Bi mg) (S : FnScope N ps (defScope st)) (bd : BindsBy x st ps) (len : ∀ vs H Q E, sp vs H Q E → vs.length = ps.length)
    (body : ∀ (f : Addr) (cv : Value) (A : Around) (out : List Env) (s : Shared) (H : Hp) (vs : List V) (Q : VK) (E : XK),
      Ct mg (A.deeper (envOfC x (defScope st) s.heap.objs.size f cv)) k → sp vs H Q E →
      ∃ t, PSs (cxOf CX0 P w K mg base N x (defScope st) f cv A out s H E).nox (defBody st) t ∧
        t { nx := fun _ H' => Q .non H', rt := Q } (start N vs) H) :
    Dfn P w K mg base CX0 (k + 1) x ps sp := by
  obtain ⟨f, fd, F, m⟩ := h
  refine ⟨f, fd, okG F S len ?_, m, F.kp, F.binds bd⟩
  intro cv A out s H vs Q E room gd ask
  obtain ⟨t, p, q⟩ := body f cv A out s H vs Q E ⟨B, room, gd⟩ ask
  exact ⟨t, p.nox, q⟩
/-- a def that may raise -/
theorem dfnX (h : Has K mg x st) (B : Bi mg) (S : FnScope N ps (defScope st)) (bd : BindsBy x st ps) (len : ∀ vs H Q E, sp vs H Q E → vs.length = ps.length)
    (body : ∀ (f : Addr) (cv : Value) (A : Around) (out : List Env) (s : Shared) (H : Hp) (vs : List V) (Q : VK) (E : XK),
      Ct mg (A.deeper (envOfC x (defScope st) s.heap.objs.size f cv)) k → sp vs H Q E →
      ∃ t, PSs (cxOf (L2.CX P w) P w K mg base N x (defScope st) f cv A out s H E) (defBody st) t ∧
        t { nx := fun _ H' => Q .non H', rt := Q } (start N vs) H) :
    Dfn P w K mg base (L2.CX P w) (k + 1) x ps sp := by
  obtain ⟨f, fd, F, m⟩ := h
  refine ⟨f, fd, okG F S len ?_, m, F.kp, F.binds bd⟩
  intro cv A out s H vs Q E room gd ask
  exact body f cv A out s H vs Q E ⟨B, room, gd⟩ ask
/-- nothing is promised -/
theorem dfn_none (h : Has K mg x st) (bd : BindsBy x st ps) (no : ∀ vs H Q E, ¬ sp vs H Q E) : Dfn P w K mg base CX0 0 x ps sp := by
  obtain ⟨f, fd, F, m⟩ := h
  exact ⟨f, fd, ⟨fun vs H Q E z => absurd z (no vs H Q E), fun A out s H ar us vs Q E _ _ _ _ _ z => absurd z (no vs H Q E)⟩, m, F.kp, F.binds bd⟩
end
section
variable {X : Cx} {CX : CXT} {j k : Nat} {ps : List Str} {sp : Sp} {E : XK} {x : Str} {p pos : Pos} {e : Expr} {es : List Expr} {t : TA}
/-- f(e, ..), f a def of the module -/
theorem pe_d (D : Dfn X.prog X.w X.K X.mg X.base CX0 j x ps sp) (c : Ct X.mg X.A k) (h : j ≤ k) (gl : Gl X x) (args : PA X (e :: es) t)
    (nd : (x == ("__debug__" : Str)) = false := by decide)
    (plain : starEach (e :: es) X.env = (false, eval e X.env) :: starEach es X.env := by rfl)
    (bare : (backTo pos (starEach es X.env)).any (·.1) = false := by rfl) :
    PE X (.Call (.Name x p) (e :: es) [] pos) (tCall sp [] E0 t) := by
  obtain ⟨f, fd, F, m, kp, bd⟩ := D
  exact pe_callG F (c.r.mono h) c.g gl m kp bd .nil pass0 args nd plain bare
end
/-- the law's own def, for the end -/
theorem to_law {P : Program} {w : World} {K : PySem.W.Frag} {mg : Str → Option Value} {base : Heap} {k : Nat} {x y : Str} {sp : Sp} {fa : Addr} (m : mg x = some (.ref fa)) (D : Dfn P w K mg base CX0 k x [y] sp) :
    ∃ fd : FuncData, FnG P w K mg base CX0 k fa fd [y] sp ∧ Binds K fd [y] [] := by
  obtain ⟨f, fd, F, m2, _, bd⟩ := D
  rw [m] at m2
  cases m2
  exact ⟨fd, F, bd⟩
/-! ### heaps -/
/-- of all addresses but b, what stood stands -/
def SameBut (b : Addr) (H H' : Hp) : Prop := ∀ a o, a ≠ b → H a = some o → H' a = some o
theorem SameBut.refl {b : Addr} {H : Hp} : SameBut b H H := fun _ _ _ h => h
theorem SameBut.trans {b : Addr} {H H1 H2 : Hp} (h : SameBut b H H1) (g : SameBut b H1 H2) : SameBut b H H2 := fun a o n e => g a o n (h a o n e)
theorem SameBut.of {b : Addr} {H H' : Hp} (h : Same H H') : SameBut b H H' := fun a o _ e => h a o e
theorem same_new {H : Hp} {p : Addr} (h : H p = none) (o : HO) : Same H (upd H p o) := fun b u q => by rw [upd_ne (ne_of_none q h)]; exact q
theorem sameBut_upd {H : Hp} {b : Addr} {o : HO} : SameBut b H (upd H b o) := fun a u n e => by rw [upd_ne n]; exact e
end Tx

/-! ## The law's draws: any number below the bound; the bag, a list of two numbers at b, changes -/
namespace Tx
open PySem PySem.Spec PyProof.Rows L2
def top (i : Nat) : Stmt := PySem.Challenge.pw_textorlist_k14_whole_entries_by_a_model.main.body.getD i (.Pass ⟨0, 0, 0, 0⟩)
abbrev sTake : Stmt := top 17
theorem scTake : FnScope ["_law_bag_here", "_law_many", "_law_digit"] ["_law_bag_here", "_law_many"] (defScope sTake) := ⟨rfl, rfl, rfl, by decide +kernel, rfl, by decide +kernel, by decide +kernel⟩
abbrev sBag : Stmt := top 16
theorem scBag : FnScope ["_law_script", "_law_at", "_law_cell", "_law_mixed", "_law_place", "_law_each"] ["_law_script", "_law_at"] (defScope sBag) := ⟨rfl, rfl, rfl, by decide +kernel, rfl, by decide +kernel, by decide +kernel⟩
theorem cutV_get {xs : List V} {lo hi : Option Int} {i : Nat} {v : V} (h : (cutV xs lo hi)[i]? = some v) : ∃ j : Nat, xs[j]? = some v := by
  unfold cutV at h
  rw [List.getElem?_take] at h
  split at h
  · rw [List.getElem?_drop] at h
    exact ⟨_, h⟩
  · cases h
theorem atI_of {α : Type} {xs : List α} {i : Int} (h0 : 0 ≤ i) (h1 : i < (xs.length : Int)) : ∃ v, atI xs i = some v ∧ xs[i.toNat]? = some v := by
  obtain ⟨n, rfl⟩ := Int.eq_ofNat_of_zero_le h0
  have hn : n < xs.length := by omega
  have e : xs[n]? = some xs[n] := List.getElem?_eq_getElem hn
  exact ⟨_, atI_nat e, e⟩
theorem int_of_get {ns : List Int} {j : Nat} {v : V} (h : (ns.map V.int)[j]? = some v) : ∃ z, v = V.int z := by
  rw [List.getElem?_map] at h
  cases e : ns[j]? with
  | none => rw [e] at h; cases h
  | some z => rw [e] at h; exact ⟨z, (Option.some.inj h).symm⟩
/-- the bag stands at b -/
def Bag (H : Hp) (b : Addr) : Prop := ∃ c m : Int, H b = some (.lst [.int c, .int m])
/-- from H to H' the bag at b may have changed, and there may be new things -/
structure Stp (b : Addr) (H H' : Hp) : Prop where
  bag : Bag H' b
  keep : SameBut b H H'
theorem Stp.trans {b : Addr} {H H1 H2 : Hp} (x : Stp b H H1) (y : Stp b H1 H2) : Stp b H H2 := ⟨y.bag, x.keep.trans y.keep⟩
theorem Stp.new {b p : Addr} {H H1 : Hp} (x : Stp b H H1) (h : H1 p = none) (o : HO) : Stp b H (upd H1 p o) := by
  obtain ⟨c, m, e⟩ := x.bag
  exact ⟨⟨c, m, by rw [upd_ne (ne_of_none e h)]; exact e⟩, x.keep.trans (SameBut.of (same_new h o))⟩
theorem Stp.refl {b : Addr} {H : Hp} (h : Bag H b) : Stp b H H := ⟨h, SameBut.refl⟩
theorem Stp.same {b : Addr} {H H1 H2 : Hp} (x : Stp b H H1) (y : Same H1 H2) : Stp b H H2 := by
  obtain ⟨c, m, e⟩ := x.bag
  exact ⟨⟨c, m, y _ _ e⟩, x.keep.trans (SameBut.of y)⟩
/-- take(bag, n): a number from 0 to n - 1 -/
def spTake : Sp := fun vs H Q _ => ∃ (b : Addr) (n : Int), vs = [.ref b, .int n] ∧ Bag H b ∧ 0 < n ∧ n < 1073741824 ∧
  ∀ (r : Int) (H' : Hp), 0 ≤ r → r < n → Stp b H H' → Q (.int r) H'
/-- bag(script, at): a new bag -/
def spBag (K : PySem.W.Frag) : Sp := fun vs H Q _ => ∃ (a : Addr) (ns : List Int) (i : Int), vs = [.ref a, .int i] ∧ SqL K H a (ns.map V.int) ∧ 0 ≤ i ∧ i < 1000 ∧
  ∀ (b : Addr) (H' : Hp), Same H H' → H b = none → Bag H' b → Q (.ref b) H'
section
variable {P : Program} {w : World} {K : PySem.W.Frag} {mg : Str → Option Value} {base : Heap}
theorem d_take (h : Has K mg "_law_take" sTake) (B : Bi mg) : Dfn P w K mg base CX0 1 "_law_take" ["_law_bag_here", "_law_many"] spTake := by
  refine dfn0 h B scTake (fun _ _ _ _ _ _ us hl => match us, hl with | [_, _], _ => rfl) (fun vs H Q E h => ?_) (fun f cv A out s H vs Q E c h => ?_)
  · obtain ⟨b, n, rfl, _⟩ := h
    rfl
  obtain ⟨b, n, rfl, ⟨x, m, hb⟩, n0, n1, q⟩ := h
  refine ⟨_, (pss_cons (ps_if (pt_cmpR op_gt (pe_ix ix_list (pv 0) pe_int (fun _ _ => rfl)) pe_int (nomark _)) (pss_cons (ps_set (i := 2) scTake.nd rfl (Or.inl rfl) (pe_op op_mod (pe_callTy call_int1 (by rfl) c.b.int (by decide +kernel) (pa_cons (pe_ix ix_list (pv 0) pe_int (fun _ _ => rfl)) pa_nil)) (pv 1)))
    (pss_cons (ps_asg (pe_op op_fdiv (pe_ix ix_list (pv 0) pe_int (fun _ _ => rfl)) (pv 1)) (pg_sub (pv 0) pe_int set_list))
    (pss_one (ps_ret (pv 2))))) pss_nil)
    (pss_cons (ps_asg (pe_op op_mod (pe_callTy call_int1 (by rfl) c.b.int (by decide +kernel) (pa_cons (pe_op op_add (pe_op op_mul (pe_ix ix_list (pv 0) pe_int (fun _ _ => rfl)) pe_int) pe_int) pa_nil)) pe_int) (pg_sub (pv 0) pe_int set_list))
    (pss_one (ps_ret (pe_op op_mod (pe_op op_fdiv (pe_op op_mod (pe_callTy call_int1 (by rfl) c.b.int (by decide +kernel) (pa_cons (pe_op op_mul (pe_op op_fdiv (pe_ix ix_list (pv 0) pe_int (fun _ _ => rfl)) pe_int) pe_int) pa_nil)) pe_int) pe_int) (pv 1)))))), ?_⟩
  refine ⟨_, rfl, b, _, _, _, rfl, rfl, SqL.of hb, atI_nat rfl, _, _, rfl, rfl, _, rfl, ?_⟩
  refine ite2 (fun _ => ?_) (fun _ => ?_)
  · refine ⟨_, rfl, b, _, _, _, rfl, rfl, SqL.of hb, atI_nat rfl, .inl ⟨_, rfl, ?_⟩⟩
    refine ⟨_, rfl, _, _, rfl, rfl, n0, ?_⟩
    refine ⟨_, rfl, b, _, _, _, rfl, rfl, SqL.of hb, atI_nat rfl, _, rfl, _, _, rfl, rfl, ⟨n0, n1⟩, ?_⟩
    refine ⟨_, rfl, b, _, _, 0, rfl, rfl, hb, rfl, ?_⟩
    refine ⟨_, rfl, q _ _ (Int.emod_nonneg _ (by omega)) (Int.emod_lt_of_pos _ n0) ⟨⟨_, _, upd_same⟩, sameBut_upd⟩⟩
  · refine ⟨_, rfl, b, _, _, _, rfl, rfl, SqL.of hb, atI_nat rfl, _, _, rfl, rfl, .inr ⟨by decide, by decide⟩, _, _, rfl, rfl, .inl ⟨_, rfl, ?_⟩⟩
    refine ⟨_, _, rfl, rfl, (by show (0 : Int) < 2147483629; decide), ?_⟩
    refine ⟨_, rfl, b, _, _, 1, rfl, rfl, hb, rfl, ?_⟩
    refine ⟨_, rfl, b, _, _, _, rfl, rfl, SqL.of upd_same, atI_nat rfl, _, _, rfl, rfl, ⟨by decide, by decide⟩, _, _, rfl, rfl, .inr ⟨by decide, by decide⟩, .inl ⟨_, rfl, ?_⟩⟩
    refine ⟨_, _, rfl, rfl, (by show (0 : Int) < 2147483587; decide), _, _, rfl, rfl, ⟨by decide, by decide⟩, _, rfl, _, _, rfl, rfl, n0, ?_⟩
    exact q _ _ (Int.emod_nonneg _ (by omega)) (Int.emod_lt_of_pos _ n0) ⟨⟨_, _, upd_same⟩, sameBut_upd⟩
theorem d_bag (h : Has K mg "_law_bag" sBag) (B : Bi mg) : Dfn P w K mg base CX0 1 "_law_bag" ["_law_script", "_law_at"] (spBag K) := by
  refine dfn0 h B scBag (fun _ _ _ _ _ _ us hl => match us, hl with | [_, _], _ => rfl) (fun vs H Q E h => ?_) (fun f cv A out s H vs Q E c h => ?_)
  · obtain ⟨a, ns, i, rfl, _⟩ := h
    rfl
  obtain ⟨a, ns, i, rfl, hS, i0, i1, q⟩ := h
  refine ⟨_, (pss_cons (ps_par (i := 2) (j := 3) rfl scBag.nd rfl rfl (by decide) rfl rfl (pa_cons (pe_ifExp (pt_cmpR op_lt (pv 1) (pe_callB call_len_seq (by rfl) c.b.len PySem.boot_len (pa_cons (pv 0) pa_nil)) (nomark _)) (pe_callB call_abs (by rfl) c.b.abs (by decide +kernel) (pa_cons (pe_ix ix_list (pv 0) (pv 1) (fun _ _ => rfl)) pa_nil)) pe_int) (pa_cons (pe_op op_add (pe_op op_mul pe_int (pv 1)) pe_int) pa_nil)) (by rfl))
    (pss_cons (ps_for PassesOwn.never rfl (pi_enum (by rfl) c.b.enumerate (pa_cons (pe_slice sl_list (pv 0) po_none (po_some pe_int)) pa_nil)) (pg_tup rfl (pgs_cons (pg_name (i := 4) scBag.nd rfl (Or.inl rfl)) (pgs_cons (pg_name (i := 5) scBag.nd rfl (Or.inl rfl)) pgs_nil)))
    (pss_one (ps_set (i := 3) scBag.nd rfl (Or.inl rfl) (pe_op op_mod (pe_callTy call_int1 (by rfl) c.b.int (by decide +kernel) (pa_cons (pe_op op_add (pe_op op_add (pe_op op_mul (pv 3) pe_int) (pe_op op_mod (pe_callTy call_int1 (by rfl) c.b.int (by decide +kernel) (pa_cons (pv 5) pa_nil)) pe_int)) (pe_op op_mul pe_int (pv 4))) pa_nil)) pe_int))))
    (pss_one (ps_ret (pe_lst (pa_cons (pe_ifExp (pt_cmpR op_ge (pv 2) (pe_op op_pow pe_int pe_int) (nomark _)) (pv 2) pe_int) (pa_cons (pv 3) pa_nil))))))), ?_⟩
  have hl : (ns.map V.int).length = ns.length := List.length_map _
  refine ⟨_, rfl, _, rfl, a, _, rfl, .inl hS, _, _, rfl, rfl, _, rfl, ?_⟩
  refine ite2 (fun lt => ?one) (fun _ => ?two)
  case' one =>
    have lt' : i < (((ns.map V.int).length : Nat) : Int) := of_decide_eq_true lt
    obtain ⟨y, at_i, e2⟩ := atI_of i0 lt'
    obtain ⟨z, rfl⟩ := int_of_get e2
    refine ⟨_, rfl, _, rfl, a, _, _, _, rfl, rfl, hS, at_i, _, rfl, ?_⟩
  all_goals
    refine ⟨_, rfl, _, _, rfl, rfl, .inl ⟨by decide, by decide⟩, _, _, rfl, rfl, _, _, rfl, ?_⟩
    refine ⟨_, rfl, _, rfl, a, _, rfl, hS, fun p hp => ?_⟩
    have sp : Same H (upd H p (.lst (cutV (ns.map V.int) none (some 63)))) := same_new hp _
    refine ⟨p, _, rfl, SqL.of upd_same, ?_⟩
    refine for_it (walk_enum (K := K) (a := p) (xs := cutV (ns.map V.int) none (some 63)))
      (fun _ σ H' => ∃ (x m : Int) (u v : Option V), σ = [some (.ref a), some (.int i), some (.int x), some (.int m), u, v] ∧ Same (upd H p (.lst (cutV (ns.map V.int) none (some 63)))) H')
      ⟨_, _, none, none, rfl, Same.refl _⟩ (fun _ σ H' _ ⟨_, _, _, _, _, sm⟩ => sm.seq (SqL.of upd_same)) ?_ ?_
    · rintro t y σ H1 H2 ht ⟨x, m, u, v, rfl, sm⟩ ⟨T, y1, y2, rfl, hT, rfl, e1, e2⟩
      cases e1
      obtain ⟨j, e3⟩ := cutV_get e2
      obtain ⟨z, rfl⟩ := int_of_get e3
      refine ⟨T, _, rfl, SqT.of upd_same, rfl, _, _, rfl, _, _, rfl, rfl, ?_⟩
      refine ⟨_, rfl, _, _, rfl, rfl, .inr ⟨by decide, by decide⟩, _, rfl, .inl ⟨_, rfl, ?_⟩⟩
      refine ⟨_, _, rfl, rfl, (by show (0 : Int) < 2147483629; decide), _, _, rfl, rfl, _, rfl, _, _, rfl, rfl, .inl ⟨by decide, by decide⟩, _, _, rfl, rfl, .inl ⟨_, rfl, ?_⟩⟩
      refine ⟨_, _, rfl, rfl, (by show (0 : Int) < 2147483647; decide), ?_⟩
      exact ⟨_, _, _, _, rfl, sm.trans (same_new hT _)⟩
    · rintro σ H1 ⟨x, m, u, v, rfl, sm⟩
      refine ⟨_, rfl, _, _, rfl, rfl, ⟨by decide, by decide, by decide⟩, _, _, rfl, rfl, _, rfl, ?_⟩
      refine ite2 (fun _ => ?_) (fun _ => ?_)
      · refine ⟨_, rfl, _, rfl, (by show 2 ≤ sizeLine; decide), fun b hb => ?_⟩
        exact q b _ (sp.trans (sm.trans (same_new hb _))) (sp.free (sm.free hb)) ⟨_, _, upd_same⟩
      · refine ⟨_, rfl, (by show 2 ≤ sizeLine; decide), fun b hb => ?_⟩
        exact q b _ (sp.trans (sm.trans (same_new hb _))) (sp.free (sm.free hb)) ⟨_, _, upd_same⟩
end
end Tx

/-! ## Values: nothing, texts, lists; their sizes -/
namespace Tx
open PySem PySem.Spec PyProof.Rows L2
/-- letters a to z alone -/
def ltr (x : Str) : Bool := x.cps.toList.all fun c => decide (97 ≤ c ∧ c ≤ 122)
mutual
def isVal : PyData → Bool
  | .none => true
  | .str x => ltr x
  | .list xs => isValAll xs
  | _ => false
def isValAll : List PyData → Bool
  | [] => true
  | x :: xs => isVal x && isValAll xs
end
mutual
def szD : PyData → Nat
  | .str x => 1 + x.length
  | .list xs => 1 + szAll xs
  | _ => 1
def szAll : List PyData → Nat
  | [] => 0
  | x :: xs => szD x + szAll xs
end
theorem isValAll_iff : ∀ {xs : List PyData}, isValAll xs = true ↔ ∀ d ∈ xs, isVal d = true
  | [] => by simp [isValAll]
  | x :: xs => by simp [isValAll, isValAll_iff (xs := xs)]
theorem szAll_append : ∀ (xs ys : List PyData), szAll (xs ++ ys) = szAll xs + szAll ys
  | [], ys => by simp [szAll]
  | x :: xs, ys => by simp only [List.cons_append, szAll, szAll_append xs ys]; omega
theorem szAll_eq : ∀ xs : List PyData, szAll xs = (xs.map szD).sum
  | [] => rfl
  | x :: xs => by simp only [szAll, List.map_cons, List.sum_cons, szAll_eq xs]
theorem szD_pos : ∀ d : PyData, 1 ≤ szD d
  | .none => by simp [szD]
  | .bool _ => by simp [szD]
  | .int _ => by simp [szD]
  | .str _ => by simp [szD]
  | .list _ => by simp [szD]
  | .tuple _ => by simp [szD]
  | .dict _ => by simp [szD]
theorem len_le_szAll : ∀ xs : List PyData, xs.length ≤ szAll xs
  | [] => by simp [szAll]
  | x :: xs => by
    have := len_le_szAll xs
    have := szD_pos x
    simp only [szAll, List.length_cons]
    omega
theorem szD_mem : ∀ {xs : List PyData} {d : PyData}, d ∈ xs → szD d ≤ szAll xs
  | [], d, h => by simp at h
  | x :: xs, d, h => by
    simp only [szAll]
    cases h with
    | head => omega
    | tail _ h => have := szD_mem h; omega
theorem szAll_le {B : Nat} : ∀ {xs : List PyData}, (∀ d ∈ xs, szD d ≤ B) → szAll xs ≤ B * xs.length
  | [], _ => by simp [szAll]
  | x :: xs, h => by
    have h1 := h x List.mem_cons_self
    have h2 := szAll_le (B := B) (xs := xs) fun d hd => h d (List.mem_cons_of_mem _ hd)
    simp only [szAll, List.length_cons, Nat.mul_add, Nat.mul_one]
    omega
mutual
theorem val_fine : ∀ d : PyData, isVal d = true → fine d = true
  | .none, _ => rfl
  | .str x, h => by
    simp only [isVal, ltr, List.all_eq_true, decide_eq_true_eq] at h
    simp only [fine, List.all_eq_true, decide_eq_true_eq]
    intro c hc
    have := h c hc
    omega
  | .list xs, h => by simp only [isVal] at h; simp only [fine]; exact valAll_fine xs h
  | .bool _, h => by simp [isVal] at h
  | .int _, h => by simp [isVal] at h
  | .tuple _, h => by simp [isVal] at h
  | .dict _, h => by simp [isVal] at h
theorem valAll_fine : ∀ xs : List PyData, isValAll xs = true → fineAll xs = true
  | [], _ => rfl
  | x :: xs, h => by
    simp only [isValAll, Bool.and_eq_true] at h
    simp only [fineAll, val_fine x h.1, valAll_fine xs h.2, Bool.and_self]
end
mutual
theorem val_wt : ∀ d : PyData, isVal d = true → wt d + 2 ≤ 12 * szD d
  | .none, _ => by simp [wt, szD]
  | .str x, _ => by simp only [wt, szD]; omega
  | .list xs, h => by
    simp only [isVal] at h
    have := valAll_wt xs h
    simp only [wt, szD]
    omega
  | .bool _, h => by simp [isVal] at h
  | .int _, h => by simp [isVal] at h
  | .tuple _, h => by simp [isVal] at h
  | .dict _, h => by simp [isVal] at h
theorem valAll_wt : ∀ xs : List PyData, isValAll xs = true → wtAll xs ≤ 12 * szAll xs
  | [], _ => by simp [wtAll, szAll]
  | x :: xs, h => by
    simp only [isValAll, Bool.and_eq_true] at h
    have h1 := val_wt x h.1
    have h2 := valAll_wt xs h.2
    simp only [wtAll, szAll]
    omega
end
/-- a value of at most such a depth and size -/
structure Val (n m : Nat) (d : PyData) : Prop where
  val : isVal d = true
  deep : d.depth ≤ n
  size : szD d ≤ m
theorem Val.mono {n m n' m' : Nat} {d : PyData} (h : Val n m d) (h1 : n ≤ n') (h2 : m ≤ m') : Val n' m' d := ⟨h.val, Nat.le_trans h.deep h1, Nat.le_trans h.size h2⟩
theorem Val.ok {n m : Nat} {d : PyData} (h : Val n m d) (hn : n ≤ 60) (hm : m ≤ 1000000) : Ok d := by
  have h1 := val_wt d h.val
  have h2 := h.size
  exact ⟨val_fine d h.val, Nat.le_trans h.deep hn, by omega⟩
theorem Val.item {n m : Nat} {ds : List PyData} (h : Val n m (.list ds)) {d : PyData} (hd : d ∈ ds) : Val (n - 1) (m - 1) d := by
  have hv := h.val
  have hn := h.deep
  have hm := h.size
  simp only [isVal] at hv
  simp only [PyData.depth] at hn
  simp only [szD] at hm
  have := depth_mem hd
  have := szD_mem hd
  exact ⟨isValAll_iff.mp hv d hd, by omega, by omega⟩
/-- what is at hand can be read in J; the bag at b is none of it; from H to H' the bag may have changed, J has grown to J' by new things -/
structure Gro (b : Addr) (J H J' H' : Hp) : Prop where
  st : Stp b H H'
  jj : Same J J'
  jh : Same J' H'
  fr : ∀ a, H a ≠ none → J a = none → J' a = none
section
variable {b : Addr} {J J1 J2 H H1 H2 : Hp}
theorem Stp.gro (h : Stp b H H1) (hb : J b = none) (s : Same J H) : Gro b J H J H1 :=
  ⟨h, Same.refl _, fun a o e => h.keep a o (fun z => by rw [z, hb] at e; cases e) (s a o e), fun _ _ n => n⟩
theorem Gro.refl (h : Bag H b) (s : Same J H) : Gro b J H J H := ⟨Stp.refl h, Same.refl _, s, fun _ _ n => n⟩
theorem Gro.noBag (g : Gro b J H J1 H1) (hB : Bag H b) (hb : J b = none) : J1 b = none := by
  obtain ⟨c, m, e⟩ := hB
  exact g.fr b (by rw [e]; simp) hb
theorem Stp.there (h : Stp b H H1) (hB : Bag H b) {a : Addr} (n : H a ≠ none) : H1 a ≠ none := by
  by_cases e : a = b
  · subst e
    obtain ⟨c, m, e⟩ := h.bag
    rw [e]; simp
  · cases q : H a with
    | none => exact absurd q n
    | some o => rw [h.keep a o e q]; simp
theorem Gro.trans (g : Gro b J H J1 H1) (k : Gro b J1 H1 J2 H2) (hB : Bag H b) : Gro b J H J2 H2 :=
  ⟨g.st.trans k.st, g.jj.trans k.jj, k.jh, fun a n e => k.fr a (g.st.there hB n) (g.fr a n e)⟩
/-- a further step that leaves what is at hand -/
theorem Gro.step (g : Gro b J H J1 H1) (h : Stp b H1 H2) (hB : Bag H b) (hb : J b = none) : Gro b J H J1 H2 := g.trans (h.gro (g.noBag hB hb) g.jh) hB
/-- a new thing -/
theorem Gro.new (g : Gro b J H J1 H1) {p : Addr} (hp : H1 p = none) (o : HO) : Gro b J H J1 (upd H1 p o) :=
  ⟨g.st.new hp o, g.jj, g.jh.trans (same_new hp o), g.fr⟩
/-- a new thing that is at hand -/
theorem Gro.add (g : Gro b J H J1 H1) (hB : Bag H b) {p : Addr} (hp : H1 p = none) (o : HO) : Gro b J H (upd J1 p o) (upd H1 p o) := by
  have hj : J1 p = none := g.jh.free hp
  refine ⟨g.st.new hp o, g.jj.trans (same_new hj o), fun a u e => ?_, fun a n e => ?_⟩
  · by_cases z : a = p
    · subst z; rw [upd_same] at e ⊢; exact e
    · rw [upd_ne z] at e ⊢; exact g.jh a u e
  · have z : a ≠ p := fun z => g.st.there hB n (by rw [z]; exact hp)
    rw [upd_ne z]
    exact g.fr a n e
/-- a thing of one's own, new since H, comes to hand -/
theorem Gro.own (g : Gro b J H J1 H1) {p : Addr} {o : HO} (hp : H1 p = some o) (hn : H p = none) (hj : J1 p = none) : Gro b J H (upd J1 p o) H1 := by
  refine ⟨g.st, g.jj.trans (same_new hj o), fun a u e => ?_, fun a n e => ?_⟩
  · by_cases z : a = p
    · subst z; rw [upd_same] at e; rw [← e]; exact hp
    · rw [upd_ne z] at e; exact g.jh a u e
  · have z : a ≠ p := fun z => n (by rw [z]; exact hn)
    rw [upd_ne z]
    exact g.fr a n e
theorem Stp.free (h : Stp b H H1) (hB : Bag H b) {r : Addr} (n : H1 r = none) : H r = none := by
  cases q : H r with
  | none => rfl
  | some o => exact absurd n (h.there hB (by rw [q]; simp))
theorem Stp.ne (h : Stp b H H1) {r : Addr} (n : H1 r = none) : r ≠ b := fun z => by
  obtain ⟨_, _, e⟩ := h.bag
  rw [← z, n] at e
  cases e
theorem same_upd {J H : Hp} {r : Addr} {o : HO} (s : Same J H) (n : J r = none) : Same J (upd H r o) := fun a u e => by
  rw [upd_ne (ne_of_none e n)]
  exact s a u e
/-- a thing of one's own is changed -/
theorem Gro.mut (g : Gro b J H J1 H1) {r : Addr} (hr : H r = none) (hj : J1 r = none) (rb : r ≠ b) (o : HO) : Gro b J H J1 (upd H1 r o) := by
  obtain ⟨c, m, e⟩ := g.st.bag
  exact ⟨⟨⟨c, m, by rw [upd_ne (Ne.symm rb)]; exact e⟩, fun a u n z => by rw [upd_ne (ne_of_none z hr)]; exact g.st.keep a u n z⟩, g.jj, same_upd g.jh hj, g.fr⟩
theorem Gro.same (g : Gro b J H J1 H1) (s : Same H1 H2) : Gro b J H J1 H2 := ⟨g.st.same s, g.jj, g.jh.trans s, g.fr⟩
end
end Tx

/-! ## The law's drawn values -/
namespace Tx
open PySem PySem.Spec PyProof.Rows L2
abbrev sText : Stmt := top 18
theorem scText : FnScope ["_law_bag_here", "_law_most", "_law_turn", "_law_word", "_law_signs"] ["_law_bag_here", "_law_most"] (defScope sText) := ⟨rfl, rfl, rfl, by decide +kernel, rfl, by decide +kernel, by decide +kernel⟩
abbrev sSize : Stmt := top 19
theorem scSize : FnScope ["_law_value_here", "_law_one"] ["_law_value_here"] (defScope sSize) := ⟨rfl, rfl, rfl, by decide +kernel, rfl, by decide +kernel, by decide +kernel⟩
/-- text(bag, m): letters, at most m -/
def spText : Sp := fun vs H Q _ => ∃ (b : Addr) (m : Int), vs = [.ref b, .int m] ∧ Bag H b ∧ 0 ≤ m ∧ m < 1000 ∧
  ∀ (x : Str) (H' : Hp), ltr x = true → (x.length : Int) ≤ m → Stp b H H' → Q (.str x) H'
/-- size(v), v less deep than n -/
def spSize (K : PySem.W.Frag) (n : Nat) : Sp := fun vs H Q _ => ∃ (v : V) (d : PyData), vs = [v] ∧ Dp K H v d ∧ isVal d = true ∧ d.depth < n ∧ szD d ≤ 1000000 ∧
  ∀ H', Same H H' → Q (.int (szD d)) H'
theorem sum_int : ∀ ds : List PyData, (ds.map fun d => (szD d : Int)).sum = (((ds.map szD).sum : Nat) : Int)
  | [] => rfl
  | x :: xs => by simp only [List.map_cons, List.sum_cons, sum_int xs]; omega
theorem ltr_append {x y : Str} (hx : ltr x = true) (hy : ltr y = true) : ltr (x ++ y) = true := by
  have e : (x ++ y).cps = x.cps ++ y.cps := rfl
  unfold ltr at *
  rw [e, Array.toList_append, List.all_append, hx, hy]
  rfl
theorem ltr_get {x : Str} (hx : ltr x = true) {i : Nat} {c : Nat} (h : x.cps.toList[i]? = some c) : ltr ⟨#[c]⟩ = true := by
  unfold ltr at *
  have hc := List.all_eq_true.mp hx c (List.mem_of_getElem? h)
  simp only [List.all_cons, List.all_nil, Bool.and_true]
  exact hc
section
variable {P : Program} {w : World} {K : PySem.W.Frag} {mg : Str → Option Value} {base : Heap}
theorem d_text (h : Has K mg "_law_text" sText) (B : Bi mg) (D_law_take : Dfn P w K mg base CX0 1 "_law_take" ["_law_bag_here", "_law_many"] spTake) :
    Dfn P w K mg base CX0 2 "_law_text" ["_law_bag_here", "_law_most"] spText := by
  refine dfn0 h B scText (fun _ _ _ _ _ _ us hl => match us, hl with | [_, _], _ => rfl) (fun vs H Q E h => ?_) (fun f cv A out s H vs Q E c h => ?_)
  · obtain ⟨b, m, rfl, _⟩ := h
    rfl
  obtain ⟨b, m, rfl, hB, m0, m1, q⟩ := h
  refine ⟨_, (pss_cons (ps_par (i := 3) (j := 4) rfl scText.nd rfl rfl (by decide) rfl rfl (pa_cons pe_str (pa_cons (pe_ix ix_list (pe_lst (pa_cons pe_str (pa_cons pe_str (pa_cons pe_str pa_nil)))) (pe_d D_law_take c (by omega) (by rfl) (pa_cons (pv 0) (pa_cons pe_int pa_nil))) (fun _ _ => rfl)) pa_nil)) (by rfl))
    (pss_cons (ps_for PassesOwn.never rfl (pi_range1 (by rfl) c.b.range (pa_cons (pe_d D_law_take c (by omega) (by rfl) (pa_cons (pv 0) (pa_cons (pe_op op_add (pv 1) pe_int) pa_nil))) pa_nil)) (pg_name (i := 2) scText.nd rfl (Or.inl rfl))
    (pss_one (ps_set (i := 3) scText.nd rfl (Or.inl rfl) (pe_op op_add_str (pv 3) (pe_ix ix_str (pv 4) (pe_d D_law_take c (by omega) (by rfl) (pa_cons (pv 0) (pa_cons (pe_callB call_len_str (by rfl) c.b.len PySem.boot_len (pa_cons (pv 4) pa_nil)) pa_nil))) (fun _ _ => rfl))))))
    (pss_one (ps_ret (pv 3))))), ?_⟩
  refine ⟨(by show 3 ≤ sizeLine; decide), fun p hp => ⟨_, rfl, b, 3, rfl, ((Stp.refl hB).new hp _).bag, by decide, by decide, fun r H1 r0 r1 st => ?_⟩⟩
  have nb : p ≠ b := fun z => by obtain ⟨_, _, e⟩ := hB; rw [← z, hp] at e; cases e
  have st1 : Stp b H H1 := ((Stp.refl hB).new hp _).trans st
  obtain ⟨v, e1, e2⟩ := atI_of (xs := [V.str "abcdefghijklmnopqrstuvwxyz", V.str "ab", V.str "za"]) r0 r1
  have sg : ∃ g : Str, v = .str g ∧ ltr g = true ∧ 1 ≤ g.length ∧ g.length ≤ 26 := by
    have h3 : r.toNat = 0 ∨ r.toNat = 1 ∨ r.toNat = 2 := by omega
    rcases h3 with z | z | z <;> rw [z] at e2 <;> cases e2 <;> exact ⟨_, rfl, by decide, by decide, by decide⟩
  obtain ⟨g, rfl, gl, g1, g2⟩ := sg
  refine ⟨p, _, _, _, rfl, rfl, SqL.of (st.keep p _ nb upd_same), e1, _, _, rfl, ?_⟩
  refine ⟨_, rfl, _, rfl, _, _, rfl, rfl, b, m + 1, rfl, st1.bag, by omega, by omega, fun n H2 n0 n1 st2 => ?_⟩
  refine ⟨n, rfl, by omega, by omega, ?_⟩
  refine for_range (lo := 0) (n := n.toNat) (fun i σ H' => ∃ (x : Str) (u : Option V), σ = [some (.ref b), some (.int m), u, some (.str x), some (.str g)] ∧ ltr x = true ∧ x.length ≤ i ∧ Stp b H H')
    ⟨_, none, rfl, rfl, Nat.le_refl _, st1.trans st2⟩ ?_ ?_
  · rintro i σ H3 hi ⟨x, u, rfl, xl, xn, st3⟩
    refine ⟨_, rfl, _, rfl, _, rfl, _, rfl, g, rfl, (by rw [sizeLine_eq]; omega), b, _, rfl, st3.bag, by omega, by omega, fun k H4 k0 k1 st4 => ?_⟩
    obtain ⟨cc, e3, e4⟩ := atI_of (xs := g.cps.toList) k0 (show k < ((g.cps.toList.length : Nat) : Int) by rw [Array.length_toList]; exact k1)
    refine ⟨g, _, cc, rfl, rfl, (by rw [sizeLine_eq]; omega), e3, _, _, rfl, rfl, (by show x.length + 1 ≤ sizeLine; rw [sizeLine_eq]; omega), ?_⟩
    refine ⟨_, _, rfl, ltr_append xl (ltr_get gl e4), ?_, st3.trans st4⟩
    show (x.cps ++ #[cc]).size ≤ i + 1
    have : x.cps.size ≤ i := xn
    simp
    omega
  · rintro σ H3 ⟨x, u, rfl, xl, xn, st3⟩
    exact ⟨_, rfl, q x _ xl (by omega) st3⟩
theorem d_size (h : Has K mg "_law_size" sSize) (B : Bi mg) : ∀ n, Dfn P w K mg base CX0 n "_law_size" ["_law_value_here"] (spSize K n)
  | 0 => dfn_none h (fun _ _ _ _ _ _ us hl => match us, hl with | [_], _ => rfl) fun vs H Q E z => by
    obtain ⟨_, _, _, _, _, z, _⟩ := z
    omega
  | n + 1 => by
    have D_law_size := d_size h B n
    refine dfn0 h B scSize (fun _ _ _ _ _ _ us hl => match us, hl with | [_], _ => rfl) (fun vs H Q E h => ?_) (fun f cv A out s H vs Q E c h => ?_)
    · obtain ⟨v, d, rfl, _⟩ := h
      rfl
    obtain ⟨v, d, rfl, hd, val, dn, sz, q⟩ := h
    cases d with
    | none =>
      cases hd
      refine ⟨_, (pss_cons (ps_if (pt_val (pe_callB (call_isD (T := "list")) (by rfl) c.b.isinstance (by decide +kernel) (pa_cons (pv 0) (pa_cons (pe_bltn (v := .ty "list") (by rfl) c.b.list (by decide +kernel) rfl) pa_nil)))) (pss_one (ps_ret (pe_op op_add pe_int (pe_callB (cr_sum rfl) (by rfl) c.b.sum (by decide +kernel) (pa_cons (pe_lc (own := [("_law_one", 1)]) (g := (gName 1)) (tt := tYes) rfl scSize.nd (pi_list (pv 0)) (blkOk_by (own := [("_law_one", 1)]) (N := ["_law_value_here", "_law_one"]) (sc := defScope sSize) (by decide +kernel)) (fun _ _ _ _ _ => (pg_name (i := 1) scSize.nd rfl (Or.inl rfl))) (fun _ _ _ _ _ => pts_nil) (fun _ _ _ _ _ => (pe_d D_law_size c (by omega) (by rfl) (pa_cons (pv 1) pa_nil)))) pa_nil))))) pss_nil)
    (pss_one (ps_ret (pe_ifExp (pt_cmpR op_isN (pv 0) pe_non (nomark _)) pe_int (pe_op op_add pe_int (pe_callB call_len_str (by rfl) c.b.len PySem.boot_len (pa_cons (pv 0) pa_nil))))))), ?_⟩
      refine ⟨_, rfl, _, .none, _, rfl, .non, kit_list _, _, rfl, iteF ?_⟩
      exact ⟨_, rfl, rfl, _, rfl, iteT (q _ (Same.refl _))⟩
    | str x =>
      cases hd
      refine ⟨_, (pss_cons (ps_if (pt_val (pe_callB (call_isD (T := "list")) (by rfl) c.b.isinstance (by decide +kernel) (pa_cons (pv 0) (pa_cons (pe_bltn (v := .ty "list") (by rfl) c.b.list (by decide +kernel) rfl) pa_nil)))) (pss_one (ps_ret (pe_op op_add pe_int (pe_callB (cr_sum rfl) (by rfl) c.b.sum (by decide +kernel) (pa_cons (pe_lc (own := [("_law_one", 1)]) (g := (gName 1)) (tt := tYes) rfl scSize.nd (pi_list (pv 0)) (blkOk_by (own := [("_law_one", 1)]) (N := ["_law_value_here", "_law_one"]) (sc := defScope sSize) (by decide +kernel)) (fun _ _ _ _ _ => (pg_name (i := 1) scSize.nd rfl (Or.inl rfl))) (fun _ _ _ _ _ => pts_nil) (fun _ _ _ _ _ => (pe_d D_law_size c (by omega) (by rfl) (pa_cons (pv 1) pa_nil)))) pa_nil))))) pss_nil)
    (pss_one (ps_ret (pe_ifExp (pt_cmpR op_isN (pv 0) pe_non (nomark _)) pe_int (pe_op op_add pe_int (pe_callB call_len_str (by rfl) c.b.len PySem.boot_len (pa_cons (pv 0) pa_nil))))))), ?_⟩
      refine ⟨_, rfl, _, .str x, _, rfl, .str x, kit_list _, _, rfl, iteF ?_⟩
      refine ⟨_, rfl, rfl, _, rfl, iteF ?_⟩
      have sx : szD (.str x) = 1 + x.length := by simp [szD]
      refine ⟨_, rfl, x, rfl, (by rw [sizeLine_eq]; omega), _, _, rfl, rfl, ?_⟩
      have := q _ (Same.refl _)
      rw [sx] at this
      simpa using this
    | list ds =>
      cases hd with
      | @lst a xs _ hs ha =>
      refine ⟨_, (pss_cons (ps_if (pt_val (pe_callB (call_isD (T := "list")) (by rfl) c.b.isinstance (by decide +kernel) (pa_cons (pv 0) (pa_cons (pe_bltn (v := .ty "list") (by rfl) c.b.list (by decide +kernel) rfl) pa_nil)))) (pss_one (ps_ret (pe_op op_add pe_int (pe_callB (cr_sum rfl) (by rfl) c.b.sum (by decide +kernel) (pa_cons (pe_lc (own := [("_law_one", 1)]) (g := (gName 1)) (tt := tYes) rfl scSize.nd (pi_list (pv 0)) (blkOk_by (own := [("_law_one", 1)]) (N := ["_law_value_here", "_law_one"]) (sc := defScope sSize) (by decide +kernel)) (fun _ _ _ _ _ => (pg_name (i := 1) scSize.nd rfl (Or.inl rfl))) (fun _ _ _ _ _ => pts_nil) (fun _ _ _ _ _ => (pe_d D_law_size c (by omega) (by rfl) (pa_cons (pv 1) pa_nil)))) pa_nil))))) pss_nil)
    (pss_one (ps_ret (pe_ifExp (pt_cmpR op_isN (pv 0) pe_non (nomark _)) pe_int (pe_op op_add pe_int (pe_callB call_len_str (by rfl) c.b.len PySem.boot_len (pa_cons (pv 0) pa_nil))))))), ?_⟩
      refine ⟨_, rfl, _, .list ds, _, rfl, .lst hs ha, kit_list _, _, rfl, iteT ?_⟩
      have sx : szD (.list ds) = 1 + szAll ds := by simp [szD]
      have hlen := DpAll.length ha
      have hle := len_le_szAll ds
      simp only [PyData.depth] at dn
      simp only [isVal] at val
      refine ⟨_, rfl, a, rfl, ⟨_, hs⟩, fun L hL => ?_⟩
      refine lc_list (K := K) (a := a) (xs := xs) (fun i H' => Same H H' ∧ H' L = some (.lst ((ds.take i).map fun d => V.int (szD d))))
        ⟨same_new hL _, upd_same⟩ (fun i H' _ z => z.1.seq hs) ?_ ?_
      · rintro i x H1 hx ⟨sm, hL1⟩
        obtain ⟨d, e1, e2⟩ := DpAll.get ha hx
        have hm := List.mem_of_getElem? e1
        have hi : i < ds.length := (List.getElem?_eq_some_iff.mp e1).1
        refine ⟨rfl, _, rfl, _, d, rfl, dp_mono sm d _ e2, isValAll_iff.mp val d hm, ?_, ?_, fun H2 sm2 => ?_⟩
        · have := depth_mem hm
          omega
        · have := szD_mem hm
          omega
        refine ⟨_, sm2 _ _ hL1, ?_, (fun b o e => ?_), ?_⟩
        · rw [List.length_map, List.length_take, sizeLine_eq]
          omega
        · rw [upd_ne (ne_of_none e hL)]
          exact sm2 _ _ (sm _ _ e)
        · rw [upd_same, List.take_add_one, e1, List.map_append]
          rfl
      · rintro H1 ⟨sm, hL1⟩
        rw [hlen, List.take_length] at hL1
        refine ⟨L, ds.map fun d => (szD d : Int), rfl, SqL.of ?_, _, _, rfl, rfl, ?_⟩
        · rw [hL1, List.map_map]
          rfl
        · have := q _ sm
          rw [sx, szAll_eq] at this
          have es := sum_int ds
          have e2 : (1 : Int) + (ds.map fun d => (szD d : Int)).sum = ((1 + (ds.map szD).sum : Nat) : Int) := by omega
          show Q (.int (1 + (ds.map fun d => (szD d : Int)).sum)) H1
          rw [e2]
          exact this
    | bool _ => simp [isVal] at val
    | int _ => simp [isVal] at val
    | tuple _ => simp [isVal] at val
    | dict _ => simp [isVal] at val
end
end Tx

namespace Tx
open PySem PySem.Spec PyProof.Rows L2
/-! ## Further rules: list(text); errors with a field of their own -/
theorem vals_of : ∀ (xs : List V) (us : List Value), xs.length = us.length → (∀ (j : Nat) (x : V) (u : Value), xs[j]? = some x → us[j]? = some u → RelV x u) → Vals xs us
  | [], [], _, _ => .nil
  | [], _ :: _, e, _ => by simp at e
  | _ :: _, [], e, _ => by simp at e
  | x :: xs, u :: us, e, h => .cons (h 0 x u rfl rfl) (vals_of xs us (by simpa using e) fun j y w h1 h2 => h (j + 1) y w (by simpa using h1) (by simpa using h2))
/-- the letters of a text, as texts -/
def sgn (z : Str) : List V := z.cps.toList.map fun c => V.str ⟨#[c]⟩
theorem call_listS {X : Cx} (hc : X.calm = true) : CallR X (.type "list") (fun xs H Q => ∃ z : Str, xs = [.str z] ∧ z.length ≤ sizeLine ∧ ∀ l, H l = none → Q (.ref l) (upd H l (.lst (sgn z)))) := by
  intro pins s σ H xs us Q I rel ask
  obtain ⟨z, rfl, hz, q⟩ := ask
  obtain ⟨u, rfl, r1⟩ := vals1 rel
  obtain ⟨t, rfl⟩ := r1
  refine call_list_str (I.ok.hd hc) z t (hn := hz) fun h' tk acc n keep new its => ?_
  have hl : acc.toList.length = z.cps.toList.length := by rw [Array.length_toList, Array.length_toList]; exact its.1
  refine ⟨.ref s.heap.objs.size, _, I.laid (t' := tk) (o := .lst (sgn z)) keep (Nat.le_refl _) ⟨?_, acc.toList, n, vals_of _ _ ?_ ?_, ?_⟩, rfl, q _ (I.hok.fresh (Nat.le_refl _))⟩
  · rw [sgn, List.length_map, Array.length_toList]; exact hz
  · rw [sgn, List.length_map, hl]
  · intro j x u hx hu
    obtain ⟨c, w, hc, rfl⟩ := its.2 j u (by simpa using hu)
    rw [sgn, List.getElem?_map, Array.getElem?_toList, hc] at hx
    cases hx
    exact ⟨w, rfl⟩
  · simpa using new
/-- isinstance(e, c), e the error that the suite holds, with or without fields -/
def rIsX (K : PySem.W.Frag) (D a : Addr) (cls : Value) (d : Option Addr) : List V → Hp → VK → Prop := fun xs H Q => ∃ (c : V) (cv : Value) (b : Bool), xs = [.ref a, c] ∧ cls = .ref D ∧ ClsV c cv ∧
  PySem.W.kitOne K (.ref D) cv = some b ∧ (∀ dd, d = some dd → ∃ fs, H dd = some (.xd fs)) ∧ Q (.bl b) H
def rIsXT (K : PySem.W.Frag) (D a : Addr) (cls : Value) (d : Option Addr) : List V → Hp → VK → Prop := fun xs H Q => ∃ (tp : Addr) (cs : List V) (us : List Value) (b : Bool), xs = [.ref a, .ref tp] ∧ cls = .ref D ∧ H tp = some (.tup cs) ∧
  Paired ClsV cs us ∧ PySem.W.kitAny K (.ref D) us = some b ∧ (∀ dd, d = some dd → ∃ fs, H dd = some (.xd fs)) ∧ Q (.bl b) H
section
variable {X : Cx} {a D : Addr} {oe : Obj} {cls : Value} {d : Option Addr} {pn : List (Addr × Obj)}
theorem inst_of {pins : List (Addr × Obj)} {σ : L2.St} {H : Hp} {s : Shared} (hz : Zc cls d oe) (hf : ∃ vs, oe.data = .fields vs) (I : Inv (X.suite a ((a, oe) :: pn)) pins σ H s) (ec : cls = .ref D)
    (hd : ∀ dd, d = some dd → ∃ fs, H dd = some (.xd fs)) : ∃ od, PySem.W.InstAt s.heap a oe D od := by
  obtain ⟨hg, _⟩ := I.pin (a, oe) (List.mem_append.mpr (.inl List.mem_cons_self))
  obtain ⟨vs, hv⟩ := hf
  have no : PySem.W.notCls oe = true := by unfold PySem.W.notCls; rw [hv] <;> rfl
  cases d with
  | none => exact ⟨none, ⟨hg, hz.1.trans ec, no, by rw [hz.2]; trivial⟩⟩
  | some dd =>
    obtain ⟨fs, e⟩ := hd dd rfl
    have ok : ObjOk X.prog X.w H s.heap dd (.xd fs) := I.hok dd _ e
    obtain ⟨mA, ⟨o, es, ep, ho, _⟩, _⟩ := ok
    exact ⟨some o, ⟨hg, hz.1.trans ec, no, by rw [hz.2]; exact ho⟩⟩
theorem kit_exc (C : ExcC X.K D) {od : Option Obj} : PySem.W.KitX X.K (.ref a) (.ref D) (fun h => PySem.W.InstAt h a oe D od) := by
  have hc : (PySem.W.clsIn X.K D).isSome = true := by
    obtain ⟨cd, e, _⟩ := PySem.W.any_some C.hd
    rw [e]; rfl
  exact PySem.W.kitx_exc hc C.hg C.hk C.hs C.ha C.hn C.ht C.hm
theorem call_isX (C : ExcC X.K D) (hz : Zc cls d oe) (hf : ∃ vs, oe.data = .fields vs) : CallR (X.suite a ((a, oe) :: pn)) (.builtin "isinstance") (rIsX X.K D a cls d) := by
  intro pins s σ H xs us Q I rel ask
  obtain ⟨c, cv, b, rfl, ec, kc, e, hd, q⟩ := ask
  obtain ⟨u1, u2, rfl, r1, r2⟩ := vals2 rel
  cases r1
  have e2 := kc.eq r2
  subst e2
  obtain ⟨od, J⟩ := inst_of hz hf I ec hd
  exact PySem.W.kia_one (kit_exc C) I.kIn J e (fun z => nomatch z) fun tk => ⟨.bl b, H, I.tok tk, rfl, q⟩
theorem call_isXT (C : ExcC X.K D) (hz : Zc cls d oe) (hf : ∃ vs, oe.data = .fields vs) : CallR (X.suite a ((a, oe) :: pn)) (.builtin "isinstance") (rIsXT X.K D a cls d) := by
  intro pins s σ H xs us Q I rel ask
  obtain ⟨tp, cs, ws, b, rfl, ec, hT, kc, e, hd, q⟩ := ask
  obtain ⟨u1, u2, rfl, r1, r2⟩ := vals2 rel
  cases r1
  cases (show u2 = Value.ref tp from r2)
  obtain ⟨_, its, rv, o, h1, h2, n, h3⟩ := (show ObjOk X.prog X.w H s.heap tp (.tup cs) from I.hok tp _ hT)
  have e3 := ClsV.all kc rv
  subst e3
  obtain ⟨oc, od, dt, sl⟩ := o
  simp only at h2 h3
  subst h2 h3
  obtain ⟨od, J⟩ := inst_of hz hf I ec hd
  exact PySem.W.kia_tup (kit_exc C) I.kIn J h1 e (fun z => nomatch z) fun tk => ⟨.bl b, H, I.tok tk, rfl, q⟩
end
/-- self.f = f, of a new error of the class at C -/
def spInit1 (C : Addr) (f : Str) : Sp := fun vs H Q _ => ∃ (a : Addr) (v : V), vs = [.ref a, v] ∧ H a = some (exo a C none) ∧
  ∀ dx, H dx = none → dx ≠ a → Q .non (upd (upd H dx (exd dx [(f, v)])) a (exo a C (some dx)))
/-- an error class with one field f: what the written part says of it -/
structure Err1 (P : Program) (w : World) (K : PySem.W.Frag) (mg : Str → Option Value) (base : Heap) (x f : Str) (C : Addr) : Prop where
  oex : OexC K C
  exc : ExcC K C
  gC : mg x = some (.ref C)
  noF : PySem.W.findIn K (.ref C) f = some none
  self : PySem.W.exmOne K (.ref C) (.ref C) = some true
  ini : ∃ (fI : Addr) (fd : FuncData), PySem.W.findIn K (.ref C) "__init__" = some (some (.ref fI)) ∧ PySem.W.typeIn K (.ref fI) = some (.type "function") ∧
    FnOk P w K mg base CX0 1 fI fd ["self", f] (spInit1 C f) ∧ Binds K fd ["self", f] []
theorem Err1.xf {P : Program} {w : World} {K : PySem.W.Frag} {mg : Str → Option Value} {base : Heap} {x f : Str} {C : Addr} (T : Err1 P w K mg base x f C) : XfC K C := ⟨T.exc.hg, T.exc.hk, T.exc.hs, T.exc.hd⟩
section
variable {X : Cx} {x f : Str} {C : Addr} {k : Nat} {W : WX} {e : Expr} {ta : TA} {p pos pos2 : Pos}
/-- raise x(e) -/
def tErr1 (C : Addr) (f : Str) (W : WX) (ta : TA) : TS := fun _ σ H => tMkO C (spInit1 C f) [] ta σ H fun cls d H' => W cls d σ H'
theorem ps_err1 (T : Err1 X.prog X.w X.K X.mg X.base x f C) (calm : X.calm = true) (room : Room (k + 2) X.A) (tk : Takes X W) (args : PA X [e] ta) (gl : Gl X x)
    (nd : (x == ("__debug__" : Str)) = false := by decide) (plain : starEach (e :: []) X.env = (false, eval e X.env) :: starEach [] X.env := by rfl) (bare : (backTo pos (starEach [] X.env)).any (·.1) = false := by rfl) :
    PS X (.Raise (some (.Call (.Name x p) [e] [] pos)) none pos2) (tErr1 C f W ta) := by
  obtain ⟨fI, fd, iC, tI, F, bd⟩ := T.ini
  exact ps_raise calm tk (pmk_oex T.oex iC tI F (room.mono (by omega)) bd .nil (fun _ _ _ _ _ _ _ h => False.elim h) gl T.gC args nd plain bare)
/-- what is left to show once the field is known -/
theorem err1 {v : V} {H : Hp} {Q : XK} (h : ∀ d, H d = none → Q (.ref C) (some d) (upd H d (.xd [(f, v)]))) : ([v] : List V).length ≤ 1000 ∧ ∀ a, H a = none → spInit1 C f (.ref a :: ([v] ++ [])) (upd H a (exo a C none))
    (fun u H2 => u = .non ∧ ∃ (d : Addr) (fs : List (Str × V)), H2 a = some (exo a C (some d)) ∧ H2 d = some (exd d fs) ∧ H d = none ∧ Q (.ref C) (some d) (upd (del H2 a) d (.xd fs))) (fun _ _ _ => False) := by
  refine ⟨(by show 1 ≤ 1000; decide), fun a ha => ⟨a, v, rfl, upd_same, fun dx hx ne => ⟨rfl, dx, [(f, v)], upd_same, ?_, ?_, ?_⟩⟩⟩
  · rw [upd_ne ne, upd_same]
  · rw [upd_ne ne] at hx
    exact hx
  · rw [upd_ne ne] at hx
    have e : upd (del (upd (upd (upd H a (exo a C none)) dx (exd dx [(f, v)])) a (exo a C (some dx))) a) dx (.xd [(f, v)]) = upd H dx (.xd [(f, v)]) := by
      funext b
      by_cases h1 : b = dx
      · rw [h1, upd_same, upd_same]
      · rw [upd_ne h1, upd_ne h1]
        by_cases h2 : b = a
        · rw [h2, del_same, ha]
        · rw [del_ne h2, upd_ne h2, upd_ne h1, upd_ne h2]
    rw [e]
    exact h dx hx
/-- f(e, ..), f a def of the module that may raise, where W wishes of what is raised -/
theorem pe_dS {j : Nat} {ps : List Str} {sp : Sp} {E : L2.St → XK} {es : List Expr} {t : TA} (D : Dfn X.prog X.w X.K X.mg X.base (L2.CX X.prog X.w) j x ps sp) (c : Ct X.mg X.A k) (h : j ≤ k) (gl : Gl X x)
    (out : ∀ σ, PassesAt (L2.CX X.prog X.w) X σ (E σ)) (args : PA X (e :: es) t) (nd : (x == ("__debug__" : Str)) = false := by decide)
    (plain : starEach (e :: es) X.env = (false, eval e X.env) :: starEach es X.env := by rfl) (bare : (backTo pos (starEach es X.env)).any (·.1) = false := by rfl) :
    PE X (.Call (.Name x p) (e :: es) [] pos) (tCallS sp E t) := by
  obtain ⟨f, fd, F, m, kp, bd⟩ := D
  constructor
  intro pins s σ H Q I ask
  refine wpAny_Call_Name_kw (ld_glob I gl m ?_ nd)
  refine PySem.W.callWith_K (h₀ := X.base) I.ok.mod.kin kp (thn (args.run pos pins s σ H _ I ask) ?_) plain bare
  rintro us s1 ⟨vs, H1, J, rel, q⟩
  refine ⟨J.kIn, ?_⟩
  have full : (us ++ []).length = ps.length := by rw [List.append_nil, ← rel.length]; exact F.len _ _ _ _ q
  have b2 := bd s1 us J.kIn full
  rw [List.append_nil] at b2
  refine wpAny_call (codeAny_mono (F.run X.A X.stack s1 H1 ⟨us, []⟩ us vs Q (E σ) (c.r.mono h) c.g J.env0 b2 rel q) ?_)
  intro r s2 got
  match r, got with
  | .ok (.ret u), got => exact J.after got
  | .ok .next, got => exact False.elim got
  | .ok .brk, got => exact False.elim got
  | .ok .cont, got => exact False.elim got
  | .error er, got => exact out σ pins H1 s1 er s2 J got
end
/-- from what the top has written to an error class with a field -/
theorem err1_of {P : Program} {w : World} {K : PySem.W.Frag} {mg : Str → Option Value} {base h : Heap} {x f : Str} {C fI N : Addr} {fd : FuncData} {nm q : Str} {bs bm sub : List Value} {sn : List Str} {ab : Bool} {col : Option Bool} {dd : Option Addr} {m0 m1 m2 m3 m5 : Option Value}
    (X : K.In h) (G : h.Ns mainGlobals mg) (aC : PySem.W.nsIn K mainGlobals x = some (some (.ref C)))
    (xL : K.lookup C = some (excClassObj nm q C N bs bm true sn sub ab col dd m0 m1 m2 m3 m5 "ValueError.__new__")) (vb : PySem.HandSPX.refsVE bm = true)
    (sa : PySem.W.findIn K (.ref C) "__setattr__" = some (some (.builtin "object.__setattr__"))) (ga : PySem.W.findIn K (.ref C) "__getattribute__" = some (some (.builtin "BaseException.__getattribute__")))
    (gg : PySem.W.findIn K (.ref C) "__getattr__" = some none) (nf : PySem.W.findIn K (.ref C) f = some none) (ai : PySem.W.findIn K (.ref C) "__init__" = some (some (.ref fI))) (ti : PySem.W.typeIn K (.ref fI) = some (.type "function"))
    (kC : PySem.W.keepIn K (.ref C) = true) (eC : PySem.W.subIn K (.ref C) (.type "BaseException") = some true) (tC : PySem.W.typeIn K (.ref C) = some (.type "type")) (hC : PySem.W.hasDictIn K C = true)
    (cC : PySem.W.findIn K (.ref C) "__class__" = some (some (.builtin "object.__class__"))) (gC : PySem.W.specialIn K (.builtin "object.__class__") "__get__" = some (some (.builtin "getset_descriptor.__get__")))
    (uC : PySem.W.takesIn K (.builtin "object.__class__") = some true) (oC : PySem.W.mroIn K C (.type "object") = some true) (sC : PySem.W.subIn K (.ref C) (.ref C) = some true)
    (ini : OexC K C → FnOk P w K mg base CX0 1 fI fd ["self", f] (spInit1 C f) ∧ Binds K fd ["self", f] []) : Err1 P w K mg base x f C := by
  have oex : OexC K C := ⟨⟨nm, q, N, bs, bm, sn, sub, ab, col, dd, m0, m1, m2, m3, m5, xL, vb⟩, sa, eC, tC, kC⟩
  exact ⟨oex, ⟨ga, gg, eC, hC, cC, gC, uC, oC⟩, PySem.W.mg_of X G aC, nf, PySem.W.exm_ref eC hC tC sC, fI, fd, ai, ti, (ini oex).1, (ini oex).2⟩
/-- a class of the module -/
structure Cls0 (mg : Str → Option Value) (x : Str) (C : Addr) : Prop where
  gC : mg x = some (.ref C)
theorem cls0_of {K : PySem.W.Frag} {mg : Str → Option Value} {h : Heap} {x : Str} {C : Addr} (X : K.In h) (G : h.Ns mainGlobals mg) (a : PySem.W.nsIn K mainGlobals x = some (some (.ref C))) : Cls0 mg x C := ⟨PySem.W.mg_of X G a⟩
theorem const_of {K : PySem.W.Frag} {mg : Str → Option Value} {h : Heap} {x z : Str} {t : Tok} (X : K.In h) (G : h.Ns mainGlobals mg) (a : PySem.W.nsIn K mainGlobals x = some (some (.str z t))) : ∃ t, mg x = some (.str z t) := ⟨t, PySem.W.mg_of X G a⟩
theorem pe_gcl {X : Cx} {x : Str} {C : Addr} {pos : Pos} (h : X.mg x = some (.ref C)) (gl : Gl X x) (hd : (x == ("__debug__" : Str)) = false := by decide) : PE X (.Name x pos) (tC (.ref C)) := pe_glob gl h rfl hd
theorem pe_gs {X : Cx} {x z : Str} {pos : Pos} (h : ∃ t, X.mg x = some (.str z t)) (gl : Gl X x) (hd : (x == ("__debug__" : Str)) = false := by decide) : PE X (.Name x pos) (tC (.str z)) := by
  obtain ⟨t, e⟩ := h
  exact pe_glob gl e ⟨t, rfl⟩ hd
end Tx

namespace Tx
open PySem PySem.Spec PyProof.Rows L2
/-! ## The layer of data: lists and tuples that no one changes any more are data; what may still be changed is a cell of ω -/
/-- a cell, as data -/
abbrev refD (a : Addr) : PyData := .dict [(.int ((a : Nat) : Int), .none)]
/-- the script, as data -/
abbrev scrD (a : Addr) (ns : List Int) : PyData := .dict [(.int ((a : Nat) : Int), .list (ns.map PyData.int))]
/-- a list that stands at a and stays for a while, as data -/
abbrev pubD (a : Addr) (d : PyData) : PyData := .dict [(.int ((a : Nat) : Int), .tuple [d])]
mutual
inductive Rp (K : PySem.W.Frag) (J : Hp) : V → PyData → Prop
  | non : Rp K J .non .none
  | bl (b : Bool) : Rp K J (.bl b) (.bool b)
  | int (i : Int) : Rp K J (.int i) (.int i)
  | str (x : Str) : Rp K J (.str x) (.str x)
  | lst {a : Addr} {vs : List V} {ds : List PyData} : J a = some (.lst vs) → RpAll K J vs ds → Rp K J (.ref a) (.list ds)
  | tup {a : Addr} {vs : List V} {ds : List PyData} : SqT K J a vs → RpAll K J vs ds → Rp K J (.ref a) (.tuple ds)
  | ref (a : Addr) : Rp K J (.ref a) (.dict [(.int ((a : Nat) : Int), .none)])
  | scr {a : Addr} {ns : List Int} : SqL K J a (ns.map V.int) → Rp K J (.ref a) (.dict [(.int ((a : Nat) : Int), .list (ns.map PyData.int))])
  | pub {a : Addr} {d : PyData} : Rp K J (.ref a) d → Rp K J (.ref a) (.dict [(.int ((a : Nat) : Int), .tuple [d])])
inductive RpAll (K : PySem.W.Frag) (J : Hp) : List V → List PyData → Prop
  | nil : RpAll K J [] []
  | cons {v : V} {vs : List V} {d : PyData} {ds : List PyData} : Rp K J v d → RpAll K J vs ds → RpAll K J (v :: vs) (d :: ds)
end
section
variable {K : PySem.W.Frag} {J J' : Hp}
mutual
theorem rp_mono' (e : Same J J') : ∀ {v : V} {d : PyData}, Rp K J v d → Rp K J' v d
  | _, _, .non => .non
  | _, _, .bl b => .bl b
  | _, _, .int i => .int i
  | _, _, .str x => .str x
  | _, _, .lst hs ha => .lst (e _ _ hs) (rpAll_mono' e ha)
  | _, _, .tup hs ha => .tup (Same.sqT e hs) (rpAll_mono' e ha)
  | _, _, .ref a => .ref a
  | _, _, .scr hs => .scr (e.seq hs)
  | _, _, .pub h => .pub (rp_mono' e h)
theorem rpAll_mono' (e : Same J J') : ∀ {vs : List V} {ds : List PyData}, RpAll K J vs ds → RpAll K J' vs ds
  | _, _, .nil => .nil
  | _, _, .cons h1 h2 => .cons (rp_mono' e h1) (rpAll_mono' e h2)
end
theorem rp_mono (e : Same J J') (d : PyData) (v : V) (h : Rp K J v d) : Rp K J' v d := rp_mono' e h
theorem rpAll_mono (e : Same J J') (ds : List PyData) (vs : List V) (h : RpAll K J vs ds) : RpAll K J' vs ds := rpAll_mono' e h
mutual
theorem rp_dp : ∀ (d : PyData) (v : V), d.canLay0 = true → Rp K J v d → Dp K J v d
  | .none, _, _, h => by cases h; exact .non
  | .bool b, _, _, h => by cases h; exact .bl b
  | .int i, _, _, h => by cases h; exact .int i
  | .str x, _, _, h => by cases h; exact .str x
  | .list ds, _, z, h => by
    cases h with
    | lst hs ha => exact .lst (SqL.of hs) (rpAll_dp ds _ (by simpa only [PyData.canLay0] using z) ha)
  | .tuple ds, _, z, h => by
    cases h with
    | tup hs ha => exact .tup hs (rpAll_dp ds _ (by simpa only [PyData.canLay0] using z) ha)
  | .dict _, _, z, _ => by simp [PyData.canLay0] at z
theorem rpAll_dp : ∀ (ds : List PyData) (vs : List V), PyData.canLayAll0 ds = true → RpAll K J vs ds → DpAll K J vs ds
  | [], _, _, h => by cases h; exact .nil
  | d :: ds, _, z, h => by
    simp only [PyData.canLayAll0, Bool.and_eq_true] at z
    cases h with
    | cons h1 h2 => exact .cons (rp_dp d _ z.1 h1) (rpAll_dp ds _ z.2 h2)
end
theorem RpAll.length : ∀ {ds : List PyData} {vs : List V}, RpAll K J vs ds → vs.length = ds.length
  | _, _, .nil => rfl
  | _, _, .cons _ t => by rw [List.length_cons, List.length_cons, RpAll.length t]
theorem RpAll.get : ∀ {ds : List PyData} {vs : List V} {i : Nat} {v : V}, RpAll K J vs ds → vs[i]? = some v → ∃ d, ds[i]? = some d ∧ Rp K J v d
  | _, _, _, _, .nil, e => by simp at e
  | _, _, 0, _, .cons h _, e => by simp at e; subst e; exact ⟨_, rfl, h⟩
  | _, _, i + 1, v, .cons _ t, e => by
    obtain ⟨d, h1, h2⟩ := RpAll.get (i := i) (v := v) t (by simpa using e)
    exact ⟨d, by simpa using h1, h2⟩
theorem RpAll.getD : ∀ {ds : List PyData} {vs : List V} {i : Nat} {d : PyData}, RpAll K J vs ds → ds[i]? = some d → ∃ v, vs[i]? = some v ∧ Rp K J v d
  | _, _, _, _, .nil, e => by simp at e
  | _, _, 0, _, .cons h _, e => by simp at e; subst e; exact ⟨_, rfl, h⟩
  | _, _, i + 1, d, .cons _ t, e => by
    obtain ⟨v, h1, h2⟩ := RpAll.getD (i := i) (d := d) t (by simpa using e)
    exact ⟨v, by simpa using h1, h2⟩
theorem RpAll.append : ∀ {ds es : List PyData} {vs ws : List V}, RpAll K J vs ds → RpAll K J ws es → RpAll K J (vs ++ ws) (ds ++ es)
  | _, _, _, _, .nil, h => h
  | _, _, _, _, .cons h t, g => .cons h (RpAll.append t g)
theorem RpAll.one {v : V} {d : PyData} (h : Rp K J v d) : RpAll K J [v] [d] := .cons h .nil
theorem RpAll.take : ∀ {ds : List PyData} {vs : List V} (n : Nat), RpAll K J vs ds → RpAll K J (vs.take n) (ds.take n)
  | _, _, 0, _ => by simpa using RpAll.nil
  | _, _, _ + 1, .nil => .nil
  | _, _, n + 1, .cons h t => .cons h (RpAll.take n t)
theorem RpAll.drop : ∀ {ds : List PyData} {vs : List V} (n : Nat), RpAll K J vs ds → RpAll K J (vs.drop n) (ds.drop n)
  | _, _, 0, h => by simpa using h
  | _, _, _ + 1, .nil => .nil
  | _, _, n + 1, .cons _ t => RpAll.drop n t
theorem RpAll.set : ∀ {ds : List PyData} {vs : List V} {v : V} {d : PyData} (i : Nat), RpAll K J vs ds → Rp K J v d → RpAll K J (vs.set i v) (ds.set i d)
  | _, _, _, _, _, .nil, _ => .nil
  | _, _, _, _, 0, .cons _ t, h => .cons h t
  | _, _, _, _, i + 1, .cons g t, h => .cons g (RpAll.set i t h)
theorem RpAll.rep {vs : List V} {ds : List PyData} (h : RpAll K J vs ds) : ∀ n : Nat, RpAll K J (List.replicate n vs).flatten (List.replicate n ds).flatten
  | 0 => .nil
  | n + 1 => by
    rw [List.replicate_succ, List.replicate_succ, List.flatten_cons, List.flatten_cons]
    exact RpAll.append h (RpAll.rep h n)
theorem rpAll_sgn (z : Str) : RpAll K J (sgn z) (z.cps.toList.map fun c => PyData.str ⟨#[c]⟩) := by
  unfold sgn
  induction z.cps.toList with
  | nil => exact .nil
  | cons c l ih => exact .cons (.str _) ih
end
/-- what may still be changed -/
inductive MO where
  | lst (ds : List PyData)
  | bag
  | ins (C dx : Addr) (fs : List (Str × PyData))
  | xd (fs : List (Str × PyData))
  /-- a list whose lists, at any depth, stand in N and nowhere else -/
  | tmp (N : Hp) (d : PyData)
  /-- an instance whose only field f holds a list of its own, at p -/
  | ent (C dx p : Addr) (f : Str) (ds : List PyData)
abbrev Wd := Addr → Option MO
def updW (ω : Wd) (a : Addr) (m : MO) : Wd := fun b => if b = a then some m else ω b
def delW (ω : Wd) (a : Addr) : Wd := fun b => if b = a then none else ω b
theorem updW_same {ω : Wd} {a : Addr} {m : MO} : updW ω a m a = some m := if_pos rfl
theorem updW_ne {ω : Wd} {a b : Addr} {m : MO} (h : b ≠ a) : updW ω a m b = ω b := if_neg h
theorem delW_same {ω : Wd} {a : Addr} : delW ω a a = none := if_pos rfl
theorem delW_ne {ω : Wd} {a b : Addr} (h : b ≠ a) : delW ω a b = ω b := if_neg h
theorem updW_updW {ω : Wd} {a : Addr} {m n : MO} : updW (updW ω a m) a n = updW ω a n := by
  funext b; unfold updW; split <;> rfl
theorem delW_updW {ω : Wd} {a : Addr} {m : MO} (h : ω a = none) : delW (updW ω a m) a = ω := by
  funext b; unfold delW updW; split
  · rename_i e; rw [e, h]
  · rfl
theorem delW_some {ω : Wd} {a b : Addr} {m : MO} (h : delW ω a b = some m) : ω b = some m ∧ b ≠ a := by
  unfold delW at h
  split at h
  · cases h
  · rename_i n; exact ⟨h, n⟩
/-- what belongs to a cell alone, beside its own address -/
def MO.priv : MO → Addr → Prop
  | .tmp N _, b => N b ≠ none
  | .ent _ _ p _ _, b => b = p
  | _, _ => False
/-- nothing does -/
def MO.bare : MO → Bool
  | .tmp _ _ => false
  | .ent _ _ _ _ _ => false
  | _ => true
theorem MO.bare_priv {m : MO} {b : Addr} (h : m.bare = true) : ¬ m.priv b := by
  cases m <;> first | exact id | cases h
/-- no cell, nor what belongs to one -/
def Fr (ω : Wd) (a : Addr) : Prop := ω a = none ∧ ∀ c m, ω c = some m → ¬ m.priv a
/-- fields -/
def RpF (K : PySem.W.Frag) (J : Hp) : List (Str × V) → List (Str × PyData) → Prop := Paired fun p q => p.1 = q.1 ∧ Rp K J p.2 q.2
def Cell (K : PySem.W.Frag) (J H : Hp) (a : Addr) : MO → Prop
  | .lst ds => ∃ vs, H a = some (.lst vs) ∧ RpAll K J vs ds
  | .bag => Bag H a
  | .ins C dx fs => ∃ gs, H a = some (.ins C dx gs) ∧ RpF K J gs fs
  | .xd fs => ∃ gs, H a = some (.xd gs) ∧ RpF K J gs fs
  | .tmp N d => Same N H ∧ Rp K N (.ref a) d ∧ N a ≠ none
  | .ent C dx p f ds => H a = some (.ins C dx [(f, .ref p)]) ∧ ∃ vs, H p = some (.lst vs) ∧ RpAll K J vs ds
/-- J: what stays as it is; ω: what may be changed -/
structure Rw (K : PySem.W.Frag) (J H : Hp) (ω : Wd) : Prop where
  jh : Same J H
  out : ∀ a m, ω a = some m → J a = none
  cell : ∀ a m, ω a = some m → Cell K J H a m
  tmp : ∀ a m, ω a = some m → ∀ b, m.priv b → J b = none ∧ (b ≠ a → ω b = none) ∧ ∀ c m', c ≠ a → ω c = some m' → ¬ m'.priv b
structure Grow (J H : Hp) (ω : Wd) (J' H' : Hp) (ω' : Wd) : Prop where
  jj : Same J J'
  dom : ∀ a, H a ≠ none → H' a ≠ none
  keep : ∀ a o, H a = some o → Fr ω a → H' a = some o
  frj : ∀ a, H a ≠ none → Fr ω a → J a = none → J' a = none
  frw : ∀ a, H a ≠ none → Fr ω a → Fr ω' a
section
variable {K : PySem.W.Frag} {J J1 J2 H H1 H2 : Hp} {ω ω1 ω2 : Wd} {a p : Addr} {m n : MO} {o : HO} {vs : List V} {ds : List PyData}
theorem RpF.mono (e : Same J J1) {gs : List (Str × V)} {fs : List (Str × PyData)} (h : RpF K J gs fs) : RpF K J1 gs fs := Paired.mapP h fun _ q z => ⟨z.1, rp_mono e q.2 _ z.2⟩
/-- what a cell looks at -/
def Looks (a : Addr) (m : MO) (b : Addr) : Prop := b = a ∨ m.priv b
theorem same_there {N : Hp} {b : Addr} (s : Same N H) (n : N b ≠ none) : H b ≠ none := by
  cases q : N b with
  | none => exact absurd q n
  | some o => rw [s _ _ q]; simp
theorem Cell.looks {b : Addr} (h : Cell K J H a m) (l : Looks a m b) : H b ≠ none := by
  cases m with
  | lst ds => obtain ⟨vs, e, _⟩ := h; rcases l with rfl | l; rw [e]; simp; exact False.elim l
  | bag => obtain ⟨c, n, e⟩ := h; rcases l with rfl | l; rw [e]; simp; exact False.elim l
  | ins C dx fs => obtain ⟨vs, e, _⟩ := h; rcases l with rfl | l; rw [e]; simp; exact False.elim l
  | xd fs => obtain ⟨vs, e, _⟩ := h; rcases l with rfl | l; rw [e]; simp; exact False.elim l
  | tmp N d =>
    obtain ⟨s, _, n⟩ := h
    rcases l with rfl | l
    · exact same_there s n
    · exact same_there s l
  | ent C dx p f ds =>
    obtain ⟨e, vs, e2, _⟩ := h
    rcases l with rfl | l
    · rw [e]; simp
    · rw [show b = p from l, e2]; simp
theorem Cell.mono (h : Cell K J H a m) (e : Same J J1) (k : ∀ b o, Looks a m b → H b = some o → H1 b = some o) : Cell K J1 H1 a m := by
  cases m with
  | lst ds => obtain ⟨vs, z, r⟩ := h; exact ⟨vs, k _ _ (.inl rfl) z, rpAll_mono e _ _ r⟩
  | bag => obtain ⟨c, n, z⟩ := h; exact ⟨c, n, k _ _ (.inl rfl) z⟩
  | ins C dx fs => obtain ⟨vs, z, r⟩ := h; exact ⟨vs, k _ _ (.inl rfl) z, r.mono e⟩
  | xd fs => obtain ⟨vs, z, r⟩ := h; exact ⟨vs, k _ _ (.inl rfl) z, r.mono e⟩
  | tmp N d => obtain ⟨s, r, nn⟩ := h; exact ⟨fun b u q => k b u (.inr (show N b ≠ none by rw [q]; simp)) (s b u q), r, nn⟩
  | ent C dx p f ds => obtain ⟨z, vs, z2, r⟩ := h; exact ⟨k _ _ (.inl rfl) z, vs, k _ _ (.inr rfl) z2, rpAll_mono e _ _ r⟩
theorem Rw.there (w : Rw K J H ω) (h : ω a = some m) : H a ≠ none := (w.cell a m h).looks (.inl rfl)
theorem Rw.looks {b : Addr} (w : Rw K J H ω) (h : ω a = some m) (l : Looks a m b) : H b ≠ none := (w.cell a m h).looks l
theorem Rw.free (w : Rw K J H ω) (h : H p = none) : Fr ω p := by
  constructor
  · cases q : ω p with
    | none => rfl
    | some m => exact absurd h (w.there q)
  · exact fun c m e pr => w.looks e (.inr pr) h
theorem Grow.refl : Grow J H ω J H ω := ⟨Same.refl _, fun _ h => h, fun _ _ h _ => h, fun _ _ _ h => h, fun _ _ h => h⟩
theorem Grow.trans (g : Grow J H ω J1 H1 ω1) (k : Grow J1 H1 ω1 J2 H2 ω2) : Grow J H ω J2 H2 ω2 :=
  ⟨g.jj.trans k.jj, fun a h => k.dom a (g.dom a h), fun a o h z => k.keep a o (g.keep a o h z) (g.frw a (by rw [h]; simp) z),
    fun a h z j => k.frj a (g.dom a h) (g.frw a h z) (g.frj a h z j), fun a h z => k.frw a (g.dom a h) (g.frw a h z)⟩
theorem ne_new (h : H a ≠ none) (hp : H p = none) : a ≠ p := fun e => h (by rw [e]; exact hp)
/-- the next state: J has new things, each cell is as it was or is told anew -/
theorem Rw.step (w : Rw K J H ω) (jj : Same J J1) (jh : Same J1 H1) (fj : ∀ b, H b ≠ none → J b = none → J1 b = none)
    (h : ∀ a m, ω1 a = some m → (ω a = some m ∧ ∀ b o, Looks a m b → H b = some o → H1 b = some o) ∨
      (J1 a = none ∧ Cell K J1 H1 a m ∧ (∀ b, m.priv b → J1 b = none ∧ (b ≠ a → ω1 b = none)) ∧ ∀ c m', c ≠ a → ω1 c = some m' → ¬ m'.priv a ∧ ∀ b, m.priv b → ¬ m'.priv b)) : Rw K J1 H1 ω1 := by
  refine ⟨jh, fun a m e => ?_, fun a m e => ?_, fun a m e b pb => ?_⟩
  · rcases h a m e with z | z
    · exact fj a (w.there z.1) (w.out a m z.1)
    · exact z.1
  · rcases h a m e with z | z
    · exact (w.cell a m z.1).mono jj z.2
    · exact z.2.1
  · rcases h a m e with z | z
    · obtain ⟨t1, t2, t3⟩ := w.tmp a m z.1 b pb
      refine ⟨fj b (w.looks z.1 (.inr pb)) t1, fun ne => ?_, fun c m' nc ec => ?_⟩
      · cases q : ω1 b with
        | none => rfl
        | some m' =>
          rcases h b m' q with y | y
          · rw [t2 ne] at y; cases y.1
          · exact absurd pb (y.2.2.2 a m (Ne.symm ne) e).1
      · rcases h c m' ec with y | y
        · exact t3 c m' nc y.1
        · exact fun pc => (y.2.2.2 a m (Ne.symm nc) e).2 b pc pb
    · exact ⟨(z.2.2.1 b pb).1, (z.2.2.1 b pb).2, fun c m' nc ec => (z.2.2.2 c m' nc ec).2 b pb⟩
/-- a new thing that stays -/
theorem Grow.frz (w : Rw K J H ω) (hp : H p = none) (o : HO) : Grow J H ω (upd J p o) (upd H p o) ω := by
  have hj : J p = none := w.jh.free hp
  refine ⟨same_new hj o, fun a h => ?_, fun a u h _ => ?_, fun a h _ j => ?_, fun _ _ h => h⟩
  · rw [upd_ne (ne_new h hp)]; exact h
  · rw [upd_ne (ne_of_none h hp)]; exact h
  · rw [upd_ne (ne_new h hp)]; exact j
theorem Rw.frz (w : Rw K J H ω) (hp : H p = none) (o : HO) : Rw K (upd J p o) (upd H p o) ω := by
  have hj : J p = none := w.jh.free hp
  refine w.step (same_new hj o) (fun a u e => ?_) (fun b h j => by rw [upd_ne (ne_new h hp)]; exact j) fun a m e => .inl ⟨e, fun b u _ z => by rw [upd_ne (ne_of_none z hp)]; exact z⟩
  by_cases z : a = p
  · rw [z, upd_same] at e ⊢; exact e
  · rw [upd_ne z] at e ⊢; exact w.jh a u e
/-- a new thing that no one looks at -/
theorem Grow.junk (hp : H p = none) (o : HO) : Grow J H ω J (upd H p o) ω :=
  ⟨Same.refl _, fun a h => by rw [upd_ne (ne_new h hp)]; exact h, fun a u h _ => by rw [upd_ne (ne_of_none h hp)]; exact h, fun _ _ _ j => j, fun _ _ h => h⟩
theorem Rw.junk (w : Rw K J H ω) (hp : H p = none) (o : HO) : Rw K J (upd H p o) ω :=
  w.step (Same.refl _) (w.jh.trans (same_new hp o)) (fun _ _ j => j) fun a m e => .inl ⟨e, fun b u _ z => by rw [upd_ne (ne_of_none z hp)]; exact z⟩
theorem fr_updP {b : Addr} (h : Fr ω b) (ne : b ≠ p) (np : ¬ m.priv b) : Fr (updW ω p m) b := by
  refine ⟨by rw [updW_ne ne]; exact h.1, fun c m' e => ?_⟩
  by_cases z : c = p
  · rw [z, updW_same] at e; cases e; exact np
  · rw [updW_ne z] at e; exact h.2 c m' e
theorem fr_upd {b : Addr} (ht : m.bare = true) (h : Fr ω b) (ne : b ≠ p) : Fr (updW ω p m) b := fr_updP h ne (MO.bare_priv ht)
/-- a new cell -/
theorem Grow.own (ht : m.bare = true) (hp : H p = none) (o : HO) : Grow J H ω J (upd H p o) (updW ω p m) :=
  ⟨Same.refl _, fun a h => by rw [upd_ne (ne_new h hp)]; exact h, fun a u h _ => by rw [upd_ne (ne_of_none h hp)]; exact h, fun _ _ _ j => j, fun a h z => fr_upd ht z (ne_new h hp)⟩
theorem Rw.own (w : Rw K J H ω) (ht : m.bare = true) (hp : H p = none) (c : Cell K J (upd H p o) p m) : Rw K J (upd H p o) (updW ω p m) := by
  have fp := w.free hp
  refine w.step (Same.refl _) (w.jh.trans (same_new hp o)) (fun _ _ j => j) fun a n e => ?_
  by_cases z : a = p
  · subst z
    rw [updW_same] at e
    cases e
    refine .inr ⟨w.jh.free hp, c, fun b pb => absurd pb (MO.bare_priv ht), fun c m' nc e => ?_⟩
    rw [updW_ne nc] at e
    exact ⟨fp.2 c m' e, fun b pb => absurd pb (MO.bare_priv ht)⟩
  · rw [updW_ne z] at e
    exact .inl ⟨e, fun b u _ y => by rw [upd_ne (ne_of_none y hp)]; exact y⟩
theorem fr_ne0 {b : Addr} (h : ω a = some m) (z : Fr ω b) : b ≠ a := fun e => by have := z.1; rw [e, h] at this; cases this
/-- a cell is changed -/
theorem Grow.set (h : ω a = some m) (ht : n.bare = true) (o : HO) : Grow J H ω J (upd H a o) (updW ω a n) := by
  refine ⟨Same.refl _, fun b hb => ?_, fun b u hb z => by rw [upd_ne (fr_ne0 h z)]; exact hb, fun _ _ _ j => j, fun b _ z => fr_upd ht z (fr_ne0 h z)⟩
  by_cases z : b = a
  · rw [z, upd_same]; simp
  · rw [upd_ne z]; exact hb
/-- a cell is in no other -/
theorem Rw.apart (w : Rw K J H ω) (h : ω a = some m) {c : Addr} {m' : MO} (nc : c ≠ a) (e : ω c = some m') : ¬ m'.priv a := fun pa => by
  obtain ⟨_, t2, _⟩ := w.tmp c m' e a pa
  rw [t2 (Ne.symm nc)] at h
  cases h
theorem Rw.set (w : Rw K J H ω) (h : ω a = some m) (ht : n.bare = true) (c : Cell K J (upd H a o) a n) : Rw K J (upd H a o) (updW ω a n) := by
  refine w.step (Same.refl _) (fun b u e => ?_) (fun _ _ j => j) fun b k e => ?_
  · rw [upd_ne fun z => by rw [z, w.out a m h] at e; cases e]; exact w.jh b u e
  · by_cases z : b = a
    · subst z
      rw [updW_same] at e
      cases e
      refine .inr ⟨w.out _ m h, c, fun b pb => absurd pb (MO.bare_priv ht), fun c m' nc e => ?_⟩
      rw [updW_ne nc] at e
      exact ⟨w.apart h nc e, fun b pb => absurd pb (MO.bare_priv ht)⟩
    · rw [updW_ne z] at e
      refine .inl ⟨e, fun b' u l y => ?_⟩
      rw [upd_ne]
      · exact y
      · rintro rfl
        rcases l with rfl | pb
        · exact z rfl
        · exact w.apart h z e pb
theorem fr_del {b : Addr} (h : Fr ω b) : Fr (delW ω a) b :=
  ⟨by unfold delW; split; rfl; exact h.1, fun c m e => h.2 c m (delW_some e).1⟩
/-- a list of one's own is not changed any more -/
theorem Grow.fix (w : Rw K J H ω) (h : ω a = some (.lst ds)) (e : H a = some (.lst vs)) : Grow J H ω (upd J a (.lst vs)) H (delW ω a) := by
  refine ⟨same_new (w.out a _ h) _, fun _ z => z, fun _ _ z _ => z, fun b _ z j => by rw [upd_ne (fr_ne0 h z)]; exact j, fun b _ z => fr_del z⟩
theorem Rw.fix (w : Rw K J H ω) (h : ω a = some (.lst ds)) (e : H a = some (.lst vs)) : Rw K (upd J a (.lst vs)) H (delW ω a) := by
  have hj := w.out a _ h
  refine ⟨fun b u z => ?_, fun b k z => ?_, fun b k z => ?_, fun b m' z b' nb => ?_⟩
  · by_cases y : b = a
    · rw [y, upd_same] at z; rw [y, ← z]; exact e
    · rw [upd_ne y] at z; exact w.jh b u z
  · obtain ⟨z, y⟩ := delW_some z
    rw [upd_ne y]; exact w.out b k z
  · obtain ⟨z, y⟩ := delW_some z
    exact (w.cell b k z).mono (same_new hj _) fun _ _ _ q => q
  · obtain ⟨z2, y⟩ := delW_some z
    obtain ⟨t1, t2, t3⟩ := w.tmp b m' z2 b' nb
    refine ⟨?_, fun ne => by unfold delW; split; rfl; exact t2 ne, fun c N' nc ec => t3 c N' nc (delW_some ec).1⟩
    rw [upd_ne]
    · exact t1
    · rintro rfl
      exact w.apart h y z2 nb
/-- cells that no one looks at any more -/
theorem Grow.drop : Grow J H ω J H (delW ω a) :=
  ⟨Same.refl _, fun _ z => z, fun _ _ z _ => z, fun _ _ _ j => j, fun b _ z => fr_del z⟩
theorem Rw.drop (w : Rw K J H ω) : Rw K J H (delW ω a) :=
  w.step (Same.refl _) w.jh (fun _ _ j => j) fun b m e => .inl ⟨(delW_some e).1, fun _ _ _ z => z⟩
/-- a new cell with new things of its own -/
theorem grow_tmp (g : Grow J H ω J H1 ω) (nn : ∀ b, m.priv b → H b = none) (na : H a = none) : Grow J H ω J H1 (updW ω a m) :=
  ⟨g.jj, g.dom, g.keep, g.frj, fun b h z => fr_updP z (ne_new h na) fun pb => h (nn b pb)⟩
theorem rw_new (w : Rw K J H ω) (w1 : Rw K J H1 ω) (nn : ∀ b, m.priv b → H b = none) (na : H a = none) (c : Cell K J H1 a m) : Rw K J H1 (updW ω a m) := by
  refine w1.step (Same.refl _) w1.jh (fun _ _ j => j) fun b k e => ?_
  by_cases y : b = a
  · subst y
    rw [updW_same] at e
    cases e
    refine .inr ⟨w.jh.free na, c, fun b' pb => ⟨w.jh.free (nn b' pb), fun ne => by rw [updW_ne ne]; exact (w.free (nn b' pb)).1⟩, fun c' m' nc e => ?_⟩
    rw [updW_ne nc] at e
    exact ⟨(w.free na).2 c' m' e, fun b' pb => (w.free (nn b' pb)).2 c' m' e⟩
  · rw [updW_ne y] at e
    exact .inl ⟨e, fun _ _ _ z => z⟩
theorem rw_tmp {N : Hp} {d : PyData} (w : Rw K J H ω) (w1 : Rw K J H1 ω) (nn : ∀ b, N b ≠ none → H b = none) (s : Same N H1) (r : Rp K N (.ref a) d) (na : N a ≠ none) : Rw K J H1 (updW ω a (.tmp N d)) :=
  rw_new w w1 nn (nn a na) ⟨s, r, na⟩
/-- J and a further piece -/
def join (J N : Hp) : Hp := fun a => match N a with
  | some o => some o
  | none => J a
theorem join_none {b : Addr} {N : Hp} (h : N b = none) : join J N b = J b := by unfold join; rw [h]
theorem join_some {b : Addr} {N : Hp} {o : HO} (h : N b = some o) : join J N b = some o := by unfold join; rw [h]
theorem same_join {N : Hp} (h : ∀ b, N b ≠ none → J b = none) : Same J (join J N) := fun b o e => by
  rw [join_none]
  · exact e
  · cases q : N b with
    | none => rfl
    | some u => rw [h b (by rw [q]; simp)] at e; cases e
theorem same_joinN {N : Hp} : Same N (join J N) := fun b o e => join_some e
theorem priv_none {N : Hp} {d : PyData} {b : Addr} (h : ¬ (MO.tmp N d).priv b) : N b = none := Classical.byContradiction h
/-- such a cell becomes data -/
theorem grow_thaw {N : Hp} {d : PyData} (w : Rw K J H ω) (h : ω a = some (.tmp N d)) : Grow J H ω (join J N) H (delW ω a) := by
  refine ⟨same_join fun b nb => (w.tmp a _ h b nb).1, fun _ z => z, fun _ _ z _ => z, fun b _ z j => ?_, fun b _ z => fr_del z⟩
  rw [join_none (priv_none (z.2 a _ h))]; exact j
theorem rw_thaw {N : Hp} {d : PyData} (w : Rw K J H ω) (h : ω a = some (.tmp N d)) : Rw K (join J N) H (delW ω a) := by
  have sj : Same J (join J N) := same_join fun b nb => (w.tmp a _ h b nb).1
  obtain ⟨sN, rN, nN⟩ := w.cell a _ h
  refine ⟨fun b u e => ?_, fun b m e => ?_, fun b m e => ?_, fun b m' e b' nb => ?_⟩
  · cases q : N b with
    | none => rw [join_none q] at e; exact w.jh b u e
    | some o => rw [join_some q] at e; cases e; exact sN b _ q
  · obtain ⟨e, y⟩ := delW_some e
    rw [join_none]
    · exact w.out b m e
    · exact priv_none fun pb => by rw [(w.tmp a _ h b pb).2.1 y] at e; cases e
  · obtain ⟨e, y⟩ := delW_some e
    exact (w.cell b m e).mono sj fun _ _ _ z => z
  · obtain ⟨e, y⟩ := delW_some e
    obtain ⟨t1, t2, t3⟩ := w.tmp b m' e b' nb
    refine ⟨by rw [join_none (priv_none (t3 a _ (Ne.symm y) h))]; exact t1, fun ne => by unfold delW; split; rfl; exact t2 ne, fun c m2 nc ec => t3 c m2 nc (delW_some ec).1⟩
end
/-! ### slots -/
abbrev DS := List (Option PyData)
def Sl (K : PySem.W.Frag) (J : Hp) (σ : L2.St) (ρ : DS) : Prop := σ.length = ρ.length ∧ ∀ (i : Nat) (d : PyData), ρ[i]? = some (some d) → ∃ v, σ[i]? = some (some v) ∧ Rp K J v d
section
variable {K : PySem.W.Frag} {J J1 : Hp} {σ : L2.St} {ρ : DS} {i : Nat} {v : V} {d : PyData}
theorem Sl.mono (h : Sl K J σ ρ) (e : Same J J1) : Sl K J1 σ ρ := ⟨h.1, fun i d z => by obtain ⟨v, h1, h2⟩ := h.2 i d z; exact ⟨v, h1, rp_mono e d v h2⟩⟩
theorem Sl.set (h : Sl K J σ ρ) (i : Nat) (r : Rp K J v d) : Sl K J (σ.set i (some v)) (ρ.set i (some d)) := by
  refine ⟨by rw [List.length_set, List.length_set]; exact h.1, fun j e z => ?_⟩
  by_cases y : i = j
  · subst y
    rw [List.getElem?_set] at z
    rw [if_pos rfl] at z
    split at z
    · rename_i hl
      cases z
      exact ⟨v, by rw [List.getElem?_set, if_pos rfl, if_pos (by rw [h.1]; exact hl)], r⟩
    · cases z
  · rw [List.getElem?_set_ne y] at z
    obtain ⟨u, h1, h2⟩ := h.2 j e z
    exact ⟨u, by rw [List.getElem?_set_ne y]; exact h1, h2⟩
theorem Sl.clear (h : Sl K J σ ρ) (i : Nat) (o : Option V) : Sl K J (σ.set i o) (ρ.set i none) := by
  refine ⟨by rw [List.length_set, List.length_set]; exact h.1, fun j e z => ?_⟩
  by_cases y : i = j
  · subst y
    rw [List.getElem?_set, if_pos rfl] at z
    split at z <;> cases z
  · rw [List.getElem?_set_ne y] at z
    obtain ⟨u, h1, h2⟩ := h.2 j e z
    exact ⟨u, by rw [List.getElem?_set_ne y]; exact h1, h2⟩
def wipeD (ρ : DS) : List Nat → DS
  | [] => ρ
  | v :: vs => (wipeD ρ vs).set v none
theorem Sl.wipe (h : Sl K J σ ρ) : ∀ vs : List Nat, Sl K J (wipe σ vs) (wipeD ρ vs)
  | [] => h
  | v :: vs => by unfold L2.wipe wipeD; exact (Sl.wipe h vs).clear v none
theorem wipe_set {o : Option V} : ∀ {vs : List Nat}, i ∈ vs → wipe (σ.set i o) vs = wipe σ vs
  | v :: vs, h => by
    unfold wipe
    by_cases y : i ∈ vs
    · rw [wipe_set y]
    · have e : i = v := by
        cases h with
        | head => rfl
        | tail _ h => exact absurd h y
      subst e
      have cm : ∀ (vs : List Nat) (σ : L2.St), i ∉ vs → wipe (σ.set i o) vs = (wipe σ vs).set i o := by
        intro vs
        induction vs with
        | nil => intro σ _; rfl
        | cons w ws ih =>
          intro σ hn
          unfold wipe
          rw [ih σ fun z => hn (List.mem_cons_of_mem _ z), List.set_comm]
          exact fun z => hn (by rw [z]; exact List.mem_cons_self)
      rw [cm vs σ y, List.set_set]
/-- the slots at a call's entry -/
def startD (N : List Str) (ts : List PyData) : DS := ts.map some ++ List.replicate (N.length - ts.length) none
theorem sl_start {N : List Str} {vs : List V} {ts : List PyData} (h : RpAll K J vs ts) : Sl K J (start N vs) (startD N ts) := by
  have hl := h.length
  refine ⟨by simp [L2.start, startD, hl], fun i d z => ?_⟩
  unfold startD at z
  unfold L2.start
  by_cases hi : i < ts.length
  · rw [List.getElem?_append_left (by simpa using hi), List.getElem?_map] at z
    obtain ⟨e, he, z⟩ := Option.map_eq_some_iff.mp z
    cases z
    obtain ⟨v, h1, h2⟩ := h.getD he
    exact ⟨v, by rw [List.getElem?_append_left (by simpa [hl] using hi), List.getElem?_map, h1]; rfl, h2⟩
  · rw [List.getElem?_append_right (by simpa using hi), List.getElem?_replicate] at z
    split at z <;> cases z
end
end Tx

namespace Tx
open PySem PySem.Spec PyProof.Rows L2
abbrev sValue : Stmt := top 20
theorem scValue : FnScope ["_law_bag_here", "_law_deep", "_law_room", "_law_pick", "_law_turn", "_law_made", "_law_left"] ["_law_bag_here", "_law_deep", "_law_room"] (defScope sValue) := ⟨rfl, rfl, rfl, by decide +kernel, rfl, by decide +kernel, by decide +kernel⟩
/-- value(bag, deep, room), deep below n -/
def spValue (K : PySem.W.Frag) (n : Nat) : Sp := fun vs H Q _ => ∃ (b : Addr) (J : Hp) (deep room : Int), vs = [.ref b, .int deep, .int room] ∧ Bag H b ∧ J b = none ∧ Same J H ∧ 0 ≤ deep ∧ deep < n ∧ 1 ≤ room ∧ room ≤ 1000 ∧
  ∀ (v : V) (d : PyData) (J' H' : Hp), Gro b J H J' H' → Rp K J' v d → Val deep.toNat room.toNat d → Q v H'
section
variable {P : Program} {w : World} {K : PySem.W.Frag} {mg : Str → Option Value} {base : Heap}
theorem d_value (h : Has K mg "_law_value" sValue) (B : Bi mg) (D_law_take : Dfn P w K mg base CX0 1 "_law_take" ["_law_bag_here", "_law_many"] spTake) (D_law_text : Dfn P w K mg base CX0 2 "_law_text" ["_law_bag_here", "_law_most"] spText)
    (D_law_size : Dfn P w K mg base CX0 20 "_law_size" ["_law_value_here"] (spSize K 20)) : ∀ n, n ≤ 19 → Dfn P w K mg base CX0 (n + 20) "_law_value" ["_law_bag_here", "_law_deep", "_law_room"] (spValue K n)
  | 0, _ => (dfn_none h (fun _ _ _ _ _ _ us hl => match us, hl with | [_, _, _], _ => rfl) fun vs H Q E z => by
    obtain ⟨_, _, _, _, _, _, _, _, z1, z2, _⟩ := z
    omega).mono (by omega)
  | n + 1, hn => by
    have D_law_value := d_value h B D_law_take D_law_text D_law_size n (by omega)
    refine dfn0 (k := n + 20) h B scValue (fun _ _ _ _ _ _ us hl => match us, hl with | [_, _, _], _ => rfl) (fun vs H Q E h => ?_) (fun f cv A out s H vs Q E c h => ?_)
    · obtain ⟨b, J, deep, room, rfl, _⟩ := h
      rfl
    obtain ⟨b, J, deep, room, rfl, hB, jb, js, d0, dn, r1, r2, q⟩ := h
    refine ⟨_, (pss_cons (ps_set (i := 3) scValue.nd rfl (Or.inl rfl) (pe_d D_law_take c (by omega) (by rfl) (pa_cons (pv 0) (pa_cons pe_int pa_nil))))
    (pss_cons (ps_if (PW.pt (pw_or (pt_cmpR op_eq (pv 3) pe_int (nomark _)) (pw_or1 (pt_cmpR op_eq (pv 2) pe_int (nomark _))))) (pss_one (ps_ret (pe_ix ix_list (pe_lst (pa_cons pe_non (pa_cons pe_str (pa_cons (pe_lst pa_nil) pa_nil)))) (pe_d D_law_take c (by omega) (by rfl) (pa_cons (pv 0) (pa_cons (pe_ifExp (pt_cmpR op_gt (pv 1) pe_int (nomark _)) pe_int pe_int) pa_nil))) (fun _ _ => rfl)))) pss_nil)
    (pss_cons (ps_if (PW.pt (pw_or (pt_cmpR op_eq (pv 3) pe_int (nomark _)) (pw_or1 (pt_cmpR op_eq (pv 1) pe_int (nomark _))))) (pss_one (ps_ret (pe_d D_law_text c (by omega) (by rfl) (pa_cons (pv 0) (pa_cons (pe_callB (call_min2 rfl) (by rfl) c.b.min (by decide +kernel) (pa_cons pe_int (pa_cons (pe_op op_sub (pv 2) pe_int) pa_nil))) pa_nil))))) pss_nil)
    (pss_cons (ps_par (i := 5) (j := 6) rfl scValue.nd rfl rfl (by decide) rfl rfl (pa_cons (pe_lst pa_nil) (pa_cons (pe_op op_sub (pv 2) pe_int) pa_nil)) (by rfl))
    (pss_cons (ps_for PassesOwn.never rfl (pi_range1 (by rfl) c.b.range (pa_cons (pe_d D_law_take c (by omega) (by rfl) (pa_cons (pv 0) (pa_cons pe_int pa_nil))) pa_nil)) (pg_name (i := 4) scValue.nd rfl (Or.inl rfl))
    (pss_one (ps_if (pt_cmpR op_gt (pv 6) pe_int (nomark _)) (pss_cons (ps_expr (pe_bm PySem.F.plainAttrs_list PySem.F.slot_list_append PySem.F.type_list_append mt_append (pv 5) (pa_cons (pe_d D_law_value c (by omega) (by rfl) (pa_cons (pv 0) (pa_cons (pe_op op_sub (pv 1) pe_int) (pa_cons (pv 6) pa_nil)))) pa_nil)))
    (pss_one (ps_set (i := 6) scValue.nd rfl (Or.inl rfl) (pe_op op_sub (pv 6) (pe_d D_law_size c (by omega) (by rfl) (pa_cons (pe_ix ix_list (pv 5) (pe_un un_neg pe_int) (fun _ _ => rfl)) pa_nil)))))) pss_nil)))
    (pss_one (ps_ret (pv 5)))))))), ?_⟩
    refine ⟨_, rfl, b, 5, rfl, hB, by decide, by decide, fun pick H1 p0 p1 st1 => ?_⟩
    have g1 : Gro b J H J H1 := st1.gro jb js
    refine ⟨_, rfl, rfl, _, rfl, ?_⟩
    refine ite2 (fun _ => ?ret) (fun n0 => ⟨_, rfl, rfl, _, rfl, ite2 (fun _ => ?ret') (fun n1 => ?go)⟩)
    case go =>
      refine ⟨_, rfl, rfl, _, rfl, ite2 (fun _ => ?txt) (fun _ => ⟨_, rfl, rfl, _, rfl, ite2 (fun _ => ?txt') (fun m1 => ?lst)⟩)⟩
      case lst =>
        have deep1 : deep ≠ 0 := fun z => m1 (by rw [z]; rfl)
        refine ⟨(by show 0 ≤ sizeLine; decide), fun r hr => ⟨_, rfl, _, _, rfl, rfl, _, _, rfl, ?_⟩⟩
        have hrH : H r = none := st1.free hB hr
        have rb : r ≠ b := st1.ne hr
        have g2 := g1.new hr (.lst [])
        refine ⟨_, rfl, b, 5, rfl, g2.st.bag, by decide, by decide, fun t H2 t0 t1 st2 => ⟨t, rfl, by omega, by omega, ?_⟩⟩
        have g3 := g2.step st2 hB jb
        have hjr : J r = none := js.free hrH
        refine for_range (lo := 0) (n := t.toNat) (fun i σ H' => ∃ (u : Option V) (left : Int) (Ji : Hp) (vs : List V) (ds : List PyData),
            σ = [some (.ref b), some (.int deep), some (.int room), some (.int pick), u, some (.ref r), some (.int left)] ∧ Gro b J H Ji H' ∧ H' r = some (.lst vs) ∧ Ji r = none ∧
            RpAll K Ji vs ds ∧ isValAll ds = true ∧ PyData.depthAll ds ≤ (deep - 1).toNat ∧ 0 ≤ left ∧ (szAll ds : Int) + left = room - 1 ∧ vs.length ≤ i)
          ⟨none, room - 1, J, [], [], rfl, g3, st2.keep r _ rb upd_same, hjr, .nil, rfl, by simp [PyData.depthAll], by omega, by simp [szAll], Nat.le_refl _⟩ ?_ ?_
        · rintro i σ H3 hi ⟨u, left, Ji, vs, ds, rfl, g, hr3, jr, ha, val, dep, l0, ls, vl⟩
          refine ⟨_, rfl, _, _, rfl, rfl, _, rfl, ite2 (fun lp => ?_) (fun _ => ?_)⟩
          · have lp' : 0 < left := of_decide_eq_true lp
            have jib : Ji b = none := g.noBag hB jb
            refine ⟨_, rfl, .inl ⟨rfl, _, SqL.of hr3⟩, _, rfl, _, rfl, _, _, rfl, rfl, _, rfl, b, Ji, deep - 1, left, rfl, g.st.bag, jib, g.jh, by omega, by omega, by omega, by omega, fun v d J2 H4 g4 hd vd => ?_⟩
            have hr4 : H4 r = some (.lst vs) := g4.st.keep r _ rb hr3
            have jr2 : J2 r = none := g4.fr r (by rw [hr3]; simp) jr
            have vdz := vd.size
            have vdd := vd.deep
            refine ⟨r, vs, v, rfl, rfl, hr4, (by rw [sizeLine_eq]; omega), ?_⟩
            have g5 := (g.trans g4 hB).mut hrH jr2 rb (.lst (vs ++ [v]))
            refine ⟨_, rfl, _, rfl, _, rfl, r, _, _, v, rfl, rfl, SqL.of upd_same, atI_last _ _, v, d, rfl, dp_mono g5.jh d v (rp_dp d v (fine_lay d (val_fine d vd.val)) hd), vd.val, by omega, by omega, fun H5 sm => ?_⟩
            refine ⟨_, _, rfl, rfl, some (.int (0 + i)), left - szD d, J2, vs ++ [v], ds ++ [d], rfl, g5.same sm, sm _ _ upd_same, jr2, RpAll.append (rpAll_mono g4.jj ds vs ha) (RpAll.one hd), ?_, ?_, by omega, ?_, ?_⟩
            · exact isValAll_iff.mpr fun x hx => (List.mem_append.mp hx).elim (isValAll_iff.mp val x) fun hx => by rw [List.mem_singleton.mp hx]; exact vd.val
            · refine depthAll_le fun x hx => (List.mem_append.mp hx).elim (fun hx => Nat.le_trans (depth_mem hx) dep) fun hx => by rw [List.mem_singleton.mp hx]; exact vdd
            · rw [szAll_append]
              simp only [szAll]
              omega
            · rw [List.length_append]
              show vs.length + 1 ≤ i + 1
              omega
          · exact ⟨_, left, Ji, vs, ds, rfl, g, hr3, jr, ha, val, dep, l0, ls, by omega⟩
        · rintro σ H3 ⟨u, left, Ji, vs, ds, rfl, g, hr3, jr, ha, val, dep, l0, ls, vl⟩
          refine ⟨_, rfl, q (.ref r) (.list ds) _ H3 (g.own hr3 hrH jr) (.lst upd_same (rpAll_mono (same_new jr _) ds vs ha)) ⟨?_, ?_, ?_⟩⟩
          · simpa only [isVal] using val
          · simp only [PyData.depth]
            omega
          · simp only [szD]
            omega
      all_goals
        refine ⟨_, rfl, _, rfl, _, _, rfl, rfl, _, _, rfl, b, _, rfl, g1.st.bag, ?_, ?_, fun x H2 xl xn st2 => ?_⟩
        · split <;> omega
        · split <;> omega
        refine q (.str x) (.str x) J H2 (g1.step st2 hB jb) (.str x) ⟨?_, ?_, ?_⟩
        · simpa only [isVal] using xl
        · simp [PyData.depth]
        · simp only [szD]
          split at xn <;> omega
    all_goals
      refine ⟨(by show 0 ≤ sizeLine; decide), fun e he => ⟨(by show 3 ≤ sizeLine; decide), fun p hp => ⟨_, rfl, _, rfl, _, _, rfl, rfl, _, rfl, ?_⟩⟩⟩
      have g2 := (g1.add hB he (.lst [])).new hp (.lst [.non, .str "", .ref e])
      have pb : p ≠ b := (g1.add hB he (.lst [])).st.ne hp
      refine ite2 (fun dp => ?_) (fun dp => ?_)
      · have dp' : 0 < deep := of_decide_eq_true dp
        refine ⟨b, 3, rfl, g2.st.bag, by decide, by decide, fun r H2 r0 r1 st2 => ?_⟩
        obtain ⟨v, e1, e2⟩ := atI_of (xs := [V.non, V.str "", V.ref e]) r0 r1
        refine ⟨p, _, _, _, rfl, rfl, SqL.of (st2.keep p _ pb upd_same), e1, ?_⟩
        have g3 := g2.step st2 hB jb
        have h3 : r.toNat = 0 ∨ r.toNat = 1 ∨ r.toNat = 2 := by omega
        rcases h3 with z | z | z <;> rw [z] at e2 <;> cases e2
        · exact q _ .none _ H2 g3 .non ⟨rfl, by simp [PyData.depth], by simp only [szD]; omega⟩
        · exact q _ (.str "") _ H2 g3 (.str _) ⟨rfl, by simp [PyData.depth], by simp only [szD]; show 1 + 0 ≤ _; omega⟩
        · exact q _ (.list []) _ H2 g3 (.lst upd_same .nil) ⟨rfl, by simp only [PyData.depth, PyData.depthAll]; omega, by simp only [szD, szAll]; omega⟩
      · refine ⟨b, 2, rfl, g2.st.bag, by decide, by decide, fun r H2 r0 r1 st2 => ?_⟩
        obtain ⟨v, e1, e2⟩ := atI_of (xs := [V.non, V.str "", V.ref e]) r0 (by show r < 3; omega)
        refine ⟨p, _, _, _, rfl, rfl, SqL.of (st2.keep p _ pb upd_same), e1, ?_⟩
        have g3 := g2.step st2 hB jb
        have h3 : r.toNat = 0 ∨ r.toNat = 1 := by omega
        rcases h3 with z | z <;> rw [z] at e2 <;> cases e2
        · exact q _ .none _ H2 g3 .non ⟨rfl, by simp [PyData.depth], by simp only [szD]; omega⟩
        · exact q _ (.str "") _ H2 g3 (.str _) ⟨rfl, by simp [PyData.depth], by simp only [szD]; show 1 + 0 ≤ _; omega⟩
end
end Tx

namespace Tx
open PySem PySem.Spec PyProof.Rows L2
/-! ## Readings over data -/
abbrev DQ := PyData → Wd → Prop
abbrev DXK := Addr → List (Str × PyData) → Wd → Prop
abbrev DTE := DS → Wd → DQ → DXK → Prop
abbrev DTT := DS → Wd → (Bool → Wd → Prop) → DXK → Prop
abbrev DTA := DS → Wd → (List PyData → Wd → Prop) → DXK → Prop
structure DEnds where
  nx : DS → Wd → Prop
  rt : DQ
  bk : DS → Wd → Prop
  ct : DS → Wd → Prop
  xc : Addr → List (Str × PyData) → DS → Wd → Prop
abbrev DTS := DEnds → DS → Wd → Prop
/-- an error's own dict -/
def XdOk (K : PySem.W.Frag) (H0 J H : Hp) (ω : Wd) (d : Option Addr) (fs : List (Str × PyData)) : Prop :=
  match d with
  | none => fs = []
  | some dd => H0 dd = none ∧ J dd = none ∧ Fr ω dd ∧ ∃ gs, H dd = some (.xd gs) ∧ RpF K J gs fs
theorem XdOk.back {K : PySem.W.Frag} {H0 H1 J H : Hp} {ω : Wd} {d : Option Addr} {fs : List (Str × PyData)} (h : XdOk K H1 J H ω d fs) (k : ∀ a, H0 a ≠ none → H1 a ≠ none) : XdOk K H0 J H ω d fs := by
  cases d with
  | none => exact h
  | some dd =>
    refine ⟨?_, h.2⟩
    cases q : H0 dd with
    | none => rfl
    | some o => exact absurd h.1 (k dd (by rw [q]; simp))
section
variable (K : PySem.W.Frag) (J H : Hp) (ω : Wd)
def CovQ (q : DQ) (Q : VK) : Prop := ∀ r ω' v J' H', q r ω' → Grow J H ω J' H' ω' → Rw K J' H' ω' → Rp K J' v r → Q v H'
def CovT (q : Bool → Wd → Prop) (Q : Bool → Hp → Prop) : Prop := ∀ b ω' J' H', q b ω' → Grow J H ω J' H' ω' → Rw K J' H' ω' → Q b H'
def CovA (q : List PyData → Wd → Prop) (Q : List V → Hp → Prop) : Prop := ∀ rs ω' vs J' H', q rs ω' → Grow J H ω J' H' ω' → Rw K J' H' ω' → RpAll K J' vs rs → Q vs H'
def CovX (x : DXK) (E : XK) : Prop := ∀ C fs ω' d J' H', x C fs ω' → Grow J H ω J' H' ω' → Rw K J' H' ω' → XdOk K H J' H' ω' d fs → E (.ref C) d H'
structure CovS (W : WX) (DD : DEnds) (D : Ends) : Prop where
  nx : ∀ ρ' ω' σ' J' H', DD.nx ρ' ω' → Grow J H ω J' H' ω' → Rw K J' H' ω' → Sl K J' σ' ρ' → D.nx σ' H'
  bk : ∀ ρ' ω' σ' J' H', DD.bk ρ' ω' → Grow J H ω J' H' ω' → Rw K J' H' ω' → Sl K J' σ' ρ' → D.bk σ' H'
  ct : ∀ ρ' ω' σ' J' H', DD.ct ρ' ω' → Grow J H ω J' H' ω' → Rw K J' H' ω' → Sl K J' σ' ρ' → D.ct σ' H'
  rt : CovQ K J H ω DD.rt D.rt
  xc : ∀ C fs ρ' ω' d σ' J' H', DD.xc C fs ρ' ω' → Grow J H ω J' H' ω' → Rw K J' H' ω' → Sl K J' σ' ρ' → XdOk K H J' H' ω' d fs → W (.ref C) d σ' H'
end
section
variable {K : PySem.W.Frag} {J H J1 H1 : Hp} {ω ω1 : Wd}
theorem CovQ.step {q : DQ} {Q : VK} (c : CovQ K J H ω q Q) (g : Grow J H ω J1 H1 ω1) : CovQ K J1 H1 ω1 q Q := fun r ω' v J' H' z k w rp => c r ω' v J' H' z (g.trans k) w rp
theorem CovT.step {q : Bool → Wd → Prop} {Q : Bool → Hp → Prop} (c : CovT K J H ω q Q) (g : Grow J H ω J1 H1 ω1) : CovT K J1 H1 ω1 q Q := fun r ω' J' H' z k w => c r ω' J' H' z (g.trans k) w
theorem CovA.step {q : List PyData → Wd → Prop} {Q : List V → Hp → Prop} (c : CovA K J H ω q Q) (g : Grow J H ω J1 H1 ω1) : CovA K J1 H1 ω1 q Q := fun r ω' v J' H' z k w rp => c r ω' v J' H' z (g.trans k) w rp
theorem CovX.step {q : DXK} {E : XK} (c : CovX K J H ω q E) (g : Grow J H ω J1 H1 ω1) : CovX K J1 H1 ω1 q E := fun C fs ω' d J' H' z k w x => c C fs ω' d J' H' z (g.trans k) w (x.back g.dom)
theorem CovS.step {W : WX} {DD : DEnds} {D : Ends} (c : CovS K J H ω W DD D) (g : Grow J H ω J1 H1 ω1) : CovS K J1 H1 ω1 W DD D :=
  ⟨fun ρ' ω' σ' J' H' z k w s => c.nx ρ' ω' σ' J' H' z (g.trans k) w s, fun ρ' ω' σ' J' H' z k w s => c.bk ρ' ω' σ' J' H' z (g.trans k) w s, fun ρ' ω' σ' J' H' z k w s => c.ct ρ' ω' σ' J' H' z (g.trans k) w s, c.rt.step g,
    fun C fs ρ' ω' d σ' J' H' z k w s x => c.xc C fs ρ' ω' d σ' J' H' z (g.trans k) w s (x.back g.dom)⟩
theorem CovS.x {W : WX} {DD : DEnds} {D : Ends} (c : CovS K J H ω W DD D) {σ : L2.St} {ρ : DS} (s : Sl K J σ ρ) : CovX K J H ω (fun C fs ω' => DD.xc C fs ρ ω') (fun cl d H => W cl d σ H) :=
  fun C fs ω' d J' H' z k w x => c.xc C fs ρ ω' d σ J' H' z k w (s.mono k.jj) x
end
/-- an expression and its reading over data -/
structure DE (W : WX) (X : Cx) (K : PySem.W.Frag) (e : Expr) (td : DTE) : Prop where
  ex : ∃ t : TE, PE X e t ∧ ∀ σ H J ω ρ q x Q, Rw K J H ω → Sl K J σ ρ → CovQ K J H ω q Q → CovX K J H ω x (fun c d H => W c d σ H) → td ρ ω q x → t σ H Q
structure DT (W : WX) (X : Cx) (K : PySem.W.Frag) (e : Expr) (td : DTT) : Prop where
  ex : ∃ t : TT, PT X e t ∧ ∀ σ H J ω ρ q x Q, Rw K J H ω → Sl K J σ ρ → CovT K J H ω q Q → CovX K J H ω x (fun c d H => W c d σ H) → td ρ ω q x → t σ H Q
structure DW (W : WX) (X : Cx) (K : PySem.W.Frag) (e : Expr) (td : DTT) : Prop where
  ex : ∃ t : TT, PW X e t ∧ ∀ σ H J ω ρ q x Q, Rw K J H ω → Sl K J σ ρ → CovT K J H ω q Q → CovX K J H ω x (fun c d H => W c d σ H) → td ρ ω q x → t σ H Q
structure DAs (W : WX) (X : Cx) (K : PySem.W.Frag) (es : List Expr) (td : DTA) : Prop where
  ex : ∃ t : TA, PA X es t ∧ ∀ σ H J ω ρ q x Q, Rw K J H ω → Sl K J σ ρ → CovA K J H ω q Q → CovX K J H ω x (fun c d H => W c d σ H) → td ρ ω q x → t σ H Q
structure DSt (W : WX) (X : Cx) (K : PySem.W.Frag) (st : Stmt) (td : DTS) : Prop where
  ex : ∃ t : TS, PS X st t ∧ ∀ D DD σ H J ω ρ, Rw K J H ω → Sl K J σ ρ → CovS K J H ω W DD D → td DD ρ ω → t D σ H
structure DSs (W : WX) (X : Cx) (K : PySem.W.Frag) (st : List Stmt) (td : DTS) : Prop where
  ex : ∃ t : TS, PSs X st t ∧ ∀ D DD σ H J ω ρ, Rw K J H ω → Sl K J σ ρ → CovS K J H ω W DD D → td DD ρ ω → t D σ H
/-! ### what an operation does with data -/
/-- a list of one's own, read -/
def rsv (ω : Wd) : PyData → PyData
  | .dict [(.int i, .none)] => match ω i.toNat with
    | some (.lst ds) => .list ds
    | _ => .dict [(.int i, .none)]
  | d => d
/-- what is shown: cells at any depth of data -/
def cellD (ω : Wd) (a : Addr) : PyData := match ω a with
  | some (.lst ds) => .list ds
  | some (.tmp _ d) => d
  | _ => refD a
mutual
def full (ω : Wd) : PyData → PyData
  | .dict [(.int i, .none)] => cellD ω i.toNat
  | .list xs => .list (fullAll ω xs)
  | .tuple xs => .tuple (fullAll ω xs)
  | d => d
def fullAll (ω : Wd) : List PyData → List PyData
  | [] => []
  | x :: xs => full ω x :: fullAll ω xs
end
def Full (ω : Wd) (d e : PyData) : Prop := d = e ∨ full ω d = e
section
variable {K : PySem.W.Frag} {J H : Hp} {ω : Wd} {v : V} {d : PyData}
theorem rsv_cell {a : Addr} {ds : List PyData} (h : ω a = some (.lst ds)) : rsv ω (refD a) = .list ds := by
  show (match ω (((a : Nat) : Int).toNat) with | some (.lst ds) => PyData.list ds | _ => _) = _
  rw [Int.toNat_natCast, h]
/-- the list that is read: it stands in H -/
theorem rp_list {xs : List PyData} (w : Rw K J H ω) (h : Rp K J v d) (e : rsv ω d = .list xs) : ∃ a vs, v = .ref a ∧ H a = some (.lst vs) ∧ RpAll K J vs xs := by
  cases h with
  | non => cases e
  | bl b => cases e
  | int i => cases e
  | str x => cases e
  | lst hs ha => cases e; exact ⟨_, _, rfl, w.jh _ _ hs, ha⟩
  | tup hs ha => cases e
  | scr hs => cases e
  | pub _ => cases e
  | ref a =>
    have e2 : (match ω (((a : Nat) : Int).toNat) with | some (.lst ds) => PyData.list ds | _ => .dict [(.int ((a : Nat) : Int), .none)]) = .list xs := e
    rw [Int.toNat_natCast] at e2
    cases q : ω a with
    | none => rw [q] at e2; cases e2
    | some m =>
      rw [q] at e2
      cases m with
      | lst ds =>
        cases e2
        obtain ⟨vs, h1, h2⟩ := w.cell a _ q
        exact ⟨a, vs, rfl, h1, h2⟩
      | bag => cases e2
      | ins _ _ _ => cases e2
      | xd _ => cases e2
      | tmp _ _ => cases e2
      | ent _ _ _ _ _ => cases e2
theorem rp_tup {xs : List PyData} (w : Rw K J H ω) (h : Rp K J v d) (e : rsv ω d = .tuple xs) : ∃ a vs, v = .ref a ∧ SqT K H a vs ∧ RpAll K J vs xs ∧ Rp K J v (.tuple xs) := by
  cases h with
  | non => cases e
  | bl b => cases e
  | int i => cases e
  | str x => cases e
  | lst hs ha => cases e
  | tup hs ha => cases e; exact ⟨_, _, rfl, Same.sqT w.jh hs, ha, .tup hs ha⟩
  | scr hs => cases e
  | pub _ => cases e
  | ref a =>
    have e2 : (match ω (((a : Nat) : Int).toNat) with | some (.lst ds) => PyData.list ds | _ => .dict [(.int ((a : Nat) : Int), .none)]) = .tuple xs := e
    split at e2 <;> cases e2
theorem rp_flat (h : Rp K J v d) : (∀ z, rsv ω d = .str z → v = .str z) ∧ (∀ i, rsv ω d = .int i → v = .int i) ∧ (∀ b, rsv ω d = .bool b → v = .bl b) ∧ (rsv ω d = .none → v = .non) := by
  cases h with
  | ref a =>
    have e2 : rsv ω (refD a) = (match ω (((a : Nat) : Int).toNat) with | some (.lst ds) => PyData.list ds | _ => .dict [(.int ((a : Nat) : Int), .none)]) := rfl
    refine ⟨fun z e => ?_, fun z e => ?_, fun z e => ?_, fun e => ?_⟩ <;> (rw [e2] at e; split at e <;> cases e)
  | non => refine ⟨fun z e => ?_, fun z e => ?_, fun z e => ?_, fun e => ?_⟩ <;> (cases e <;> rfl)
  | bl b => refine ⟨fun z e => ?_, fun z e => ?_, fun z e => ?_, fun e => ?_⟩ <;> (cases e <;> rfl)
  | int i => refine ⟨fun z e => ?_, fun z e => ?_, fun z e => ?_, fun e => ?_⟩ <;> (cases e <;> rfl)
  | str x => refine ⟨fun z e => ?_, fun z e => ?_, fun z e => ?_, fun e => ?_⟩ <;> (cases e <;> rfl)
  | lst _ _ => refine ⟨fun z e => ?_, fun z e => ?_, fun z e => ?_, fun e => ?_⟩ <;> (cases e <;> rfl)
  | tup _ _ => refine ⟨fun z e => ?_, fun z e => ?_, fun z e => ?_, fun e => ?_⟩ <;> (cases e <;> rfl)
  | scr _ => refine ⟨fun z e => ?_, fun z e => ?_, fun z e => ?_, fun e => ?_⟩ <;> (cases e <;> rfl)
  | pub _ => refine ⟨fun z e => ?_, fun z e => ?_, fun z e => ?_, fun e => ?_⟩ <;> (cases e <;> rfl)
/-- data that is read, for the rules of the kit -/
theorem rp_rsv (w : Rw K J H ω) (h : Rp K J v d) (c : (rsv ω d).canLay0 = true) : Dp K H v (rsv ω d) := by
  cases h with
  | non => exact .non
  | bl b => exact .bl b
  | int i => exact .int i
  | str x => exact .str x
  | lst hs ha => exact dp_mono w.jh _ _ (rp_dp _ _ c (.lst hs ha))
  | tup hs ha => exact dp_mono w.jh _ _ (rp_dp _ _ c (.tup hs ha))
  | scr hs => simp [rsv, PyData.canLay0] at c
  | pub _ => simp [rsv, PyData.canLay0] at c
  | ref a =>
    cases e : rsv ω (refD a) with
    | list xs =>
      obtain ⟨b, vs, e1, e2, e3⟩ := rp_list w (.ref a) e
      rw [e] at c
      cases e1
      exact .lst (SqL.of e2) (dpAll_mono w.jh _ _ (rpAll_dp _ _ (by simpa only [PyData.canLay0] using c) e3))
    | dict _ => rw [e] at c; simp [PyData.canLay0] at c
    | none => have := (rp_flat (ω := ω) (Rp.ref (K := K) (J := J) a)).2.2.2 e; cases this
    | bool b => have := (rp_flat (ω := ω) (Rp.ref (K := K) (J := J) a)).2.2.1 b e; cases this
    | int b => have := (rp_flat (ω := ω) (Rp.ref (K := K) (J := J) a)).2.1 b e; cases this
    | str b => have := (rp_flat (ω := ω) (Rp.ref (K := K) (J := J) a)).1 b e; cases this
    | tuple b =>
      have e2 : rsv ω (refD a) = (match ω (((a : Nat) : Int).toNat) with | some (.lst ds) => PyData.list ds | _ => .dict [(.int ((a : Nat) : Int), .none)]) := rfl
      rw [e2] at e
      split at e <;> cases e
end
section
variable {K : PySem.W.Frag} {J H : Hp} {ω : Wd}
theorem cellD_dp (w : Rw K J H ω) (a : Addr) (c : (cellD ω a).canLay0 = true) : Dp K H (.ref a) (cellD ω a) := by
  unfold cellD at c ⊢
  split at c
  · rename_i ds e
    obtain ⟨vs, h1, h2⟩ := w.cell a _ e
    exact .lst (SqL.of h1) (dpAll_mono w.jh _ _ (rpAll_dp _ _ (by simpa only [PyData.canLay0] using c) h2))
  · rename_i N d e
    obtain ⟨s, r, _⟩ := w.cell a _ e
    exact dp_mono s _ _ (rp_dp _ _ c r)
  · simp [PyData.canLay0] at c
mutual
theorem full_dp (w : Rw K J H ω) : ∀ (d : PyData) (v : V), (full ω d).canLay0 = true → Rp K J v d → Dp K H v (full ω d)
  | .none, _, _, h => by cases h; simp only [full]; exact .non
  | .bool b, _, _, h => by cases h; simp only [full]; exact .bl b
  | .int i, _, _, h => by cases h; simp only [full]; exact .int i
  | .str x, _, _, h => by cases h; simp only [full]; exact .str x
  | .list ds, _, c, h => by
    cases h with
    | lst hs ha =>
      simp only [full] at c ⊢
      exact .lst (SqL.of (w.jh _ _ hs)) (fullAll_dp w ds _ (by simpa only [PyData.canLay0] using c) ha)
  | .tuple ds, _, c, h => by
    cases h with
    | tup hs ha =>
      simp only [full] at c ⊢
      exact .tup (Same.sqT w.jh hs) (fullAll_dp w ds _ (by simpa only [PyData.canLay0] using c) ha)
  | .dict _, _, c, h => by
    cases h with
    | ref a =>
      simp only [full, Int.toNat_natCast] at c ⊢
      exact cellD_dp w _ c
    | scr hs => simp [full, PyData.canLay0] at c
    | pub _ => simp [full, PyData.canLay0] at c
theorem fullAll_dp (w : Rw K J H ω) : ∀ (ds : List PyData) (vs : List V), PyData.canLayAll0 (fullAll ω ds) = true → RpAll K J vs ds → DpAll K H vs (fullAll ω ds)
  | [], _, _, h => by cases h; simp only [fullAll]; exact .nil
  | d :: ds, _, c, h => by
    simp only [fullAll, PyData.canLayAll0, Bool.and_eq_true] at c
    cases h with
    | cons h1 h2 => simp only [fullAll]; exact .cons (full_dp w d _ c.1 h1) (fullAll_dp w ds _ c.2 h2)
end
theorem Full.dp {v : V} {d e : PyData} (h : Full ω d e) (w : Rw K J H ω) (r : Rp K J v d) (c : e.canLay0 = true) : Dp K H v e := by
  rcases h with rfl | rfl
  · exact dp_mono w.jh _ _ (rp_dp _ _ c r)
  · exact full_dp w d v c r
theorem Full.rfl' {d : PyData} : Full ω d d := .inl rfl
theorem Full.cell {a : Addr} {ds : List PyData} (h : ω a = some (.lst ds)) : Full ω (refD a) (.list ds) := .inr (by simp only [full, Int.toNat_natCast, cellD, h])
theorem Full.tmp {a : Addr} {N : Hp} {d : PyData} (h : ω a = some (.tmp N d)) : Full ω (refD a) d := .inr (by simp only [full, Int.toNat_natCast, cellD, h])
end
abbrev RD2 := PyData → PyData → Wd → (PyData → Prop) → Prop
abbrev RD1 := List PyData → Wd → (PyData → Prop) → Prop
def lift2 (K : PySem.W.Frag) (rd : RD2) : R2 := fun x y H Q => ∃ J ω dx dy q, Rw K J H ω ∧ Rp K J x dx ∧ Rp K J y dy ∧ CovQ K J H ω q Q ∧ rd dx dy ω fun r => q r ω
def liftA (K : PySem.W.Frag) (rd : RD1) : List V → Hp → VK → Prop := fun xs H Q => ∃ J ω ds q, Rw K J H ω ∧ RpAll K J xs ds ∧ CovQ K J H ω q Q ∧ rd ds ω fun r => q r ω
def lift3 (K : PySem.W.Frag) (rd : PyData → Option Int → Option Int → Wd → (PyData → Prop) → Prop) : V → Option Int → Option Int → Hp → VK → Prop := fun x lo hi H Q =>
  ∃ J ω dx q, Rw K J H ω ∧ Rp K J x dx ∧ CovQ K J H ω q Q ∧ rd dx lo hi ω fun r => q r ω
section
variable {K : PySem.W.Frag} {J H : Hp} {ω : Wd} {q : DQ} {Q : VK} {v : V} {d : PyData} {vs : List V} {ds : List PyData}
theorem CovQ.now (c : CovQ K J H ω q Q) (w : Rw K J H ω) (z : q d ω) (r : Rp K J v d) : Q v H := c d ω v J H z Grow.refl w r
theorem CovQ.newL (c : CovQ K J H ω q Q) (w : Rw K J H ω) (z : q (.list ds) ω) (r : RpAll K J vs ds) {p : Addr} (hp : H p = none) : Q (.ref p) (upd H p (.lst vs)) :=
  c _ ω _ _ _ z (Grow.frz w hp _) (w.frz hp _) (.lst upd_same (rpAll_mono (same_new (w.jh.free hp) _) _ _ r))
theorem CovQ.newT (c : CovQ K J H ω q Q) (w : Rw K J H ω) (z : q (.tuple ds) ω) (r : RpAll K J vs ds) {p : Addr} (hp : H p = none) : Q (.ref p) (upd H p (.tup vs)) :=
  c _ ω _ _ _ z (Grow.frz w hp _) (w.frz hp _) (.tup (SqT.of upd_same) (rpAll_mono (same_new (w.jh.free hp) _) _ _ r))
end
def addD : RD2 := fun x y ω Q => match rsv ω x, rsv ω y with
  | .int i, .int j => Q (.int (i + j))
  | .str a, .str b => a.length + b.length ≤ sizeLine ∧ Q (.str (a ++ b))
  | .list xs, .list ys => xs.length + ys.length ≤ sizeLine ∧ Q (.list (xs ++ ys))
  | .tuple xs, .tuple ys => xs.length + ys.length ≤ sizeLine ∧ Q (.tuple (xs ++ ys))
  | _, _ => False
def intD (P : Int → Int → Prop) (f : Int → Int → PyData) : RD2 := fun x y _ Q => match x, y with
  | .int i, .int j => P i j ∧ Q (f i j)
  | _, _ => False
def eqD : RD2 := fun x y ω Q => match x, y with
  | .str a, .str b => Q (.bool (decide (a = b)))
  | .int a, .int b => Q (.bool (decide (a = b)))
  | x, y => ∃ d e, Full ω x d ∧ Full ω y e ∧ SeqAt.shaped d = true ∧ SeqAt.shaped e = true ∧ Q (.bool (PyData.eqv d e))
def neD : RD2 := fun x y ω Q => match x, y with
  | .str a, .str b => Q (.bool (!decide (a = b)))
  | .int a, .int b => Q (.bool (!decide (a = b)))
  | x, y => ∃ d e, Full ω x d ∧ Full ω y e ∧ SeqAt.shaped d = true ∧ SeqAt.shaped e = true ∧ Q (.bool (!PyData.eqv d e))
def isNn : PyData → Bool
  | .none => true
  | _ => false
def isND : RD2 := fun x y _ Q => y = .none ∧ Q (.bool (isNn x))
def notND : RD2 := fun x y _ Q => y = .none ∧ Q (.bool (!isNn x))
def ixD : RD2 := fun x y ω Q => match rsv ω x, y with
  | .list xs, .int i => ∃ d, atI xs i = some d ∧ Q d
  | .tuple xs, .int i => ∃ d, atI xs i = some d ∧ Q d
  | .str z, .int i => z.length ≤ sizeLine ∧ ∃ c, atI z.cps.toList i = some c ∧ Q (.str ⟨#[c]⟩)
  | _, _ => False
def cutD {α : Type} (xs : List α) (lo hi : Option Int) : List α := (xs.drop (HT.sIx xs.length 0 lo)).take (HT.sIx xs.length xs.length hi - HT.sIx xs.length 0 lo)
def slD : PyData → Option Int → Option Int → Wd → (PyData → Prop) → Prop := fun x lo hi ω Q => match rsv ω x with
  | .list xs => Q (.list (cutD xs lo hi))
  | .tuple xs => Q (.tuple (cutD xs lo hi))
  | .str z => z.length ≤ sizeLine ∧ Q (.str (cutS z lo hi))
  | _ => False
def lenD : RD1 := fun xs ω Q => match xs with
  | [x] => match rsv ω x with
    | .list ys => Q (.int ys.length)
    | .tuple ys => Q (.int ys.length)
    | .str z => z.length ≤ sizeLine ∧ Q (.int z.length)
    | .dict [(.int _, .list ys)] => Q (.int ys.length)
    | _ => False
  | _ => False
def reprD : RD1 := fun xs ω Q => match xs with
  | [x] => ∃ d, Full ω x d ∧ Ok d ∧ Q (.str d.shown)
  | _ => False
def listD : RD1 := fun xs ω Q => match xs with
  | [x] => match rsv ω x with
    | .list ys => Q (.list ys)
    | .tuple ys => Q (.list ys)
    | .str z => z.length ≤ sizeLine ∧ Q (.list (z.cps.toList.map fun c => .str ⟨#[c]⟩))
    | _ => False
  | _ => False
def tupleD : RD1 := fun xs ω Q => match xs with
  | [x] => match rsv ω x with
    | .list ys => Q (.tuple ys)
    | .tuple ys => Q (.tuple ys)
    | _ => False
  | _ => False
def sumD : RD1 := fun xs ω Q => ∃ (x : PyData) (ns : List Int), xs = [x] ∧ rsv ω x = .list (ns.map PyData.int) ∧ Q (.int ns.sum)
def allD : RD1 := fun xs ω Q => ∃ (x : PyData) (bs : List Bool), xs = [x] ∧ rsv ω x = .list (bs.map PyData.bool) ∧ Q (.bool (bs.all id))
def anyD : RD1 := fun xs ω Q => ∃ (x : PyData) (bs : List Bool), xs = [x] ∧ rsv ω x = .list (bs.map PyData.bool) ∧ Q (.bool (bs.any id))
theorem rpAll_cut {K : PySem.W.Frag} {J : Hp} {vs : List V} {ds : List PyData} (h : RpAll K J vs ds) (lo hi : Option Int) : RpAll K J (cutV vs lo hi) (cutD ds lo hi) := by
  unfold cutV cutD
  rw [h.length]
  exact RpAll.take _ (RpAll.drop _ h)
theorem atI_rp {K : PySem.W.Frag} {J : Hp} {vs : List V} {ds : List PyData} {i : Int} {d : PyData} (h : RpAll K J vs ds) (e : atI ds i = some d) : ∃ v, atI vs i = some v ∧ Rp K J v d := by
  unfold atI at e ⊢
  rw [h.length]
  cases q : ixN ds.length i with
  | none => rw [q] at e; cases e
  | some j =>
    rw [q] at e
    exact h.getD e
theorem rpAll_ints {K : PySem.W.Frag} {J : Hp} : ∀ {ns : List Int} {vs : List V}, RpAll K J vs (ns.map PyData.int) → vs = ns.map V.int
  | [], _, h => by cases h; rfl
  | n :: ns, _, h => by
    cases h with
    | cons h1 h2 => cases h1; rw [rpAll_ints h2]; rfl
theorem rpAll_bls {K : PySem.W.Frag} {J : Hp} : ∀ {ns : List Bool} {vs : List V}, RpAll K J vs (ns.map PyData.bool) → vs = ns.map V.bl
  | [], _, h => by cases h; rfl
  | n :: ns, _, h => by
    cases h with
    | cons h1 h2 => cases h1; rw [rpAll_bls h2]; rfl
section
variable {X : Cx} {K : PySem.W.Frag}
theorem do_add (hK : X.K = K) : OpR X (binaryOp .Add) (lift2 K addD) := by
  subst hK
  intro pins s σ H x y v u Q I rx ry h
  obtain ⟨J, ω, dx, dy, q, w, hx, hy, c, z⟩ := h
  unfold addD at z
  split at z
  · rename_i i j ex ey
    obtain rfl := (rp_flat (ω := ω) hx).2.1 _ ex
    obtain rfl := (rp_flat (ω := ω) hy).2.1 _ ey
    exact op_add pins s σ H _ _ v u Q I rx ry ⟨i, j, rfl, rfl, c.now w z (.int _)⟩
  · rename_i i j ex ey
    obtain rfl := (rp_flat (ω := ω) hx).1 _ ex
    obtain rfl := (rp_flat (ω := ω) hy).1 _ ey
    exact op_add_str pins s σ H _ _ v u Q I rx ry ⟨i, j, rfl, rfl, z.1, c.now w z.2 (.str _)⟩
  · rename_i xs ys ex ey
    obtain ⟨a, vs, rfl, ha, ra⟩ := rp_list w hx ex
    obtain ⟨b, ws, rfl, hb, rb⟩ := rp_list w hy ey
    exact op_cat pins s σ H _ _ v u Q I rx ry ⟨a, b, vs, ws, rfl, rfl, ha, hb, by rw [ra.length, rb.length]; exact z.1, fun p hp => c.newL w z.2 (ra.append rb) hp⟩
  · rename_i xs ys ex ey
    obtain ⟨a, vs, rfl, ha, ra, rx2⟩ := rp_tup w hx ex
    obtain ⟨b, ws, rfl, hb, rb, ry2⟩ := rp_tup w hy ey
    refine op_catA pins s σ H _ _ v u Q I rx ry ⟨a, b, vs, ws, rfl, rfl, ha, hb, by rw [ra.length, rb.length]; exact z.1, fun e => ?_, fun _ e => ?_, fun _ _ p hp => c.newT w z.2 (ra.append rb) hp⟩
    · subst e; cases ra; exact c.now w z.2 ry2
    · subst e; cases rb; rw [List.append_nil] at z; exact c.now w z.2 rx2
  · exact False.elim z
theorem do_int {f : Value → Value → Sem Value} {C : Int → Int → Prop} {g : Int → Int → V} {P : Int → Int → Prop} {r : Int → Int → PyData} (o : OpR X f (rI C g)) (hK : X.K = K) (hc : ∀ i j, P i j → C i j) (hr : ∀ J i j, Rp K J (g i j) (r i j)) : OpR X f (lift2 K (intD P r)) := by
  intro pins s σ H x y v u Q I rx ry h
  obtain ⟨J, ω, dx, dy, q, w, hx, hy, c, z⟩ := h
  unfold intD at z
  split at z
  · cases hx; cases hy
    exact o pins s σ H _ _ v u Q I rx ry ⟨_, _, rfl, rfl, hc _ _ z.1, c.now w z.2 (hr _ _ _)⟩
  · exact False.elim z
theorem do_int0 {f : Value → Value → Sem Value} {g : Int → Int → V} {r : Int → Int → PyData} (o : OpR X f (rI0 g)) (hK : X.K = K) (hr : ∀ J i j, Rp K J (g i j) (r i j)) : OpR X f (lift2 K (intD (fun _ _ => True) r)) := by
  intro pins s σ H x y v u Q I rx ry h
  obtain ⟨J, ω, dx, dy, q, w, hx, hy, c, z⟩ := h
  unfold intD at z
  split at z
  · cases hx; cases hy
    exact o pins s σ H _ _ v u Q I rx ry ⟨_, _, rfl, rfl, c.now w z.2 (hr _ _ _)⟩
  · exact False.elim z
theorem do_sub (hK : X.K = K) : OpR X (binaryOp .Sub) (lift2 K (intD (fun _ _ => True) fun i j => .int (i - j))) := do_int0 op_sub hK fun _ _ _ => .int _
theorem do_mul (hK : X.K = K) : OpR X (binaryOp .Mult) (lift2 K (intD CMul fun i j => .int (i * j))) := do_int op_mul hK (fun _ _ h => h) fun _ _ _ => .int _
theorem do_mod (hK : X.K = K) : OpR X (binaryOp .Mod) (lift2 K (intD (fun _ j => 0 < j) fun i j => .int (i % j))) := do_int op_mod hK (fun _ _ h => h) fun _ _ _ => .int _
theorem do_fdiv (hK : X.K = K) : OpR X (binaryOp .FloorDiv) (lift2 K (intD CDiv fun i j => .int (i / j))) := do_int op_fdiv hK (fun _ _ h => h) fun _ _ _ => .int _
theorem do_lt (hK : X.K = K) : OpR X (compareOp .Lt) (lift2 K (intD (fun _ _ => True) fun i j => .bool (decide (i < j)))) := do_int0 op_lt hK fun _ _ _ => .bl _
theorem do_le (hK : X.K = K) : OpR X (compareOp .LtE) (lift2 K (intD (fun _ _ => True) fun i j => .bool (decide (i ≤ j)))) := do_int0 op_le hK fun _ _ _ => .bl _
theorem do_gt (hK : X.K = K) : OpR X (compareOp .Gt) (lift2 K (intD (fun _ _ => True) fun i j => .bool (decide (j < i)))) := do_int0 op_gt hK fun _ _ _ => .bl _
theorem do_ge (hK : X.K = K) : OpR X (compareOp .GtE) (lift2 K (intD (fun _ _ => True) fun i j => .bool (decide (j ≤ i)))) := do_int0 op_ge hK fun _ _ _ => .bl _
theorem shaped_lay {d : PyData} (h : SeqAt.shaped d = true) : d.canLay0 = true := by
  unfold SeqAt.shaped at h
  exact (Bool.and_eq_true _ _ ▸ h).1
theorem do_eq (hK : X.K = K) (hu : X.A.units + 64 < cLine) : OpR X (compareOp .Eq) (lift2 K eqD) := by
  subst hK
  intro pins s σ H x y v u Q I rx ry h
  obtain ⟨J, ω, dx, dy, q, w, hx, hy, c, z⟩ := h
  unfold eqD at z
  split at z
  · cases hx; cases hy
    refine op_eq pins s σ H _ _ v u Q I rx ry ⟨rfl, ?_⟩
    rename_i a b
    rw [show decide (V.str a = V.str b) = decide (a = b) from decide_eq_decide.mpr ⟨fun h => V.str.inj h, fun h => by rw [h]⟩]
    exact c.now w z (.bl _)
  · cases hx; cases hy
    refine op_eq pins s σ H _ _ v u Q I rx ry ⟨rfl, ?_⟩
    rename_i a b
    rw [show decide (V.int a = V.int b) = decide (a = b) from decide_eq_decide.mpr ⟨fun h => V.int.inj h, fun h => by rw [h]⟩]
    exact c.now w z (.bl _)
  · obtain ⟨d1, d2, f1, f2, z1, z2, z⟩ := z
    exact op_eqD hu pins s σ H _ _ v u Q I rx ry ⟨_, _, f1.dp w hx (shaped_lay z1), f2.dp w hy (shaped_lay z2), z1, z2, c.now w z (.bl _)⟩
theorem do_ne (hK : X.K = K) (hu : X.A.units + 64 < cLine) : OpR X (compareOp .NotEq) (lift2 K neD) := by
  subst hK
  intro pins s σ H x y v u Q I rx ry h
  obtain ⟨J, ω, dx, dy, q, w, hx, hy, c, z⟩ := h
  unfold neD at z
  split at z
  · cases hx; cases hy
    refine op_ne pins s σ H _ _ v u Q I rx ry ⟨rfl, ?_⟩
    rename_i a b
    rw [show decide (V.str a = V.str b) = decide (a = b) from decide_eq_decide.mpr ⟨fun h => V.str.inj h, fun h => by rw [h]⟩]
    exact c.now w z (.bl _)
  · cases hx; cases hy
    refine op_ne pins s σ H _ _ v u Q I rx ry ⟨rfl, ?_⟩
    rename_i a b
    rw [show decide (V.int a = V.int b) = decide (a = b) from decide_eq_decide.mpr ⟨fun h => V.int.inj h, fun h => by rw [h]⟩]
    exact c.now w z (.bl _)
  · obtain ⟨d1, d2, f1, f2, z1, z2, z⟩ := z
    exact op_neD hu pins s σ H _ _ v u Q I rx ry ⟨_, _, f1.dp w hx (shaped_lay z1), f2.dp w hy (shaped_lay z2), z1, z2, c.now w z (.bl _)⟩
theorem isNn_eq {J : Hp} {v : V} {d : PyData} (h : Rp K J v d) : decide (v = .non) = isNn d := by
  cases h <;> first | rfl | exact decide_eq_false (fun e => nomatch e)
theorem do_is (hK : X.K = K) : OpR X (compareOp .Is) (lift2 K isND) := by
  intro pins s σ H x y v u Q I rx ry h
  obtain ⟨J, ω, dx, dy, q, w, hx, hy, c, rfl, z⟩ := h
  cases hy
  exact op_isN pins s σ H _ _ v u Q I rx ry ⟨rfl, by rw [isNn_eq hx]; exact c.now w z (.bl _)⟩
theorem do_isnot (hK : X.K = K) : OpR X (compareOp .IsNot) (lift2 K notND) := by
  intro pins s σ H x y v u Q I rx ry h
  obtain ⟨J, ω, dx, dy, q, w, hx, hy, c, rfl, z⟩ := h
  cases hy
  exact op_notN pins s σ H _ _ v u Q I rx ry ⟨rfl, by rw [isNn_eq hx]; exact c.now w z (.bl _)⟩
theorem do_ix (hK : X.K = K) : IxR X (lift2 K ixD) := by
  subst hK
  intro value slice pins s σ H x y v u Q I rx ry h hs
  obtain ⟨J, ω, dx, dy, q, w, hx, hy, c, z⟩ := h
  unfold ixD at z
  split at z
  · rename_i xs i ex
    cases hy
    obtain ⟨d, z1, z⟩ := z
    obtain ⟨a, vs, rfl, ha, ra⟩ := rp_list w hx ex
    obtain ⟨y, e1, e2⟩ := atI_rp ra z1
    exact ix_list value slice pins s σ H _ _ v u Q I rx ry ⟨a, vs, i, y, rfl, rfl, SqL.of ha, e1, c.now w z e2⟩ hs
  · rename_i xs i ex
    cases hy
    obtain ⟨d, z1, z⟩ := z
    obtain ⟨a, vs, rfl, ha, ra, _⟩ := rp_tup w hx ex
    obtain ⟨y, e1, e2⟩ := atI_rp ra z1
    exact ix_tup value slice pins s σ H _ _ v u Q I rx ry ⟨a, vs, i, y, rfl, rfl, ha, e1, c.now w z e2⟩ hs
  · rename_i zz i ex
    cases hy
    obtain ⟨z0, cc, z1, z⟩ := z
    obtain rfl := (rp_flat (ω := ω) hx).1 _ ex
    exact ix_str value slice pins s σ H _ _ v u Q I rx ry ⟨zz, i, cc, rfl, rfl, z0, z1, c.now w z (.str _)⟩ hs
  · exact False.elim z
theorem do_sl (hK : X.K = K) : SlR X (lift3 K slD) := by
  subst hK
  intro pins s σ H x v vl vu lo hi sl Q I rx hs pl pu h
  obtain ⟨J, ω, dx, q, w, hx, c, z⟩ := h
  unfold slD at z
  split at z
  · rename_i xs ex
    obtain ⟨a, vs, rfl, ha, ra⟩ := rp_list w hx ex
    exact sl_list pins s σ H _ v vl vu lo hi sl Q I rx hs pl pu ⟨a, vs, rfl, SqL.of ha, fun p hp => c.newL w z (rpAll_cut ra lo hi) hp⟩
  · rename_i xs ex
    obtain ⟨a, vs, rfl, ha, ra, rt⟩ := rp_tup w hx ex
    refine sl_tupA pins s σ H _ v vl vu lo hi sl Q I rx hs pl pu ⟨a, vs, rfl, ha, fun e => ?_, fun _ p hp => c.newT w z (rpAll_cut ra lo hi) hp⟩
    have e1 : cutD xs lo hi = xs := by
      unfold cutD
      rw [← ra.length, e.1, e.2, List.drop_zero, Nat.sub_zero, ra.length, List.take_length]
    rw [e1] at z
    exact c.now w z rt
  · rename_i zz ex
    obtain rfl := (rp_flat (ω := ω) hx).1 _ ex
    exact sl_str pins s σ H _ v vl vu lo hi sl Q I rx hs pl pu ⟨zz, rfl, z.1, c.now w z.2 (.str _)⟩
  · exact False.elim z
theorem dc_len (hK : X.K = K) : CallR X (.builtin "len") (liftA K lenD) := by
  subst hK
  intro pins s σ H xs us Q I rel h
  obtain ⟨J, ω, ds, q, w, hx, c, z⟩ := h
  unfold lenD at z
  split at z
  · rename_i x
    cases hx with
    | cons hx h0 =>
    cases h0
    split at z
    · rename_i ys ex
      obtain ⟨a, vs, rfl, ha, ra⟩ := rp_list w hx ex
      exact call_len_seq pins s σ H _ us Q I rel ⟨a, vs, rfl, .inl (SqL.of ha), by rw [ra.length]; exact c.now w z (.int _)⟩
    · rename_i ys ex
      obtain ⟨a, vs, rfl, ha, ra, _⟩ := rp_tup w hx ex
      exact call_len_seq pins s σ H _ us Q I rel ⟨a, vs, rfl, .inr ha, by rw [ra.length]; exact c.now w z (.int _)⟩
    · rename_i zz ex
      obtain rfl := (rp_flat (ω := ω) hx).1 _ ex
      exact call_len_str pins s σ H _ us Q I rel ⟨zz, rfl, z.1, c.now w z.2 (.int _)⟩
    · rename_i i0 ys ex
      have key : ∀ (d : PyData) (v : V), Rp X.K J v d → rsv ω d = .dict [(.int i0, .list ys)] → ∃ (a : Addr) (ns : List Int), v = .ref a ∧ SqL X.K J a (ns.map V.int) ∧ ys = ns.map PyData.int := by
        intro d v h e
        cases h with
        | ref a =>
          have e2 : (match ω (((a : Nat) : Int).toNat) with | some (.lst ds) => PyData.list ds | _ => .dict [(.int ((a : Nat) : Int), .none)]) = _ := e
          split at e2 <;> cases e2
        | scr hs => cases e; exact ⟨_, _, rfl, hs, rfl⟩
        | pub _ => cases e
        | non => cases e
        | bl _ => cases e
        | int _ => cases e
        | str _ => cases e
        | lst _ _ => cases e
        | tup _ _ => cases e
      obtain ⟨a, ns, rfl, hs, rfl⟩ := key _ _ hx ex
      refine call_len_seq pins s σ H _ us Q I rel ⟨a, _, rfl, .inl (w.jh.seq hs), ?_⟩
      rw [List.length_map] at z ⊢
      exact c.now w z (.int _)
    · exact False.elim z
  · exact False.elim z
theorem dc_repr (hK : X.K = K) (gd : X.A.guards = some []) (hu : X.A.units + 64 < cLine) : CallR X (.builtin "repr") (liftA K reprD) := by
  subst hK
  intro pins s σ H xs us Q I rel h
  obtain ⟨J, ω, ds, q, w, hx, c, z⟩ := h
  unfold reprD at z
  split at z
  · cases hx with
    | cons hx h0 =>
    cases h0
    obtain ⟨d, f, ok, z⟩ := z
    exact call_repr gd hu pins s σ H _ us Q I rel ⟨_, _, rfl, f.dp w hx (fine_lay _ ok.1), ok, c.now w z (.str _)⟩
  · exact False.elim z
theorem dc_list (hK : X.K = K) (hc : X.calm = true) : CallR X (.type "list") (liftA K listD) := by
  subst hK
  intro pins s σ H xs us Q I rel h
  obtain ⟨J, ω, ds, q, w, hx, c, z⟩ := h
  unfold listD at z
  split at z
  · cases hx with
    | cons hx h0 =>
    cases h0
    split at z
    · rename_i ys ex
      obtain ⟨a, vs, rfl, ha, ra⟩ := rp_list w hx ex
      exact call_list_of pins s σ H _ us Q I rel ⟨a, vs, rfl, .inl (SqL.of ha), fun p hp => c.newL w z ra hp⟩
    · rename_i ys ex
      obtain ⟨a, vs, rfl, ha, ra, _⟩ := rp_tup w hx ex
      exact call_list_of pins s σ H _ us Q I rel ⟨a, vs, rfl, .inr ha, fun p hp => c.newL w z ra hp⟩
    · rename_i zz ex
      obtain rfl := (rp_flat (ω := ω) hx).1 _ ex
      exact call_listS hc pins s σ H _ us Q I rel ⟨zz, rfl, z.1, fun p hp => c.newL w z.2 (rpAll_sgn zz) hp⟩
    · exact False.elim z
  · exact False.elim z
theorem dc_tuple (hK : X.K = K) : CallR X (.type "tuple") (liftA K tupleD) := by
  subst hK
  intro pins s σ H xs us Q I rel h
  obtain ⟨J, ω, ds, q, w, hx, c, z⟩ := h
  unfold tupleD at z
  split at z
  · cases hx with
    | cons hx h0 =>
    cases h0
    split at z
    · rename_i ys ex
      obtain ⟨a, vs, rfl, ha, ra⟩ := rp_list w hx ex
      exact call_tuple_of pins s σ H _ us Q I rel ⟨a, vs, rfl, .inl ⟨SqL.of ha, fun p hp => c.newT w z ra hp⟩⟩
    · rename_i ys ex
      obtain ⟨a, vs, rfl, ha, ra, rt⟩ := rp_tup w hx ex
      exact call_tuple_of pins s σ H _ us Q I rel ⟨a, vs, rfl, .inr ⟨ha, c.now w z rt⟩⟩
    · exact False.elim z
  · exact False.elim z
theorem dc_sum (hK : X.K = K) (hc : X.calm = true) : CallR X (.builtin "sum") (liftA K sumD) := by
  subst hK
  intro pins s σ H xs us Q I rel h
  obtain ⟨J, ω, ds, q, w, hx, c, x, ns, rfl, ex, z⟩ := h
  cases hx with
  | cons hx h0 =>
  cases h0
  obtain ⟨a, vs, rfl, ha, ra⟩ := rp_list w hx ex
  rw [rpAll_ints ra] at ha
  exact cr_sum hc pins s σ H _ us Q I rel ⟨a, ns, rfl, SqL.of ha, c.now w z (.int _)⟩
theorem dc_all (hK : X.K = K) (hc : X.calm = true) : CallR X (.builtin "all") (liftA K allD) := by
  subst hK
  intro pins s σ H xs us Q I rel h
  obtain ⟨J, ω, ds, q, w, hx, c, x, ns, rfl, ex, z⟩ := h
  cases hx with
  | cons hx h0 =>
  cases h0
  obtain ⟨a, vs, rfl, ha, ra⟩ := rp_list w hx ex
  rw [rpAll_bls ra] at ha
  exact cr_all hc pins s σ H _ us Q I rel ⟨a, ns, rfl, SqL.of ha, c.now w z (.bl _)⟩
theorem dc_any (hK : X.K = K) (hc : X.calm = true) : CallR X (.builtin "any") (liftA K anyD) := by
  subst hK
  intro pins s σ H xs us Q I rel h
  obtain ⟨J, ω, ds, q, w, hx, c, x, ns, rfl, ex, z⟩ := h
  cases hx with
  | cons hx h0 =>
  cases h0
  obtain ⟨a, vs, rfl, ha, ra⟩ := rp_list w hx ex
  rw [rpAll_bls ra] at ha
  exact cr_any hc pins s σ H _ us Q I rel ⟨a, ns, rfl, SqL.of ha, c.now w z (.bl _)⟩
end
end Tx

namespace Tx
open PySem PySem.Spec PyProof.Rows L2
/-! ## Rules over data: expressions -/
def dVar (i : Nat) (ρ : DS) (ω : Wd) (q : DQ) (_ : DXK) : Prop := match ρ[i]? with
  | some (some d) => q d ω
  | _ => False
def dC (d : PyData) (_ : DS) (ω : Wd) (q : DQ) (_ : DXK) : Prop := q d ω
def dOp (rd : RD2) (ta tb : DTE) (ρ : DS) (ω : Wd) (q : DQ) (x : DXK) : Prop := ta ρ ω (fun a ω1 => tb ρ ω1 (fun b ω2 => rd a b ω2 fun r => q r ω2) x) x
def dTest (t : DTE) (ρ : DS) (ω : Wd) (q : Bool → Wd → Prop) (x : DXK) : Prop := t ρ ω (fun r ω1 => match r with
  | .bool b => q b ω1
  | _ => False) x
def dChain (rd rd' : RD2) (ta tb tc : DTE) (ρ : DS) (ω : Wd) (q : DQ) (x : DXK) : Prop := ta ρ ω (fun a ω1 => tb ρ ω1 (fun b ω2 => rd a b ω2 fun r => match r with
  | .bool k => if k = true then tc ρ ω2 (fun c ω3 => rd' b c ω3 fun r' => q r' ω3) x else q (.bool false) ω2
  | _ => False) x) x
def dAnd (t u : DTT) (ρ : DS) (ω : Wd) (q : Bool → Wd → Prop) (x : DXK) : Prop := t ρ ω (fun b ω1 => if b = true then u ρ ω1 q x else q false ω1) x
def dOr (t u : DTT) (ρ : DS) (ω : Wd) (q : Bool → Wd → Prop) (x : DXK) : Prop := t ρ ω (fun b ω1 => if b = true then q true ω1 else u ρ ω1 q x) x
def dNot (t : DTT) (ρ : DS) (ω : Wd) (q : Bool → Wd → Prop) (x : DXK) : Prop := t ρ ω (fun b ω1 => q (!b) ω1) x
def dAndV (ta tb : DTE) (ρ : DS) (ω : Wd) (q : DQ) (x : DXK) : Prop := ta ρ ω (fun a ω1 => match a with
  | .bool b => if b = true then tb ρ ω1 q x else q (.bool false) ω1
  | _ => False) x
def dOrV (ta tb : DTE) (ρ : DS) (ω : Wd) (q : DQ) (x : DXK) : Prop := ta ρ ω (fun a ω1 => match a with
  | .bool b => if b = true then q (.bool true) ω1 else tb ρ ω1 q x
  | _ => False) x
def dNotV (ta : DTE) (ρ : DS) (ω : Wd) (q : DQ) (x : DXK) : Prop := ta ρ ω (fun a ω1 => match a with
  | .bool b => q (.bool (!b)) ω1
  | _ => False) x
def dNeg (ta : DTE) (ρ : DS) (ω : Wd) (q : DQ) (x : DXK) : Prop := ta ρ ω (fun r ω1 => match r with
  | .int i => q (.int (-i)) ω1
  | _ => False) x
def dIf (t : DTT) (ta tb : DTE) (ρ : DS) (ω : Wd) (q : DQ) (x : DXK) : Prop := t ρ ω (fun b ω1 => if b = true then ta ρ ω1 q x else tb ρ ω1 q x) x
def dNil (_ : DS) (ω : Wd) (q : List PyData → Wd → Prop) (_ : DXK) : Prop := q [] ω
def dCons (te : DTE) (ta : DTA) (ρ : DS) (ω : Wd) (q : List PyData → Wd → Prop) (x : DXK) : Prop := te ρ ω (fun a ω1 => ta ρ ω1 (fun as ω2 => q (a :: as) ω2) x) x
def dLst (ta : DTA) (ρ : DS) (ω : Wd) (q : DQ) (x : DXK) : Prop := ta ρ ω (fun as ω1 => as.length ≤ sizeLine ∧ q (.list as) ω1) x
def dTup (ta : DTA) (ρ : DS) (ω : Wd) (q : DQ) (x : DXK) : Prop := ta ρ ω (fun as ω1 => as.length ≤ sizeLine ∧ q (.tuple as) ω1) x
/-- [..], a list of one's own -/
def dLstO (ta : DTA) (ρ : DS) (ω : Wd) (q : DQ) (x : DXK) : Prop := ta ρ ω (fun as ω1 => as.length ≤ sizeLine ∧ ∀ a, ω1 a = none → q (refD a) (updW ω1 a (.lst as))) x
def dCB (rd : RD1) (ta : DTA) (ρ : DS) (ω : Wd) (q : DQ) (x : DXK) : Prop := ta ρ ω (fun as ω1 => rd as ω1 fun r => q r ω1) x
def dSl (te : DTE) (lo hi : Option DTE) (ρ : DS) (ω : Wd) (q : DQ) (x : DXK) : Prop := te ρ ω (fun a ω1 =>
  (match lo with
    | none => fun (k : Option Int → Wd → Prop) => k none ω1
    | some tl => fun k => tl ρ ω1 (fun l ω2 => match l with
      | .int i => k (some i) ω2
      | _ => False) x) fun l ω2 =>
  (match hi with
    | none => fun (k : Option Int → Wd → Prop) => k none ω2
    | some tl => fun k => tl ρ ω2 (fun l ω3 => match l with
      | .int i => k (some i) ω3
      | _ => False) x) fun h ω3 => slD a l h ω3 fun r => q r ω3) x
/-- isinstance(e, T) -/
def dIsi (f : PyData → Bool) (te : DTE) (ρ : DS) (ω : Wd) (q : DQ) (x : DXK) : Prop := te ρ ω (fun a ω1 => (match rsv ω1 a with
  | .dict _ => False
  | _ => True) ∧ q (.bool (f (rsv ω1 a))) ω1) x
section
variable {W : WX} {X : Cx} {K : PySem.W.Frag} {e a b c : Expr} {es : List Expr} {ta tb tc : DTE} {tA : DTA} {pos : Pos}
theorem Sl.var {J : Hp} {σ : L2.St} {ρ : DS} {i : Nat} {q : PyData → Prop} (s : Sl K J σ ρ) (h : match ρ[i]? with
  | some (some d) => q d
  | _ => False) : ∃ v d, σ[i]? = some (some v) ∧ Rp K J v d ∧ q d := by
  split at h
  · rename_i d e
    obtain ⟨v, h1, h2⟩ := s.2 i d e
    exact ⟨v, d, h1, h2, h⟩
  · exact False.elim h
theorem de_pe {t : TE} {td : DTE} (h : PE X e t) (k : ∀ σ H J ω ρ q x Q, Rw K J H ω → Sl K J σ ρ → CovQ K J H ω q Q → CovX K J H ω x (fun c d H => W c d σ H) → td ρ ω q x → t σ H Q) : DE W X K e td := ⟨_, h, k⟩
theorem de_var {i : Nat} (h : PE X e (tVar i)) : DE W X K e (dVar i) := ⟨_, h, fun σ H J ω ρ q x Q w s cq cx z => by
  obtain ⟨v, d, h1, h2, z⟩ := s.var (q := fun d => q d ω) z
  exact ⟨v, h1, cq.now w z h2⟩⟩
theorem de_c {v : V} {d : PyData} (h : PE X e (tC v)) (r : ∀ J, Rp K J v d) : DE W X K e (dC d) := ⟨_, h, fun σ H J ω ρ q x Q w s cq cx z => cq.now w z (r J)⟩
theorem de_non : DE W X K (.Constant .none j pos) (dC .none) := de_c pe_non fun _ => .non
theorem de_bl {bb : Bool} : DE W X K (.Constant (.bool bb) j pos) (dC (.bool bb)) := de_c pe_bl fun _ => .bl _
theorem de_int {i : Int} : DE W X K (.Constant (.int i) j pos) (dC (.int i)) := de_c pe_int fun _ => .int _
theorem de_str {z : Str} : DE W X K (.Constant (.str z) j pos) (dC (.str z)) := de_c pe_str fun _ => .str _
/-- two operands -/
theorem dOp_run {ra : TE} {rb : TE} {rd : RD2} {σ : L2.St} {H J : Hp} {ω : Wd} {ρ : DS} {q : DQ} {x : DXK} {Q : VK}
    (ka : ∀ σ H J ω ρ q x Q, Rw K J H ω → Sl K J σ ρ → CovQ K J H ω q Q → CovX K J H ω x (fun c d H => W c d σ H) → ta ρ ω q x → ra σ H Q) (kb : ∀ σ H J ω ρ q x Q, Rw K J H ω → Sl K J σ ρ → CovQ K J H ω q Q → CovX K J H ω x (fun c d H => W c d σ H) → tb ρ ω q x → rb σ H Q)
    (w : Rw K J H ω) (s : Sl K J σ ρ) (cq : CovQ K J H ω q Q) (cx : CovX K J H ω x (fun c d H => W c d σ H)) (z : dOp rd ta tb ρ ω q x) : tOp (lift2 K rd) ra rb σ H Q := by
  refine ka σ H J ω ρ _ x _ w s (fun a ω1 v J1 H1 z1 g1 w1 ra => ?_) cx z
  refine kb σ H1 J1 ω1 ρ _ x _ w1 (s.mono g1.jj) (fun b ω2 u J2 H2 z2 g2 w2 rb => ?_) (cx.step g1) z1
  exact ⟨J2, ω2, a, b, q, w2, rp_mono g2.jj _ _ ra, rb, (cq.step g1).step g2, z2⟩
theorem de_op {op : Operator} {rd : RD2} (ho : OpR X (binaryOp op) (lift2 K rd)) (ha : DE W X K a ta) (hb : DE W X K b tb) : DE W X K (.BinOp a op b pos) (dOp rd ta tb) := by
  obtain ⟨ra, pa, ka⟩ := ha
  obtain ⟨rb, pb, kb⟩ := hb
  exact ⟨_, pe_op ho pa pb, fun σ H J ω ρ q x Q w s cq cx z => dOp_run ka kb w s cq cx z⟩
theorem de_cmp {op : CmpOp} {rd : RD2} (ho : OpR X (compareOp op) (lift2 K rd)) (ha : DE W X K a ta) (hb : DE W X K b tb) (hm : behindInMarks op b = false) : DE W X K (.Compare a [op] [b] pos) (dOp rd ta tb) := by
  obtain ⟨ra, pa, ka⟩ := ha
  obtain ⟨rb, pb, kb⟩ := hb
  exact ⟨_, pe_cmpR ho pa pb hm, fun σ H J ω ρ q x Q w s cq cx z => dOp_run ka kb w s cq cx z⟩
theorem de_ix (hK : X.K = K) (ha : DE W X K a ta) (hb : DE W X K b tb) (hs : PlainIx b) : DE W X K (.Subscript a b pos) (dOp ixD ta tb) := by
  obtain ⟨ra, pa, ka⟩ := ha
  obtain ⟨rb, pb, kb⟩ := hb
  exact ⟨_, pe_ix (do_ix hK) pa pb hs, fun σ H J ω ρ q x Q w s cq cx z => dOp_run ka kb w s cq cx z⟩
theorem covT_test {J H : Hp} {ω : Wd} {q : Bool → Wd → Prop} {Q : Bool → Hp → Prop} (c : CovT K J H ω q Q) : CovQ K J H ω (fun r ω1 => match r with
  | .bool b => q b ω1
  | _ => False) (fun v H => ∃ k, v = .bl k ∧ Q k H) := by
  intro r ω' v J' H' z g w rp
  split at z
  · cases rp; exact ⟨_, rfl, c _ _ _ _ z g w⟩
  · exact False.elim z
theorem dt_cmp {op : CmpOp} {rd : RD2} (ho : OpR X (compareOp op) (lift2 K rd)) (ha : DE W X K a ta) (hb : DE W X K b tb) (hm : behindInMarks op b = false) : DT W X K (.Compare a [op] [b] pos) (dTest (dOp rd ta tb)) := by
  obtain ⟨ra, pa, ka⟩ := ha
  obtain ⟨rb, pb, kb⟩ := hb
  exact ⟨_, pt_cmpR ho pa pb hm, fun σ H J ω ρ q x Q w s cq cx z => dOp_run ka kb w s (covT_test cq) cx z⟩
theorem dt_val (ha : DE W X K a ta) (he : ∀ whole, isTrue a X.env whole = (do let v ← whole; standAt a.pos; holding [v] (truthy v)) := by intro _; rfl) : DT W X K a (dTest ta) := by
  obtain ⟨ra, pa, ka⟩ := ha
  exact ⟨_, pt_val pa he, fun σ H J ω ρ q x Q w s cq cx z => ka σ H J ω ρ _ x _ w s (covT_test cq) cx z⟩
theorem dChain_run {ra rb rc : TE} {rd rd' : RD2} {σ : L2.St} {H J : Hp} {ω : Wd} {ρ : DS} {q : DQ} {x : DXK} {Q : VK}
    (ka : ∀ σ H J ω ρ q x Q, Rw K J H ω → Sl K J σ ρ → CovQ K J H ω q Q → CovX K J H ω x (fun c d H => W c d σ H) → ta ρ ω q x → ra σ H Q) (kb : ∀ σ H J ω ρ q x Q, Rw K J H ω → Sl K J σ ρ → CovQ K J H ω q Q → CovX K J H ω x (fun c d H => W c d σ H) → tb ρ ω q x → rb σ H Q)
    (kc : ∀ σ H J ω ρ q x Q, Rw K J H ω → Sl K J σ ρ → CovQ K J H ω q Q → CovX K J H ω x (fun c d H => W c d σ H) → tc ρ ω q x → rc σ H Q)
    (w : Rw K J H ω) (s : Sl K J σ ρ) (cq : CovQ K J H ω q Q) (cx : CovX K J H ω x (fun c d H => W c d σ H)) (z : dChain rd rd' ta tb tc ρ ω q x) : tChain (lift2 K rd) (lift2 K rd') ra rb rc σ H Q := by
  refine ka σ H J ω ρ _ x _ w s (fun a ω1 v J1 H1 z1 g1 w1 ra => ?_) cx z
  refine kb σ H1 J1 ω1 ρ _ x _ w1 (s.mono g1.jj) (fun b ω2 u J2 H2 z2 g2 w2 rb => ?_) (cx.step g1) z1
  have cq2 := (cq.step g1).step g2
  refine ⟨J2, ω2, a, b, fun r ω' => ω' = ω2 ∧ (match r with
    | .bool k => if k = true then tc ρ ω2 (fun c ω3 => rd' b c ω3 fun r' => q r' ω3) x else q (.bool false) ω2
    | _ => False), w2, rp_mono g2.jj _ _ ra, rb, fun r ω' v3 J3 H3 z3 g3 w3 r3 => ?_, ?_⟩
  · obtain ⟨rfl, z3⟩ := z3
    split at z3
    · cases r3
      rename_i k
      refine ⟨k, rfl, ?_⟩
      cases k with
      | true =>
        refine iteT (kc σ H3 J3 ω' ρ _ x _ w3 ((s.mono g1.jj).mono (g2.jj.trans g3.jj)) (fun cc ω4 u4 J4 H4 z4 g4 w4 r4 => ?_) (((cx.step g1).step g2).step g3) (by simpa using z3))
        exact ⟨J4, ω4, b, cc, q, w4, rp_mono (g3.jj.trans g4.jj) _ _ rb, r4, (cq2.step g3).step g4, z4⟩
      | false => exact iteF (cq2 _ _ _ _ _ (by simpa using z3) g3 w3 (.bl _))
    · exact False.elim z3
  · have : (fun r => (fun (r : PyData) (ω' : Wd) => ω' = ω2 ∧ (match r with
      | .bool k => if k = true then tc ρ ω2 (fun c ω3 => rd' b c ω3 fun r' => q r' ω3) x else q (.bool false) ω2
      | _ => False)) r ω2) = fun (r : PyData) => (match r with
      | .bool k => if k = true then tc ρ ω2 (fun c ω3 => rd' b c ω3 fun r' => q r' ω3) x else q (.bool false) ω2
      | _ => False) := by
      funext r
      exact propext ⟨fun h => h.2, fun h => ⟨rfl, h⟩⟩
    rw [this]
    exact z2
theorem de_chain {op op' : CmpOp} {rd rd' : RD2} (ho : OpR X (compareOp op) (lift2 K rd)) (ho' : OpR X (compareOp op') (lift2 K rd')) (ha : DE W X K a ta) (hb : DE W X K b tb) (hc : DE W X K c tc) (hm : lastMarks [op, op'] [b, c] = false := by with_unfolding_all rfl) :
    DE W X K (.Compare a [op, op'] [b, c] pos) (dChain rd rd' ta tb tc) := by
  obtain ⟨ra, pa, ka⟩ := ha
  obtain ⟨rb, pb, kb⟩ := hb
  obtain ⟨rc, pc, kc⟩ := hc
  exact ⟨_, pe_chain ho ho' pa pb pc hm, fun σ H J ω ρ q x Q w s cq cx z => dChain_run ka kb kc w s cq cx z⟩
theorem dt_chain {op op' : CmpOp} {rd rd' : RD2} (ho : OpR X (compareOp op) (lift2 K rd)) (ho' : OpR X (compareOp op') (lift2 K rd')) (ha : DE W X K a ta) (hb : DE W X K b tb) (hc : DE W X K c tc) (hm : lastMarks [op, op'] [b, c] = false := by with_unfolding_all rfl) :
    DT W X K (.Compare a [op, op'] [b, c] pos) (dTest (dChain rd rd' ta tb tc)) := by
  obtain ⟨ra, pa, ka⟩ := ha
  obtain ⟨rb, pb, kb⟩ := hb
  obtain ⟨rc, pc, kc⟩ := hc
  exact ⟨_, pt_chain ho ho' pa pb pc hm, fun σ H J ω ρ q x Q w s cq cx z => dChain_run ka kb kc w s (covT_test cq) cx z⟩
theorem de_one {op} (h : DE W X K a ta) : DE W X K (.BoolOp op [a] pos) ta := by
  obtain ⟨ra, pa, ka⟩ := h
  exact ⟨_, pe_one pa, ka⟩
theorem de_and {rest : List Expr} (ha : DE W X K a ta) (hb : DE W X K (.BoolOp .And (b :: rest) pos) tb) : DE W X K (.BoolOp .And (a :: b :: rest) pos) (dAndV ta tb) := by
  obtain ⟨ra, pa, ka⟩ := ha
  obtain ⟨rb, pb, kb⟩ := hb
  refine ⟨_, pe_and pa pb, fun σ H J ω ρ q x Q w s cq cx z => ka σ H J ω ρ _ x _ w s (fun r ω1 v J1 H1 z1 g1 w1 rp => ?_) cx z⟩
  split at z1
  · cases rp
    rename_i bb
    refine ⟨bb, rfl, ?_⟩
    cases bb with
    | true => exact iteT (kb σ H1 J1 ω1 ρ q x Q w1 (s.mono g1.jj) (cq.step g1) (cx.step g1) (by simpa using z1))
    | false => exact iteF ((cq.step g1).now w1 (by simpa using z1) (.bl _))
  · exact False.elim z1
theorem de_or {rest : List Expr} (ha : DE W X K a ta) (hb : DE W X K (.BoolOp .Or (b :: rest) pos) tb) : DE W X K (.BoolOp .Or (a :: b :: rest) pos) (dOrV ta tb) := by
  obtain ⟨ra, pa, ka⟩ := ha
  obtain ⟨rb, pb, kb⟩ := hb
  refine ⟨_, pe_or pa pb, fun σ H J ω ρ q x Q w s cq cx z => ka σ H J ω ρ _ x _ w s (fun r ω1 v J1 H1 z1 g1 w1 rp => ?_) cx z⟩
  split at z1
  · cases rp
    rename_i bb
    refine ⟨bb, rfl, ?_⟩
    cases bb with
    | false => exact iteF (kb σ H1 J1 ω1 ρ q x Q w1 (s.mono g1.jj) (cq.step g1) (cx.step g1) (by simpa using z1))
    | true => exact iteT ((cq.step g1).now w1 (by simpa using z1) (.bl _))
  · exact False.elim z1
theorem de_not (ha : DE W X K a ta) : DE W X K (.UnaryOp .Not a pos) (dNotV ta) := by
  obtain ⟨ra, pa, ka⟩ := ha
  refine ⟨_, pe_not pa, fun σ H J ω ρ q x Q w s cq cx z => ka σ H J ω ρ _ x _ w s (fun r ω1 v J1 H1 z1 g1 w1 rp => ?_) cx z⟩
  split at z1
  · cases rp
    exact ⟨_, rfl, (cq.step g1).now w1 z1 (.bl _)⟩
  · exact False.elim z1
theorem de_neg (ha : DE W X K a ta) : DE W X K (.UnaryOp .USub a pos) (dNeg ta) := by
  obtain ⟨ra, pa, ka⟩ := ha
  refine ⟨_, pe_un un_neg pa, fun σ H J ω ρ q x Q w s cq cx z => ka σ H J ω ρ _ x _ w s (fun r ω1 v J1 H1 z1 g1 w1 rp => ?_) cx z⟩
  split at z1
  · cases rp
    exact ⟨_, rfl, (cq.step g1).now w1 z1 (.int _)⟩
  · exact False.elim z1
variable {sa sb : DTT}
theorem dw_and1 (h : DT W X K a sa) : DW W X K (.BoolOp .And [a] pos) sa := by
  obtain ⟨ra, pa, ka⟩ := h
  exact ⟨_, pw_and1 pa, ka⟩
theorem dw_or1 (h : DT W X K a sa) : DW W X K (.BoolOp .Or [a] pos) sa := by
  obtain ⟨ra, pa, ka⟩ := h
  exact ⟨_, pw_or1 pa, ka⟩
theorem dw_and {rest : List Expr} (ha : DT W X K a sa) (hb : DW W X K (.BoolOp .And (b :: rest) pos) sb) : DW W X K (.BoolOp .And (a :: b :: rest) pos) (dAnd sa sb) := by
  obtain ⟨ra, pa, ka⟩ := ha
  obtain ⟨rb, pb, kb⟩ := hb
  refine ⟨_, pw_and pa pb, fun σ H J ω ρ q x Q w s cq cx z => ka σ H J ω ρ _ x _ w s (fun bb ω1 J1 H1 z1 g1 w1 => ?_) cx z⟩
  cases bb with
  | true => exact iteT (kb σ H1 J1 ω1 ρ q x Q w1 (s.mono g1.jj) (cq.step g1) (cx.step g1) (by simpa using z1))
  | false => exact iteF (cq _ _ _ _ (by simpa using z1) g1 w1)
theorem dw_or {rest : List Expr} (ha : DT W X K a sa) (hb : DW W X K (.BoolOp .Or (b :: rest) pos) sb) : DW W X K (.BoolOp .Or (a :: b :: rest) pos) (dOr sa sb) := by
  obtain ⟨ra, pa, ka⟩ := ha
  obtain ⟨rb, pb, kb⟩ := hb
  refine ⟨_, pw_or pa pb, fun σ H J ω ρ q x Q w s cq cx z => ka σ H J ω ρ _ x _ w s (fun bb ω1 J1 H1 z1 g1 w1 => ?_) cx z⟩
  cases bb with
  | false => exact iteF (kb σ H1 J1 ω1 ρ q x Q w1 (s.mono g1.jj) (cq.step g1) (cx.step g1) (by simpa using z1))
  | true => exact iteT (cq _ _ _ _ (by simpa using z1) g1 w1)
theorem DW.dt (h : DW W X K a sa) : DT W X K a sa := by
  obtain ⟨ra, pa, ka⟩ := h
  exact ⟨_, pa.pt, ka⟩
theorem dt_not (h : DT W X K a sa) : DT W X K (.UnaryOp .Not a pos) (dNot sa) := by
  obtain ⟨ra, pa, ka⟩ := h
  exact ⟨_, pt_not pa, fun σ H J ω ρ q x Q w s cq cx z => ka σ H J ω ρ _ x _ w s (fun bb ω1 J1 H1 z1 g1 w1 => cq _ _ _ _ z1 g1 w1) cx z⟩
theorem de_if (hc : DT W X K c sa) (ha : DE W X K a ta) (hb : DE W X K b tb) : DE W X K (.IfExp c a b pos) (dIf sa ta tb) := by
  obtain ⟨rc, pc, kc⟩ := hc
  obtain ⟨ra, pa, ka⟩ := ha
  obtain ⟨rb, pb, kb⟩ := hb
  refine ⟨_, pe_ifExp pc pa pb, fun σ H J ω ρ q x Q w s cq cx z => kc σ H J ω ρ _ x _ w s (fun bb ω1 J1 H1 z1 g1 w1 => ?_) cx z⟩
  cases bb with
  | true => exact iteT (ka σ H1 J1 ω1 ρ q x Q w1 (s.mono g1.jj) (cq.step g1) (cx.step g1) (by simpa using z1))
  | false => exact iteF (kb σ H1 J1 ω1 ρ q x Q w1 (s.mono g1.jj) (cq.step g1) (cx.step g1) (by simpa using z1))
theorem da_nil : DAs W X K [] dNil := ⟨_, pa_nil, fun σ H J ω ρ q x Q w s cq cx z => cq _ _ _ _ _ z Grow.refl w .nil⟩
theorem da_cons (he : DE W X K e ta) (ha : DAs W X K es tA) (hs : starEach (e :: es) X.env = (false, eval e X.env) :: starEach es X.env := by rfl) : DAs W X K (e :: es) (dCons ta tA) := by
  obtain ⟨re, pe, ke⟩ := he
  obtain ⟨ra, pa, ka⟩ := ha
  refine ⟨_, pa_cons pe pa hs, fun σ H J ω ρ q x Q w s cq cx z => ke σ H J ω ρ _ x _ w s (fun r ω1 v J1 H1 z1 g1 w1 rp => ?_) cx z⟩
  refine ka σ H1 J1 ω1 ρ _ x _ w1 (s.mono g1.jj) (fun rs ω2 vs J2 H2 z2 g2 w2 rps => ?_) (cx.step g1) z1
  exact cq _ _ _ _ _ z2 (g1.trans g2) w2 (.cons (rp_mono g2.jj _ _ rp) rps)
theorem de_lst (ha : DAs W X K es tA) : DE W X K (.List es pos) (dLst tA) := by
  obtain ⟨ra, pa, ka⟩ := ha
  refine ⟨_, pe_lst pa, fun σ H J ω ρ q x Q w s cq cx z => ka σ H J ω ρ _ x _ w s (fun rs ω1 vs J1 H1 z1 g1 w1 rps => ?_) cx z⟩
  exact ⟨by rw [rps.length]; exact z1.1, fun p hp => (cq.step g1).newL w1 z1.2 rps hp⟩
theorem de_lstO (ha : DAs W X K es tA) : DE W X K (.List es pos) (dLstO tA) := by
  obtain ⟨ra, pa, ka⟩ := ha
  refine ⟨_, pe_lst pa, fun σ H J ω ρ q x Q w s cq cx z => ka σ H J ω ρ _ x _ w s (fun rs ω1 vs J1 H1 z1 g1 w1 rps => ?_) cx z⟩
  exact ⟨by rw [rps.length]; exact z1.1, fun p hp => cq _ _ _ _ _ (z1.2 p (w1.free hp).1) (g1.trans (Grow.own rfl hp _)) (w1.own rfl hp ⟨vs, upd_same, rps⟩) (.ref p)⟩
theorem de_tup {x1} (ha : DAs W X K es tA) : DE W X K (.Tuple es x1 pos) (dTup tA) := by
  obtain ⟨ra, pa, ka⟩ := ha
  refine ⟨_, pe_tup pa, fun σ H J ω ρ q x Q w s cq cx z => ka σ H J ω ρ _ x _ w s (fun rs ω1 vs J1 H1 z1 g1 w1 rps => ?_) cx z⟩
  exact ⟨by rw [rps.length]; exact z1.1, fun p hp => (cq.step g1).newT w1 z1.2 rps hp⟩
theorem de_callB {x : Str} {id : String} {rd : RD1} {p : Pos} (hc : CallR X (.builtin id) (liftA K rd)) (hg : Gl X x) (hm : X.mg x = none) (hv : bootBuiltins x = some (.builtin id)) (ha : DAs W X K (e :: es) tA) (hn : x ≠ "__name__" := by decide) (hdb : (x == ("__debug__" : Str)) = false := by decide)
    (he : starEach (e :: es) X.env = (false, eval e X.env) :: starEach es X.env := by rfl) (hpl : (backTo pos (starEach es X.env)).any (·.1) = false := by rfl) : DE W X K (.Call (.Name x p) (e :: es) [] pos) (dCB rd tA) := by
  obtain ⟨ra, pa, ka⟩ := ha
  exact ⟨_, pe_callB hc hg hm hv pa hn hdb he hpl, fun σ H J ω ρ q x Q w s cq cx z => ka σ H J ω ρ _ x _ w s (fun rs ω1 vs J1 H1 z1 g1 w1 rps => ⟨J1, ω1, rs, q, w1, rps, cq.step g1, z1⟩) cx z⟩
theorem de_callTy {x : Str} {T : String} {rd : RD1} {p : Pos} (hc : CallR X (.type T) (liftA K rd)) (hg : Gl X x) (hm : X.mg x = none) (hv : bootBuiltins x = some (.type T)) (ha : DAs W X K (e :: es) tA) (hn : x ≠ "__name__" := by decide) (hdb : (x == ("__debug__" : Str)) = false := by decide)
    (he : starEach (e :: es) X.env = (false, eval e X.env) :: starEach es X.env := by rfl) (hpl : (backTo pos (starEach es X.env)).any (·.1) = false := by rfl) : DE W X K (.Call (.Name x p) (e :: es) [] pos) (dCB rd tA) := by
  obtain ⟨ra, pa, ka⟩ := ha
  exact ⟨_, pe_callTy hc hg hm hv pa hn hdb he hpl, fun σ H J ω ρ q x Q w s cq cx z => ka σ H J ω ρ _ x _ w s (fun rs ω1 vs J1 H1 z1 g1 w1 rps => ⟨J1, ω1, rs, q, w1, rps, cq.step g1, z1⟩) cx z⟩
theorem tyx_rp {J H : Hp} {ω : Wd} {v : V} {d : PyData} (w : Rw K J H ω) (h : Rp K J v d) (nd : match rsv ω d with
  | .dict _ => False
  | _ => True) : TyX K H v (.type (tyN (rsv ω d))) := by
  cases e : rsv ω d with
  | dict _ => rw [e] at nd; exact False.elim nd
  | list xs => obtain ⟨a, vs, rfl, ha, _⟩ := rp_list w h e; exact .base (.lst ha)
  | tuple xs =>
    obtain ⟨a, vs, rfl, ha, _⟩ := rp_tup w h e
    rcases ha with (h | ⟨o, h⟩) | ⟨o, its, n, h, hc, _⟩
    · exact .base (.tup h)
    · exact .fTuple h
    · exact .kTuple h hc
  | none => rw [(rp_flat h).2.2.2 e]; exact .base .non
  | bool b => rw [(rp_flat h).2.2.1 b e]; exact .base (.bl b)
  | int i => rw [(rp_flat h).2.1 i e]; exact .base (.int i)
  | str z => rw [(rp_flat h).1 z e]; exact .base (.str z)
theorem de_isi {T : String} {f : PyData → Bool} {t : Expr} {p : Pos} (hK : X.K = K) (hk : ∀ d, kitB (tyN d) T = some (f d)) (hg : Gl X "isinstance") (hm : X.mg "isinstance" = none) (ha : DE W X K a ta) (ht : PE X t (tC (.ty T)))
    (he : starEach (a :: [t]) X.env = (false, eval a X.env) :: starEach [t] X.env := by rfl) (he2 : starEach [t] X.env = (false, eval t X.env) :: starEach [] X.env := by rfl) (hpl : (backTo pos (starEach [t] X.env)).any (·.1) = false := by rfl) :
    DE W X K (.Call (.Name "isinstance" p) [a, t] [] pos) (dIsi f ta) := by
  subst hK
  obtain ⟨ra, pa, ka⟩ := ha
  refine ⟨_, pe_callB call_isi hg hm (by decide +kernel) (pa_cons pa (pa_cons ht pa_nil he2) he) (by decide) (by decide) he hpl, fun σ H J ω ρ q x Q w s cq cx z => ka σ H J ω ρ _ x _ w s (fun r ω1 v J1 H1 z1 g1 w1 rp => ?_) cx z⟩
  exact ⟨v, .ty T, .type (tyN (rsv ω1 r)), .type T, _, rfl, .ty T, tyx_rp w1 rp z1.1, kit_ty (hk _), (cq.step g1).now w1 z1.2 (.bl _)⟩
/-! ### slices -/
structure DO (W : WX) (X : Cx) (K : PySem.W.Frag) (e : Option Expr) (td : Option DTE) : Prop where
  ex : ∃ t : TO, PO X e t ∧ ∀ σ H J ω ρ (k : Option Int → Wd → Prop) x (Q : Option Int → Hp → Prop), Rw K J H ω → Sl K J σ ρ → (∀ l ω' J' H', k l ω' → Grow J H ω J' H' ω' → Rw K J' H' ω' → Q l H') → CovX K J H ω x (fun c d H => W c d σ H) →
    (match td with
      | none => fun (k : Option Int → Wd → Prop) => k none ω
      | some tl => fun k => tl ρ ω (fun l ω2 => match l with
        | .int i => k (some i) ω2
        | _ => False) x) k → t σ H Q
theorem do_none : DO W X K none none := ⟨_, po_none, fun σ H J ω ρ k x Q w s c cx z => c _ _ _ _ z Grow.refl w⟩
theorem do_some (h : DE W X K a ta) : DO W X K (some a) (some ta) := by
  obtain ⟨ra, pa, ka⟩ := h
  refine ⟨_, po_some pa, fun σ H J ω ρ k x Q w s c cx z => ka σ H J ω ρ _ x _ w s (fun r ω1 v J1 H1 z1 g1 w1 rp => ?_) cx z⟩
  split at z1
  · cases rp; exact ⟨_, rfl, c _ _ _ _ z1 g1 w1⟩
  · exact False.elim z1
theorem de_sl {lo hi : Option Expr} {tl th : Option DTE} {p2 : Pos} (hK : X.K = K) (h : DE W X K a ta) (hl : DO W X K lo tl) (hh : DO W X K hi th) : DE W X K (.Subscript a (.Slice lo hi none p2) pos) (dSl ta tl th) := by
  obtain ⟨ra, pa, ka⟩ := h
  obtain ⟨rl, pl, kl⟩ := hl
  obtain ⟨rh, ph, kh⟩ := hh
  refine ⟨_, pe_slice (do_sl hK) pa pl ph, fun σ H J ω ρ q x Q w s cq cx z => ka σ H J ω ρ _ x _ w s (fun r ω1 v J1 H1 z1 g1 w1 rp => ?_) cx z⟩
  refine kl σ H1 J1 ω1 ρ _ x _ w1 (s.mono g1.jj) (fun l ω2 J2 H2 z2 g2 w2 => ?_) (cx.step g1) z1
  refine kh σ H2 J2 ω2 ρ _ x _ w2 ((s.mono g1.jj).mono g2.jj) (fun l ω3 J3 H3 z3 g3 w3 => ?_) ((cx.step g1).step g2) z2
  exact ⟨J3, ω3, r, q, w3, rp_mono (g2.jj.trans g3.jj) _ _ rp, ((cq.step g1).step g2).step g3, z3⟩
end
end Tx

namespace Tx
open PySem PySem.Spec PyProof.Rows L2
/-! ## Rules over data: targets, what is walked, comprehensions -/
/-- the reading of the kit that a reading over data stands for -/
def liftE (K : PySem.W.Frag) (W : WX) (td : DTE) : TE := fun σ H Q => ∃ J ω ρ q x, Rw K J H ω ∧ Sl K J σ ρ ∧ CovQ K J H ω q Q ∧ CovX K J H ω x (fun c d H => W c d σ H) ∧ td ρ ω q x
def liftT (K : PySem.W.Frag) (W : WX) (td : DTT) : TT := fun σ H Q => ∃ J ω ρ q x, Rw K J H ω ∧ Sl K J σ ρ ∧ CovT K J H ω q Q ∧ CovX K J H ω x (fun c d H => W c d σ H) ∧ td ρ ω q x
theorem DE.pe {W : WX} {X : Cx} {K : PySem.W.Frag} {e : Expr} {td : DTE} (h : DE W X K e td) : PE X e (liftE K W td) := by
  obtain ⟨t, p, k⟩ := h
  exact ⟨fun pins s σ H Q I ⟨J, ω, ρ, q, x, w, sl, cq, cx, z⟩ => p.run pins s σ H Q I (k σ H J ω ρ q x Q w sl cq cx z)⟩
theorem DT.pt {W : WX} {X : Cx} {K : PySem.W.Frag} {e : Expr} {td : DTT} (h : DT W X K e td) : PT X e (liftT K W td) := by
  obtain ⟨t, p, k⟩ := h
  exact ⟨fun pins s σ H Q I ⟨J, ω, ρ, q, x, w, sl, cq, cx, z⟩ => p.run pins s σ H Q I (k σ H J ω ρ q x Q w sl cq cx z)⟩
/-! ### targets -/
abbrev DTG := PyData → DS → (DS → Prop) → Prop
abbrev DTGs := List PyData → DS → (DS → Prop) → Prop
def liftG (K : PySem.W.Frag) (is : List Nat) (gd : DTG) : TG := fun v σ H Q => ∃ J ω ρ d k, Rw K J H ω ∧ Sl K J σ ρ ∧ Rp K J v d ∧ (∀ ρ' σ', k ρ' → Sl K J σ' ρ' → (∀ vs, (∀ i ∈ is, i ∈ vs) → wipe σ' vs = wipe σ vs) → Q σ' H) ∧ gd d ρ k
def liftGs (K : PySem.W.Frag) (is : List Nat) (gd : DTGs) : TGs := fun vs σ H Q => ∃ J ω ρ ds k, Rw K J H ω ∧ Sl K J σ ρ ∧ RpAll K J vs ds ∧ (∀ ρ' σ', k ρ' → Sl K J σ' ρ' → (∀ vs, (∀ i ∈ is, i ∈ vs) → wipe σ' vs = wipe σ vs) → Q σ' H) ∧ gd ds ρ k
def DG (X : Cx) (K : PySem.W.Frag) (tg : Expr) (is : List Nat) (gd : DTG) : Prop := PG X tg (liftG K is gd)
def DGs (X : Cx) (K : PySem.W.Frag) (tg : List Expr) (is : List Nat) (gd : DTGs) : Prop := PGs X tg (liftGs K is gd)
def dgName (i : Nat) (d : PyData) (ρ : DS) (k : DS → Prop) : Prop := k (ρ.set i (some d))
def dgNil (ds : List PyData) (ρ : DS) (k : DS → Prop) : Prop := ds = [] ∧ k ρ
def dgCons (g : DTG) (gs : DTGs) (ds : List PyData) (ρ : DS) (k : DS → Prop) : Prop := match ds with
  | d :: r => g d ρ fun ρ' => gs r ρ' k
  | [] => False
def dgTup (n : Nat) (gs : DTGs) (d : PyData) (ρ : DS) (k : DS → Prop) : Prop := match d with
  | .tuple ds => ds.length = n ∧ gs ds ρ k
  | _ => False
section
variable {X : Cx} {K : PySem.W.Frag} {tg : Expr} {es : List Expr} {is js : List Nat} {gd : DTG} {gs : DTGs}
theorem pg_weak {t t' : TG} (h : PG X tg t) (k : ∀ v σ H Q, t' v σ H Q → t v σ H Q) : PG X tg t' := ⟨fun pins s σ H x v Q I r z => h.run pins s σ H x v Q I r (k _ _ _ _ z)⟩
theorem pgs_weak {t t' : TGs} (h : PGs X es t) (k : ∀ v σ H Q, t' v σ H Q → t v σ H Q) : PGs X es t' := ⟨fun pins s σ H xs us Q I r z => h.run pins s σ H xs us Q I r (k _ _ _ _ z)⟩
theorem dg_name {i : Nat} (h : PG X tg (gName i)) : DG X K tg [i] (dgName i) := pg_weak h fun v σ H Q ⟨J, ω, ρ, d, k, w, s, r, c, z⟩ => c _ _ z (s.set i r) fun vs hv => wipe_set (hv i (by simp))
theorem dgs_nil : DGs X K [] [] dgNil := pgs_weak pgs_nil fun v σ H Q ⟨J, ω, ρ, ds, k, w, s, r, c, z⟩ => by
  obtain ⟨rfl, z⟩ := z
  cases r
  exact ⟨rfl, c _ _ z s fun _ _ => rfl⟩
theorem dgs_cons (h : DG X K tg is gd) (hs : DGs X K es js gs) (hm : (assignEach (tg :: es) X.env).map (·.2) = assign tg X.env :: (assignEach es X.env).map (·.2) := by rfl) : DGs X K (tg :: es) (is ++ js) (dgCons gd gs) := pgs_weak (pgs_cons h hs hm) fun v σ H Q ⟨J, ω, ρ, ds, k, w, s, r, c, z⟩ => by
  cases r with
  | nil => exact False.elim z
  | @cons v vs d ds r1 r2 =>
    refine ⟨v, vs, rfl, J, ω, ρ, d, _, w, s, r1, fun ρ' σ' z' s' e1 => ?_, z⟩
    exact ⟨J, ω, ρ', ds, k, w, s', r2, fun ρ'' σ'' z'' s'' e2 => c _ _ z'' s'' fun us hu => (e2 us fun i hi => hu i (List.mem_append.mpr (.inr hi))).trans (e1 us fun i hi => hu i (List.mem_append.mpr (.inl hi))), z'⟩
theorem dg_tup {k n : Nat} {pos : Pos} (hK : X.K = K) (hc : X.calm = true) (h : DGs X K es is gs) (hn : (assignEach es X.env).length = n := by rfl) (hst : (assignEach es X.env).findIdx? (·.1) = none := by rfl) : DG X K (.Tuple es k pos) is (dgTup n gs) := by
  subst hK
  refine pg_weak (pg_tup hc h hn hst) fun v σ H Q ⟨J, ω, ρ, d, k, w, s, r, c, z⟩ => ?_
  unfold dgTup at z
  split at z
  · cases r with
    | tup hs ha => exact ⟨_, _, rfl, Same.sqT w.jh hs, by rw [ha.length]; exact z.1, J, ω, ρ, _, k, w, s, ha, c, z.2⟩
  · exact False.elim z
end
/-! ### what is walked -/
abbrev DTI := DS → Wd → (List PyData → Wd → Prop) → DXK → Prop
def WalkD (K : PySem.W.Frag) (J : Hp) (I : It) (xs : List PyData) : Prop := ∃ G Y, Walk I xs.length G Y ∧ (∀ J' H', Same J J' → Same J' H' → G H') ∧
  ∀ i H v H', i < xs.length → Y i H v H' → (H' = H ∧ ∃ d, xs[i]? = some d ∧ Rp K J v d) ∨ ∃ T us ds, v = .ref T ∧ H T = none ∧ H' = upd H T (.tup us) ∧ RpAll K J us ds ∧ xs[i]? = some (.tuple ds)
structure DI (W : WX) (X : Cx) (K : PySem.W.Frag) (tg iter : Expr) (di : DTI) : Prop where
  ex : ∃ wi : TI, PI X tg iter wi ∧ ∀ σ H J ω ρ (k : List PyData → Wd → Prop) x (R : It → Hp → Prop), Rw K J H ω → Sl K J σ ρ → (∀ xs ω1 J1 H1 I, k xs ω1 → Grow J H ω J1 H1 ω1 → Rw K J1 H1 ω1 → WalkD K J1 I xs → R I H1) →
    CovX K J H ω x (fun c d H => W c d σ H) → di ρ ω k x → wi σ H R
/-- a walk over data: a list, a tuple, a text -/
def itemsD : PyData → Option (List PyData)
  | .list xs => some xs
  | .tuple xs => some xs
  | .str z => some (z.cps.toList.map fun c => .str ⟨#[c]⟩)
  | _ => none
def diData (te : DTE) (ρ : DS) (ω : Wd) (k : List PyData → Wd → Prop) (x : DXK) : Prop := te ρ ω (fun r ω1 => ∃ xs, itemsD r = some xs ∧ k xs ω1) x
def diRange1 (ta : DTA) (ρ : DS) (ω : Wd) (k : List PyData → Wd → Prop) (x : DXK) : Prop := ta ρ ω (fun rs ω1 => match rs with
  | [.int n] => -(2 ^ 62) ≤ n ∧ n < 2 ^ 62 ∧ k ((List.range n.toNat).map fun i => .int ((i : Nat) : Int)) ω1
  | _ => False) x
def diRange2 (ta : DTA) (ρ : DS) (ω : Wd) (k : List PyData → Wd → Prop) (x : DXK) : Prop := ta ρ ω (fun rs ω1 => match rs with
  | [.int a, .int b] => (-(2 ^ 62) ≤ a ∧ a < 2 ^ 62 ∧ -(2 ^ 62) ≤ b ∧ b < 2 ^ 62) ∧ k ((List.range (b - a).toNat).map fun i => .int (a + ((i : Nat) : Int))) ω1
  | _ => False) x
def enumD (xs : List PyData) : List PyData := xs.mapIdx fun i x => .tuple [.int ((i : Nat) : Int), x]
def diEnum (ta : DTA) (ρ : DS) (ω : Wd) (k : List PyData → Wd → Prop) (x : DXK) : Prop := ta ρ ω (fun rs ω1 => match rs with
  | [.list xs] => k (enumD xs) ω1
  | _ => False) x
section
variable {X : Cx} {K : PySem.W.Frag}
/-- a list, a tuple or a text, as it comes -/
theorem pi_data {tg e : Expr} {t : TE} (h : PE X e t) : PI X tg e (fun σ H R => t σ H fun x H1 => (∃ a, x = .ref a ∧ (∃ xs, SqL X.K H1 a xs) ∧ R (Itl X.K a) H1) ∨ (∃ a, x = .ref a ∧ (∃ xs, SqT X.K H1 a xs) ∧ R (Itt X.K a) H1) ∨ ∃ z, x = .str z ∧ R (Its z) H1) := by
  refine ⟨fun pins s σ H R I q => ?_⟩
  refine thn (h.run pins s σ H _ I q) fun v s1 ⟨x, H1, I1, r1, q1⟩ => ?_
  rcases q1 with ⟨a, rfl, ⟨xs, hq⟩, q⟩ | ⟨a, rfl, ⟨xs, hq⟩, q⟩ | ⟨z, rfl, q⟩
  · cases r1
    obtain ⟨its, rv, p, hz⟩ := I1.list hq
    refine wpAny_pyIter_list p.isList ?_
    refine ⟨s1.heap.objs.size, [s1.heap.objs.size], _, _, H1, rfl, I1.kept (t' := s1.toks) fun b o e => Heap.get?_push_of_some _ e, turn_list a _, ⟨_, Heap.get?_push_size _ rfl, rfl, rfl⟩, fun b hb => ?_, q⟩
    have e : b = s1.heap.objs.size := by simpa using hb
    subst e
    exact I1.fpOk (Nat.le_refl _) (I1.hok.fresh (Nat.le_refl _))
  · cases r1
    obtain ⟨its, rv, p, hz⟩ := I1.tuple hq
    refine wpAny_pyIter_tuple (show s1.heap.IsTuple a its.toArray from p) ?_
    refine ⟨s1.heap.objs.size, [s1.heap.objs.size], _, _, H1, rfl, I1.kept (t' := s1.toks) fun b o e => Heap.get?_push_of_some _ e, turn_tuple a _, ⟨_, Heap.get?_push_size _ rfl, rfl, rfl⟩, fun b hb => ?_, q⟩
    have e : b = s1.heap.objs.size := by simpa using hb
    subst e
    exact I1.fpOk (Nat.le_refl _) (I1.hok.fresh (Nat.le_refl _))
  · obtain ⟨t, rfl⟩ := r1
    cases ha : z.cps.all (· < 128)
    · exact wpAny_pyIter_wide ha (pi_one (tk := s1.toks) I1 _ (turn_str _ z t "str_iterator" (.inr rfl)) ⟨_, Heap.get?_push_size _ rfl, rfl, rfl⟩ q)
    · exact wpAny_pyIter_ascii ha (pi_one (tk := s1.toks) I1 _ (turn_str _ z t "str_ascii_iterator" (.inl rfl)) ⟨_, Heap.get?_push_size _ rfl, rfl, rfl⟩ q)
theorem walkD_list {J : Hp} {a : Addr} {vs : List V} {xs : List PyData} (h : J a = some (.lst vs)) (r : RpAll K J vs xs) : WalkD K J (Itl K a) xs := by
  refine ⟨_, _, by rw [← r.length]; exact walk_list (xs := vs), fun J' H' s1 s2 => SqL.of (s2 _ _ (s1 _ _ h)), fun i H v H' hi y => ?_⟩
  exact .inl ⟨y.1, r.get y.2⟩
theorem walkD_tup {J : Hp} {a : Addr} {vs : List V} {xs : List PyData} (h : SqT K J a vs) (r : RpAll K J vs xs) : WalkD K J (Itt K a) xs := by
  refine ⟨_, _, by rw [← r.length]; exact walk_tup (xs := vs), fun J' H' s1 s2 => Same.sqT s2 (Same.sqT s1 h), fun i H v H' hi y => ?_⟩
  exact .inl ⟨y.1, r.get y.2⟩
theorem walkD_str {J : Hp} {z : Str} : WalkD K J (Its z) (z.cps.toList.map fun c => .str ⟨#[c]⟩) := by
  refine ⟨_, _, by rw [List.length_map, Array.length_toList]; exact walk_str (z := z), fun _ _ _ _ => trivial, fun i H v H' hi y => ?_⟩
  obtain ⟨c, e, rfl⟩ := y.2
  exact .inl ⟨y.1, _, by rw [List.getElem?_map, Array.getElem?_toList, e]; rfl, .str _⟩
theorem walkD_range {J : Hp} {lo : Int} {n : Nat} : WalkD K J (Itr lo n) ((List.range n).map fun i => .int (lo + ((i : Nat) : Int))) := by
  refine ⟨_, _, by rw [List.length_map, List.length_range]; exact walk_range (lo := lo) (n := n), fun _ _ _ _ => trivial, fun i H v H' hi y => ?_⟩
  rw [List.length_map, List.length_range] at hi
  exact .inl ⟨y.1, _, by rw [List.getElem?_map, List.getElem?_range hi]; rfl, by rw [y.2]; exact .int _⟩
theorem walkD_enum {J : Hp} {a : Addr} {vs : List V} {xs : List PyData} (h : J a = some (.lst vs)) (r : RpAll K J vs xs) : WalkD K J (Ite K a) (enumD xs) := by
  refine ⟨_, _, by unfold enumD; rw [List.length_mapIdx, ← r.length]; exact walk_enum (xs := vs), fun J' H' s1 s2 => SqL.of (s2 _ _ (s1 _ _ h)), fun i H v H' hi y => .inr ?_⟩
  obtain ⟨T, x, y, e1, e2, e3, e4, e5⟩ := y
  obtain ⟨d, e6, e7⟩ := r.get e5
  cases e4
  exact ⟨T, _, [.int ((i : Nat) : Int), d], e1, e2, e3, .cons (.int _) (.cons e7 .nil), by unfold enumD; rw [List.getElem?_mapIdx, e6]; rfl⟩
variable {W : WX} {tg e : Expr} {td : DTE} {tA : DTA}
theorem di_data (hK : X.K = K) (h : DE W X K e td) : DI W X K tg e (diData td) := by
  subst hK
  obtain ⟨t, p, k⟩ := h
  refine ⟨_, pi_data p, fun σ H J ω ρ kk x R w s c cx z => k σ H J ω ρ _ x _ w s (fun r ω1 v J1 H1 z1 g1 w1 rp => ?_) cx z⟩
  obtain ⟨xs, e1, z2⟩ := z1
  cases rp with
  | lst hs ha => cases e1; exact .inl ⟨_, rfl, ⟨_, SqL.of (w1.jh _ _ hs)⟩, c _ _ _ _ _ z2 g1 w1 (walkD_list hs ha)⟩
  | tup hs ha => cases e1; exact .inr (.inl ⟨_, rfl, ⟨_, Same.sqT w1.jh hs⟩, c _ _ _ _ _ z2 g1 w1 (walkD_tup hs ha)⟩)
  | str y => cases e1; exact .inr (.inr ⟨_, rfl, c _ _ _ _ _ z2 g1 w1 walkD_str⟩)
  | non => cases e1
  | bl _ => cases e1
  | int _ => cases e1
  | ref _ => cases e1
  | scr _ => cases e1
  | pub _ => cases e1
theorem di_range1 {a : Expr} {p pos : Pos} (hg : Gl X "range") (hm : X.mg "range" = none) (ha : DAs W X K [a] tA) (hs : starEach [a] X.env = [(false, eval a X.env)] := by rfl) : DI W X K tg (.Call (.Name "range" p) [a] [] pos) (diRange1 tA) := by
  obtain ⟨t, pp, k⟩ := ha
  refine ⟨_, pi_range1 hg hm pp hs, fun σ H J ω ρ kk x R w s c cx z => k σ H J ω ρ _ x _ w s (fun rs ω1 vs J1 H1 z1 g1 w1 rps => ?_) cx z⟩
  split at z1
  · cases rps with
    | cons r1 r2 =>
      cases r1
      cases r2
      refine ⟨_, rfl, z1.1, z1.2.1, c _ _ _ _ _ z1.2.2 g1 w1 ?_⟩
      have := walkD_range (K := K) (J := J1) (lo := 0) (n := Int.toNat (by assumption))
      simpa using this
  · exact False.elim z1
theorem di_range2 {a b : Expr} {p pos : Pos} (hg : Gl X "range") (hm : X.mg "range" = none) (ha : DAs W X K [a, b] tA) (hs : starEach [a, b] X.env = [(false, eval a X.env), (false, eval b X.env)] := by rfl) (hs2 : starEach [b] X.env = [(false, eval b X.env)] := by rfl) : DI W X K tg (.Call (.Name "range" p) [a, b] [] pos) (diRange2 tA) := by
  obtain ⟨t, pp, k⟩ := ha
  refine ⟨_, pi_range2 hg hm pp hs hs2, fun σ H J ω ρ kk x R w s c cx z => k σ H J ω ρ _ x _ w s (fun rs ω1 vs J1 H1 z1 g1 w1 rps => ?_) cx z⟩
  split at z1
  · cases rps with
    | cons r1 r2 =>
      cases r1
      cases r2 with
      | cons r3 r4 =>
        cases r3
        cases r4
        exact ⟨_, _, rfl, z1.1, c _ _ _ _ _ z1.2 g1 w1 walkD_range⟩
  · exact False.elim z1
theorem di_enum {a : Expr} {p pos tpos : Pos} {elts : List Expr} {kk : Nat} (hK : X.K = K) (hg : Gl X "enumerate") (hm : X.mg "enumerate" = none) (ha : DAs W X K [a] tA) (hs : starEach [a] X.env = [(false, eval a X.env)] := by rfl) :
    DI W X K (.Tuple elts kk tpos) (.Call (.Name "enumerate" p) [a] [] pos) (diEnum tA) := by
  subst hK
  obtain ⟨t, pp, k⟩ := ha
  refine ⟨_, pi_enum hg hm pp hs, fun σ H J ω ρ kk x R w s c cx z => k σ H J ω ρ _ x _ w s (fun rs ω1 vs J1 H1 z1 g1 w1 rps => ?_) cx z⟩
  split at z1
  · cases rps with
    | cons r1 r2 =>
      cases r2
      cases r1 with
      | lst hs ha => exact ⟨_, _, rfl, SqL.of (w1.jh _ _ hs), c _ _ _ _ _ z1 g1 w1 (walkD_enum hs ha)⟩
  · exact False.elim z1
end
/-! ### comprehensions -/
abbrev W0 : WX := fun _ _ _ _ => False
abbrev X0 : DXK := fun _ _ _ => False
structure DTs (W : WX) (X : Cx) (K : PySem.W.Frag) (ifs : List Expr) (td : DTT) : Prop where
  ps : PTs X ifs (liftT K W td)
def dYes (_ : DS) (ω : Wd) (q : Bool → Wd → Prop) (_ : DXK) : Prop := q true ω
theorem dts_nil {W : WX} {X : Cx} {K : PySem.W.Frag} : DTs W X K [] dYes :=
  ⟨⟨fun pins s σ H Q I ⟨J, ω, ρ, q, x, w, sl, cq, cx, z⟩ => (pts_nil (X := X)).run pins s σ H Q I (cq _ _ _ _ z Grow.refl w)⟩⟩
theorem dts_one {W : WX} {X : Cx} {K : PySem.W.Frag} {c : Expr} {td : DTT} (h : DT W X K c td) : DTs W X K [c] td := ⟨pts_one h.pt⟩
def dLc (di : DTI) (gd : DTG) (tt : DTT) (te : DTE) (vs : List Nat) (ρ : DS) (ω : Wd) (q : DQ) (x : DXK) : Prop := di ρ ω (fun xs ω1 => xs.length ≤ sizeLine ∧ ∃ Inv : Nat → List PyData → Wd → Prop, Inv 0 [] ω1 ∧
  (∀ i y acc ω2, xs[i]? = some y → Inv i acc ω2 → acc.length ≤ i → gd y (wipeD ρ vs) fun ρ' => tt ρ' ω2 (fun b ω3 => if b = true then te ρ' ω3 (fun r ω4 => Inv (i + 1) (acc ++ [r]) ω4) X0 else Inv (i + 1) acc ω3) X0) ∧
  ∀ acc ω2, acc.length ≤ xs.length → Inv xs.length acc ω2 → q (.list acc) ω2) x
theorem wipe_wipe (σ : L2.St) (vs : List Nat) : wipe (wipe σ vs) vs = wipe σ vs := by
  have key : ∀ (ws : List Nat) (σ : L2.St), (∀ i ∈ ws, i ∈ vs) → wipe (wipe σ ws) vs = wipe σ vs := by
    intro ws
    induction ws with
    | nil => intro σ _; rfl
    | cons i ws ih =>
      intro σ h
      show wipe ((wipe σ ws).set i none) vs = wipe σ vs
      rw [wipe_set (h i (by simp)), ih σ fun j hj => h j (List.mem_cons_of_mem _ hj)]
  exact key vs σ fun _ h => h
section
variable {K : PySem.W.Frag} {J J1 H H1 : Hp} {ω ω1 : Wd} {D : Addr}
/-- a list that is being made, neither data yet nor a cell -/
theorem Grow.loc (g : Grow J H ω J1 H1 ω1) (hD : H D = none) (o : HO) : Grow J H ω J1 (upd H1 D o) ω1 :=
  ⟨g.jj, fun a h => by rw [upd_ne (ne_new h hD)]; exact g.dom a h, fun a u h z => by rw [upd_ne (ne_of_none h hD)]; exact g.keep a u h z, g.frj, g.frw⟩
theorem fr_ne {a : Addr} {m : MO} {b : Addr} (hw : Fr ω D) (e : ω a = some m) (l : Looks a m b) : b ≠ D := by
  rintro rfl
  rcases l with rfl | nb
  · rw [hw.1] at e; cases e
  · exact hw.2 a m e nb
theorem Rw.loc (w : Rw K J H ω) (hj : J D = none) (hw : Fr ω D) (o : HO) : Rw K J (upd H D o) ω := by
  refine w.step (Same.refl _) (fun a u e => ?_) (fun _ _ j => j) fun a m e => .inl ⟨e, fun b u l z => ?_⟩
  · rw [upd_ne fun z => by rw [z, hj] at e; cases e]; exact w.jh a u e
  · rw [upd_ne (fr_ne hw e l)]; exact z
theorem Grow.take (g : Grow J H ω J1 H1 ω1) (hD : H D = none) (hj : J1 D = none) (o : HO) : Grow J H ω (upd J1 D o) H1 ω1 :=
  ⟨g.jj.trans (same_new hj o), g.dom, g.keep, fun a h z j => by rw [upd_ne (ne_new h hD)]; exact g.frj a h z j, g.frw⟩
theorem Rw.take {o : HO} (w : Rw K J H ω) (hj : J D = none) (hw : Fr ω D) (h : H D = some o) : Rw K (upd J D o) H ω := by
  refine ⟨fun a u e => ?_, fun a m e => ?_, fun a m e => (w.cell a m e).mono (same_new hj o) fun _ _ _ z => z, fun a m e b nb => ?_⟩
  · by_cases z : a = D
    · rw [z, upd_same] at e; rw [z, ← e]; exact h
    · rw [upd_ne z] at e; exact w.jh a u e
  · rw [upd_ne (fr_ne hw e (.inl rfl))]; exact w.out a m e
  · obtain ⟨t1, t2, t3⟩ := w.tmp a m e b nb
    exact ⟨by rw [upd_ne (fr_ne hw e (.inr nb))]; exact t1, t2, t3⟩
end
section
variable {W : WX} {X : Cx} {K : PySem.W.Frag} {elt tg iter : Expr} {ifs : List Expr} {scope : Scope} {own : List (Str × Nat)} {pos : Pos} {is : List Nat} {di : DTI} {gd : DTG} {tt : DTT} {te : DTE}
theorem lc_run {wi : TI} (hi : ∀ σ H J ω ρ (k : List PyData → Wd → Prop) x (R : It → Hp → Prop), Rw K J H ω → Sl K J σ ρ → (∀ xs ω1 J1 H1 I, k xs ω1 → Grow J H ω J1 H1 ω1 → Rw K J1 H1 ω1 → WalkD K J1 I xs → R I H1) →
    CovX K J H ω x (fun c d H => W c d σ H) → di ρ ω k x → wi σ H R) {vs : List Nat} (his : ∀ i ∈ is, i ∈ vs)
    {σ : L2.St} {H J : Hp} {ω : Wd} {ρ : DS} {q : DQ} {x : DXK} {Q : VK} (w : Rw K J H ω) (s : Sl K J σ ρ) (cq : CovQ K J H ω q Q) (cx : CovX K J H ω x (fun c d H => W c d σ H)) (z : dLc di gd tt te vs ρ ω q x) :
    tLc wi (liftG K is gd) (liftT K W0 tt) (liftE K W0 te) vs σ H Q := by
  refine hi σ H J ω ρ _ x _ w s (fun xs ω1 J1 H1 I z1 g1 w1 wd => ?_) cx z
  intro D hD
  obtain ⟨hz, Inv, i0, step, fin⟩ := z1
  obtain ⟨G, Y, wk, hG, hY⟩ := wd
  have hjD : J1 D = none := w1.jh.free hD
  have s1 := s.mono g1.jj
  refine lc_it wk (fun i H' => ∃ J' ω' acc us, Grow J1 H1 ω1 J' H' ω' ∧ Rw K J' H' ω' ∧ H' D = some (.lst us) ∧ J' D = none ∧ Fr ω' D ∧ RpAll K J' us acc ∧ acc.length ≤ i ∧ Inv i acc ω') ?_ ?_ ?_ ?_
  · exact ⟨J1, ω1, [], [], Grow.junk hD _, w1.junk hD _, upd_same, hjD, w1.free hD, .nil, Nat.le_refl _, i0⟩
  · rintro i H' _ ⟨J', ω', acc, us, g, w', _⟩
    exact hG J' H' g.jj w'.jh
  · rintro i v H2 H2' hi ⟨J2, ω2, acc, us, g2, w2, hD2, jD2, oD2, ra, al, inv⟩ y
    have go : ∀ (d : PyData) (J3 H3 : Hp), xs[i]? = some d → Grow J2 H2 ω2 J3 H3 ω2 → Rw K J3 H3 ω2 → Rp K J3 v d → liftG K is gd v (wipe σ vs) H3 fun σ2 H2 => wipe σ2 vs = wipe σ vs ∧ liftT K W0 tt σ2 H2 fun b H3 =>
        if b = true then liftE K W0 te σ2 H3 fun y H4 => ∃ acc, H4 D = some (.lst acc) ∧ acc.length < sizeLine ∧ (∃ J' ω' acc' us, Grow J1 H1 ω1 J' (upd H4 D (.lst (acc ++ [y]))) ω' ∧ Rw K J' (upd H4 D (.lst (acc ++ [y]))) ω' ∧ upd H4 D (.lst (acc ++ [y])) D = some (.lst us) ∧ J' D = none ∧ Fr ω' D ∧ RpAll K J' us acc' ∧ acc'.length ≤ i + 1 ∧ Inv (i + 1) acc' ω')
        else ∃ J' ω' acc us, Grow J1 H1 ω1 J' H3 ω' ∧ Rw K J' H3 ω' ∧ H3 D = some (.lst us) ∧ J' D = none ∧ Fr ω' D ∧ RpAll K J' us acc ∧ acc.length ≤ i + 1 ∧ Inv (i + 1) acc ω' := by
      intro d J3 H3 e3 g3 w3 r3
      have hD3 := g3.keep D _ hD2 oD2
      have nD2 : H2 D ≠ none := by rw [hD2]; simp
      have jD3 := g3.frj D nD2 oD2 jD2
      refine ⟨J3, ω2, wipeD ρ vs, d, _, w3, (s1.mono (g2.jj.trans g3.jj)).wipe vs, r3, fun ρ' σ' z4 s4 ew => ⟨(ew vs his).trans (wipe_wipe σ vs), ?_⟩, step i d acc ω2 e3 inv al⟩
      refine ⟨J3, ω2, ρ', _, X0, w3, s4, fun b ω5 J5 H5 z5 g5 w5 => ?_, (fun _ _ _ _ _ _ z => False.elim z), z4⟩
      have nD3 : H3 D ≠ none := by rw [hD3]; simp
      have hD5 := g5.keep D _ hD3 oD2
      have jD5 := g5.frj D nD3 oD2 jD3
      have oD5 := g5.frw D nD3 oD2
      have nD5 : H5 D ≠ none := by rw [hD5]; simp
      cases b with
      | false =>
        refine iteF ⟨J5, ω5, acc, us, (g2.trans g3).trans g5, w5, hD5, jD5, oD5, rpAll_mono (g3.jj.trans g5.jj) _ _ ra, by omega, by simpa using z5⟩
      | true =>
        refine iteT ⟨J5, ω5, ρ', _, X0, w5, s4.mono g5.jj, fun r ω6 y J6 H6 z6 g6 w6 r6 => ?_, (fun _ _ _ _ _ _ z => False.elim z), by simpa using z5⟩
        have hD6 := g6.keep D _ hD5 oD5
        have jD6 := g6.frj D nD5 oD5 jD5
        have oD6 := g6.frw D nD5 oD5
        have ul := ra.length
        refine ⟨us, hD6, by omega, J6, ω6, acc ++ [r], us ++ [y], (((g2.trans g3).trans g5).trans g6).loc hD _, w6.loc jD6 oD6 _, upd_same, jD6, oD6, RpAll.append (rpAll_mono ((g3.jj.trans g5.jj).trans g6.jj) _ _ ra) (.one r6), by rw [List.length_append]; simp; omega, z6⟩
    rcases hY i H2 v H2' hi y with ⟨rfl, d, e1, e2⟩ | ⟨T, us2, ds, rfl, hT, rfl, e1, e2⟩
    · exact go d J2 _ e1 Grow.refl w2 (rp_mono g2.jj _ _ e2)
    · exact go (.tuple ds) _ _ e2 (Grow.frz w2 hT _) (w2.frz hT _) (.tup (SqT.of upd_same) (rpAll_mono (g2.jj.trans (same_new (w2.jh.free hT) _)) _ _ e1))
  · rintro H2 ⟨J2, ω2, acc, us, g2, w2, hD2, jD2, oD2, ra, al, inv⟩
    exact (cq.step g1) _ _ _ _ _ (fin acc ω2 al inv) (g2.take hD jD2 _) (w2.take jD2 oD2 hD2) (.lst upd_same (rpAll_mono (same_new jD2 _) _ _ ra))
theorem de_lc (hc : X.calm = true) (hN : X.N.Nodup) (hi : DI W X K tg iter di) (ok : BlkOk X.N X.env.scope scope own)
    (hg : ∀ (s : Shared) (H : Hp) (C : Addr) (cl : List (Str × Addr)) (fp : List Addr), DG (X.blk s H scope (compEnvC scope cl C X.env) fp) K tg is gd)
    (ht : ∀ (s : Shared) (H : Hp) (C : Addr) (cl : List (Str × Addr)) (fp : List Addr), DTs W0 (X.blk s H scope (compEnvC scope cl C X.env) fp) K ifs tt)
    (he : ∀ (s : Shared) (H : Hp) (C : Addr) (cl : List (Str × Addr)) (fp : List Addr), DE W0 (X.blk s H scope (compEnvC scope cl C X.env) fp) K elt te)
    (his : ∀ i ∈ is, i ∈ own.map (·.2) := by decide) (hs : ∀ x, foldedSetIterable iter X.env x = pure x := by intro _; rfl) :
    DE W X K (.ListComp elt [⟨tg, iter, ifs, 0⟩] scope pos) (dLc di gd tt te (own.map (·.2))) := by
  obtain ⟨wi, p, k⟩ := hi
  exact ⟨_, pe_lc hc hN p ok hg (fun s H C cl fp => (ht s H C cl fp).ps) (fun s H C cl fp => (he s H C cl fp).pe) hs, fun σ H J ω ρ q x Q w s cq cx z => lc_run k his w s cq cx z⟩
end
end Tx

namespace Tx
open PySem PySem.Spec PyProof.Rows L2
/-! ## Rules over data: statements, defs, calls, errors -/
def xcOf (D : DEnds) (ρ : DS) : DXK := fun C fs ω => D.xc C fs ρ ω
def dNext (D : DEnds) (ρ : DS) (ω : Wd) : Prop := D.nx ρ ω
def dSeq (t u : DTS) (D : DEnds) (ρ : DS) (ω : Wd) : Prop := t { D with nx := u D } ρ ω
def dSet (i : Nat) (te : DTE) (D : DEnds) (ρ : DS) (ω : Wd) : Prop := te ρ ω (fun r ω1 => D.nx (ρ.set i (some r)) ω1) (xcOf D ρ)
def dAsg (te : DTE) (g : DTG) (D : DEnds) (ρ : DS) (ω : Wd) : Prop := te ρ ω (fun r ω1 => g r ρ fun ρ' => D.nx ρ' ω1) (xcOf D ρ)
def dPar (i j : Nat) (ta : DTA) (D : DEnds) (ρ : DS) (ω : Wd) : Prop := ta ρ ω (fun rs ω1 => match rs with
  | [a, b] => D.nx ((ρ.set i (some a)).set j (some b)) ω1
  | _ => False) (xcOf D ρ)
def dDrop (te : DTE) (D : DEnds) (ρ : DS) (ω : Wd) : Prop := te ρ ω (fun _ ω1 => D.nx ρ ω1) (xcOf D ρ)
def dRet (te : DTE) (D : DEnds) (ρ : DS) (ω : Wd) : Prop := te ρ ω D.rt (xcOf D ρ)
def dRetN (D : DEnds) (_ : DS) (ω : Wd) : Prop := D.rt .none ω
def dBreak (D : DEnds) (ρ : DS) (ω : Wd) : Prop := D.bk ρ ω
def dCont (D : DEnds) (ρ : DS) (ω : Wd) : Prop := D.ct ρ ω
def dIfS (c : DTT) (t u : DTS) (D : DEnds) (ρ : DS) (ω : Wd) : Prop := c ρ ω (fun b ω1 => if b = true then t D ρ ω1 else u D ρ ω1) (xcOf D ρ)
def dFor (di : DTI) (gd : DTG) (tb : DTS) (D : DEnds) (ρ : DS) (ω : Wd) : Prop := di ρ ω (fun xs ω1 => ∃ Inv : Nat → DS → Wd → Prop, Inv 0 ρ ω1 ∧
  (∀ i x ρ' ω', xs[i]? = some x → Inv i ρ' ω' → gd x ρ' fun ρ'' => tb { D with nx := Inv (i + 1), ct := Inv (i + 1), bk := D.nx } ρ'' ω') ∧ ∀ ρ' ω', Inv xs.length ρ' ω' → D.nx ρ' ω') (xcOf D ρ)
def dWhile (c : DTT) (tb : DTS) (D : DEnds) (ρ : DS) (ω : Wd) : Prop := ∃ Inv : Nat → DS → Wd → Prop, (∃ m, Inv m ρ ω) ∧
  ∀ m ρ' ω', Inv m ρ' ω' → c ρ' ω' (fun b ω1 => if b = true then tb { D with nx := fun ρ2 ω2 => ∃ m', m' < m ∧ Inv m' ρ2 ω2, ct := fun ρ2 ω2 => ∃ m', m' < m ∧ Inv m' ρ2 ω2, bk := D.nx } ρ' ω1 else D.nx ρ' ω1) (xcOf D ρ')
section
variable {W : WX} {X : Cx} {K : PySem.W.Frag} {e c tg iter : Expr} {es : List Expr} {st : Stmt} {a b body rest : List Stmt} {te : DTE} {tA : DTA} {tc : DTT} {t u : DTS} {pos : Pos} {is : List Nat} {gd : DTG} {di : DTI}
theorem dss_nil : DSs W X K [] dNext := ⟨_, pss_nil, fun D DD σ H J ω ρ w s cs z => cs.nx _ _ _ _ _ z Grow.refl w s⟩
theorem dss_one (h : DSt W X K st t) : DSs W X K [st] t := by
  obtain ⟨r, p, k⟩ := h
  exact ⟨_, pss_one p, k⟩
theorem dss_cons (h : DSt W X K st t) (hs : DSs W X K rest u) : DSs W X K (st :: rest) (dSeq t u) := by
  obtain ⟨r, p, k⟩ := h
  obtain ⟨r2, p2, k2⟩ := hs
  refine ⟨_, pss_cons p p2, fun D DD σ H J ω ρ w s cs z => k { D with nx := r2 D } { DD with nx := u DD } σ H J ω ρ w s ⟨fun ρ' ω' σ' J' H' z' g' w' s' => ?_, cs.bk, cs.ct, cs.rt, cs.xc⟩ z⟩
  exact k2 D DD σ' H' J' ω' ρ' w' s' (cs.step g') z'
theorem ds_set {i : Nat} {x : Str} {pos' : Pos} (hN : X.N.Nodup) (hi : X.N[i]? = some x) (hx : Loc X.env.scope x) (he : DE W X K e te) (hs : swapsWith e (some (.Name x pos')) pos.line X.env = pure false := by rfl) (hf : X.fn x = true ∨ X.env.scope.names.lookup x = some .local := by first | exact .inl rfl | exact .inr rfl | assumption) :
    DSt W X K (.Assign [.Name x pos'] e pos) (dSet i te) := by
  obtain ⟨r, p, k⟩ := he
  refine ⟨_, ps_set hN hi hx p hs hf, fun D DD σ H J ω ρ w s cs z => k σ H J ω ρ _ _ _ w s (fun d ω1 v J1 H1 z1 g1 w1 rp => ?_) (cs.x s) z⟩
  exact cs.nx _ _ _ _ _ z1 g1 w1 ((s.mono g1.jj).set i rp)
theorem ds_asg (he : DE W X K e te) (hg : DG X K tg is gd) (hs : swapsWithSole [tg] e pos.line X.env = pure false := by rfl) (hw : swappedStores [tg] e X.env = pure none := by rfl) (h1 : (assignEach [tg] X.env).map (·.2) = [assign tg X.env] := by rfl) :
    DSt W X K (.Assign [tg] e pos) (dAsg te gd) := by
  obtain ⟨r, p, k⟩ := he
  refine ⟨_, ps_asg p hg hs hw h1, fun D DD σ H J ω ρ w s cs z => k σ H J ω ρ _ _ _ w s (fun d ω1 v J1 H1 z1 g1 w1 rp => ?_) (cs.x s) z⟩
  exact ⟨J1, ω1, ρ, d, _, w1, s.mono g1.jj, rp, fun ρ' σ' z' s' _ => cs.nx _ _ _ _ _ z' g1 w1 s', z1⟩
theorem ds_par {i j : Nat} {x y : Str} {e1 e2 : Expr} {px py pt : Pos} {kt k2 pt2} (hc : X.calm = true) (hN : X.N.Nodup) (hi : X.N[i]? = some x) (hj : X.N[j]? = some y) (hij : i ≠ j)
    (hx : X.env.scope.names.lookup x = some .local) (hy : X.env.scope.names.lookup y = some .local) (ha : DAs W X K [e1, e2] tA)
    (hw : swappedStores [.Tuple [.Name x px, .Name y py] kt pt] (.Tuple [e1, e2] k2 pt2) X.env = pure (some [x, y]))
    (hs : swapsWithSole [.Tuple [.Name x px, .Name y py] kt pt] (.Tuple [e1, e2] k2 pt2) pos.line X.env = pure false := by rfl) :
    DSt W X K (.Assign [.Tuple [.Name x px, .Name y py] kt pt] (.Tuple [e1, e2] k2 pt2) pos) (dPar i j tA) := by
  obtain ⟨r, p, k⟩ := ha
  refine ⟨_, ps_par hc hN hi hj hij hx hy p hw hs, fun D DD σ H J ω ρ w s cs z => k σ H J ω ρ _ _ _ w s (fun ds ω1 vs J1 H1 z1 g1 w1 rp => ?_) (cs.x s) z⟩
  split at z1
  · cases rp with
    | cons r1 r2 =>
      cases r2 with
      | cons r3 r4 =>
        cases r4
        exact ⟨_, _, rfl, cs.nx _ _ _ _ _ z1 g1 w1 (((s.mono g1.jj).set i r1).set j r3)⟩
  · exact False.elim z1
theorem ds_expr (he : DE W X K e te) (hs : swapsWith e none pos.line X.env = pure false := by rfl) : DSt W X K (.Expr e pos) (dDrop te) := by
  obtain ⟨r, p, k⟩ := he
  exact ⟨_, ps_expr p hs, fun D DD σ H J ω ρ w s cs z => k σ H J ω ρ _ _ _ w s (fun d ω1 v J1 H1 z1 g1 w1 rp => cs.nx _ _ _ _ _ z1 g1 w1 (s.mono g1.jj)) (cs.x s) z⟩
theorem ds_ret (he : DE W X K e te) : DSt W X K (.Return (some e) pos) (dRet te) := by
  obtain ⟨r, p, k⟩ := he
  exact ⟨_, ps_ret p, fun D DD σ H J ω ρ w s cs z => k σ H J ω ρ _ _ _ w s cs.rt (cs.x s) z⟩
theorem ds_retN : DSt W X K (.Return none pos) dRetN := ⟨_, ps_retN, fun D DD σ H J ω ρ w s cs z => cs.rt _ _ _ _ _ z Grow.refl w .non⟩
theorem ds_pass : DSt W X K (.Pass pos) dNext := ⟨_, ps_pass, fun D DD σ H J ω ρ w s cs z => cs.nx _ _ _ _ _ z Grow.refl w s⟩
theorem ds_doc {x j pos'} : DSt W X K (.Expr (.Constant (.str x) j pos) pos') dNext := ⟨_, ps_doc, fun D DD σ H J ω ρ w s cs z => cs.nx _ _ _ _ _ z Grow.refl w s⟩
theorem ds_break : DSt W X K (.Break pos) dBreak := ⟨_, ps_break, fun D DD σ H J ω ρ w s cs z => cs.bk _ _ _ _ _ z Grow.refl w s⟩
theorem ds_continue : DSt W X K (.Continue pos) dCont := ⟨_, ps_continue, fun D DD σ H J ω ρ w s cs z => cs.ct _ _ _ _ _ z Grow.refl w s⟩
theorem ds_if (hc : DT W X K c tc) (ha : DSs W X K a t) (hb : DSs W X K b u) : DSt W X K (.If c a b pos) (dIfS tc t u) := by
  obtain ⟨rc, pc, kc⟩ := hc
  obtain ⟨ra, pa, ka⟩ := ha
  obtain ⟨rb, pb, kb⟩ := hb
  refine ⟨_, ps_if pc pa pb, fun D DD σ H J ω ρ w s cs z => kc σ H J ω ρ _ _ _ w s (fun bb ω1 J1 H1 z1 g1 w1 => ?_) (cs.x s) z⟩
  cases bb with
  | true => exact iteT (ka D DD σ H1 J1 ω1 ρ w1 (s.mono g1.jj) (cs.step g1) (by simpa using z1))
  | false => exact iteF (kb D DD σ H1 J1 ω1 ρ w1 (s.mono g1.jj) (cs.step g1) (by simpa using z1))
theorem ds_for (hp : PassesOwn (model X.prog X.w) X.A X.env X.xe) (hc : X.calm = true) (hi : DI W X K tg iter di) (hg : DG X K tg is gd) (hb : DSs W X K body t) (hs : ∀ x, foldedSetIterable iter X.env x = pure x := by intro _; rfl) :
    DSt W X K (.For tg iter body [] pos) (dFor di gd t) := by
  obtain ⟨wi, pi, ki⟩ := hi
  obtain ⟨rb, pb, kb⟩ := hb
  refine ⟨_, ps_for hp hc pi hg pb hs, fun D DD σ H J ω ρ w s cs z => ki σ H J ω ρ _ _ _ w s (fun xs ω1 J1 H1 I z1 g1 w1 wd => ?_) (cs.x s) z⟩
  obtain ⟨Inv, i0, step, fin⟩ := z1
  obtain ⟨G, Y, wk, hG, hY⟩ := wd
  have cs1 := cs.step g1
  refine for_it wk (fun i σ' H' => ∃ J' ρ' ω', Grow J1 H1 ω1 J' H' ω' ∧ Rw K J' H' ω' ∧ Sl K J' σ' ρ' ∧ Inv i ρ' ω') ⟨J1, ρ, ω1, Grow.refl, w1, s.mono g1.jj, i0⟩ ?_ ?_ ?_
  · rintro i σ' H' _ ⟨J', ρ', ω', g, w', _⟩
    exact hG J' H' g.jj w'.jh
  · rintro i v σ2 H2 H2' hi ⟨J2, ρ2, ω2, g2, w2, s2, inv⟩ y
    have go : ∀ (d : PyData) (J3 H3 : Hp), xs[i]? = some d → Grow J2 H2 ω2 J3 H3 ω2 → Rw K J3 H3 ω2 → Rp K J3 v d → liftG K is gd v σ2 H3 fun σ2 H2 => rb { D with nx := fun σ' H' => ∃ J' ρ' ω', Grow J1 H1 ω1 J' H' ω' ∧ Rw K J' H' ω' ∧ Sl K J' σ' ρ' ∧ Inv (i + 1) ρ' ω', ct := fun σ' H' => ∃ J' ρ' ω', Grow J1 H1 ω1 J' H' ω' ∧ Rw K J' H' ω' ∧ Sl K J' σ' ρ' ∧ Inv (i + 1) ρ' ω', bk := D.nx } σ2 H2 := by
      intro d J3 H3 e3 g3 w3 r3
      refine ⟨J3, ω2, ρ2, d, _, w3, s2.mono g3.jj, r3, fun ρ' σ' z4 s4 _ => ?_, step i d ρ2 ω2 e3 inv⟩
      have g := g2.trans g3
      have cs3 := cs1.step g
      exact kb _ { DD with nx := Inv (i + 1), ct := Inv (i + 1), bk := DD.nx } σ' H3 J3 ω2 ρ' w3 s4 ⟨fun ρ5 ω5 σ5 J5 H5 z5 g5 w5 s5 => ⟨J5, ρ5, ω5, g.trans g5, w5, s5, z5⟩, cs3.nx, fun ρ5 ω5 σ5 J5 H5 z5 g5 w5 s5 => ⟨J5, ρ5, ω5, g.trans g5, w5, s5, z5⟩, cs3.rt, cs3.xc⟩ z4
    rcases hY i H2 v H2' hi y with ⟨rfl, d, e1, e2⟩ | ⟨T, us2, ds, rfl, hT, rfl, e1, e2⟩
    · exact go d J2 _ e1 Grow.refl w2 (rp_mono g2.jj _ _ e2)
    · exact go (.tuple ds) _ _ e2 (Grow.frz w2 hT _) (w2.frz hT _) (.tup (SqT.of upd_same) (rpAll_mono (g2.jj.trans (same_new (w2.jh.free hT) _)) _ _ e1))
  · rintro σ2 H2 ⟨J2, ρ2, ω2, g2, w2, s2, inv⟩
    exact cs1.nx _ _ _ _ _ (fin ρ2 ω2 inv) g2 w2 s2
theorem ds_setLc {i : Nat} {y : Str} {py spos : Pos} {elt : Expr} {ifs : List Expr} {scope : Scope} {own : List (Str × Nat)} {tt : DTT} (hc : X.calm = true) (hN : X.N.Nodup) (hy : X.N[i]? = some y) (hyl : X.env.scope.names.lookup y = some .local)
    (hsw : swapsWith (.ListComp elt [⟨tg, iter, ifs, 0⟩] scope pos) (some (.Name y py)) spos.line X.env = pure true) (hi : DI W X K tg iter di) (ok : BlkOk X.N X.env.scope scope own)
    (hg : ∀ (s : Shared) (H : Hp) (C : Addr) (cl : List (Str × Addr)) (fp : List Addr), DG (X.blk s H scope (compEnvC scope cl C X.env) fp) K tg is gd)
    (ht : ∀ (s : Shared) (H : Hp) (C : Addr) (cl : List (Str × Addr)) (fp : List Addr), DTs W0 (X.blk s H scope (compEnvC scope cl C X.env) fp) K ifs tt)
    (he : ∀ (s : Shared) (H : Hp) (C : Addr) (cl : List (Str × Addr)) (fp : List Addr), DE W0 (X.blk s H scope (compEnvC scope cl C X.env) fp) K elt te)
    (his : ∀ i ∈ is, i ∈ own.map (·.2) := by decide) (hs : ∀ x, foldedSetIterable iter X.env x = pure x := by intro _; rfl) :
    DSt W X K (.Assign [.Name y py] (.ListComp elt [⟨tg, iter, ifs, 0⟩] scope pos) spos) (dSet i (dLc di gd tt te (own.map (·.2)))) := by
  obtain ⟨wi, p, k⟩ := hi
  refine ⟨_, ps_setLc hc hN hy hyl hsw p ok hg (fun s H C cl fp => (ht s H C cl fp).ps) (fun s H C cl fp => (he s H C cl fp).pe) hs, fun D DD σ H J ω ρ w s cs z => lc_run (q := fun r ω1 => DD.nx (ρ.set i (some r)) ω1) k his w s (fun d ω1 v J1 H1 z1 g1 w1 rp => ?_) (cs.x s) z⟩
  exact cs.nx _ _ _ _ _ z1 g1 w1 ((s.mono g1.jj).set i rp)
end
/-! ### lists of one's own -/
def dAppend (to te : DTE) (ρ : DS) (ω : Wd) (q : DQ) (x : DXK) : Prop := to ρ ω (fun o ω1 => ∃ a ds0, o = refD a ∧ ω1 a = some (.lst ds0) ∧ te ρ ω1 (fun r ω2 => ∃ ds, ω2 a = some (.lst ds) ∧ ds.length < sizeLine ∧ q .none (updW ω2 a (.lst (ds ++ [r])))) x) x
def dExtend (to te : DTE) (ρ : DS) (ω : Wd) (q : DQ) (x : DXK) : Prop := to ρ ω (fun o ω1 => ∃ a ds0, o = refD a ∧ ω1 a = some (.lst ds0) ∧ te ρ ω1 (fun r ω2 => ∃ ds es, ω2 a = some (.lst ds) ∧ rsv ω2 r = .list es ∧ ds.length + es.length ≤ sizeLine ∧ q .none (updW ω2 a (.lst (ds ++ es)))) x) x
/-- a name whose list is not changed any more -/
def dFrz (i : Nat) (ρ : DS) (ω : Wd) (q : DQ) (_ : DXK) : Prop := match ρ[i]? with
  | some (some d) => ∃ a ds, d = refD a ∧ ω a = some (.lst ds) ∧ q (.list ds) (delW ω a)
  | _ => False
section
variable {W : WX} {X : Cx} {K : PySem.W.Frag} {o e : Expr} {to te : DTE} {apos cpos : Pos}
theorem rp_ref {J : Hp} {v : V} {a : Addr} (h : Rp K J v (refD a)) : v = .ref a := by
  generalize hd : refD a = d at h
  cases h with
  | ref b =>
    have e1 := PyData.dict.inj hd
    have e2 := (List.cons.inj e1).1
    have e3 := (Prod.mk.inj e2).1
    have e4 := PyData.int.inj e3
    rw [show a = b from by exact_mod_cast e4]
  | _ => cases hd
theorem de_append (hK : X.K = K) (ho : DE W X K o to) (he : DE W X K e te) (hbase : attributeBase o "append" X.env (eval o X.env) = eval o X.env := by rfl)
    (hfew : ((backTo cpos (starEach (e :: []) X.env)).all (fun x => !x.1) && (backToKw cpos (keywordEach [] X.env)).all (fun x => x.1.isSome) && decide ((e :: []).length + ([] : List Keyword).length + (if ([] : List Keyword).isEmpty then 0 else 1) < 30)) = true := by rfl)
    (hline : (apos.endLine == cpos.line) = true := by rfl) (hs : starEach (e :: []) X.env = (false, eval e X.env) :: starEach [] X.env := by rfl) (hplain : (backTo cpos (starEach [] X.env)).any (·.1) = false := by rfl) :
    DE W X K (.Call (.Attribute o "append" apos) [e] [] cpos) (dAppend to te) := by
  subst hK
  obtain ⟨ro, po, ko⟩ := ho
  obtain ⟨re, pe, ke⟩ := he
  refine ⟨_, pe_bm PySem.F.plainAttrs_list PySem.F.slot_list_append PySem.F.type_list_append mt_append po (pa_cons pe pa_nil hs) hbase hfew hline hs hplain, fun σ H J ω ρ q x Q w s cq cx z => ko σ H J ω ρ _ x _ w s (fun r ω1 v J1 H1 z1 g1 w1 rp => ?_) cx z⟩
  obtain ⟨a, ds0, rfl, e1, z1⟩ := z1
  obtain rfl := rp_ref rp
  obtain ⟨vs0, h0, _⟩ := w1.cell a _ e1
  refine ⟨.inl ⟨rfl, _, SqL.of h0⟩, ke σ H1 J1 ω1 ρ _ x _ w1 (s.mono g1.jj) (fun r2 ω2 v2 J2 H2 z2 g2 w2 rp2 => ?_) (cx.step g1) z1⟩
  obtain ⟨ds, e2, hl, z2⟩ := z2
  obtain ⟨vs, h2, r2'⟩ := w2.cell a _ e2
  exact ⟨a, vs, v2, rfl, rfl, h2, by rw [r2'.length]; exact hl, cq _ _ _ _ _ z2 ((g1.trans g2).trans (Grow.set e2 rfl _)) (w2.set e2 rfl ⟨_, upd_same, r2'.append (.one rp2)⟩) .non⟩
theorem de_extend (hK : X.K = K) (ho : DE W X K o to) (he : DE W X K e te) (hbase : attributeBase o "extend" X.env (eval o X.env) = eval o X.env := by rfl)
    (hfew : ((backTo cpos (starEach (e :: []) X.env)).all (fun x => !x.1) && (backToKw cpos (keywordEach [] X.env)).all (fun x => x.1.isSome) && decide ((e :: []).length + ([] : List Keyword).length + (if ([] : List Keyword).isEmpty then 0 else 1) < 30)) = true := by rfl)
    (hline : (apos.endLine == cpos.line) = true := by rfl) (hs : starEach (e :: []) X.env = (false, eval e X.env) :: starEach [] X.env := by rfl) (hplain : (backTo cpos (starEach [] X.env)).any (·.1) = false := by rfl) :
    DE W X K (.Call (.Attribute o "extend" apos) [e] [] cpos) (dExtend to te) := by
  subst hK
  obtain ⟨ro, po, ko⟩ := ho
  obtain ⟨re, pe, ke⟩ := he
  refine ⟨_, pe_bm PySem.F.plainAttrs_list PySem.F.slot_list_extend PySem.F.type_list_extend mt_extend po (pa_cons pe pa_nil hs) hbase hfew hline hs hplain, fun σ H J ω ρ q x Q w s cq cx z => ko σ H J ω ρ _ x _ w s (fun r ω1 v J1 H1 z1 g1 w1 rp => ?_) cx z⟩
  obtain ⟨a, ds0, rfl, e1, z1⟩ := z1
  obtain rfl := rp_ref rp
  obtain ⟨vs0, h0, _⟩ := w1.cell a _ e1
  refine ⟨.inl ⟨rfl, _, SqL.of h0⟩, ke σ H1 J1 ω1 ρ _ x _ w1 (s.mono g1.jj) (fun r2 ω2 v2 J2 H2 z2 g2 w2 rp2 => ?_) (cx.step g1) z1⟩
  obtain ⟨ds, es, e2, e3, hl, z2⟩ := z2
  obtain ⟨vs, h2, r2'⟩ := w2.cell a _ e2
  obtain ⟨b, ws, rfl, hb, r3⟩ := rp_list w2 rp2 e3
  exact ⟨a, b, vs, ws, rfl, rfl, h2, hb, by rw [r2'.length, r3.length]; exact hl, cq _ _ _ _ _ z2 ((g1.trans g2).trans (Grow.set e2 rfl _)) (w2.set e2 rfl ⟨_, upd_same, r2'.append r3⟩) .non⟩
theorem de_frz {i : Nat} (h : PE X e (tVar i)) : DE W X K e (dFrz i) := ⟨_, h, fun σ H J ω ρ q x Q w s cq cx z => by
  obtain ⟨v, d, h1, h2, z⟩ := s.var (q := fun d => ∃ a ds, d = refD a ∧ ω a = some (.lst ds) ∧ q (.list ds) (delW ω a)) z
  obtain ⟨a, ds, rfl, e1, z⟩ := z
  obtain rfl := rp_ref h2
  obtain ⟨vs, h3, h4⟩ := w.cell a _ e1
  exact ⟨_, h1, cq _ _ _ _ _ z (Grow.fix w e1 h3) (w.fix e1 h3) (.lst upd_same (rpAll_mono (same_new (w.out _ _ e1) _) _ _ h4))⟩⟩
end
/-- .. where cells that are not looked at any more are left -/
def SubW (ω2 ω1 : Wd) : Prop := ∀ a m, ω2 a = some m → ω1 a = some m
theorem SubW.refl {ω : Wd} : SubW ω ω := fun _ _ h => h
theorem SubW.upd {ω : Wd} {a : Addr} {m : MO} (h : ω a = none) : SubW ω (updW ω a m) := fun b n e => by
  rw [updW_ne fun z => by rw [z, h] at e; cases e]; exact e
theorem SubW.trans {ω1 ω2 ω3 : Wd} (h : SubW ω1 ω2) (g : SubW ω2 ω3) : SubW ω1 ω3 := fun a m e => g a m (h a m e)
def dRetS (te : DTE) (D : DEnds) (ρ : DS) (ω : Wd) : Prop := te ρ ω (fun r ω1 => ∃ ω2, SubW ω2 ω1 ∧ D.rt r ω2) (xcOf D ρ)
section
variable {K : PySem.W.Frag} {J H : Hp} {ω1 ω2 : Wd}
theorem fr_sub {b : Addr} (s : SubW ω2 ω1) (h : Fr ω1 b) : Fr ω2 b := by
  refine ⟨?_, fun c m e => h.2 c m (s _ _ e)⟩
  cases q : ω2 b with
  | none => rfl
  | some m => have := s b m q; rw [h.1] at this; cases this
theorem SubW.grow (s : SubW ω2 ω1) : Grow J H ω1 J H ω2 := ⟨Same.refl _, fun _ z => z, fun _ _ z _ => z, fun _ _ _ j => j, fun b _ z => fr_sub s z⟩
theorem Rw.sub (w : Rw K J H ω1) (s : SubW ω2 ω1) : Rw K J H ω2 := w.step (Same.refl _) w.jh (fun _ _ j => j) fun b m e => .inl ⟨s b m e, fun _ _ _ z => z⟩
theorem ds_retS {W : WX} {X : Cx} {e : Expr} {te : DTE} {pos : Pos} (he : DE W X K e te) : DSt W X K (.Return (some e) pos) (dRetS te) := by
  obtain ⟨r, p, k⟩ := he
  refine ⟨_, ps_ret p, fun D DD σ H J ω ρ w s cs z => k σ H J ω ρ _ _ _ w s (fun d ω1 v J1 H1 z1 g1 w1 rp => ?_) (cs.x s) z⟩
  obtain ⟨ω2, sb, z2⟩ := z1
  exact cs.rt _ _ _ _ _ z2 (g1.trans sb.grow) (w1.sub sb) rp
end
/-! ### intros -/
theorem ixD_cell {ω : Wd} {a : Addr} {xs : List PyData} {i : Int} {d : PyData} {Q : PyData → Prop} (h : ω a = some (.lst xs)) (e : atI xs i = some d) (z : Q d) : ixD (refD a) (.int i) ω Q := by
  unfold ixD
  rw [rsv_cell h]
  exact ⟨d, e, z⟩
theorem lenD_cell {ω : Wd} {a : Addr} {xs : List PyData} {Q : PyData → Prop} (h : ω a = some (.lst xs)) (z : Q (.int xs.length)) : lenD [refD a] ω Q := by
  unfold lenD
  simp only
  rw [rsv_cell h]
  exact z
/-! ### defs -/
abbrev DSp := List PyData → Wd → DQ → DXK → Prop
def spD (K : PySem.W.Frag) (sp : DSp) : Sp := fun vs H Q E => ∃ J ω ts q x, Rw K J H ω ∧ RpAll K J vs ts ∧ CovQ K J H ω q Q ∧ CovX K J H ω x E ∧ sp ts ω q x
def endsD (q : DQ) (x : DXK) : DEnds := ⟨fun _ ω => q .none ω, q, fun _ _ => False, fun _ _ => False, fun C fs _ ω => x C fs ω⟩
def dCall (sp : DSp) (ta : DTA) (ρ : DS) (ω : Wd) (q : DQ) (x : DXK) : Prop := ta ρ ω (fun ts ω1 => sp ts ω1 q X0) x
def dCallX (sp : DSp) (ta : DTA) (ρ : DS) (ω : Wd) (q : DQ) (x : DXK) : Prop := ta ρ ω (fun ts ω1 => sp ts ω1 q x) x
section
variable {P : Program} {w : World} {K : PySem.W.Frag} {mg : Str → Option Value} {base : Heap} {CX : CXT} {k : Nat} {x : Str} {ps N : List Str} {sp : DSp} {st : Stmt}
theorem dfnD (h : Has K mg x st) (B : Bi mg) (S : FnScope N ps (defScope st)) (bd : BindsBy x st ps) (len : ∀ ts ω q xx, sp ts ω q xx → ts.length = ps.length)
    (body : ∀ (f : Addr) (cv : Value) (A : Around) (out : List Env) (s : Shared) (H : Hp) (E : XK), Ct mg (A.deeper (envOfC x (defScope st) s.heap.objs.size f cv)) k →
      ∃ td, DSs W0 (cxOf CX0 P w K mg base N x (defScope st) f cv A out s H E).nox K (defBody st) td ∧ ∀ ts ω q xx, sp ts ω q xx → td (endsD q X0) (startD N ts) ω) :
    Dfn P w K mg base CX0 (k + 1) x ps (spD K sp) := by
  refine dfn0 h B S bd (fun vs H Q E z => ?_) (fun f cv A out s H vs Q E c z => ?_)
  · obtain ⟨J, ω, ts, q, xx, w, r, _, _, z⟩ := z
    rw [r.length]
    exact len _ _ _ _ z
  obtain ⟨J, ω, ts, q, xx, w, r, cq, cx, z⟩ := z
  obtain ⟨td, ⟨t, p, kk⟩, hb⟩ := body f cv A out s H E c
  exact ⟨t, p, kk _ _ _ H J ω _ w (sl_start r) ⟨fun _ _ _ _ _ z g w _ => cq _ _ _ _ _ z g w .non, fun _ _ _ _ _ z _ _ _ => False.elim z, fun _ _ _ _ _ z _ _ _ => False.elim z, cq, fun _ _ _ _ _ _ _ _ z _ _ _ _ => False.elim z⟩ (hb ts ω q xx z)⟩
theorem dfnDX (h : Has K mg x st) (B : Bi mg) (S : FnScope N ps (defScope st)) (bd : BindsBy x st ps) (len : ∀ ts ω q xx, sp ts ω q xx → ts.length = ps.length)
    (body : ∀ (f : Addr) (cv : Value) (A : Around) (out : List Env) (s : Shared) (H : Hp) (E : XK), Ct mg (A.deeper (envOfC x (defScope st) s.heap.objs.size f cv)) k →
      ∃ td, DSs (fun cl d _ H => E cl d H) (cxOf (L2.CX P w) P w K mg base N x (defScope st) f cv A out s H E) K (defBody st) td ∧ ∀ ts ω q xx, sp ts ω q xx → td (endsD q xx) (startD N ts) ω) :
    Dfn P w K mg base (L2.CX P w) (k + 1) x ps (spD K sp) := by
  refine dfnX h B S bd (fun vs H Q E z => ?_) (fun f cv A out s H vs Q E c z => ?_)
  · obtain ⟨J, ω, ts, q, xx, w, r, _, _, z⟩ := z
    rw [r.length]
    exact len _ _ _ _ z
  obtain ⟨J, ω, ts, q, xx, w, r, cq, cx, z⟩ := z
  obtain ⟨td, ⟨t, p, kk⟩, hb⟩ := body f cv A out s H E c
  exact ⟨t, p, kk _ _ _ H J ω _ w (sl_start r) ⟨fun _ _ _ _ _ z g w _ => cq _ _ _ _ _ z g w .non, fun _ _ _ _ _ z _ _ _ => False.elim z, fun _ _ _ _ _ z _ _ _ => False.elim z, cq, fun C fs _ ω' d _ J' H' z g w _ x => cx C fs ω' d J' H' z g w x⟩ (hb ts ω q xx z)⟩
/-- nothing is promised -/
theorem dfnD_none (h : Has K mg x st) (bd : BindsBy x st ps) (no : ∀ ts ω q xx, ¬ sp ts ω q xx) : Dfn P w K mg base CX0 0 x ps (spD K sp) :=
  dfn_none h bd fun vs H Q E z => by
    obtain ⟨J, ω, ts, q, xx, w, r, _, _, z⟩ := z
    exact no _ _ _ _ z
/-- a promise of another kind, for data -/
theorem Dfn.toD {sp0 : Sp} (D : Dfn P w K mg base CX k x ps sp0) (h : ∀ vs H Q E, spD K sp vs H Q E → sp0 vs H Q E) : Dfn P w K mg base CX k x ps (spD K sp) := by
  obtain ⟨f, fd, F, r⟩ := D
  exact ⟨f, fd, ⟨fun vs H Q E z => F.len _ _ _ _ (h _ _ _ _ z), fun A out s H ar us vs Q E ro g e b v z => F.run A out s H ar us vs Q E ro g e b v (h _ _ _ _ z)⟩, r⟩
end
section
variable {W : WX} {X : Cx} {K : PySem.W.Frag} {j k : Nat} {ps : List Str} {sp : DSp} {x : Str} {p pos : Pos} {e : Expr} {es : List Expr} {tA : DTA}
theorem de_d (D : Dfn X.prog X.w X.K X.mg X.base CX0 j x ps (spD K sp)) (c : Ct X.mg X.A k) (h : j ≤ k) (gl : Gl X x) (args : DAs W X K (e :: es) tA)
    (nd : (x == ("__debug__" : Str)) = false := by decide) (plain : starEach (e :: es) X.env = (false, eval e X.env) :: starEach es X.env := by rfl) (bare : (backTo pos (starEach es X.env)).any (·.1) = false := by rfl) :
    DE W X K (.Call (.Name x p) (e :: es) [] pos) (dCall sp tA) := by
  obtain ⟨t, pp, kk⟩ := args
  refine ⟨_, pe_d D c h gl pp nd plain bare, fun σ H J ω ρ q x Q w s cq cx z => kk σ H J ω ρ _ x _ w s (fun ts ω1 vs J1 H1 z1 g1 w1 rps => ?_) cx z⟩
  refine ⟨J1, ω1, ts, q, X0, w1, ?_, cq.step g1, (fun _ _ _ _ _ _ z => False.elim z), z1⟩
  rw [List.append_nil]
  exact rps
theorem de_dX (D : Dfn X.prog X.w X.K X.mg X.base (L2.CX X.prog X.w) j x ps (spD K sp)) (c : Ct X.mg X.A k) (h : j ≤ k) (gl : Gl X x) (out : ∀ σ, PassesAt (L2.CX X.prog X.w) X σ (fun cl d H => W cl d σ H)) (args : DAs W X K (e :: es) tA)
    (nd : (x == ("__debug__" : Str)) = false := by decide) (plain : starEach (e :: es) X.env = (false, eval e X.env) :: starEach es X.env := by rfl) (bare : (backTo pos (starEach es X.env)).any (·.1) = false := by rfl) :
    DE W X K (.Call (.Name x p) (e :: es) [] pos) (dCallX sp tA) := by
  obtain ⟨t, pp, kk⟩ := args
  refine ⟨_, pe_dS (E := fun σ cl d H => W cl d σ H) D c h gl out pp nd plain bare, fun σ H J ω ρ q x Q w s cq cx z => kk σ H J ω ρ _ x _ w s (fun ts ω1 vs J1 H1 z1 g1 w1 rps => ?_) cx z⟩
  exact ⟨J1, ω1, ts, q, x, w1, rps, cq.step g1, cx.step g1, z1⟩
end
/-! ### errors -/
def dErr1 (C : Addr) (f : Str) (te : DTE) (D : DEnds) (ρ : DS) (ω : Wd) : Prop := te ρ ω (fun r ω1 => D.xc C [(f, r)] ρ ω1) (xcOf D ρ)
section
variable {W : WX} {X : Cx} {K : PySem.W.Frag} {x f : Str} {C : Addr} {k : Nat} {e : Expr} {te : DTE} {p pos pos2 : Pos}
theorem ds_err1 (T : Err1 X.prog X.w X.K X.mg X.base x f C) (calm : X.calm = true) (room : Room (k + 2) X.A) (tk : Takes X W) (he : DE W X K e te) (gl : Gl X x)
    (nd : (x == ("__debug__" : Str)) = false := by decide) (plain : starEach (e :: []) X.env = (false, eval e X.env) :: starEach [] X.env := by rfl) (bare : (backTo pos (starEach [] X.env)).any (·.1) = false := by rfl) :
    DSt W X K (.Raise (some (.Call (.Name x p) [e] [] pos)) none pos2) (dErr1 C f te) := by
  obtain ⟨re, pe, ke⟩ := he
  refine ⟨_, ps_err1 T calm room tk (pa_cons pe pa_nil plain) gl nd plain bare, fun D DD σ H J ω ρ w s cs z => ke σ H J ω ρ _ _ _ w s (fun r ω1 v J1 H1 z1 g1 w1 rp => ?_) (cs.x s) z⟩
  refine err1 (C := C) (f := f) (v := v) (Q := fun cl d H => W cl d σ H) fun d hd => cs.xc _ _ _ _ (some d) _ J1 _ z1 (g1.trans (Grow.junk hd _)) (w1.junk hd _) (s.mono g1.jj) ⟨?_, w1.jh.free hd, w1.free hd, [(f, v)], upd_same, .cons ⟨rfl, rp⟩ .nil⟩
  cases q : H d with
  | none => rfl
  | some o => exact absurd hd (g1.dom d (by rw [q]; simp))
end
/-- the error's own dict comes among the cells -/
def XdIn (d : Option Addr) (fs : List (Str × PyData)) (ω ω' : Wd) : Prop := (d = none ∧ fs = [] ∧ ω' = ω) ∨ ∃ dd, d = some dd ∧ ω dd = none ∧ ω' = updW ω dd (.xd fs)
def dropX (d : Option Addr) (ω : Wd) : Wd := match d with
  | none => ω
  | some dd => delW ω dd
def liftS (K : PySem.W.Frag) (W : WX) (td : DTS) : TS := fun D σ H => ∃ J ω ρ DD, Rw K J H ω ∧ Sl K J σ ρ ∧ CovS K J H ω W DD D ∧ td DD ρ ω
theorem DSs.pss {W : WX} {X : Cx} {K : PySem.W.Frag} {st : List Stmt} {td : DTS} (h : DSs W X K st td) : PSs X st (liftS K W td) := by
  obtain ⟨t, p, k⟩ := h
  exact ⟨fun pins s σ H D I ⟨J, ω, ρ, DD, w, sl, cs, z⟩ => p.run pins s σ H D I (k D DD σ H J ω ρ w sl cs z)⟩
/-- try: .. except c as (slot i): .. -/
def dTryAs (K : PySem.W.Frag) (c : Value) (i : Nat) (tb : DTS) (ts : Addr → Value → Option Addr → DTS) (D : DEnds) (ρ : DS) (ω : Wd) : Prop :=
  tb { D with xc := fun C fs ρ' ω' => ∃ b, PySem.W.exmOne K (.ref C) c = some b ∧ (b = true → ∀ a d ω'', XdIn d fs ω' ω'' → ts a (.ref C) d
      { nx := fun ρ2 ω2 => D.nx (ρ2.set i none) (dropX d ω2), rt := fun r ω2 => D.rt r (dropX d ω2), bk := fun ρ2 ω2 => D.bk (ρ2.set i none) (dropX d ω2), ct := fun ρ2 ω2 => D.ct (ρ2.set i none) (dropX d ω2), xc := fun _ _ _ _ => False }
      (ρ'.set i (some (refD a))) ω'') ∧ (b = false → D.xc C fs ρ' ω') } ρ ω
theorem Grow.dropX {J H : Hp} {ω : Wd} {d : Option Addr} : Grow J H ω J H (Tx.dropX d ω) := by
  cases d with
  | none => exact Grow.refl
  | some dd => exact Grow.drop
theorem Rw.dropX {K : PySem.W.Frag} {J H : Hp} {ω : Wd} (w : Rw K J H ω) (d : Option Addr) : Rw K J H (Tx.dropX d ω) := by
  cases d with
  | none => exact w
  | some dd => exact w.drop
section
variable {W : WX} {X : Cx} {K : PySem.W.Frag} {x n : Str} {c : Value} {i : Nat} {body suite : List Stmt} {b₀ : Stmt} {np pos pos' : Pos} {tb : DTS} {ts : Addr → Value → Option Addr → DTS}
theorem ds_try_as (hK : X.K = K) (hs : X.stack = X.env :: X.outer) (hf : X.env.frame = some X.env.locals) (hN : X.N.Nodup) (hi : X.N[i]? = some n) (hln : X.env.kindOf n = some .local) (hc : Names X x c) (tk : Takes X W)
    (hb : ∀ (W' : WX) (pn : List (Addr × Obj)) (xe : Value → Shared → Prop), Takes (X.tr pn xe) W' → PassesOwn (model X.prog X.w) X.A X.env xe → DSs W' (X.tr pn xe) K body tb)
    (hsu : ∀ (a : Addr) (oe : Obj) (cls : Value) (d : Option Addr) (pn : List (Addr × Obj)), Zc cls d oe → (∃ vs, oe.data = .fields vs) → DSs W0 (X.suite a ((a, oe) :: pn)) K (b₀ :: suite) (ts a cls d)) :
    DSt W X K (.Try body [.ExceptHandler (some (.Name x np)) (some n) (b₀ :: suite) pos'] [] [] pos) (dTryAs K c i tb ts) := by
  subst hK
  refine ⟨_, ps_try_as (Wout := W) hs hf hN hi hln hc tk (fun W' pn xe t po => (hb W' pn xe t po).pss) (fun a oe cls d pn z f => (hsu a oe cls d pn z f).pss), fun D DD σ H J ω ρ w s cs z => ?_⟩
  refine ⟨J, ω, ρ, { DD with xc := fun C fs ρ' ω' => ∃ b, PySem.W.exmOne X.K (.ref C) c = some b ∧ (b = true → ∀ a d ω'', XdIn d fs ω' ω'' → ts a (.ref C) d
      { nx := fun ρ2 ω2 => DD.nx (ρ2.set i none) (dropX d ω2), rt := fun r ω2 => DD.rt r (dropX d ω2), bk := fun ρ2 ω2 => DD.bk (ρ2.set i none) (dropX d ω2), ct := fun ρ2 ω2 => DD.ct (ρ2.set i none) (dropX d ω2), xc := fun _ _ _ _ => False }
      (ρ'.set i (some (refD a))) ω'') ∧ (b = false → DD.xc C fs ρ' ω') }, w, s, ⟨cs.nx, cs.bk, cs.ct, cs.rt, fun C fs ρ' ω' d σ' J' H' z' g' w' s' xd => ?_⟩, z⟩
  obtain ⟨b, hb, h1, h2⟩ := z'
  refine ⟨b, hb, fun eb a ha => ?_, fun eb => cs.xc _ _ _ _ _ _ _ _ (h2 eb) g' w' s' xd⟩
  have main : ∀ ω'', Rw X.K J' H' ω'' → XdIn d fs ω' ω'' → (∀ {J2 H2 ω2}, Grow J' H' ω'' J2 H2 ω2 → Grow J H ω J2 H2 (dropX d ω2)) → liftS X.K W0 (ts a (.ref C) d) { nx := fun σ2 H2 => D.nx (σ2.set i none) H2, rt := D.rt, bk := fun σ2 H2 => D.bk (σ2.set i none) H2, ct := fun σ2 H2 => D.ct (σ2.set i none) H2 } (σ'.set i (some (.ref a))) H' := by
    intro ω'' w'' xin tr
    exact ⟨J', ω'', _, { nx := fun ρ2 ω2 => DD.nx (ρ2.set i none) (dropX d ω2), rt := fun r ω2 => DD.rt r (dropX d ω2), bk := fun ρ2 ω2 => DD.bk (ρ2.set i none) (dropX d ω2), ct := fun ρ2 ω2 => DD.ct (ρ2.set i none) (dropX d ω2), xc := fun _ _ _ _ => False }, w'', s'.set i (.ref a), ⟨fun ρ2 ω2 σ2 J2 H2 z2 g2 w2 s2 => cs.nx _ _ _ _ _ z2 (tr g2) (w2.dropX d) (s2.clear i none), fun ρ2 ω2 σ2 J2 H2 z2 g2 w2 s2 => cs.bk _ _ _ _ _ z2 (tr g2) (w2.dropX d) (s2.clear i none),
      fun ρ2 ω2 σ2 J2 H2 z2 g2 w2 s2 => cs.ct _ _ _ _ _ z2 (tr g2) (w2.dropX d) (s2.clear i none), fun r ω2 v J2 H2 z2 g2 w2 rp => cs.rt _ _ _ _ _ z2 (tr g2) (w2.dropX d) rp, (fun _ _ _ _ _ _ _ _ z _ _ _ _ => False.elim z)⟩, h1 eb a d ω'' xin⟩
  cases d with
  | none => exact main ω' w' (.inl ⟨rfl, xd, rfl⟩) fun g2 => g'.trans g2
  | some dd =>
    obtain ⟨n0, jD, oD, gs, hg, rf⟩ := xd
    refine main (updW ω' dd (.xd fs)) (w'.step (Same.refl _) w'.jh (fun _ _ j => j) fun b m e => ?_) (.inr ⟨dd, rfl, oD.1, rfl⟩) fun g2 => ?_
    · by_cases eb : b = dd
      · subst eb
        rw [updW_same] at e
        cases e
        refine .inr ⟨jD, ⟨gs, hg, rf⟩, fun b' pb => False.elim pb, fun c m' nc e => ?_⟩
        rw [updW_ne nc] at e
        exact ⟨oD.2 c m' e, fun b' pb => False.elim pb⟩
      · rw [updW_ne eb] at e; exact .inl ⟨e, fun _ _ _ z => z⟩
    · have ne : ∀ b, H b ≠ none → b ≠ dd := fun b h e => h (by rw [e]; exact n0)
      refine ⟨g'.jj.trans g2.jj, fun b h => g2.dom b (g'.dom b h), fun b o h y => ?_, fun b h y j => ?_, fun b h y => ?_⟩
      · have hb := ne b (by rw [h]; simp)
        exact g2.keep b o (g'.keep b o h y) (fr_upd rfl (g'.frw b (by rw [h]; simp) y) hb)
      · exact g2.frj b (g'.dom b h) (fr_upd rfl (g'.frw b h y) (ne b h)) (g'.frj b h y j)
      · exact fr_del (g2.frw b (g'.dom b h) (fr_upd rfl (g'.frw b h y) (ne b h)))
end
end Tx

namespace Tx
open PySem PySem.Spec PyProof.Rows L2
/-! ## More rules over data -/
def max2D : RD1 := fun xs _ Q => match xs with
  | [.int m, .int n] => Q (.int (if n > m then n else m))
  | _ => False
def min2D : RD1 := fun xs _ Q => match xs with
  | [.int m, .int n] => Q (.int (if n < m then n else m))
  | _ => False
section
variable {X : Cx} {K : PySem.W.Frag}
theorem rpAll2 {J : Hp} {vs : List V} {m n : Int} (h : RpAll K J vs [.int m, .int n]) : vs = [.int m, .int n] := by
  cases h with
  | cons h1 h2 => cases h2 with | cons h2 h3 => cases h3; cases h1; cases h2; rfl
theorem dc_max2 (hK : X.K = K) (hc : X.calm = true) : CallR X (.builtin "max") (liftA K max2D) := by
  intro pins s σ H xs us Q I rel h
  obtain ⟨J, ω, ds, q, w, hx, c, z⟩ := h
  unfold max2D at z
  split at z
  · obtain rfl := rpAll2 hx
    exact call_max2 hc pins s σ H _ us Q I rel ⟨_, _, rfl, c.now w z (.int _)⟩
  · exact False.elim z
theorem dc_min2 (hK : X.K = K) (hc : X.calm = true) : CallR X (.builtin "min") (liftA K min2D) := by
  intro pins s σ H xs us Q I rel h
  obtain ⟨J, ω, ds, q, w, hx, c, z⟩ := h
  unfold min2D at z
  split at z
  · obtain rfl := rpAll2 hx
    exact call_min2 hc pins s σ H _ us Q I rel ⟨_, _, rfl, c.now w z (.int _)⟩
  · exact False.elim z
end
/-- == of data, whatever it is -/
theorem full_str {ω : Wd} {a : Str} {d : PyData} (h : Full ω (.str a) d) : d = .str a := by
  rcases h with h | h
  · exact h.symm
  · simpa only [full] using h.symm
theorem full_int {ω : Wd} {a : Int} {d : PyData} (h : Full ω (.int a) d) : d = .int a := by
  rcases h with h | h
  · exact h.symm
  · simpa only [full] using h.symm
theorem eqv_str (a b : Str) : PyData.eqv (.str a) (.str b) = decide (a = b) := by
  simp only [PyData.eqv]
  by_cases h : a = b
  · rw [decide_eq_true h, h]; simp
  · rw [decide_eq_false h]; exact beq_eq_false_iff_ne.mpr h
theorem eqv_int (a b : Int) : PyData.eqv (.int a) (.int b) = decide (a = b) := by
  simp only [PyData.eqv]
  by_cases h : a = b
  · rw [decide_eq_true h, h]; simp
  · rw [decide_eq_false h]; exact beq_eq_false_iff_ne.mpr h
theorem eqD_of {ω : Wd} {x y d e : PyData} {Q : PyData → Prop} (f1 : Full ω x d) (f2 : Full ω y e) (s1 : SeqAt.shaped d = true) (s2 : SeqAt.shaped e = true) (z : Q (.bool (PyData.eqv d e))) : eqD x y ω Q := by
  unfold eqD
  split
  · rw [full_str f1, full_str f2, eqv_str] at z; exact z
  · rw [full_int f1, full_int f2, eqv_int] at z; exact z
  · exact ⟨d, e, f1, f2, s1, s2, z⟩
theorem neD_of {ω : Wd} {x y d e : PyData} {Q : PyData → Prop} (f1 : Full ω x d) (f2 : Full ω y e) (s1 : SeqAt.shaped d = true) (s2 : SeqAt.shaped e = true) (z : Q (.bool (!PyData.eqv d e))) : neD x y ω Q := by
  unfold neD
  split
  · rw [full_str f1, full_str f2, eqv_str] at z; exact z
  · rw [full_int f1, full_int f2, eqv_int] at z; exact z
  · exact ⟨d, e, f1, f2, s1, s2, z⟩
/-- a text that is the same -/
theorem ne_same {a : Str} {A B : Prop} (h : B) : if (!decide (a = a)) = true then A else B := by rw [decide_eq_true rfl]; exact iteF h
/-! ### the error that a suite holds -/
def dXf (a : Addr) (cls : Value) (d : Option Addr) (C : Addr) (f : Str) (te : DTE) (ρ : DS) (ω : Wd) (q : DQ) (x : DXK) : Prop := te ρ ω (fun r ω1 => r = refD a ∧ cls = .ref C ∧ ∃ dd fs v, d = some dd ∧ ω1 dd = some (.xd fs) ∧ fs.lookup f = some v ∧ q v ω1) x
def dIsX (K : PySem.W.Frag) (a : Addr) (cls : Value) (d : Option Addr) (D C : Addr) (te : DTE) (ρ : DS) (ω : Wd) (q : DQ) (x : DXK) : Prop := te ρ ω (fun r ω1 => r = refD a ∧ cls = .ref D ∧ (∀ dd, d = some dd → ∃ fs, ω1 dd = some (.xd fs)) ∧ ∃ b, PySem.W.kitOne K (.ref D) (.ref C) = some b ∧ q (.bool b) ω1) x
theorem rpf_lookup {K : PySem.W.Frag} {J : Hp} {f : Str} {v : PyData} : ∀ {gs : List (Str × V)} {fs : List (Str × PyData)}, RpF K J gs fs → fs.lookup f = some v → ∃ u, gs.lookup f = some u ∧ Rp K J u v
  | _, _, .nil, e => by simp at e
  | (g, u) :: gs, (k, y) :: fs, .cons h t, e => by
    obtain ⟨h1, h2⟩ := h
    simp only at h1 h2
    subst h1
    rw [List.lookup_cons] at e ⊢
    split at e
    · rename_i hf
      cases e
      exact ⟨u, by simp [hf], h2⟩
    · rename_i hf
      obtain ⟨u2, e1, e2⟩ := rpf_lookup t e
      exact ⟨u2, by simp [hf, e1], e2⟩
section
variable {W : WX} {X : Cx} {K : PySem.W.Frag} {a D C C2 : Addr} {oe : Obj} {cls : Value} {d : Option Addr} {pn : List (Addr × Obj)} {e t : Expr} {te : DTE} {pos p : Pos} {n : Str}
theorem de_xf (hK : X.K = K) (T : XfC X.K C) (hno : PySem.W.findIn X.K (.ref C) n = some none) (hz : Zc cls d oe) (hf : ∃ vs, oe.data = .fields vs) (he : DE W (X.suite a ((a, oe) :: pn)) K e te) (hb : attributeBase e n X.env (eval e X.env) = eval e X.env := by rfl) :
    DE W (X.suite a ((a, oe) :: pn)) K (.Attribute e n pos) (dXf a cls d C n te) := by
  obtain ⟨r, pe, k⟩ := he
  refine ⟨_, pe_xf T hno hz hf pe hb, fun σ H J ω ρ q x Q w s cq cx z => k σ H J ω ρ _ x _ w s (fun rr ω1 v J1 H1 z1 g1 w1 rp => ?_) cx z⟩
  obtain ⟨rfl, ec, dd, fs, y, ed, eω, el, z2⟩ := z1
  obtain rfl := rp_ref rp
  obtain ⟨gs, hg, rf⟩ := w1.cell dd _ eω
  obtain ⟨u, e1, e2⟩ := rpf_lookup rf el
  exact ⟨rfl, ec, dd, gs, u, ed, hg, e1, (cq.step g1).now w1 z2 e2⟩
theorem de_isX (hK : X.K = K) (CC : ExcC X.K D) (hz : Zc cls d oe) (hf : ∃ vs, oe.data = .fields vs) (hg : Gl (X.suite a ((a, oe) :: pn)) "isinstance") (hm : X.mg "isinstance" = none) (he : DE W (X.suite a ((a, oe) :: pn)) K e te) (ht : PE (X.suite a ((a, oe) :: pn)) t (tC (.ref C2)))
    (h1 : starEach (e :: [t]) X.env = (false, eval e X.env) :: starEach [t] X.env := by rfl) (h2 : starEach [t] X.env = (false, eval t X.env) :: starEach [] X.env := by rfl) (hpl : (backTo pos (starEach [t] X.env)).any (·.1) = false := by rfl) :
    DE W (X.suite a ((a, oe) :: pn)) K (.Call (.Name "isinstance" p) [e, t] [] pos) (dIsX K a cls d D C2 te) := by
  subst hK
  obtain ⟨r, pe, k⟩ := he
  refine ⟨_, pe_callB (call_isX CC hz hf) hg hm (by decide +kernel) (pa_cons pe (pa_cons ht pa_nil h2) h1) (by decide) (by decide) h1 hpl, fun σ H J ω ρ q x Q w s cq cx z => k σ H J ω ρ _ x _ w s (fun rr ω1 v J1 H1 z1 g1 w1 rp => ?_) cx z⟩
  obtain ⟨rfl, ec, hd, b, kb, z2⟩ := z1
  obtain rfl := rp_ref rp
  refine ⟨_, _, b, rfl, ec, .own C2, kb, fun dd e => ?_, (cq.step g1).now w1 z2 (.bl _)⟩
  obtain ⟨fs, eω⟩ := hd dd e
  obtain ⟨gs, hg, _⟩ := w1.cell dd _ eω
  exact ⟨gs, hg⟩
end
end Tx

namespace Tx
open PySem PySem.Spec PyProof.Rows L2
/-! ## The law's draws over data -/
/-- v is data d, or a new list, of new lists, that stands for d -/
def Tm (ω : Wd) (v d : PyData) (ω' : Wd) : Prop := (isL d = false ∧ v = d ∧ ω' = ω) ∨ ∃ a N, v = refD a ∧ ω a = none ∧ ω' = updW ω a (.tmp N d) ∧ isL d = true
/-- such a thing becomes data -/
def Fz (v : PyData) (ω1 : Wd) (d : PyData) (ω2 : Wd) : Prop := (v = d ∧ ω2 = ω1) ∨ ∃ a N, v = refD a ∧ ω1 a = some (.tmp N d) ∧ ω2 = delW ω1 a
theorem Tm.fz {ω ω' : Wd} {v d : PyData} (h : Tm ω v d ω') : Fz v ω' d ω := by
  rcases h with ⟨_, h1, h2⟩ | ⟨a, N, h1, h2, h3, _⟩
  · exact .inl ⟨h1, h2.symm⟩
  · exact .inr ⟨a, N, h1, by rw [h3, updW_same], by rw [h3, delW_updW h2]⟩
theorem Tm.full {ω ω' : Wd} {v d : PyData} (h : Tm ω v d ω') : Full ω' v d := by
  rcases h with ⟨_, h1, h2⟩ | ⟨a, N, h1, h2, h3, _⟩
  · exact .inl h1
  · rw [h1]; exact Full.tmp (N := N) (by rw [h3, updW_same])
def dFz (te : DTE) (ρ : DS) (ω : Wd) (q : DQ) (x : DXK) : Prop := te ρ ω (fun v ω1 => ∃ d ω2, Fz v ω1 d ω2 ∧ q d ω2) x
theorem de_fz {W : WX} {X : Cx} {K : PySem.W.Frag} {e : Expr} {td : DTE} (h : DE W X K e td) : DE W X K e (dFz td) := by
  obtain ⟨t, p, k⟩ := h
  refine ⟨t, p, fun σ H J ω ρ q x Q w s cq cx z => k σ H J ω ρ _ x _ w s (fun v ω1 u J1 H1 z1 g1 w1 r => ?_) cx z⟩
  obtain ⟨d, ω2, f, z2⟩ := z1
  rcases f with ⟨rfl, rfl⟩ | ⟨a, N, rfl, e1, rfl⟩
  · exact cq _ _ _ _ _ z2 g1 w1 r
  · obtain rfl := rp_ref r
    obtain ⟨_, rN, _⟩ := w1.cell a _ e1
    exact cq _ _ _ _ _ z2 (g1.trans (grow_thaw w1 e1)) (rw_thaw w1 e1) (rp_mono same_joinN _ _ rN)
section
variable {K : PySem.W.Frag} {J J' H H' : Hp} {ω : Wd} {b : Addr}
theorem gro_grow (w : Rw K J H ω) (hb : ω b = some .bag) (g : Gro b J H J' H') : Grow J H ω J' H' ω ∧ Rw K J' H' ω := by
  have hB : Bag H b := w.cell b _ hb
  have ne : ∀ a, Fr ω a → a ≠ b := fun a z e => by have := z.1; rw [e, hb] at this; cases this
  constructor
  · exact ⟨g.jj, fun a h => g.st.there hB h, fun a o h z => g.st.keep a o (ne a z) h, fun a h _ j => g.fr a h j, fun _ _ z => z⟩
  · refine w.step g.jj g.jh g.fr fun a m e => ?_
    by_cases z : a = b
    · subst z
      rw [hb] at e
      cases e
      exact .inr ⟨g.fr a (w.there hb) (w.out a _ hb), g.st.bag, fun b' pb => False.elim pb, fun c m' nc e => ⟨w.apart hb nc e, fun b' pb => False.elim pb⟩⟩
    · refine .inl ⟨e, fun b' o l h => g.st.keep b' o ?_ h⟩
      rintro rfl
      rcases l with rfl | nb
      · exact z rfl
      · exact w.apart hb z e nb
theorem stp_grow (w : Rw K J H ω) (hb : ω b = some .bag) (g : Stp b H H') : Grow J H ω J H' ω ∧ Rw K J H' ω := gro_grow w hb (g.gro (w.out b _ hb) w.jh)
end
def dsTake : DSp := fun ts ω q _ => ∃ (b : Addr) (n : Int), ts = [refD b, .int n] ∧ ω b = some .bag ∧ 0 < n ∧ n < 1073741824 ∧ ∀ r : Int, 0 ≤ r → r < n → q (.int r) ω
def dsBag : DSp := fun ts ω q _ => ∃ (a : Addr) (ns : List Int) (i : Int), ts = [scrD a ns, .int i] ∧ 0 ≤ i ∧ i < 1000 ∧ ∀ b, ω b = none → q (refD b) (updW ω b .bag)
def dsText : DSp := fun ts ω q _ => ∃ (b : Addr) (m : Int), ts = [refD b, .int m] ∧ ω b = some .bag ∧ 0 ≤ m ∧ m < 1000 ∧ ∀ x : Str, ltr x = true → (x.length : Int) ≤ m → q (.str x) ω
def dsSize (n : Nat) : DSp := fun ts ω q _ => ∃ d, ts = [d] ∧ isVal d = true ∧ d.depth < n ∧ szD d ≤ 1000000 ∧ q (.int (szD d)) ω
def dsValue (n : Nat) : DSp := fun ts ω q _ => ∃ (b : Addr) (deep room : Int), ts = [refD b, .int deep, .int room] ∧ ω b = some .bag ∧ 0 ≤ deep ∧ deep < n ∧ 1 ≤ room ∧ room ≤ 1000 ∧ ∀ d, Val deep.toNat room.toNat d → q d ω
/-- .. of new lists that may be changed -/
def dsValueT (n : Nat) : DSp := fun ts ω q _ => ∃ (b : Addr) (deep room : Int), ts = [refD b, .int deep, .int room] ∧ ω b = some .bag ∧ 0 ≤ deep ∧ deep < n ∧ 1 ≤ room ∧ room ≤ 1000 ∧ ∀ d v ω', Val deep.toNat room.toNat d → Tm ω v d ω' → q v ω'
def dsGreat : DSp := fun ts ω q _ => ∃ b : Addr, ts = [refD b] ∧ ω b = some .bag ∧ ∀ d, Val 12 400 d → q d ω
def dsGreatT : DSp := fun ts ω q _ => ∃ b : Addr, ts = [refD b] ∧ ω b = some .bag ∧ ∀ d v ω', Val 12 400 d → Tm ω v d ω' → q v ω'
section
variable {P : Program} {w : World} {K : PySem.W.Frag} {mg : Str → Option Value} {base : Heap}
theorem rp_int {J : Hp} {v : V} {i : Int} (h : Rp K J v (.int i)) : v = .int i := by cases h; rfl
theorem dd_take (h : Has K mg "_law_take" sTake) (B : Bi mg) : Dfn P w K mg base CX0 1 "_law_take" ["_law_bag_here", "_law_many"] (spD K dsTake) := by
  refine (d_take h B).toD fun vs H Q E z => ?_
  obtain ⟨J, ω, ts, q, x, w, r, cq, cx, b, n, rfl, hb, n0, n1, z⟩ := z
  cases r with
  | cons r1 r2 => cases r2 with | cons r2 r3 =>
  cases r3
  obtain rfl := rp_ref r1
  obtain rfl := rp_int r2
  exact ⟨b, n, rfl, w.cell b _ hb, n0, n1, fun r H' r0 r1 st => cq _ _ _ _ _ (z r r0 r1) (stp_grow w hb st).1 (stp_grow w hb st).2 (.int _)⟩
theorem map_int_inj : ∀ {xs ys : List Int}, xs.map PyData.int = ys.map PyData.int → xs = ys
  | [], [], _ => rfl
  | [], _ :: _, h => by cases h
  | _ :: _, [], h => by cases h
  | x :: xs, y :: ys, h => by
    rw [List.map_cons, List.map_cons] at h
    obtain ⟨h1, h2⟩ := List.cons.inj h
    rw [PyData.int.inj h1, map_int_inj h2]
theorem dd_bag (h : Has K mg "_law_bag" sBag) (B : Bi mg) : Dfn P w K mg base CX0 1 "_law_bag" ["_law_script", "_law_at"] (spD K dsBag) := by
  refine (d_bag h B).toD fun vs H Q E z => ?_
  obtain ⟨J, ω, ts, q, x, w, r, cq, cx, a, ns, i, rfl, i0, i1, z⟩ := z
  cases r with
  | cons r1 r2 => cases r2 with | cons r2 r3 =>
  cases r3
  obtain rfl := rp_int r2
  have key : ∀ (d : PyData) (v : V), Rp K J v d → d = scrD a ns → v = .ref a ∧ SqL K J a (ns.map V.int) := by
    intro d v h e
    cases h with
    | @scr a' ns' hs =>
      have e1 := PyData.dict.inj e
      have e2 := (List.cons.inj e1).1
      obtain ⟨e3, e4⟩ := Prod.mk.inj e2
      have e5 := PyData.int.inj e3
      have e6 := PyData.list.inj e4
      have ea : a' = a := by exact_mod_cast e5
      have en : ns' = ns := map_int_inj e6
      subst ea en
      exact ⟨rfl, hs⟩
    | ref a' => cases e
    | _ => cases e
  obtain ⟨rfl, hs⟩ := key _ _ r1 rfl
  refine ⟨a, ns, i, rfl, w.jh.seq hs, i0, i1, fun b H' sm hn hB => ?_⟩
  have g0 : Grow J H ω J H' (updW ω b .bag) := ⟨Same.refl _, fun c hc => by
      cases qc : H c with
      | none => exact absurd qc hc
      | some o => rw [sm _ _ qc]; simp, fun c o hc _ => sm c o hc, fun _ _ _ j => j, fun c hc zc => fr_upd rfl zc (ne_new hc hn)⟩
  have fp := w.free hn
  refine cq _ _ _ _ _ (z b fp.1) g0 (w.step (Same.refl _) (w.jh.trans sm) (fun _ _ j => j) fun c m e => ?_) (.ref b)
  by_cases zc : c = b
  · subst zc
    rw [updW_same] at e
    cases e
    refine .inr ⟨w.jh.free hn, hB, fun b' pb => False.elim pb, fun c' m' nc e => ?_⟩
    rw [updW_ne nc] at e
    exact ⟨fp.2 c' m' e, fun b' pb => False.elim pb⟩
  · rw [updW_ne zc] at e
    exact .inl ⟨e, fun b' o _ h => sm b' o h⟩
theorem same_grow {J H H' : Hp} {ω : Wd} (w : Rw K J H ω) (s : Same H H') : Grow J H ω J H' ω ∧ Rw K J H' ω :=
  ⟨⟨Same.refl _, fun a h => by
    cases q : H a with
    | none => exact absurd q h
    | some o => rw [s _ _ q]; simp, fun a o h _ => s a o h, fun _ _ _ j => j, fun _ _ z => z⟩, w.step (Same.refl _) (w.jh.trans s) (fun _ _ j => j) fun a m e => .inl ⟨e, fun b o _ h => s b o h⟩⟩
theorem val_dp {J H : Hp} {v : V} {d : PyData} (s : Same J H) (r : Rp K J v d) (h : isVal d = true) : Dp K H v d := dp_mono s _ _ (rp_dp _ _ (fine_lay _ (val_fine _ h)) r)
/-- what a new thing of new lists is as a cell -/
theorem tm_cov {J H H' N : Hp} {ω : Wd} {q : DQ} {Q : VK} {v : V} {d : PyData} (w : Rw K J H ω) (g : Grow J H ω J H' ω) (w1 : Rw K J H' ω) (cq : CovQ K J H ω q Q) (nn : ∀ b, N b ≠ none → H b = none) (s : Same N H') (r : Rp K N v d) (val : isVal d = true)
    (z : ∀ u ω', Tm ω u d ω' → q u ω') : Q v H' := by
  cases r with
  | non => exact cq _ _ _ _ _ (z _ _ (.inl ⟨rfl, rfl, rfl⟩)) g w1 .non
  | str x => exact cq _ _ _ _ _ (z _ _ (.inl ⟨rfl, rfl, rfl⟩)) g w1 (.str x)
  | @lst a vs ds hs ha =>
    have na : N a ≠ none := by rw [hs]; simp
    have nh := nn a na
    exact cq _ _ _ _ _ (z _ _ (.inr ⟨a, N, rfl, (w.free nh).1, rfl, rfl⟩)) (grow_tmp (m := .tmp N _) g nn nh) (rw_tmp w w1 nn s (.lst hs ha) na) (.ref a)
  | bl _ => cases val
  | int _ => cases val
  | tup _ _ => cases val
  | ref _ => cases val
  | scr _ => cases val
  | pub _ => cases val
theorem gro_tm {J H H' N : Hp} {ω : Wd} {b : Addr} {q : DQ} {Q : VK} {v : V} {d : PyData} (w : Rw K J H ω) (hb : ω b = some .bag) (g : Gro b (fun _ => none) H N H') (cq : CovQ K J H ω q Q) (r : Rp K N v d) (val : isVal d = true) (z : ∀ u ω', Tm ω u d ω' → q u ω') : Q v H' := by
  obtain ⟨g2, w2⟩ := stp_grow w hb g.st
  refine tm_cov w g2 w2 cq (fun b nb => ?_) g.jh r val z
  cases q : H b with
  | none => rfl
  | some o => exact absurd (g.fr b (by rw [q]; simp) rfl) nb
/-! ### the law's own def -/
def spLaw (K : PySem.W.Frag) : Sp := fun vs H Q _ => ∃ (a : Addr) (ns : List Int), vs = [.ref a] ∧ SqL K H a (ns.map V.int) ∧ ns.length ≤ 63 ∧ ∀ H', Q (.bl true) H'
def dsLaw : DSp := fun ts ω q _ => ∃ (a : Addr) (ns : List Int), ts = [scrD a ns] ∧ ns.length ≤ 63 ∧ ω = (fun _ => none) ∧ ∀ ω', q (.bool true) ω'
theorem law_of {k : Nat} {ps : List Str} (D : Dfn P w K mg base CX0 k "law" ps (spD K dsLaw)) : Dfn P w K mg base CX0 k "law" ps (spLaw K) := by
  obtain ⟨f, fd, F, r⟩ := D
  have key : ∀ vs H Q E, spLaw K vs H Q E → spD K dsLaw vs H Q E := by
    rintro vs H Q E ⟨a, ns, rfl, hs, hl, q⟩
    refine ⟨H, fun _ => none, [scrD a ns], fun d _ => d = .bool true, X0, ⟨Same.refl _, (fun _ _ e => nomatch e), (fun _ _ e => nomatch e), (fun _ _ e => nomatch e)⟩, .cons (.scr hs) .nil, fun r ω' v J' H' z _ _ rp => ?_, (fun _ _ _ _ _ _ z => False.elim z), a, ns, rfl, hl, rfl, fun _ => rfl⟩
    subst z
    cases rp
    exact q H'
  exact ⟨f, fd, ⟨fun vs H Q E z => F.len _ _ _ _ (key _ _ _ _ z), fun A out s H ar us vs Q E ro g e b v z => F.run A out s H ar us vs Q E ro g e b v (key _ _ _ _ z)⟩, r⟩
end
end Tx

namespace Tx
open PySem PySem.Spec PyProof.Rows L2
/-! ## the drawn texts and values as data -/
section
variable {P : Program} {w : World} {K : PySem.W.Frag} {mg : Str → Option Value} {base : Heap}
theorem dd_text (h : Has K mg "_law_text" sText) (B : Bi mg) (D_law_take : Dfn P w K mg base CX0 1 "_law_take" ["_law_bag_here", "_law_many"] spTake) : Dfn P w K mg base CX0 2 "_law_text" ["_law_bag_here", "_law_most"] (spD K dsText) := by
  refine (d_text h B D_law_take).toD fun vs H Q E z => ?_
  obtain ⟨J, ω, ts, q, x, w, r, cq, cx, b, n, rfl, hb, n0, n1, z⟩ := z
  cases r with
  | cons r1 r2 => cases r2 with | cons r2 r3 =>
  cases r3
  obtain rfl := rp_ref r1
  obtain rfl := rp_int r2
  exact ⟨b, n, rfl, w.cell b _ hb, n0, n1, fun r H' r0 r1 st => cq _ _ _ _ _ (z r r0 r1) (stp_grow w hb st).1 (stp_grow w hb st).2 (.str _)⟩
theorem dd_size (h : Has K mg "_law_size" sSize) (B : Bi mg) (n : Nat) : Dfn P w K mg base CX0 n "_law_size" ["_law_value_here"] (spD K (dsSize n)) := by
  refine (d_size h B n).toD fun vs H Q E z => ?_
  obtain ⟨J, ω, ts, q, x, w, r, cq, cx, d, rfl, val, dn, sz, z⟩ := z
  cases r with
  | cons r1 r2 =>
  cases r2
  exact ⟨_, d, rfl, val_dp w.jh r1 val, val, dn, sz, fun H' sm => cq _ _ _ _ _ z (same_grow w sm).1 (same_grow w sm).2 (.int _)⟩
theorem dd_value {n : Nat} (D : Dfn P w K mg base CX0 (n + 20) "_law_value" ["_law_bag_here", "_law_deep", "_law_room"] (spValue K n)) : Dfn P w K mg base CX0 (n + 20) "_law_value" ["_law_bag_here", "_law_deep", "_law_room"] (spD K (dsValue n)) := by
  refine D.toD fun vs H Q E z => ?_
  obtain ⟨J, ω, ts, q, x, w, r, cq, cx, b, deep, room, rfl, hb, d0, d1, r0, r1, z⟩ := z
  cases r with
  | cons ra r2 => cases r2 with | cons rb r3 => cases r3 with | cons rc r4 =>
  cases r4
  obtain rfl := rp_ref ra
  obtain rfl := rp_int rb
  obtain rfl := rp_int rc
  exact ⟨b, J, deep, room, rfl, w.cell b _ hb, w.out b _ hb, w.jh, d0, d1, r0, r1, fun v d J' H' g r vd => cq _ _ _ _ _ (z d vd) (gro_grow w hb g).1 (gro_grow w hb g).2 r⟩
theorem dd_valueT {n : Nat} (D : Dfn P w K mg base CX0 (n + 20) "_law_value" ["_law_bag_here", "_law_deep", "_law_room"] (spValue K n)) : Dfn P w K mg base CX0 (n + 20) "_law_value" ["_law_bag_here", "_law_deep", "_law_room"] (spD K (dsValueT n)) := by
  refine D.toD fun vs H Q E z => ?_
  obtain ⟨J, ω, ts, q, x, w, r, cq, cx, b, deep, room, rfl, hb, d0, d1, r0, r1, z⟩ := z
  cases r with
  | cons ra r2 => cases r2 with | cons rb r3 => cases r3 with | cons rc r4 =>
  cases r4
  obtain rfl := rp_ref ra
  obtain rfl := rp_int rb
  obtain rfl := rp_int rc
  exact ⟨b, fun _ => none, deep, room, rfl, w.cell b _ hb, rfl, (fun _ _ e => nomatch e), d0, d1, r0, r1, fun v d J' H' g r vd => gro_tm w hb g cq r vd.val fun u ω' t => z d u ω' vd t⟩
end
end Tx

namespace Tx
open PySem PySem.Spec PyProof.Rows L2
/-! ## The first place at which something is no value -/
/-- a place, as a tuple of numbers -/
def plD (p : List Nat) : PyData := .tuple (p.map fun (n : Nat) => PyData.int (n : Int))
mutual
def wrongP : PyData → Option (List Nat)
  | .none => none
  | .str x => if ltr x = true then none else some []
  | .list xs => wrongAll 0 xs
  | _ => some []
def wrongAll (i : Nat) : List PyData → Option (List Nat)
  | [] => none
  | x :: xs => match wrongP x with
    | some p => some (i :: p)
    | none => wrongAll (i + 1) xs
end
def isTxt : PyData → Bool
  | .str x => ltr x
  | _ => false
theorem wrongAll_drop {ds : List PyData} {i : Nat} {d : PyData} (h : ds[i]? = some d) (n : wrongP d = none) (e : wrongAll 0 ds = wrongAll i (ds.drop i)) : wrongAll 0 ds = wrongAll (i + 1) (ds.drop (i + 1)) := by
  have hi : i < ds.length := (List.getElem?_eq_some_iff.mp h).1
  rw [e, List.drop_eq_getElem_cons hi]
  have hd : ds[i] = d := by rw [List.getElem?_eq_getElem hi] at h; exact Option.some.inj h
  rw [hd]
  simp only [wrongAll, n]
theorem wrongAll_at {ds : List PyData} {i : Nat} {d : PyData} {p : List Nat} (h : ds[i]? = some d) (n : wrongP d = some p) (e : wrongAll 0 ds = wrongAll i (ds.drop i)) : wrongAll 0 ds = some (i :: p) := by
  have hi : i < ds.length := (List.getElem?_eq_some_iff.mp h).1
  rw [e, List.drop_eq_getElem_cons hi]
  have hd : ds[i] = d := by rw [List.getElem?_eq_getElem hi] at h; exact Option.some.inj h
  rw [hd]
  simp only [wrongAll, n]
mutual
theorem wrong_len : ∀ (d : PyData) (p : List Nat), wrongP d = some p → p.length ≤ d.depth
  | .none, p, h => by simp [wrongP] at h
  | .bool _, p, h => by simp only [wrongP] at h; cases h; simp
  | .int _, p, h => by simp only [wrongP] at h; cases h; simp
  | .tuple _, p, h => by simp only [wrongP] at h; cases h; simp
  | .dict _, p, h => by simp only [wrongP] at h; cases h; simp
  | .str x, p, h => by
    simp only [wrongP] at h
    split at h
    · cases h
    · cases h; simp
  | .list xs, p, h => by
    simp only [wrongP] at h
    have := wrongAll_len xs 0 p h
    simpa only [PyData.depth] using this
theorem wrongAll_len : ∀ (xs : List PyData) (i : Nat) (p : List Nat), wrongAll i xs = some p → p.length ≤ PyData.depthAll xs + 1
  | [], i, p, h => by simp [wrongAll] at h
  | x :: xs, i, p, h => by
    simp only [wrongAll] at h
    simp only [PyData.depthAll]
    cases e : wrongP x with
    | some q =>
      rw [e] at h
      cases h
      have := wrong_len x q e
      simp only [List.length_cons]
      omega
    | none =>
      rw [e] at h
      have := wrongAll_len xs (i + 1) p h
      omega
end
theorem abc_mem (c : Nat) : decide (c ∈ (("abcdefghijklmnopqrstuvwxyz" : Str)).cps.toList) = decide (97 ≤ c ∧ c ≤ 122) := by
  have e : (("abcdefghijklmnopqrstuvwxyz" : Str)).cps.toList = List.range' 97 26 := by decide +kernel
  rw [e]
  by_cases h : 97 ≤ c ∧ c ≤ 122
  · rw [decide_eq_true h, decide_eq_true (List.mem_range'_1.mpr ⟨h.1, by omega⟩)]
  · rw [decide_eq_false h, decide_eq_false fun z => h (by have := List.mem_range'_1.mp z; omega)]
/-- a thing that the texts take: shown well, not too deep -/
structure Thing (n m : Nat) (d : PyData) : Prop where
  fine : fine d = true
  deep : d.depth ≤ n
  wt : wt d ≤ m
theorem Thing.mono {n m n' m' : Nat} {d : PyData} (h : Thing n m d) (h1 : n ≤ n') (h2 : m ≤ m') : Thing n' m' d := ⟨h.fine, Nat.le_trans h.deep h1, Nat.le_trans h.wt h2⟩
theorem Thing.ok {n m : Nat} {d : PyData} (h : Thing n m d) (h1 : n ≤ 60) (h2 : m ≤ 16000000) : Ok d := ⟨h.fine, Nat.le_trans h.deep h1, Nat.le_trans h.wt h2⟩
theorem Val.thing {n m : Nat} {d : PyData} (h : Val n m d) : Thing n (12 * m) d := ⟨val_fine d h.val, h.deep, by have := val_wt d h.val; have := h.size; omega⟩
theorem Thing.item {n m : Nat} {ds : List PyData} (h : Thing n m (.list ds)) {d : PyData} (hd : d ∈ ds) : Thing (n - 1) m d := by
  have h1 := h.fine
  have h2 := h.deep
  have h3 := h.wt
  simp only [Tx.fine] at h1
  simp only [PyData.depth] at h2
  simp only [Tx.wt] at h3
  have := depth_mem hd
  have := wt_mem hd
  exact ⟨fineAll_iff.mp h1 d hd, by omega, by omega⟩
mutual
theorem depth_wt : ∀ d : PyData, Tx.fine d = true → d.depth ≤ Tx.wt d
  | .none, _ => by simp [PyData.depth]
  | .bool _, _ => by simp [PyData.depth]
  | .int _, _ => by simp [PyData.depth]
  | .str _, _ => by simp [PyData.depth]
  | .list xs, h => by
    simp only [Tx.fine] at h
    have := depthAll_wt xs h
    simp only [PyData.depth, Tx.wt]
    omega
  | .tuple xs, h => by
    simp only [Tx.fine] at h
    have := depthAll_wt xs h
    simp only [PyData.depth, Tx.wt]
    omega
  | .dict _, h => by simp [Tx.fine] at h
theorem depthAll_wt : ∀ xs : List PyData, fineAll xs = true → PyData.depthAll xs ≤ wtAll xs
  | [], _ => by simp [PyData.depthAll]
  | x :: xs, h => by
    simp only [fineAll, Bool.and_eq_true] at h
    have := depth_wt x h.1
    have := depthAll_wt xs h.2
    simp only [PyData.depthAll, wtAll]
    omega
end
theorem len_le_wtAll : ∀ xs : List PyData, 2 * xs.length ≤ wtAll xs
  | [] => by simp [wtAll]
  | x :: xs => by
    have := len_le_wtAll xs
    simp only [wtAll, List.length_cons]
    omega
theorem Thing.len {n m : Nat} {ds : List PyData} (h : Thing n m (.list ds)) : 2 * ds.length ≤ m := by
  have h3 := h.wt
  simp only [Tx.wt] at h3
  have := len_le_wtAll ds
  omega
end Tx

namespace Tx
open PySem PySem.Spec PyProof.Rows L2
/-! ## Rules of the kit with the written part named (within a comprehension it must be) -/
section
variable {X : Cx} {K : PySem.W.Frag}
theorem op_catTK (h : X.K = K) : OpR X (binaryOp .Add) (rCatT K) := h ▸ op_catT
theorem op_eqDK (h : X.K = K) (u : X.A.units + 64 < cLine) : OpR X (compareOp .Eq) (rEqD K) := h ▸ op_eqD u
theorem op_neDK (h : X.K = K) (u : X.A.units + 64 < cLine) : OpR X (compareOp .NotEq) (rNeD K) := h ▸ op_neD u
theorem ix_listK (h : X.K = K) : IxR X (rIxL K) := h ▸ ix_list
theorem ix_tupK (h : X.K = K) : IxR X (rIxT K) := h ▸ ix_tup
theorem sl_listK (h : X.K = K) : SlR X (rSlL K) := h ▸ sl_list
theorem sl_tupK (h : X.K = K) : SlR X (rSlT K) := h ▸ sl_tup
theorem call_len_seqK (h : X.K = K) : CallR X (.builtin "len") (fun xs H Q => ∃ p ys, xs = [.ref p] ∧ (SqL K H p ys ∨ SqT K H p ys) ∧ Q (.int ys.length) H) := h ▸ call_len_seq
theorem call_isDK {T : String} (h : X.K = K) : CallR X (.builtin "isinstance") (rIsD K T) := h ▸ call_isD
theorem call_reprK (h : X.K = K) (gd : X.A.guards = some []) (hu : X.A.units + 64 < cLine) : CallR X (.builtin "repr") (rRepr K) := h ▸ call_repr gd hu
theorem op_in_seqK (h : X.K = K) : OpR X (compareOp .In) (rIn K false) := h ▸ op_in_seq
end
/-! ## Data that stays while the things at F are changed -/
def hide (F : List Addr) (H : Hp) : Hp := fun a => if a ∈ F then none else H a
def Dq (K : PySem.W.Frag) (F : List Addr) (H : Hp) (v : V) (d : PyData) : Prop := Dp K (hide F H) v d
def DqAll (K : PySem.W.Frag) (F : List Addr) (H : Hp) (vs : List V) (ds : List PyData) : Prop := DpAll K (hide F H) vs ds
/-- the things at F are there -/
def There (F : List Addr) (H : Hp) : Prop := ∀ a ∈ F, H a ≠ none
section
variable {K : PySem.W.Frag} {F : List Addr} {H H' : Hp} {p : Addr} {o : HO} {v : V} {d : PyData} {vs : List V} {ds : List PyData}
theorem hide_in (h : p ∈ F) : hide F H p = none := if_pos h
theorem hide_out (h : p ∉ F) : hide F H p = H p := if_neg h
theorem hide_le : Same (hide F H) H := fun a o e => by
  unfold hide at e
  split at e
  · cases e
  · exact e
theorem hide_same (s : Same H H') : Same (hide F H) (hide F H') := fun a o e => by
  unfold hide at e ⊢
  split at e
  · cases e
  · rename_i h; rw [if_neg h]; exact s a o e
theorem hide_cons : Same (hide (p :: F) H) (hide F H) := fun a o e => by
  unfold hide at e ⊢
  split at e
  · cases e
  · rename_i h; rw [if_neg fun z => h (List.mem_cons_of_mem _ z)]; exact e
theorem hide_sub {F' : List Addr} (h : ∀ a ∈ F, a ∈ F') : Same (hide F' H) (hide F H) := fun a o e => by
  unfold hide at e ⊢
  split at e
  · cases e
  · rename_i z; rw [if_neg fun y => z (h a y)]; exact e
theorem There.fresh (t : There F H) (h : H p = none) : p ∉ F := fun z => t p z h
theorem There.same (t : There F H) (s : Same H H') : There F H' := fun a h => by
  cases q : H a with
  | none => exact absurd q (t a h)
  | some o => rw [s a o q]; simp
theorem There.upd (t : There F H) : There F (upd H p o) := fun a h => by
  by_cases z : a = p
  · rw [z, upd_same]; simp
  · rw [upd_ne z]; exact t a h
theorem There.cons (t : There F H) (h : H p = some o) : There (p :: F) H := fun a z => by
  cases z with
  | head => rw [h]; simp
  | tail _ z => exact t a z
theorem There.one (h : H p = some o) : There [p] H := fun a z => by rw [List.mem_singleton.mp z, h]; simp
theorem hide_upd (h : p ∉ F) : hide F (upd H p o) = upd (hide F H) p o := by
  funext a
  by_cases z : a = p
  · subst z; rw [hide_out h, upd_same, upd_same]
  · rw [upd_ne z]
    unfold hide
    rw [upd_ne z]
theorem hide_upd_in (h : p ∈ F) : hide F (upd H p o) = hide F H := by
  funext a
  unfold hide
  split
  · rfl
  · rename_i z; rw [upd_ne fun y => z (by rw [y]; exact h)]
theorem hide_mut (h : p ∈ F) : Same (hide F H) (hide F (upd H p o)) := by rw [hide_upd_in h]; exact Same.refl _
theorem Dq.dp (h : Dq K F H v d) : Dp K H v d := dp_mono hide_le d v h
theorem DqAll.dp (h : DqAll K F H vs ds) : DpAll K H vs ds := dpAll_mono hide_le ds vs h
theorem Dq.to (h : Dq K F H v d) (s : Same (hide F H) (hide F H')) : Dq K F H' v d := dp_mono s d v h
theorem DqAll.to (h : DqAll K F H vs ds) (s : Same (hide F H) (hide F H')) : DqAll K F H' vs ds := dpAll_mono s ds vs h
theorem Dq.same (h : Dq K F H v d) (s : Same H H') : Dq K F H' v d := h.to (hide_same s)
theorem DqAll.same (h : DqAll K F H vs ds) (s : Same H H') : DqAll K F H' vs ds := h.to (hide_same s)
theorem Dq.less (h : Dq K (p :: F) H v d) : Dq K F H v d := dp_mono hide_cons d v h
theorem DqAll.less (h : DqAll K (p :: F) H vs ds) : DqAll K F H vs ds := dpAll_mono hide_cons ds vs h
/-- a further thing is guarded that is new -/
theorem Dq.more (h : Dq K F H v d) (n : H p = none) : Dq K (p :: F) H v d := dp_mono (fun a o e => by
  have z : a ≠ p := fun z => by rw [z] at e; have := hide_le p o e; rw [n] at this; cases this
  unfold hide at e ⊢
  split at e
  · cases e
  · rename_i y; rw [if_neg fun q => by cases q with | head => exact z rfl | tail _ q => exact y q]; exact e) d v h
theorem DqAll.more (h : DqAll K F H vs ds) (n : H p = none) : DqAll K (p :: F) H vs ds := dpAll_mono (fun a o e => by
  have z : a ≠ p := fun z => by rw [z] at e; have := hide_le p o e; rw [n] at this; cases this
  unfold hide at e ⊢
  split at e
  · cases e
  · rename_i y; rw [if_neg fun q => by cases q with | head => exact z rfl | tail _ q => exact y q]; exact e) ds vs h
/-- a list (a tuple) of one's own -/
theorem Dq.lst (n : p ∉ F) (e : H p = some (.lst vs)) (h : DqAll K (p :: F) H vs ds) : Dq K F H (.ref p) (.list ds) := L2.Dp.lst (SqL.of (by rw [hide_out n]; exact e)) h.less
theorem Dq.tup (n : p ∉ F) (e : H p = some (.tup vs)) (h : DqAll K F H vs ds) : Dq K F H (.ref p) (.tuple ds) := L2.Dp.tup (SqT.of (by rw [hide_out n]; exact e)) h
theorem Dq.newL (n : H p = none) (t : There F H) (h : DqAll K F H vs ds) : Dq K F (upd H p (.lst vs)) (.ref p) (.list ds) :=
  L2.Dp.lst (SqL.of (by rw [hide_out (t.fresh n), upd_same])) (h.same (same_new n _))
theorem Dq.newT (n : H p = none) (t : There F H) (h : DqAll K F H vs ds) : Dq K F (upd H p (.tup vs)) (.ref p) (.tuple ds) :=
  L2.Dp.tup (SqT.of (by rw [hide_out (t.fresh n), upd_same])) (h.same (same_new n _))
/-- a place: numbers alone -/
theorem place_q {b : Addr} {q : List Nat} (hb : ∀ ys, H b ≠ some (.tup ys)) (hf : ∀ o ys, H b ≠ some (.frz o (.tup ys))) (h : Dp K H v (plD q)) : Dq K [b] H v (plD q) := by
  cases h with
  | @tup a xs _ hs ha =>
  have ha' : ∀ (q : List Nat) (xs : List V), DpAll K H xs (q.map fun (n : Nat) => PyData.int (n : Int)) → DpAll K (hide [b] H) xs (q.map fun (n : Nat) => PyData.int (n : Int)) := by
    intro q
    induction q with
    | nil => intro xs h; cases h; exact .nil
    | cons n q ih =>
      intro xs h
      cases h with
      | cons h1 h2 => cases h1; exact .cons (.int _) (ih _ h2)
  refine L2.Dp.tup ?_ (ha' q xs ha)
  rcases hs with (e | ⟨o, e⟩) | e
  · exact .inl (.inl (by rw [hide_out fun z => hb xs (by rw [← List.mem_singleton.mp z]; exact e)]; exact e))
  · exact .inl (.inr ⟨o, by rw [hide_out fun z => hf o xs (by rw [← List.mem_singleton.mp z]; exact e)]; exact e⟩)
  · exact .inr e
end
section
variable {K : PySem.W.Frag} {b : Addr} {F : List Addr} {H H' J' : Hp} {v : V} {d : PyData}
theorem Stp.hide (s : Stp b H H') (h : b ∈ F) : Same (hide F H) (hide F H') := fun a o e => by
  unfold Tx.hide at e ⊢
  split at e
  · cases e
  · rename_i z; rw [if_neg z]; exact s.keep a o (fun y => z (by rw [y]; exact h)) e
theorem Stp.thereF (s : Stp b H H') (hB : Bag H b) (t : There F H) : There F H' := fun a h => s.there hB (t a h)
theorem Gro.hide (g : Gro b (hide F H) H J' H') (t : There F H) : Same J' (Tx.hide F H') := fun a o e => by
  have n : a ∉ F := fun z => by rw [g.fr a (t a z) (hide_in z)] at e; cases e
  rw [hide_out n]
  exact g.jh a o e
theorem Gro.dq (g : Gro b (Tx.hide F H) H J' H') (t : There F H) (h : Dp K J' v d) : Dq K F H' v d := dp_mono (g.hide t) d v h
theorem Bag.there (h : Bag H b) : There [b] H := by
  obtain ⟨c, m, e⟩ := h
  exact There.one e
theorem Bag.same (h : Bag H b) (s : Same H H') : Bag H' b := by
  obtain ⟨c, m, e⟩ := h
  exact ⟨c, m, s _ _ e⟩
theorem Stp.ofSame (h : Bag H b) (s : Same H H') : Stp b H H' := ⟨h.same s, SameBut.of s⟩
end
end Tx

namespace Tx
open PySem PySem.Spec PyProof.Rows L2
/-! ## More rules: max with a default; a def that cannot raise here -/
/-- the greatest, or z -/
def maxOr (z : Int) : List Int → Int
  | [] => z
  | n :: r => r.foldl max n
def rMaxDf (K : PySem.W.Frag) : List V → List V → Hp → VK → Prop := fun vs zs H Q => ∃ (a : Addr) (ns : List Int) (z : Int), vs = [.ref a] ∧ zs = [.int z] ∧ SqL K H a (ns.map V.int) ∧ Q (.int (maxOr z ns)) H
theorem dp_ints {K : PySem.W.Frag} {H : Hp} : ∀ ns : List Int, DpAll K H (ns.map V.int) (ns.map PyData.int)
  | [] => .nil
  | n :: ns => .cons (.int n) (dp_ints ns)
theorem depth_ints : ∀ ns : List Int, PyData.depthAll (ns.map PyData.int) = 0
  | [] => rfl
  | n :: ns => by simp [PyData.depthAll, PyData.depth, depth_ints ns]
theorem cr_maxDf {X : Cx} (hc : X.calm = true) (hu : X.A.units + 64 < cLine) : CallRK X (.builtin "max") [Str.ofString "default"] (rMaxDf X.K) := by
  intro pins s σ H vs zs us ws Q I r rz h
  obtain ⟨a, ns, z, rfl, rfl, hs, q⟩ := h
  obtain ⟨its, rv, hl, _⟩ := I.list hs
  rw [Vals.ref1 r]
  obtain ⟨w1, rfl, t, rfl⟩ := vals1 rz
  obtain ⟨as, rd⟩ := Dp.readsAll I _ _ _ (dp_ints ns) rv
  have al : PySem.W.AlikeAll (ns.map PyData.int) := by
    refine ⟨fun x hx y hy => ?_, fun x hx => ?_⟩
    · obtain ⟨i, _, rfl⟩ := List.mem_map.mp hx
      obtain ⟨j, _, rfl⟩ := List.mem_map.mp hy
      rfl
    · obtain ⟨i, _, rfl⟩ := List.mem_map.mp hx
      exact fun z => nomatch z
  refine PySem.W.max_list_default (d := .int z t) (I.ok.hd hc) hl.isList (by simpa using rd) al (by rw [depth_ints]; omega) (fun e h' tk hk => ?_) (fun y ys i v h' tk bs e hv rd' hk => ?_)
  · obtain rfl : ns = [] := by cases ns with | nil => rfl | cons n r => cases e
    exact ⟨.int z, H, I.kept hk, ⟨t, rfl⟩, q⟩
  · cases ns with
    | nil => cases e
    | cons n r =>
      rw [List.map_cons] at e
      injection e with e1 e2
      subst e1 e2
      rw [PySem.W.maxD_ints] at rd'
      cases rd'
      exact ⟨.int _, H, I.kept hk, ⟨_, rfl⟩, q⟩
theorem foldl_max (ds : List PyData) : ∀ n : Nat, (ds.map fun d => (d.depth : Int)).foldl max (n : Int) = ((max n (PyData.depthAll ds) : Nat) : Int) := by
  induction ds with
  | nil => intro n; simp [PyData.depthAll]
  | cons d ds ih =>
    intro n
    rw [List.map_cons, List.foldl_cons]
    have : max (n : Int) (d.depth : Int) = ((max n d.depth : Nat) : Int) := by omega
    rw [this, ih]
    simp only [PyData.depthAll]
    omega
theorem maxOr_depth (ds : List PyData) : maxOr 0 (ds.map fun d => (d.depth : Int)) = (PyData.depthAll ds : Int) := by
  cases ds with
  | nil => rfl
  | cons d ds =>
    show (ds.map fun d => (d.depth : Int)).foldl max (d.depth : Int) = _
    rw [foldl_max]
    rfl
theorem Dfn.calm {P : Program} {w : World} {K : PySem.W.Frag} {mg : Str → Option Value} {base : Heap} {k : Nat} {x : Str} {ps : List Str} {sp sp' : Sp} (D : Dfn P w K mg base (L2.CX P w) k x ps sp) (h : ∀ vs H Q E, sp' vs H Q E → sp vs H Q fun _ _ _ => False) : Dfn P w K mg base CX0 k x ps sp' := by
  obtain ⟨f, fd, F, m, kp, bd⟩ := D
  refine ⟨f, fd, ⟨fun vs H Q E z => F.len _ _ _ _ (h _ _ _ _ z), fun A out s H ar us vs Q E r g e b v z => ?_⟩, m, kp, bd⟩
  refine codeAny_mono (F.run A out s H ar us vs Q _ r g e b v (h _ _ _ _ z)) fun r s' got => ?_
  match r, got with
  | .ok (.ret u), got => exact got
  | .ok .next, got => exact False.elim got
  | .ok .brk, got => exact False.elim got
  | .ok .cont, got => exact False.elim got
  | .error er, ⟨_, _, _, _, _, _, _, _, _, _, _, _, no⟩ => exact False.elim no
/-! ## New things made of new things; what may be done to them -/
mutual
/-- v stands for d, all its lists are outside B, each below another, and have at most M 'x' behind -/
def Nw (M : Nat) (H : Hp) : PyData → (Addr → Prop) → V → Prop
  | .none, _, v => v = .non
  | .str x, _, v => v = .str x
  | .list ds, B, v => ∃ (a : Addr) (vs : List V) (k : Nat), v = .ref a ∧ ¬ B a ∧ H a = some (.lst (vs ++ List.replicate k (.str "x"))) ∧ k ≤ M ∧ NwAll M H ds (fun x => B x ∨ x = a) vs
  | .bool _, _, _ => False
  | .int _, _, _ => False
  | .tuple _, _, _ => False
  | .dict _, _, _ => False
def NwAll (M : Nat) (H : Hp) : List PyData → (Addr → Prop) → List V → Prop
  | [], _, vs => vs = []
  | d :: ds, B, vs => ∃ (v : V) (ws : List V), vs = v :: ws ∧ Nw M H d B v ∧ NwAll M H ds B ws
end
mutual
theorem Nw.to {M M' : Nat} {H H' : Hp} (hM : M ≤ M') : ∀ (d : PyData) (B B' : Addr → Prop) (v : V), (∀ a, B' a → B a) → (∀ a o, ¬ B a → H a = some o → H' a = some o) → Nw M H d B v → Nw M' H' d B' v
  | .none, _, _, _, _, _, h => by simpa only [Nw] using h
  | .str _, _, _, _, _, _, h => by simpa only [Nw] using h
  | .list ds, B, B', v, hB, hH, h => by
    simp only [Nw] at h ⊢
    obtain ⟨a, vs, k, e, n, ha, hk, hA⟩ := h
    exact ⟨a, vs, k, e, fun z => n (hB a z), hH a _ n ha, by omega, NwAll.to hM ds _ _ vs (fun x hx => hx.imp (hB x) id) (fun x o nx hx => hH x o (fun z => nx (.inl z)) hx) hA⟩
  | .bool _, _, _, _, _, _, h => by simp only [Nw] at h
  | .int _, _, _, _, _, _, h => by simp only [Nw] at h
  | .tuple _, _, _, _, _, _, h => by simp only [Nw] at h
  | .dict _, _, _, _, _, _, h => by simp only [Nw] at h
theorem NwAll.to {M M' : Nat} {H H' : Hp} (hM : M ≤ M') : ∀ (ds : List PyData) (B B' : Addr → Prop) (vs : List V), (∀ a, B' a → B a) → (∀ a o, ¬ B a → H a = some o → H' a = some o) → NwAll M H ds B vs → NwAll M' H' ds B' vs
  | [], _, _, _, _, _, h => by simpa only [NwAll] using h
  | d :: ds, B, B', vs, hB, hH, h => by
    simp only [NwAll] at h ⊢
    obtain ⟨v, ws, e, h1, h2⟩ := h
    exact ⟨v, ws, e, Nw.to hM d B B' v hB hH h1, NwAll.to hM ds B B' ws hB hH h2⟩
end
theorem dp_xs {K : PySem.W.Frag} {H : Hp} : ∀ k : Nat, DpAll K H (List.replicate k (.str "x")) (List.replicate k (.str "x"))
  | 0 => .nil
  | k + 1 => .cons (.str _) (dp_xs k)
mutual
theorem Nw.some {K : PySem.W.Frag} {M : Nat} {H : Hp} : ∀ (d : PyData) (B : Addr → Prop) (v : V), Nw M H d B v → ∃ e, Dp K H v e ∧ isL e = isL d
  | .none, _, v, h => by simp only [Nw] at h; subst h; exact ⟨.none, .non, rfl⟩
  | .str x, _, v, h => by simp only [Nw] at h; subst h; exact ⟨.str x, .str x, rfl⟩
  | .list ds, B, v, h => by
    simp only [Nw] at h
    obtain ⟨a, vs, k, rfl, n, ha, hk, hA⟩ := h
    obtain ⟨es, he⟩ := NwAll.some ds _ vs hA
    exact ⟨.list (es ++ List.replicate k (.str "x")), .lst (SqL.of ha) (DpAll.append he (dp_xs k)), rfl⟩
  | .bool _, _, _, h => by simp only [Nw] at h
  | .int _, _, _, h => by simp only [Nw] at h
  | .tuple _, _, _, h => by simp only [Nw] at h
  | .dict _, _, _, h => by simp only [Nw] at h
theorem NwAll.some {K : PySem.W.Frag} {M : Nat} {H : Hp} : ∀ (ds : List PyData) (B : Addr → Prop) (vs : List V), NwAll M H ds B vs → ∃ es, DpAll K H vs es
  | [], _, vs, h => by simp only [NwAll] at h; subst h; exact ⟨[], .nil⟩
  | d :: ds, B, vs, h => by
    simp only [NwAll] at h
    obtain ⟨v, ws, rfl, h1, h2⟩ := h
    obtain ⟨e, he, _⟩ := Nw.some (K := K) d B v h1
    obtain ⟨es, hes⟩ := NwAll.some (K := K) ds B ws h2
    exact ⟨e :: es, .cons he hes⟩
end
mutual
theorem Nw.dp {K : PySem.W.Frag} {H : Hp} : ∀ (d : PyData) (B : Addr → Prop) (v : V), Nw 0 H d B v → Dp K H v d
  | .none, _, v, h => by simp only [Nw] at h; subst h; exact .non
  | .str x, _, v, h => by simp only [Nw] at h; subst h; exact .str x
  | .list ds, B, v, h => by
    simp only [Nw] at h
    obtain ⟨a, vs, k, rfl, n, ha, hk, hA⟩ := h
    obtain rfl : k = 0 := by omega
    rw [List.replicate_zero, List.append_nil] at ha
    exact .lst (SqL.of ha) (NwAll.dp ds _ vs hA)
  | .bool _, _, _, h => by simp only [Nw] at h
  | .int _, _, _, h => by simp only [Nw] at h
  | .tuple _, _, _, h => by simp only [Nw] at h
  | .dict _, _, _, h => by simp only [Nw] at h
theorem NwAll.dp {K : PySem.W.Frag} {H : Hp} : ∀ (ds : List PyData) (B : Addr → Prop) (vs : List V), NwAll 0 H ds B vs → DpAll K H vs ds
  | [], _, vs, h => by simp only [NwAll] at h; subst h; exact .nil
  | d :: ds, B, vs, h => by
    simp only [NwAll] at h
    obtain ⟨v, ws, rfl, h1, h2⟩ := h
    exact .cons (Nw.dp d B v h1) (NwAll.dp ds B ws h2)
end
section
variable {M : Nat} {H H' : Hp} {B : Addr → Prop}
theorem NwAll.len : ∀ {ds : List PyData} {vs : List V}, NwAll M H ds B vs → vs.length = ds.length
  | [], vs, h => by simp only [NwAll] at h; rw [h]; rfl
  | d :: ds, vs, h => by
    simp only [NwAll] at h
    obtain ⟨v, ws, rfl, h1, h2⟩ := h
    simp only [List.length_cons, NwAll.len h2]
theorem NwAll.get : ∀ {ds : List PyData} {vs : List V} {i : Nat} {v : V}, NwAll M H ds B vs → vs[i]? = Option.some v → ∃ d, ds[i]? = Option.some d ∧ Nw M H d B v
  | [], vs, i, v, h, e => by simp only [NwAll] at h; rw [h] at e; simp at e
  | d :: ds, vs, 0, v, h, e => by
    simp only [NwAll] at h
    obtain ⟨u, ws, rfl, h1, h2⟩ := h
    simp at e
    subst e
    exact ⟨d, rfl, h1⟩
  | d :: ds, vs, i + 1, v, h, e => by
    simp only [NwAll] at h
    obtain ⟨u, ws, rfl, h1, h2⟩ := h
    obtain ⟨c, e1, e2⟩ := NwAll.get (i := i) (v := v) h2 (by simpa using e)
    exact ⟨c, by simpa using e1, e2⟩
theorem NwAll.append : ∀ {ds es : List PyData} {vs ws : List V}, NwAll M H ds B vs → NwAll M H es B ws → NwAll M H (ds ++ es) B (vs ++ ws)
  | [], es, vs, ws, h, g => by simp only [NwAll] at h; rw [h]; exact g
  | d :: ds, es, vs, ws, h, g => by
    simp only [NwAll] at h
    obtain ⟨v, us, rfl, h1, h2⟩ := h
    show NwAll M H (d :: (ds ++ es)) B (v :: (us ++ ws))
    simp only [NwAll]
    exact ⟨v, us ++ ws, rfl, h1, NwAll.append h2 g⟩
theorem NwAll.one {d : PyData} {v : V} (h : Nw M H d B v) : NwAll M H [d] B [v] := by
  simp only [NwAll]
  exact ⟨v, [], rfl, h, rfl⟩
theorem NwAll.xs : ∀ k : Nat, NwAll M H (List.replicate k (.str "x")) B (List.replicate k (.str "x"))
  | 0 => by rw [List.replicate_zero, List.replicate_zero]; simp only [NwAll]
  | k + 1 => by
    rw [List.replicate_succ, List.replicate_succ]
    simp only [NwAll]
    exact ⟨_, _, rfl, by simp only [Nw], NwAll.xs k⟩
end
/-- from H to H' some lists outside C have got up to k 'x' more -/
def Evo (C : Addr → Prop) (k : Nat) (H H' : Hp) : Prop := ∀ a o, H a = Option.some o → H' a = Option.some o ∨ (¬ C a ∧ ∃ vs j, o = .lst vs ∧ j ≤ k ∧ H' a = Option.some (.lst (vs ++ List.replicate j (.str "x"))))
section
variable {C C' : Addr → Prop} {k j : Nat} {H H1 H2 : Hp}
theorem Evo.same (s : Same H H1) : Evo C k H H1 := fun a o e => .inl (s a o e)
theorem Evo.trans (x : Evo C k H H1) (y : Evo C j H1 H2) : Evo C (k + j) H H2 := by
  intro a o e
  rcases x a o e with e1 | ⟨n, vs, i, rfl, hi, e1⟩
  · rcases y a o e1 with e2 | ⟨n, vs, i, rfl, hi, e2⟩
    · exact .inl e2
    · exact .inr ⟨n, vs, i, rfl, by omega, e2⟩
  · rcases y a _ e1 with e2 | ⟨_, vs2, i2, e0, hi2, e2⟩
    · exact .inr ⟨n, vs, i, rfl, by omega, e2⟩
    · injection e0 with e0
      subst e0
      refine .inr ⟨n, vs, i + i2, rfl, by omega, ?_⟩
      rw [e2, List.append_assoc, List.replicate_append_replicate]
theorem Evo.weak (x : Evo C k H H1) (hC : ∀ a, C' a → C a) (hk : k ≤ j) : Evo C' j H H1 := fun a o e =>
  (x a o e).imp id fun ⟨n, vs, i, e1, hi, e2⟩ => ⟨fun z => n (hC a z), vs, i, e1, by omega, e2⟩
theorem Evo.keep (x : Evo C k H H1) {a : Addr} {o : HO} (hC : C a) (e : H a = Option.some o) : H1 a = Option.some o := (x a o e).elim id fun z => absurd hC z.1
theorem Evo.old {H0 : Hp} (x : Evo (fun a => H0 a ≠ none) k H H1) (s : Same H0 H) : Same H0 H1 := fun a o e => x.keep (by rw [e]; simp) (s a o e)
end
mutual
theorem Nw.evo {M k : Nat} {C : Addr → Prop} {H H' : Hp} (x : Evo C k H H') : ∀ (d : PyData) (B : Addr → Prop) (v : V), Nw M H d B v → Nw (M + k) H' d B v
  | .none, _, _, h => by simpa only [Nw] using h
  | .str _, _, _, h => by simpa only [Nw] using h
  | .list ds, B, v, h => by
    simp only [Nw] at h ⊢
    obtain ⟨a, vs, i, e, n, ha, hk, hA⟩ := h
    have hA' := NwAll.evo x ds _ vs hA
    rcases x a _ ha with e1 | ⟨_, ws, j, e0, hj, e1⟩
    · exact ⟨a, vs, i, e, n, e1, by omega, hA'⟩
    · injection e0 with e0
      subst e0
      refine ⟨a, vs, i + j, e, n, ?_, by omega, hA'⟩
      rw [e1, List.append_assoc, List.replicate_append_replicate]
  | .bool _, _, _, h => by simp only [Nw] at h
  | .int _, _, _, h => by simp only [Nw] at h
  | .tuple _, _, _, h => by simp only [Nw] at h
  | .dict _, _, _, h => by simp only [Nw] at h
theorem NwAll.evo {M k : Nat} {C : Addr → Prop} {H H' : Hp} (x : Evo C k H H') : ∀ (ds : List PyData) (B : Addr → Prop) (vs : List V), NwAll M H ds B vs → NwAll (M + k) H' ds B vs
  | [], _, _, h => by simpa only [NwAll] using h
  | d :: ds, B, vs, h => by
    simp only [NwAll] at h ⊢
    obtain ⟨v, ws, e, h1, h2⟩ := h
    exact ⟨v, ws, e, Nw.evo x d B v h1, NwAll.evo x ds B ws h2⟩
end
mutual
/-- how many lists -/
def nl : PyData → Nat
  | .list ds => 1 + nlAll ds
  | _ => 0
def nlAll : List PyData → Nat
  | [] => 0
  | d :: ds => nl d + nlAll ds
end
theorem nlAll_append : ∀ (xs ys : List PyData), nlAll (xs ++ ys) = nlAll xs + nlAll ys
  | [], ys => by simp [nlAll]
  | x :: xs, ys => by simp only [List.cons_append, nlAll, nlAll_append xs ys]; omega
theorem nlAll_xs : ∀ k : Nat, nlAll (List.replicate k (.str "x")) = 0
  | 0 => rfl
  | k + 1 => by rw [List.replicate_succ]; simp [nlAll, nl, nlAll_xs k]
theorem nl_take {xs : List PyData} {i : Nat} {d : PyData} (h : xs[i]? = Option.some d) : nlAll (xs.take (i + 1)) = nlAll (xs.take i) + nl d := by
  rw [List.take_add_one, h, nlAll_append]
  simp [nlAll]
theorem nl_take_le (xs : List PyData) (i : Nat) : nlAll (xs.take i) ≤ nlAll xs := by
  have h := nlAll_append (xs.take i) (xs.drop i)
  rw [List.take_append_drop] at h
  omega
mutual
theorem nl_le : ∀ d : PyData, nl d ≤ szD d
  | .list ds => by have := nlAll_le ds; simp only [nl, szD]; omega
  | .none => by simp [nl]
  | .str _ => by simp [nl]
  | .bool _ => by simp [nl]
  | .int _ => by simp [nl]
  | .tuple _ => by simp [nl]
  | .dict _ => by simp [nl]
theorem nlAll_le : ∀ ds : List PyData, nlAll ds ≤ szAll ds
  | [] => by simp [nlAll]
  | d :: ds => by have := nl_le d; have := nlAll_le ds; simp only [nlAll, szAll]; omega
end
end Tx

namespace Tx
open PySem PySem.Spec PyProof.Rows L2
abbrev sIsText : Stmt := top 8
theorem scIsText : FnScope ["thing", "sign"] ["thing"] (defScope sIsText) := ⟨rfl, rfl, rfl, by decide +kernel, rfl, by decide +kernel, by decide +kernel⟩
abbrev sWrongPlace : Stmt := top 9
theorem scWrongPlace : FnScope ["thing", "at", "one", "found"] ["thing"] (defScope sWrongPlace) := ⟨rfl, rfl, rfl, by decide +kernel, rfl, by decide +kernel, by decide +kernel⟩
def spIsText (K : PySem.W.Frag) : Sp := fun vs H Q _ => ∃ (v : V) (d : PyData), vs = [v] ∧ Dp K H v d ∧ wt d ≤ 16000000 ∧ ∀ H', Same H H' → Q (.bl (isTxt d)) H'
/-- wrong_place, program's or law's: nothing, or the place -/
def spWrongPlace (K : PySem.W.Frag) (n : Nat) : Sp := fun vs H Q _ => ∃ (v : V) (d : PyData), vs = [v] ∧ Dp K H v d ∧ Thing (n - 1) 16000000 d ∧ 1 ≤ n ∧
  ∀ (u : V) (H' : Hp), Same H H' → (wrongP d = none → u = .non) → (∀ p, wrongP d = some p → Dp K H' u (plD p)) → Q u H'
section
variable {P : Program} {w : World} {K : PySem.W.Frag} {mg : Str → Option Value} {base : Heap}
theorem d_is_text (h : Has K mg "is_text" sIsText) (B : Bi mg) (g_LETTERS : ∃ t, mg "LETTERS" = some (.str "abcdefghijklmnopqrstuvwxyz" t)) : Dfn P w K mg base CX0 1 "is_text" ["thing"] (spIsText K) := by
  refine dfn0 h B scIsText (fun _ _ _ _ _ _ us hl => match us, hl with | [_], _ => rfl) (fun vs H Q E h => ?_) (fun f cv A out s H vs Q E c h => ?_)
  · obtain ⟨v, d, rfl, _⟩ := h
    rfl
  obtain ⟨v, d, rfl, hd, hw, q⟩ := h
  refine ⟨_, (pss_one (ps_ret (pe_and (pe_callB (call_isD (T := "str")) (by rfl) c.b.isinstance (by decide +kernel) (pa_cons (pv 0) (pa_cons (pe_bltn (v := .ty "str") (by rfl) c.b.str (by decide +kernel) rfl) pa_nil))) (pe_one (pe_callB (cr_all rfl) (by rfl) c.b.all (by decide +kernel) (pa_cons (pe_lc (own := [("sign", 1)]) (g := (gName 1)) (tt := tYes) rfl scIsText.nd (pi_str (pv 0)) (blkOk_by (own := [("sign", 1)]) (N := ["thing", "sign"]) (sc := defScope sIsText) (by decide +kernel)) (fun _ _ _ _ _ => (pg_name (i := 1) scIsText.nd rfl (Or.inl rfl))) (fun _ _ _ _ _ => pts_nil) (fun _ _ _ _ _ => (pe_cmpR op_in_sign (pv 1) (pe_gs g_LETTERS (by rfl)) (by rfl)))) pa_nil)))))), ?_⟩
  refine ⟨_, rfl, v, d, _, rfl, hd, kit_str _, _, rfl, ?_⟩
  cases d with
  | str x =>
    cases hd
    refine iteT ⟨_, rfl, x, rfl, fun L hL => ?_⟩
    simp only [Tx.wt] at hw
    refine lc_it (walk_str (z := x)) (fun i H' => Same H H' ∧ H' L = some (.lst ((x.cps.toList.take i).map fun c => V.bl (decide (97 ≤ c ∧ c ≤ 122)))))
      ⟨same_new hL _, upd_same⟩ (fun _ _ _ _ => trivial) ?_ ?_
    · rintro i y H1 H2 hi ⟨sm, hL1⟩ ⟨rfl, ch, hc, rfl⟩
      refine ⟨rfl, _, rfl, ch, _, rfl, rfl, _, hL1, ?_, (fun b o e => ?_), ?_⟩
      · rw [List.length_map, List.length_take, Array.length_toList, sizeLine_eq]
        have : x.cps.size ≤ 1600000 := by
          have : x.length = x.cps.size := rfl
          omega
        omega
      · rw [upd_ne (ne_of_none e hL)]
        exact sm _ _ e
      · rw [upd_same, List.take_add_one, Array.getElem?_toList, hc, List.map_append, abc_mem]
        rfl
    · rintro H1 ⟨sm, hL1⟩
      rw [← Array.length_toList, List.take_length] at hL1
      refine ⟨L, x.cps.toList.map fun c => decide (97 ≤ c ∧ c ≤ 122), rfl, SqL.of (by rw [hL1, List.map_map]; rfl), ?_⟩
      have := q _ sm
      simp only [isTxt, ltr] at this
      rw [List.all_map]
      exact this
  | none => exact iteF (q H (Same.refl _))
  | bool _ => exact iteF (q H (Same.refl _))
  | int _ => exact iteF (q H (Same.refl _))
  | list _ => exact iteF (q H (Same.refl _))
  | tuple _ => exact iteF (q H (Same.refl _))
  | dict _ => exact iteF (q H (Same.refl _))
theorem d_wrong_place (h : Has K mg "wrong_place" sWrongPlace) (B : Bi mg) (D_is_text : Dfn P w K mg base CX0 1 "is_text" ["thing"] (spIsText K)) :
    ∀ n, Dfn P w K mg base CX0 (n + 1) "wrong_place" ["thing"] (spWrongPlace K n)
  | 0 => (dfn_none h (fun _ _ _ _ _ _ us hl => match us, hl with | [_], _ => rfl) fun vs H Q E z => by
    obtain ⟨_, _, _, _, _, z, _⟩ := z
    omega).mono (by omega)
  | n + 1 => by
    have D_wrong_place := d_wrong_place h B D_is_text n
    refine dfn0 (k := n + 1) h B scWrongPlace (fun _ _ _ _ _ _ us hl => match us, hl with | [_], _ => rfl) (fun vs H Q E h => ?_) (fun f cv A out s H vs Q E c h => ?_)
    · obtain ⟨v, d, rfl, _⟩ := h
      rfl
    obtain ⟨v, d, rfl, hd, th, _, q⟩ := h
    refine ⟨_, (pss_cons (ps_if (pt_val (pe_callB (call_isD (T := "list")) (by rfl) c.b.isinstance (by decide +kernel) (pa_cons (pv 0) (pa_cons (pe_bltn (v := .ty "list") (by rfl) c.b.list (by decide +kernel) rfl) pa_nil)))) (pss_cons (ps_for PassesOwn.never rfl (pi_enum (by rfl) c.b.enumerate (pa_cons (pv 0) pa_nil)) (pg_tup rfl (pgs_cons (pg_name (i := 1) scWrongPlace.nd rfl (Or.inl rfl)) (pgs_cons (pg_name (i := 2) scWrongPlace.nd rfl (Or.inl rfl)) pgs_nil)))
    (pss_cons (ps_set (i := 3) scWrongPlace.nd rfl (Or.inl rfl) (pe_d D_wrong_place c (by omega) (by rfl) (pa_cons (pv 2) pa_nil)))
    (pss_one (ps_if (pt_cmpR op_notN (pv 3) pe_non (nomark _)) (pss_one (ps_ret (pe_op op_catT (pe_tup (pa_cons (pv 1) pa_nil)) (pv 3)))) pss_nil))))
    (pss_one (ps_ret pe_non))) pss_nil)
    (pss_one (ps_ret (pe_ifExp (PW.pt (pw_or (pt_cmpR op_isN (pv 0) pe_non (nomark _)) (pw_or1 (pt_val (pe_d D_is_text c (by omega) (by rfl) (pa_cons (pv 0) pa_nil)))))) pe_non (pe_tup pa_nil))))), ?_⟩
    refine ⟨_, rfl, v, d, _, rfl, hd, kit_list _, _, rfl, ?_⟩
    cases d with
    | list ds =>
      cases hd with
      | @lst a xs _ hs ha =>
      refine iteT ⟨_, rfl, a, xs, rfl, hs, ?_⟩
      have hlen := DpAll.length ha
      refine for_it (walk_enum (K := K) (a := a) (xs := xs)) (fun i σ H' => ∃ (u1 u2 u3 : Option V), σ = [some (.ref a), u1, u2, u3] ∧ Same H H' ∧ wrongAll 0 ds = wrongAll i (ds.drop i))
        ⟨none, none, none, rfl, Same.refl _, rfl⟩ (fun _ _ _ _ z => by obtain ⟨_, _, _, _, sm, _⟩ := z; exact sm.seq hs) ?_ ?_
      · rintro i y σ H1 H2 hi ⟨u1, u2, u3, rfl, sm, ew⟩ ⟨T, y1, y2, rfl, hT, rfl, e1, e2⟩
        cases e1
        obtain ⟨d, f1, f2⟩ := DpAll.get ha e2
        have hm := List.mem_of_getElem? f1
        have sm2 := sm.trans (same_new hT (.tup [.int ((i : Nat) : Int), y2]))
        refine ⟨T, _, rfl, SqT.of upd_same, rfl, _, _, rfl, _, _, rfl, rfl, ?_⟩
        have thd : Thing (n - 1) 16000000 d := (th.item hm)
        have n1 : 1 ≤ n := by
          have := th.deep
          simp only [PyData.depth] at this
          omega
        refine ⟨_, rfl, y2, d, rfl, dp_mono sm2 d y2 f2, thd, n1, fun u H3 sm3 h0 h1 => ?_⟩
        refine ⟨_, rfl, rfl, _, rfl, ?_⟩
        cases ep : wrongP d with
        | none =>
          have eu := h0 ep
          subst eu
          exact iteF ⟨_, _, _, rfl, sm2.trans sm3, wrongAll_drop f1 ep ew⟩
        | some p =>
          have hp := h1 p ep
          have wr : wrongP (.list ds) = some (i :: p) := by rw [wrongP]; exact wrongAll_at f1 ep ew
          cases hp with
          | @tup ta txs _ hts hta =>
          refine iteT ⟨_, rfl, (by show 1 ≤ sizeLine; decide), fun q1 hq1 => ⟨_, rfl, q1, ta, _, txs, rfl, rfl, SqT.of upd_same, Same.sqT (same_new hq1 _) hts, (by intro z; cases z), ?_, fun z => ?_, fun z q2 hq2 => ?_⟩⟩
          · have l1 := DpAll.length hta
            rw [List.length_map] at l1
            have l2 := wrong_len d p ep
            have l3 := depth_wt d thd.fine
            have l4 := thd.wt
            show 1 + txs.length ≤ sizeLine
            rw [sizeLine_eq]
            omega
          · have lp : p = [] := by
              have l1 := DpAll.length hta
              rw [z, List.length_map] at l1
              exact List.eq_nil_of_length_eq_zero l1.symm
            refine q (.ref q1) _ ((sm2.trans sm3).trans (same_new hq1 _)) (fun e => by rw [wr] at e; cases e) fun p' e => ?_
            rw [wr] at e
            cases e
            rw [lp]
            exact .tup (SqT.of upd_same) (.cons (.int _) .nil)
          · refine q (.ref q2) _ (((sm2.trans sm3).trans (same_new hq1 _)).trans (same_new hq2 _)) (fun e => by rw [wr] at e; cases e) fun p' e => ?_
            rw [wr] at e
            cases e
            exact .tup (SqT.of upd_same) (.cons (.int _) (dpAll_mono ((same_new hq1 _).trans (same_new hq2 _)) _ _ hta))
      · rintro σ H1 ⟨u1, u2, u3, rfl, sm, ew⟩
        have wr : wrongP (.list ds) = none := by rw [wrongP, ew, hlen, List.drop_length]; rfl
        exact q .non H1 sm (fun _ => rfl) fun p e => by rw [wr] at e; cases e
    | none =>
      cases hd
      exact iteF ⟨_, rfl, rfl, _, rfl, iteT (iteT (q .non H (Same.refl _) (fun _ => rfl) fun p e => by simp [wrongP] at e))⟩
    | dict _ => cases hd
    | str x =>
      cases hd
      refine iteF ⟨_, rfl, rfl, _, rfl, iteF ⟨_, rfl, _, .str x, rfl, .str x, th.wt, fun H1 sm => ⟨_, rfl, ?_⟩⟩⟩
      by_cases hx : ltr x = true
      · have e1 : isTxt (.str x) = true := hx
        have e2 : wrongP (.str x) = none := by rw [wrongP, if_pos hx]
        rw [e1]
        exact iteT (q .non H1 sm (fun _ => rfl) fun p e => by rw [e2] at e; cases e)
      · have e1 : isTxt (.str x) = false := by simpa [isTxt] using hx
        have e2 : wrongP (.str x) = some [] := by rw [wrongP, if_neg hx]
        rw [e1]
        refine iteF ⟨(by show 0 ≤ sizeLine; decide), fun r hr => q (.ref r) _ (sm.trans (same_new hr _)) (fun e => by rw [e2] at e; cases e) fun p e => ?_⟩
        rw [e2] at e
        cases e
        exact .tup (SqT.of upd_same) .nil
    | bool y =>
      cases hd
      refine iteF ⟨_, rfl, rfl, _, rfl, iteF ⟨_, rfl, _, .bool y, rfl, .bl y, th.wt, fun H1 sm => ⟨_, rfl, iteF ⟨(by show 0 ≤ sizeLine; decide), fun r hr => q (.ref r) _ (sm.trans (same_new hr _)) (fun e => by simp [wrongP] at e) fun p e => ?_⟩⟩⟩⟩
      simp only [wrongP] at e
      cases e
      exact .tup (SqT.of upd_same) .nil
    | int y =>
      cases hd
      refine iteF ⟨_, rfl, rfl, _, rfl, iteF ⟨_, rfl, _, .int y, rfl, .int y, th.wt, fun H1 sm => ⟨_, rfl, iteF ⟨(by show 0 ≤ sizeLine; decide), fun r hr => q (.ref r) _ (sm.trans (same_new hr _)) (fun e => by simp [wrongP] at e) fun p e => ?_⟩⟩⟩⟩
      simp only [wrongP] at e
      cases e
      exact .tup (SqT.of upd_same) .nil
    | tuple ds =>
      cases hd with
      | tup hs ha =>
      refine iteF ⟨_, rfl, rfl, _, rfl, iteF ⟨_, rfl, _, .tuple ds, rfl, .tup hs ha, th.wt, fun H1 sm => ⟨_, rfl, iteF ⟨(by show 0 ≤ sizeLine; decide), fun r hr => q (.ref r) _ (sm.trans (same_new hr _)) (fun e => by simp [wrongP] at e) fun p e => ?_⟩⟩⟩⟩
      simp only [wrongP] at e
      cases e
      exact .tup (SqT.of upd_same) .nil
end
end Tx

namespace Tx
open PySem PySem.Spec PyProof.Rows L2
/-! ## The program's copied -/
abbrev sCopied : Stmt := top 11
theorem scCopied : FnScope ["value", "one"] ["value"] (defScope sCopied) := ⟨rfl, rfl, rfl, by decide +kernel, rfl, by decide +kernel, by decide +kernel⟩
/-- copied(v): a new thing of new lists -/
def spCopied (K : PySem.W.Frag) (n : Nat) : Sp := fun vs H Q _ => ∃ (v : V) (d : PyData), vs = [v] ∧ Dp K H v d ∧ isVal d = true ∧ d.depth < n ∧ szD d ≤ 1000000 ∧
  ∀ u H', Same H H' → Nw 0 H' d (fun a => H a ≠ none) u → Q u H'
section
variable {P : Program} {w : World} {K : PySem.W.Frag} {mg : Str → Option Value} {base : Heap}
theorem d_copied (h : Has K mg "copied" sCopied) (B : Bi mg) : ∀ n, Dfn P w K mg base CX0 n "copied" ["value"] (spCopied K n)
  | 0 => dfn_none h (fun _ _ _ _ _ _ us hl => match us, hl with | [_], _ => rfl) fun vs H Q E z => by
    obtain ⟨_, _, _, _, _, z, _⟩ := z
    omega
  | n + 1 => by
    have D_copied := d_copied h B n
    refine dfn0 h B scCopied (fun _ _ _ _ _ _ us hl => match us, hl with | [_], _ => rfl) (fun vs H Q E h => ?_) (fun f cv A out s H vs Q E c h => ?_)
    · obtain ⟨v, d, rfl, _⟩ := h
      rfl
    obtain ⟨v, d, rfl, hd, val, dn, sz, q⟩ := h
    refine ⟨_, (pss_cons (ps_if (pt_val (pe_callB (call_isD (T := "list")) (by rfl) c.b.isinstance (by decide +kernel) (pa_cons (pv 0) (pa_cons (pe_bltn (v := .ty "list") (by rfl) c.b.list (by decide +kernel) rfl) pa_nil)))) (pss_one (ps_ret (pe_lc (own := [("one", 1)]) (g := (gName 1)) (tt := tYes) rfl scCopied.nd (pi_list (pv 0)) (blkOk_by (own := [("one", 1)]) (N := ["value", "one"]) (sc := defScope sCopied) (by decide +kernel)) (fun _ _ _ _ _ => (pg_name (i := 1) scCopied.nd rfl (Or.inl rfl))) (fun _ _ _ _ _ => pts_nil) (fun _ _ _ _ _ => (pe_d D_copied c (by omega) (by rfl) (pa_cons (pv 1) pa_nil)))))) pss_nil)
    (pss_one (ps_ret (pv 0)))), ?_⟩
    refine ⟨_, rfl, _, d, _, rfl, hd, kit_list _, _, rfl, ?_⟩
    cases d with
    | none =>
      cases hd
      exact iteF ⟨_, rfl, q _ _ (Same.refl _) (by simp only [Nw])⟩
    | str x =>
      cases hd
      exact iteF ⟨_, rfl, q _ _ (Same.refl _) (by simp only [Nw])⟩
    | list ds =>
      refine iteT ?_
      cases hd with
      | @lst a xs _ hs ha =>
      have sx : szD (.list ds) = 1 + szAll ds := by simp [szD]
      have hlen := DpAll.length ha
      have hle := len_le_szAll ds
      simp only [PyData.depth] at dn
      simp only [isVal] at val
      refine ⟨_, rfl, a, rfl, ⟨_, hs⟩, fun L hL => ?_⟩
      refine lc_list (K := K) (a := a) (xs := xs) (fun i H' => Same H H' ∧ ∃ us, H' L = some (.lst us) ∧ NwAll 0 H' (ds.take i) (fun x => H x ≠ none ∨ x = L) us)
        ⟨same_new hL _, [], upd_same, by rw [List.take_zero]; simp only [NwAll]⟩ (fun i H' _ z => z.1.seq hs) ?_ ?_
      · rintro i x H1 hx ⟨sm, us, hL1, hN⟩
        obtain ⟨d, e1, e2⟩ := DpAll.get ha hx
        have hm := List.mem_of_getElem? e1
        have hi : i < ds.length := (List.getElem?_eq_some_iff.mp e1).1
        have hul := hN.len
        rw [List.length_take] at hul
        refine ⟨rfl, _, rfl, _, d, rfl, dp_mono sm d _ e2, isValAll_iff.mp val d hm, ?_, ?_, fun u H2 sm2 hu => ?_⟩
        · have := depth_mem hm
          omega
        · have := szD_mem hm
          omega
        have up : ∀ (a : Addr) (o : HO), ¬ (H a ≠ none ∨ a = L) → H2 a = some o → upd H2 L (.lst (us ++ [u])) a = some o := fun a o n e => by
          rw [upd_ne fun z => n (.inr z)]; exact e
        refine ⟨us, sm2 _ _ hL1, ?_, (fun b o e => ?_), us ++ [u], upd_same, ?_⟩
        · rw [sizeLine_eq]
          omega
        · rw [upd_ne (ne_of_none e hL)]
          exact sm2 _ _ (sm _ _ e)
        · rw [List.take_add_one, e1]
          refine NwAll.append (NwAll.to (Nat.le_refl _) _ _ _ _ (fun _ z => z) (fun a o n e => up a o n (sm2 _ _ e)) hN) (NwAll.one (Nw.to (Nat.le_refl _) d _ _ u (fun a z => ?_) (fun a o n e => ?_) hu))
          · rcases z with z | z
            · cases q : H a with
              | none => exact absurd q z
              | some o => rw [sm _ _ q]; simp
            · rw [z, hL1]; simp
          · rw [upd_ne fun z => n (by rw [z, hL1]; simp)]; exact e
      · rintro H1 ⟨sm, us, hL1, hN⟩
        rw [hlen, List.take_length] at hN
        refine q _ _ sm ?_
        simp only [Nw]
        exact ⟨L, us, 0, rfl, fun z => z hL, by rw [List.replicate_zero, List.append_nil]; exact hL1, Nat.le_refl _, hN⟩
    | bool _ => simp [isVal] at val
    | int _ => simp [isVal] at val
    | tuple _ => simp [isVal] at val
    | dict _ => simp [isVal] at val
end
end Tx

namespace Tx
open PySem PySem.Spec PyProof.Rows L2
abbrev sSpoil : Stmt := top 23
theorem scSpoil : FnScope ["_law_value_here", "_law_one"] ["_law_value_here"] (defScope sSpoil) := ⟨rfl, rfl, rfl, by decide +kernel, rfl, by decide +kernel, by decide +kernel⟩
def spSpoil (n : Nat) : Sp := fun vs H Q _ => ∃ (v : V) (d : PyData) (C : Addr → Prop) (M : Nat), vs = [v] ∧ Nw M H d C v ∧ d.depth < n ∧ szD d ≤ 1000000 ∧ M + nl d ≤ 1000000 ∧
  ∀ H', Evo C (nl d) H H' → Q .non H'
section
variable {P : Program} {w : World} {K : PySem.W.Frag} {mg : Str → Option Value} {base : Heap}
theorem d_spoil (h : Has K mg "_law_spoil" sSpoil) (B : Bi mg) : ∀ n, Dfn P w K mg base CX0 n "_law_spoil" ["_law_value_here"] (spSpoil n)
  | 0 => dfn_none h (fun _ _ _ _ _ _ us hl => match us, hl with | [_], _ => rfl) fun vs H Q E z => by
    obtain ⟨_, _, _, _, _, _, z, _⟩ := z
    omega
  | n + 1 => by
    have D_law_spoil := d_spoil h B n
    refine dfn0 h B scSpoil (fun _ _ _ _ _ _ us hl => match us, hl with | [_], _ => rfl) (fun vs H Q E h => ?_) (fun f cv A out s H vs Q E c h => ?_)
    · obtain ⟨v, d, C, M, rfl, _⟩ := h
      rfl
    obtain ⟨v, d, C, M, rfl, hN, dn, sz, hM, q⟩ := h
    refine ⟨_, (pss_one (ps_if (pt_val (pe_callB (call_isD (T := "list")) (by rfl) c.b.isinstance (by decide +kernel) (pa_cons (pv 0) (pa_cons (pe_bltn (v := .ty "list") (by rfl) c.b.list (by decide +kernel) rfl) pa_nil)))) (pss_cons (ps_for PassesOwn.never rfl (pi_list (pv 0)) (pg_name (i := 1) scSpoil.nd rfl (Or.inl rfl))
    (pss_one (ps_expr (pe_d D_law_spoil c (by omega) (by rfl) (pa_cons (pv 1) pa_nil)))))
    (pss_one (ps_expr (pe_bm PySem.F.plainAttrs_list PySem.F.slot_list_append PySem.F.type_list_append mt_append (pv 0) (pa_cons pe_str pa_nil))))) pss_nil)), ?_⟩
    obtain ⟨e, he, el⟩ := Nw.some (K := K) d C v hN
    refine ⟨_, rfl, _, e, _, rfl, he, kit_list _, _, rfl, ?_⟩
    rw [el]
    cases d with
    | none => exact iteF (q _ (Evo.same (Same.refl _)))
    | str x => exact iteF (q _ (Evo.same (Same.refl _)))
    | list ds =>
      refine iteT ?_
      simp only [Nw] at hN
      obtain ⟨a, vs, k, rfl, nC, ha, hk, hA⟩ := hN
      simp only [nl] at hM q
      simp only [szD] at sz
      simp only [PyData.depth] at dn
      have hle := len_le_szAll ds
      have hvl := hA.len
      have hAll := NwAll.append hA (NwAll.xs (M := M) (H := H) (B := fun x => C x ∨ x = a) k)
      have nE : nlAll (ds ++ List.replicate k (.str "x")) = nlAll ds := by rw [nlAll_append, nlAll_xs]; rfl
      have sqa : ∀ H', Evo (fun x => C x ∨ x = a) (nlAll ds) H H' → H' a = some (.lst (vs ++ List.replicate k (.str "x"))) := fun H' ev => ev.keep (.inr rfl) ha
      have lenE : (vs ++ List.replicate k (V.str "x")).length = (ds ++ List.replicate k (PyData.str "x")).length := hAll.len
      have up : ∀ {H' : Hp} (i : Nat), Evo (fun x => C x ∨ x = a) (nlAll ((ds ++ List.replicate k (PyData.str "x")).take i)) H H' → Evo (fun x => C x ∨ x = a) (nlAll ds) H H' := fun i ev =>
        ev.weak (fun _ z => z) (by rw [← nE]; exact nl_take_le _ _)
      refine ⟨_, rfl, a, rfl, ⟨_, SqL.of ha⟩, ?_⟩
      refine for_list (K := K) (a := a) (xs := vs ++ List.replicate k (V.str "x")) (fun i σ H' => ∃ u : Option V, σ = [some (.ref a), u] ∧ Evo (fun x => C x ∨ x = a) (nlAll ((ds ++ List.replicate k (PyData.str "x")).take i)) H H')
        ⟨none, rfl, Evo.same (Same.refl _)⟩ (fun i σ H' _ ⟨_, _, ev⟩ => SqL.of (sqa H' (up i ev))) ?_ ?_
      · rintro i x σ H1 hx ⟨u, rfl, ev⟩
        obtain ⟨d, e1, e2⟩ := hAll.get hx
        have hm := List.mem_of_getElem? e1
        have ht := nl_take e1
        have hl := nl_take_le (ds ++ List.replicate k (PyData.str "x")) (i + 1)
        rw [nE] at hl
        refine ⟨_, rfl, x, d, _, _, rfl, Nw.evo ev d _ x e2, ?_, ?_, by omega, fun H2 ev2 => ⟨_, rfl, ?_⟩⟩
        · rcases List.mem_append.mp hm with hm | hm
          · have := depth_mem hm
            omega
          · rw [List.eq_of_mem_replicate hm]
            simp only [PyData.depth]
            omega
        · rcases List.mem_append.mp hm with hm | hm
          · have := szD_mem hm
            omega
          · rw [List.eq_of_mem_replicate hm]
            decide
        · rw [ht]
          exact ev.trans ev2
      · rintro σ H1 ⟨u, rfl, ev⟩
        rw [lenE, List.take_length, nE] at ev
        have hs1 := sqa H1 ev
        refine ⟨_, rfl, .inl ⟨rfl, _, SqL.of hs1⟩, a, _, _, rfl, rfl, hs1, ?_, ?_⟩
        · rw [List.length_append, List.length_replicate, hvl, sizeLine_eq]
          omega
        refine q _ ?_
        have e1 : Evo C 1 H1 (upd H1 a (.lst (vs ++ List.replicate k (.str "x") ++ [.str "x"]))) := by
          intro b o e
          by_cases z : b = a
          · subst z
            rw [hs1] at e
            cases e
            exact .inr ⟨nC, _, 1, rfl, Nat.le_refl _, upd_same⟩
          · exact .inl (by rw [upd_ne z]; exact e)
        exact ((ev.weak (fun _ z => .inl z) (Nat.le_refl _)).trans e1).weak (fun _ z => z) (by omega)
    | bool _ => simp only [Nw] at hN
    | int _ => simp only [Nw] at hN
    | tuple _ => simp only [Nw] at hN
    | dict _ => simp only [Nw] at hN
end
end Tx

namespace Tx
open PySem PySem.Spec PyProof.Rows L2
/-! ## New things of new lists: from the kit's rules to cells; what spoils them -/
section
variable {K : PySem.W.Frag}
mutual
theorem nw_rp {H N : Hp} : ∀ (d : PyData) (B : Addr → Prop) (v : V), Nw 0 H d B v → (∀ a o, ¬ B a → H a = some o → N a = some o) → Rp K N v d
  | .none, _, _, h, _ => by simp only [Nw] at h; subst h; exact .non
  | .str x, _, _, h, _ => by simp only [Nw] at h; subst h; exact .str x
  | .list ds, B, v, h, k => by
    simp only [Nw] at h
    obtain ⟨a, vs, i, rfl, n, ha, hi, hA⟩ := h
    obtain rfl : i = 0 := by omega
    rw [List.replicate_zero, List.append_nil] at ha
    exact .lst (k a _ n ha) (nwAll_rp ds _ vs hA fun b o nb hb => k b o (fun z => nb (.inl z)) hb)
  | .bool _, _, _, h, _ => by simp only [Nw] at h
  | .int _, _, _, h, _ => by simp only [Nw] at h
  | .tuple _, _, _, h, _ => by simp only [Nw] at h
  | .dict _, _, _, h, _ => by simp only [Nw] at h
theorem nwAll_rp {H N : Hp} : ∀ (ds : List PyData) (B : Addr → Prop) (vs : List V), NwAll 0 H ds B vs → (∀ a o, ¬ B a → H a = some o → N a = some o) → RpAll K N vs ds
  | [], _, _, h, _ => by simp only [NwAll] at h; subst h; exact .nil
  | d :: ds, B, vs, h, k => by
    simp only [NwAll] at h
    obtain ⟨v, ws, rfl, h1, h2⟩ := h
    exact .cons (nw_rp d B v h1 k) (nwAll_rp ds B ws h2 k)
end
open Classical in
/-- what is new in H' -/
noncomputable def newIn (H H' : Hp) : Hp := fun a => if H a = none then H' a else none
theorem newIn_some {H H' : Hp} {a : Addr} {o : HO} (h : H a = none) (e : H' a = some o) : newIn H H' a = some o := by unfold newIn; rw [if_pos h]; exact e
theorem newIn_new {H H' : Hp} {b : Addr} (h : newIn H H' b ≠ none) : H b = none := by
  unfold newIn at h
  split at h
  · assumption
  · exact absurd rfl h
theorem newIn_same {H H' : Hp} : Same (newIn H H') H' := fun a o e => by
  unfold newIn at e
  split at e
  · exact e
  · cases e
theorem nw_tm {J H H' : Hp} {ω : Wd} {q : DQ} {Q : VK} {v : V} {d : PyData} (w : Rw K J H ω) (s : Same H H') (cq : CovQ K J H ω q Q) (h : Nw 0 H' d (fun a => H a ≠ none) v) (val : isVal d = true) (z : ∀ u ω', Tm ω u d ω' → q u ω') : Q v H' := by
  obtain ⟨g1, w1⟩ := same_grow w s
  exact tm_cov (N := newIn H H') w g1 w1 cq (fun b nb => newIn_new nb) newIn_same (nw_rp d _ v h fun a o n e => newIn_some (Classical.not_not.mp n) e) val z
/-! ### the way back -/
mutual
theorem rp_fun {J : Hp} : ∀ (d e : PyData) (v : V), isVal d = true → isVal e = true → Rp K J v d → Rp K J v e → d = e
  | .none, e, _, _, he, h, g => by
    cases h
    cases g
    rfl
  | .str x, e, _, _, he, h, g => by
    cases h
    cases g
    rfl
  | .list ds, e, _, hd, he, h, g => by
    cases h with
    | lst hs ha =>
      cases g with
      | lst hs2 ha2 =>
        rw [hs] at hs2
        cases hs2
        simp only [isVal] at hd he
        rw [rpAll_fun ds _ _ hd he ha ha2]
      | tup _ _ => simp [isVal] at he
      | ref _ => simp [isVal] at he
      | scr _ => simp [isVal] at he
      | pub _ => simp [isVal] at he
  | .bool _, _, _, hd, _, _, _ => by simp [isVal] at hd
  | .int _, _, _, hd, _, _, _ => by simp [isVal] at hd
  | .tuple _, _, _, hd, _, _, _ => by simp [isVal] at hd
  | .dict _, _, _, hd, _, _, _ => by simp [isVal] at hd
theorem rpAll_fun {J : Hp} : ∀ (ds es : List PyData) (vs : List V), isValAll ds = true → isValAll es = true → RpAll K J vs ds → RpAll K J vs es → ds = es
  | [], _, _, _, _, h, g => by cases h; cases g; rfl
  | d :: ds, es, _, hd, he, h, g => by
    cases h with
    | cons h1 h2 =>
      cases g with
      | @cons _ _ e es' g1 g2 =>
        simp only [isValAll, Bool.and_eq_true] at hd he
        rw [rp_fun d e _ hd.1 he.1 h1 g1, rpAll_fun ds es' _ hd.2 he.2 h2 g2]
end
mutual
theorem rp_nw {N H : Hp} (s : Same N H) : ∀ (d : PyData) (B : Addr → Prop) (v : V), isVal d = true → Rp K N v d → (∀ x, B x → N x = none ∨ ∃ d', isVal d' = true ∧ Rp K N (.ref x) d' ∧ d.depth < d'.depth) → Nw 0 H d B v
  | .none, _, _, _, h, _ => by cases h; simp only [Nw]
  | .str x, _, _, _, h, _ => by cases h; simp only [Nw]
  | .list ds, B, v, hv, h, hB => by
    cases h with
    | @lst a vs _ hs ha =>
      simp only [Nw]
      refine ⟨a, vs, 0, rfl, fun z => ?_, by rw [List.replicate_zero, List.append_nil]; exact s _ _ hs, Nat.le_refl _, rpAll_nw s ds _ vs (by simpa only [isVal] using hv) ha fun x hx => ?_⟩
      · rcases hB a z with e | ⟨d', h1, h2, h3⟩
        · rw [hs] at e; cases e
        · rw [rp_fun _ _ _ hv h1 (.lst hs ha) h2] at h3
          exact absurd h3 (Nat.lt_irrefl _)
      · rcases hx with hx | rfl
        · rcases hB x hx with e | ⟨d', h1, h2, h3⟩
          · exact .inl e
          · refine .inr ⟨d', h1, h2, ?_⟩
            simp only [PyData.depth] at h3
            omega
        · refine .inr ⟨.list ds, hv, .lst hs ha, ?_⟩
          simp only [PyData.depth]
          omega
  | .bool _, _, _, hd, _, _ => by simp [isVal] at hd
  | .int _, _, _, hd, _, _ => by simp [isVal] at hd
  | .tuple _, _, _, hd, _, _ => by simp [isVal] at hd
  | .dict _, _, _, hd, _, _ => by simp [isVal] at hd
theorem rpAll_nw {N H : Hp} (s : Same N H) : ∀ (ds : List PyData) (B : Addr → Prop) (vs : List V), isValAll ds = true → RpAll K N vs ds → (∀ x, B x → N x = none ∨ ∃ d', isVal d' = true ∧ Rp K N (.ref x) d' ∧ PyData.depthAll ds < d'.depth) → NwAll 0 H ds B vs
  | [], _, _, _, h, _ => by cases h; simp only [NwAll]
  | d :: ds, B, _, hv, h, hB => by
    simp only [isValAll, Bool.and_eq_true] at hv
    cases h with
    | @cons v vs _ _ h1 h2 =>
      simp only [NwAll]
      refine ⟨v, vs, rfl, rp_nw s d B v hv.1 h1 fun x hx => ?_, rpAll_nw s ds B vs hv.2 h2 fun x hx => ?_⟩
      · rcases hB x hx with e | ⟨d', g1, g2, g3⟩
        · exact .inl e
        · simp only [PyData.depthAll] at g3
          exact .inr ⟨d', g1, g2, by omega⟩
      · rcases hB x hx with e | ⟨d', g1, g2, g3⟩
        · exact .inl e
        · simp only [PyData.depthAll] at g3
          exact .inr ⟨d', g1, g2, by omega⟩
end
end
def dsCopied (n : Nat) : DSp := fun ts ω q _ => ∃ d, ts = [d] ∧ isVal d = true ∧ d.depth < n ∧ szD d ≤ 1000000 ∧ ∀ u ω', Tm ω u d ω' → q u ω'
/-- spoil(v), v a new thing -/
def dsSpoil (n : Nat) : DSp := fun ts ω q _ => ∃ v d ω0, ts = [v] ∧ Tm ω0 v d ω ∧ isVal d = true ∧ d.depth < n ∧ szD d ≤ 400000 ∧ q .none ω0
section
variable {P : Program} {w : World} {K : PySem.W.Frag} {mg : Str → Option Value} {base : Heap}
theorem dd_copied (h : Has K mg "copied" sCopied) (B : Bi mg) (n : Nat) : Dfn P w K mg base CX0 n "copied" ["value"] (spD K (dsCopied n)) := by
  refine (d_copied h B n).toD fun vs H Q E z => ?_
  obtain ⟨J, ω, ts, q, x, w, r, cq, cx, d, rfl, val, dn, sz, z⟩ := z
  cases r with
  | cons r1 r2 =>
  cases r2
  exact ⟨_, d, rfl, val_dp w.jh r1 val, val, dn, sz, fun u H' sm hu => nw_tm w sm cq hu val z⟩
end
end Tx

namespace Tx
open PySem PySem.Spec PyProof.Rows L2
section
variable {P : Program} {w : World} {K : PySem.W.Frag} {mg : Str → Option Value} {base : Heap}
theorem dd_spoil (h : Has K mg "_law_spoil" sSpoil) (B : Bi mg) (n : Nat) : Dfn P w K mg base CX0 n "_law_spoil" ["_law_value_here"] (spD K (dsSpoil n)) := by
  refine (d_spoil h B n).toD fun vs H Q E z => ?_
  obtain ⟨J, ω, ts, q, x, w, r, cq, cx, v, d, ω0, rfl, tm, val, dn, sz, z⟩ := z
  cases r with
  | @cons vv _ _ _ r1 r2 =>
  cases r2
  have hn := nl_le d
  rcases tm with ⟨nl0, rfl, rfl⟩ | ⟨a, N, rfl, n0, rfl, il⟩
  · refine ⟨_, v, fun _ => False, 0, rfl, ?_, dn, by omega, by omega, fun H' ev => ?_⟩
    · cases r1 with
      | non => simp only [Nw]
      | str x => simp only [Nw]
      | lst _ _ => cases nl0
      | _ => simp [isVal] at val
    · have e0 : nl v = 0 := by cases v <;> first | rfl | (simp [isVal] at val; done) | cases nl0
      have sm : Same H H' := fun b o e => by
        rcases ev b o e with z | ⟨_, ws, j, e1, hj, e2⟩
        · exact z
        · rw [e0] at hj
          obtain rfl : j = 0 := by omega
          rw [List.replicate_zero, List.append_nil] at e2
          rw [e1, e2]
      exact cq _ _ _ _ _ z (same_grow w sm).1 (same_grow w sm).2 .non
  · obtain rfl := rp_ref r1
    have hc : updW ω0 a (.tmp N d) a = some (.tmp N d) := updW_same
    obtain ⟨sN, rN, nN⟩ := w.cell a _ hc
    have tp := w.tmp a _ hc
    refine ⟨_, d, fun x => N x = none, 0, rfl, rp_nw sN d _ _ val rN fun x hx => .inl hx, dn, by omega, by omega, fun H' ev => ?_⟩
    have kp : ∀ b o, N b = none → H b = some o → H' b = some o := fun b o nb hb => ev.keep nb hb
    have dm : ∀ b, H b ≠ none → H' b ≠ none := fun b hb => by
      cases q : H b with
      | none => exact absurd q hb
      | some o =>
        rcases ev b o q with z | ⟨_, ws, j, e1, hj, e2⟩
        · rw [z]; simp
        · rw [e2]; simp
    have jn : ∀ b o, J b = some o → N b = none := fun b o e => by
      cases q : N b with
      | none => rfl
      | some u => rw [(tp b (show N b ≠ none by rw [q]; simp)).1] at e; cases e
    have g : Grow J H (updW ω0 a (.tmp N d)) J H' (delW (updW ω0 a (.tmp N d)) a) := ⟨Same.refl _, dm, fun b o hb fr => kp b o (priv_none (fr.2 a _ hc)) hb, fun _ _ _ j => j, fun b _ fr => fr_del fr⟩
    have w' : Rw K J H' (delW (updW ω0 a (.tmp N d)) a) := w.step (Same.refl _) (fun b o e => kp b o (jn b o e) (w.jh b o e)) (fun _ _ j => j) fun b m e => by
      obtain ⟨e, nb⟩ := delW_some e
      refine .inl ⟨e, fun b' o l hb' => kp b' o ?_ hb'⟩
      cases q : N b' with
      | none => rfl
      | some u =>
        obtain ⟨_, t2, t3⟩ := tp b' (show N b' ≠ none by rw [q]; simp)
        rcases l with rfl | nb'
        · rw [t2 nb] at e; cases e
        · exact absurd nb' (t3 b m nb e)
    rw [delW_updW n0] at g w'
    exact cq _ _ _ _ _ z g w' .non
end
end Tx

namespace Tx
open PySem PySem.Spec PyProof.Rows L2
/-! ## Classes over data: steps of the telling, methods, new instances, fields -/
/-- some state is told so -/
def Lw (ω : Wd) : Prop := ∃ K J H, Rw K J H ω
/-- a step of the telling alone -/
def Gh (ω ω1 : Wd) : Prop := ∀ K J H, Rw K J H ω → ∃ J1, Rw K J1 H ω1 ∧ Grow J H ω J1 H ω1
theorem Gh.refl {ω : Wd} : Gh ω ω := fun _ J _ w => ⟨J, w, Grow.refl⟩
theorem Gh.trans {ω ω1 ω2 : Wd} (a : Gh ω ω1) (b : Gh ω1 ω2) : Gh ω ω2 := fun K J H w => by
  obtain ⟨J1, w1, g1⟩ := a K J H w
  obtain ⟨J2, w2, g2⟩ := b K J1 H w1
  exact ⟨J2, w2, g1.trans g2⟩
theorem Gh.sub {ω ω1 : Wd} (s : SubW ω1 ω) : Gh ω ω1 := fun _ J _ w => ⟨J, w.sub s, s.grow⟩
section
variable {K : PySem.W.Frag} {J H : Hp} {ω : Wd} {a b C dx p : Addr} {f : Str} {ds : List PyData} {m : MO}
theorem Rw.ent (w : Rw K J H ω) (h : ω a = some (.ent C dx p f ds)) : p ≠ a ∧ ω p = none ∧ J p = none ∧ ∀ c m', c ≠ a → ω c = some m' → ¬ m'.priv p := by
  obtain ⟨e1, vs, e2, _⟩ := w.cell a _ h
  have ne : p ≠ a := fun e => by rw [e, e1] at e2; cases e2
  obtain ⟨t1, t2, t3⟩ := w.tmp a _ h p rfl
  exact ⟨ne, t2 ne, t1, t3⟩
theorem Lw.ent (l : Lw ω) (h : ω a = some (.ent C dx p f ds)) : p ≠ a ∧ ω p = none := by
  obtain ⟨K, J, H, w⟩ := l
  exact ⟨(w.ent h).1, (w.ent h).2.1⟩
/-- an instance and its list become two cells -/
def opn (ω : Wd) (a C dx p : Addr) (f : Str) (ds : List PyData) : Wd := updW (updW ω a (.ins C dx [(f, refD p)])) p (.lst ds)
theorem opn_p : opn ω a C dx p f ds p = some (.lst ds) := updW_same
theorem opn_a (n : p ≠ a) : opn ω a C dx p f ds a = some (.ins C dx [(f, refD p)]) := by
  unfold opn
  rw [updW_ne (Ne.symm n), updW_same]
theorem opn_ne (h1 : b ≠ a) (h2 : b ≠ p) : opn ω a C dx p f ds b = ω b := by
  unfold opn
  rw [updW_ne h2, updW_ne h1]
theorem Gh.open (h : ω a = some (.ent C dx p f ds)) : Gh ω (opn ω a C dx p f ds) := fun K J H w => by
  obtain ⟨ne, hp, jp, pp⟩ := w.ent h
  obtain ⟨e1, vs, e2, r⟩ := w.cell a _ h
  have ja := w.out a _ h
  refine ⟨J, w.step (Same.refl _) w.jh (fun _ _ j => j) fun b m e => ?_, Same.refl _, fun _ z => z, fun _ _ z _ => z, fun _ _ _ j => j, fun b _ z => ?_⟩
  · by_cases e3 : b = p
    · subst e3
      rw [opn_p] at e
      cases e
      refine .inr ⟨jp, ⟨vs, e2, r⟩, fun _ z => False.elim z, fun c m' nc ec => ⟨?_, fun _ z => False.elim z⟩⟩
      by_cases e4 : c = a
      · subst e4; rw [opn_a ne] at ec; cases ec; exact id
      · rw [opn_ne e4 nc] at ec; exact pp c m' e4 ec
    · by_cases e4 : b = a
      · subst e4
        rw [opn_a ne] at e
        cases e
        refine .inr ⟨ja, ⟨_, e1, .cons ⟨rfl, .ref p⟩ .nil⟩, fun _ z => False.elim z, fun c m' nc ec => ⟨?_, fun _ z => False.elim z⟩⟩
        by_cases e5 : c = p
        · subst e5; rw [opn_p] at ec; cases ec; exact id
        · rw [opn_ne nc e5] at ec; exact w.apart h nc ec
      · rw [opn_ne e4 e3] at e
        exact .inl ⟨e, fun _ _ _ z => z⟩
  · have n1 : b ≠ a := fr_ne0 h z
    have n2 : b ≠ p := fun e => z.2 a _ h e
    refine ⟨by rw [opn_ne n1 n2]; exact z.1, fun c m' ec => ?_⟩
    by_cases e5 : c = p
    · subst e5; rw [opn_p] at ec; cases ec; exact id
    · by_cases e4 : c = a
      · subst e4; rw [opn_a ne] at ec; cases ec; exact id
      · rw [opn_ne e4 e5] at ec; exact z.2 c m' ec
/-- and one again -/
def cls (ω : Wd) (a C dx p : Addr) (f : Str) (ds : List PyData) : Wd := updW (delW ω p) a (.ent C dx p f ds)
theorem cls_a : cls ω a C dx p f ds a = some (.ent C dx p f ds) := updW_same
theorem cls_ne (h1 : b ≠ a) (h2 : b ≠ p) : cls ω a C dx p f ds b = ω b := by
  unfold cls
  rw [updW_ne h1, delW_ne h2]
theorem cls_p (n : p ≠ a) : cls ω a C dx p f ds p = none := by
  unfold cls
  rw [updW_ne n, delW_same]
theorem Gh.close (ha : ω a = some (.ins C dx [(f, refD p)])) (hp : ω p = some (.lst ds)) : Gh ω (cls ω a C dx p f ds) := fun K J H w => by
  obtain ⟨gs, e1, r1⟩ := w.cell a _ ha
  obtain ⟨vs, e2, r⟩ := w.cell p _ hp
  have ne : p ≠ a := fun e => by rw [e, e1] at e2; cases e2
  have eg : gs = [(f, .ref p)] := by
    cases r1 with
    | cons h t =>
      cases t
      obtain ⟨h1, h2⟩ := h
      rename_i g
      obtain ⟨g1, g2⟩ := g
      simp only at h1 h2
      rw [h1, rp_ref h2]
  subst eg
  refine ⟨J, w.step (Same.refl _) w.jh (fun _ _ j => j) fun b m e => ?_, Same.refl _, fun _ z => z, fun _ _ z _ => z, fun _ _ _ j => j, fun b _ z => ?_⟩
  · by_cases e4 : b = a
    · subst e4
      rw [cls_a] at e
      cases e
      refine .inr ⟨w.out _ _ ha, ⟨e1, vs, e2, r⟩, fun b' pb => ?_, fun c m' nc ec => ?_⟩
      · rw [show b' = p from pb]
        exact ⟨w.out _ _ hp, fun _ => cls_p ne⟩
      · have cp : c ≠ p := fun e => by rw [e, cls_p ne] at ec; cases ec
        rw [cls_ne nc cp] at ec
        refine ⟨w.apart ha nc ec, fun b' pb => ?_⟩
        rw [show b' = p from pb]
        exact w.apart hp cp ec
    · have bp : b ≠ p := fun z => by rw [z, cls_p ne] at e; cases e
      rw [cls_ne e4 bp] at e
      exact .inl ⟨e, fun _ _ _ z => z⟩
  · have n1 : b ≠ a := fr_ne0 ha z
    have n2 : b ≠ p := fr_ne0 hp z
    refine ⟨by rw [cls_ne n1 n2]; exact z.1, fun c m' ec => ?_⟩
    by_cases e4 : c = a
    · subst e4; rw [cls_a] at ec; cases ec; exact n2
    · have cp : c ≠ p := fun e => by rw [e, cls_p ne] at ec; cases ec
      rw [cls_ne e4 cp] at ec
      exact z.2 c m' ec
/-- opened and closed again, the list another -/
theorem cls_opn {es : List PyData} (hp : ω p = none) (ne : p ≠ a) : cls (updW (opn ω a C dx p f ds) p (.lst es)) a C dx p f es = updW ω a (.ent C dx p f es) := by
  funext b
  by_cases e1 : b = a
  · rw [e1, cls_a, updW_same]
  · by_cases e2 : b = p
    · rw [e2, cls_p ne, updW_ne ne, hp]
    · rw [cls_ne e1 e2, updW_ne e2, opn_ne e1 e2, updW_ne e1]
theorem cls_opn0 (h : ω a = some (.ent C dx p f ds)) (hp : ω p = none) (ne : p ≠ a) : cls (opn ω a C dx p f ds) a C dx p f ds = ω := by
  funext b
  by_cases e1 : b = a
  · rw [e1, cls_a, h]
  · by_cases e2 : b = p
    · rw [e2, cls_p ne, hp]
    · rw [cls_ne e1 e2, opn_ne e1 e2]
end
theorem XdOk.gh {K : PySem.W.Frag} {H0 J J1 H : Hp} {ω ω1 : Wd} {d : Option Addr} {fs : List (Str × PyData)} (h : XdOk K H0 J H ω d fs) (g : Grow J H ω J1 H ω1) : XdOk K H0 J1 H ω1 d fs := by
  cases d with
  | none => exact h
  | some dd =>
    obtain ⟨a, b, c, gs, e, r⟩ := h
    have n : H dd ≠ none := by rw [e]; simp
    exact ⟨a, g.frj dd n c b, g.frw dd n c, gs, e, r.mono g.jj⟩
def dGhE (te : DTE) (ρ : DS) (ω : Wd) (q : DQ) (x : DXK) : Prop := Lw ω → ∃ ω1, Gh ω ω1 ∧ te ρ ω1 (fun r ω2 => Lw ω2 → ∃ ω3, Gh ω2 ω3 ∧ q r ω3) (fun C fs ω2 => Lw ω2 → ∃ ω3, Gh ω2 ω3 ∧ x C fs ω3)
def ghEnds (D : DEnds) : DEnds := ⟨fun ρ ω => Lw ω → ∃ ω1, Gh ω ω1 ∧ D.nx ρ ω1, fun r ω => Lw ω → ∃ ω1, Gh ω ω1 ∧ D.rt r ω1, fun ρ ω => Lw ω → ∃ ω1, Gh ω ω1 ∧ D.bk ρ ω1, fun ρ ω => Lw ω → ∃ ω1, Gh ω ω1 ∧ D.ct ρ ω1, fun C fs ρ ω => Lw ω → ∃ ω1, Gh ω ω1 ∧ D.xc C fs ρ ω1⟩
def dGhS (t : DTS) (D : DEnds) (ρ : DS) (ω : Wd) : Prop := Lw ω → ∃ ω1, Gh ω ω1 ∧ t (ghEnds D) ρ ω1
section
variable {W : WX} {X : Cx} {K : PySem.W.Frag} {e : Expr} {st : Stmt} {ss : List Stmt} {te : DTE} {t : DTS}
theorem CovQ.gh {J H : Hp} {ω : Wd} {q : DQ} {Q : VK} (c : CovQ K J H ω q Q) : CovQ K J H ω (fun r ω2 => Lw ω2 → ∃ ω3, Gh ω2 ω3 ∧ q r ω3) Q := fun r ω' v J' H' z g w rp => by
  obtain ⟨ω3, g3, z⟩ := z ⟨_, _, _, w⟩
  obtain ⟨J3, w3, k3⟩ := g3 _ _ _ w
  exact c _ _ _ _ _ z (g.trans k3) w3 (rp_mono k3.jj _ _ rp)
theorem CovX.gh {J H : Hp} {ω : Wd} {x : DXK} {E : XK} (c : CovX K J H ω x E) : CovX K J H ω (fun C fs ω2 => Lw ω2 → ∃ ω3, Gh ω2 ω3 ∧ x C fs ω3) E := fun C fs ω' d J' H' z g w xd => by
  obtain ⟨ω3, g3, z⟩ := z ⟨_, _, _, w⟩
  obtain ⟨J3, w3, k3⟩ := g3 _ _ _ w
  exact c _ _ _ _ _ _ z (g.trans k3) w3 (xd.gh k3)
theorem CovS.gh {J H : Hp} {ω : Wd} {DD : DEnds} {D : Ends} (c : CovS K J H ω W DD D) : CovS K J H ω W (ghEnds DD) D := by
  refine ⟨fun ρ' ω' σ' J' H' z g w s => ?_, fun ρ' ω' σ' J' H' z g w s => ?_, fun ρ' ω' σ' J' H' z g w s => ?_, c.rt.gh, fun C fs ρ' ω' d σ' J' H' z g w s xd => ?_⟩ <;>
  · obtain ⟨ω3, g3, z⟩ := z ⟨_, _, _, w⟩
    obtain ⟨J3, w3, k3⟩ := g3 _ _ _ w
    first
      | exact c.nx _ _ _ _ _ z (g.trans k3) w3 (s.mono k3.jj)
      | exact c.bk _ _ _ _ _ z (g.trans k3) w3 (s.mono k3.jj)
      | exact c.ct _ _ _ _ _ z (g.trans k3) w3 (s.mono k3.jj)
      | exact c.xc _ _ _ _ _ _ _ _ z (g.trans k3) w3 (s.mono k3.jj) (xd.gh k3)
theorem de_gh (h : DE W X K e te) : DE W X K e (dGhE te) := by
  obtain ⟨r, p, k⟩ := h
  refine ⟨r, p, fun σ H J ω ρ q x Q w s cq cx z => ?_⟩
  obtain ⟨ω1, g1, z1⟩ := z ⟨_, _, _, w⟩
  obtain ⟨J1, w1, k1⟩ := g1 _ _ _ w
  exact k σ H J1 ω1 ρ _ _ Q w1 (s.mono k1.jj) (cq.step k1).gh (cx.step k1).gh z1
theorem dss_gh (h : DSs W X K ss t) : DSs W X K ss (dGhS t) := by
  obtain ⟨r, p, k⟩ := h
  refine ⟨r, p, fun D DD σ H J ω ρ w s cs z => ?_⟩
  obtain ⟨ω1, g1, z1⟩ := z ⟨_, _, _, w⟩
  obtain ⟨J1, w1, k1⟩ := g1 _ _ _ w
  exact k D _ σ H J1 ω1 ρ w1 (s.mono k1.jj) (cs.step k1).gh z1
theorem ds_gh (h : DSt W X K st t) : DSt W X K st (dGhS t) := by
  obtain ⟨r, p, k⟩ := h
  refine ⟨r, p, fun D DD σ H J ω ρ w s cs z => ?_⟩
  obtain ⟨ω1, g1, z1⟩ := z ⟨_, _, _, w⟩
  obtain ⟨J1, w1, k1⟩ := g1 _ _ _ w
  exact k D _ σ H J1 ω1 ρ w1 (s.mono k1.jj) (cs.step k1).gh z1
/-- what is never reached -/
def dNever (_ : DEnds) (_ : DS) (_ : Wd) : Prop := False
theorem ds_never : DSt W X K st dNever := ⟨fun _ _ _ => False, ⟨fun _ _ _ _ _ _ z => False.elim z⟩, fun _ _ _ _ _ _ _ _ _ _ z => z⟩
end
end Tx

namespace Tx
open PySem PySem.Spec PyProof.Rows L2
/-! ## Methods, new instances, fields -/
/-- a method of the class at C -/
def HasM (K : PySem.W.Frag) (C : Addr) (m qual : Str) (st : Stmt) : Prop := ∃ (f : Addr) (fd : FuncData), Fun K m qual st f fd ∧ Meth K C m f
theorem hasM_of {K : PySem.W.Frag} {C f : Addr} {m qual : Str} {st : Stmt} {oc kV dc pm cd ct : Value} {od an : Option Addr} {sl : Array (Option Value)} (a : PySem.W.findIn K (.ref C) m = some (some (.ref f)))
    (l : K.lookup f = some ⟨oc, od, .func (PySem.W.fnOf m qual (defArgs st) (defBody st) (defScope st) .none kV dc pm an cd ct), sl⟩)
    (c : PySem.W.codeIn K cd qual = true) (k : PySem.W.keepIn K (.ref f) = true) (i : PySem.W.isFn K (.ref f) = true) : HasM K C m qual st := ⟨f, _, fun_mk l c k, a, i, k⟩
def BindsByQ (x qual : Str) (st : Stmt) (ps : List Str) : Prop := ∀ (kV doc pm : Value) (an : Option Addr) (cdv ct : Value) (us : List Value), us.length = ps.length →
  bindArgs (PySem.W.fnOf x qual (defArgs st) (defBody st) (defScope st) .none kV doc pm an cdv ct) ⟨us, []⟩ = pure (ps.zip us)
/-- a method and its promise -/
def Mfn (P : Program) (w : World) (K : PySem.W.Frag) (mg : Str → Option Value) (base : Heap) (CX : CXT) (k : Nat) (C : Addr) (m : Str) (ps : List Str) (sp : Sp) : Prop :=
  ∃ (f : Addr) (fd : FuncData), FnG P w K mg base CX k f fd ps sp ∧ Meth K C m f ∧ Binds K fd ps []
section
variable {P : Program} {w : World} {K : PySem.W.Frag} {mg : Str → Option Value} {base : Heap} {CX : CXT} {k : Nat} {C : Addr} {m qual : Str} {ps N : List Str} {sp : DSp} {st : Stmt}
theorem Mfn.mono {sp : Sp} {j : Nat} (D : Mfn P w K mg base CX j C m ps sp) (h : j ≤ k) : Mfn P w K mg base CX k C m ps sp := by
  obtain ⟨f, fd, F, r⟩ := D
  exact ⟨f, fd, F.mono h, r⟩
theorem mfnD (h : HasM K C m qual st) (B : Bi mg) (S : FnScope N ps (defScope st)) (bd : BindsByQ m qual st ps) (len : ∀ ts ω q xx, sp ts ω q xx → ts.length = ps.length)
    (body : ∀ (f : Addr) (cv : Value) (A : Around) (out : List Env) (s : Shared) (H : Hp) (E : XK), Ct mg (A.deeper (envOfC qual (defScope st) s.heap.objs.size f cv)) k →
      ∃ td, DSs W0 (cxOf CX0 P w K mg base N qual (defScope st) f cv A out s H E).nox K (defBody st) td ∧ ∀ ts ω q xx, sp ts ω q xx → td (endsD q X0) (startD N ts) ω) :
    Mfn P w K mg base CX0 (k + 1) C m ps (spD K sp) := by
  obtain ⟨f, fd, F, mt⟩ := h
  refine ⟨f, fd, okG F S (fun vs H Q E z => ?_) ?_, mt, F.binds bd⟩
  · obtain ⟨J, ω, ts, q, xx, w, r, _, _, z⟩ := z
    rw [r.length]
    exact len _ _ _ _ z
  intro cv A out s H vs Q E room gd ask
  obtain ⟨J, ω, ts, q, xx, w, r, cq, cx, z⟩ := ask
  obtain ⟨td, ⟨t, p, kk⟩, hb⟩ := body f cv A out s H E ⟨B, room, gd⟩
  exact ⟨t, p.nox, kk _ _ _ H J ω _ w (sl_start r) ⟨fun _ _ _ _ _ z g w _ => cq _ _ _ _ _ z g w .non, fun _ _ _ _ _ z _ _ _ => False.elim z, fun _ _ _ _ _ z _ _ _ => False.elim z, cq, fun _ _ _ _ _ _ _ _ z _ _ _ _ => False.elim z⟩ (hb ts ω q xx z)⟩
theorem mfnDX (h : HasM K C m qual st) (B : Bi mg) (S : FnScope N ps (defScope st)) (bd : BindsByQ m qual st ps) (len : ∀ ts ω q xx, sp ts ω q xx → ts.length = ps.length)
    (body : ∀ (f : Addr) (cv : Value) (A : Around) (out : List Env) (s : Shared) (H : Hp) (E : XK), Ct mg (A.deeper (envOfC qual (defScope st) s.heap.objs.size f cv)) k →
      ∃ td, DSs (fun cl d _ H => E cl d H) (cxOf (L2.CX P w) P w K mg base N qual (defScope st) f cv A out s H E) K (defBody st) td ∧ ∀ ts ω q xx, sp ts ω q xx → td (endsD q xx) (startD N ts) ω) :
    Mfn P w K mg base (L2.CX P w) (k + 1) C m ps (spD K sp) := by
  obtain ⟨f, fd, F, mt⟩ := h
  refine ⟨f, fd, okG F S (fun vs H Q E z => ?_) ?_, mt, F.binds bd⟩
  · obtain ⟨J, ω, ts, q, xx, w, r, _, _, z⟩ := z
    rw [r.length]
    exact len _ _ _ _ z
  intro cv A out s H vs Q E room gd ask
  obtain ⟨J, ω, ts, q, xx, w, r, cq, cx, z⟩ := ask
  obtain ⟨td, ⟨t, p, kk⟩, hb⟩ := body f cv A out s H E ⟨B, room, gd⟩
  exact ⟨t, p, kk _ _ _ H J ω _ w (sl_start r) ⟨fun _ _ _ _ _ z g w _ => cq _ _ _ _ _ z g w .non, fun _ _ _ _ _ z _ _ _ => False.elim z, fun _ _ _ _ _ z _ _ _ => False.elim z, cq, fun C fs _ ω' d _ J' H' z g w _ x => cx C fs ω' d J' H' z g w x⟩ (hb ts ω q xx z)⟩
end
/-- what a class of the text must have -/
structure ClsD (K : PySem.W.Frag) (mg : Str → Option Value) (x : Str) (C : Addr) : Prop where
  gC : mg x = some (.ref C)
  cl : Cls K C
  mks : PySem.W.makesIn K C = true
  kp : PySem.W.keepIn K (.ref C) = true
theorem clsD_of {K : PySem.W.Frag} {mg : Str → Option Value} {h : Heap} {x : Str} {C : Addr} (X : K.In h) (G : h.Ns mainGlobals mg) (a : PySem.W.nsIn K mainGlobals x = some (some (.ref C))) (pg : PySem.W.plainGet K C Str.empty = true) (hd : PySem.W.hasDictIn K C = true)
    (po : PySem.W.plainOver K C = true) (sa : PySem.W.findIn K (.ref C) "__setattr__" = some (some (.builtin "object.__setattr__"))) (mk : PySem.W.makesIn K C = true) (kp : PySem.W.keepIn K (.ref C) = true) : ClsD K mg x C :=
  ⟨PySem.W.mg_of X G a, ⟨pg, hd, po, sa⟩, mk, kp⟩
/-- a cell that is an instance of the class at C, without a field m -/
def isIns (C : Addr) (m : Str) : MO → Prop
  | .ins C' _ fs => C' = C ∧ fs.lookup m = none
  | .ent C' _ _ f _ => C' = C ∧ (m == f) = false
  | _ => False
theorem rpf_none {K : PySem.W.Frag} {J : Hp} {f : Str} : ∀ {gs : List (Str × V)} {fs : List (Str × PyData)}, RpF K J gs fs → fs.lookup f = none → gs.lookup f = none
  | _, _, .nil, _ => rfl
  | (a, u) :: gs, (b, v) :: fs, .cons h t, e => by
    obtain ⟨h1, h2⟩ := h
    simp only at h1 h2
    subst h1
    rw [List.lookup_cons] at e ⊢
    cases q : f == a with
    | true => rw [q] at e; cases e
    | false => rw [q] at e; exact rpf_none t e
section
variable {K : PySem.W.Frag} {J H : Hp} {ω : Wd} {a C : Addr} {m : Str} {o : MO}
theorem Rw.ins (w : Rw K J H ω) (h : ω a = some o) (i : isIns C m o) : ∃ dx fs, H a = some (.ins C dx fs) ∧ fs.lookup m = none := by
  cases o with
  | ins C' dx fs =>
    obtain ⟨rfl, l⟩ := i
    obtain ⟨gs, e, r⟩ := w.cell a _ h
    exact ⟨dx, gs, e, rpf_none r l⟩
  | ent C' dx p f ds =>
    obtain ⟨rfl, l⟩ := i
    obtain ⟨e, _⟩ := w.cell a _ h
    exact ⟨dx, _, e, by rw [List.lookup_cons, l]; rfl⟩
  | _ => exact False.elim i
end
section
variable {X : Cx} {CX : CXT} {k : Nat} {f C : Addr} {fd : FuncData} {ps : List Str} {sp : Sp} {E : L2.St → XK} {x m : Str} {p pos apos : Pos} {e o : Expr} {es : List Expr} {ta : TE} {t : TA} {A : Around}
theorem run_g {pins : List (Addr × Obj)} {σ : L2.St} {H : Hp} {s : Shared} {Q : VK} {us : List Value} {vs : List V} {E : XK} (F : FnG X.prog X.w X.K X.mg X.base CX k f fd ps sp) (hr : Room k A) (gd : A.guards = some []) (hb : Binds X.K fd ps [])
    (e0 : Env0 X.prog X.w X.K X.mg X.base A X.stack s H) (hx : PassesAt CX X σ E) (I : Inv X pins σ H s) (r : Vals vs us) (h : sp vs H Q E) : wpAny (model X.prog X.w) A (call (.ref f) us) (EP X pins σ Q) X.xe s := by
  have hl : (us ++ []).length = ps.length := by rw [List.append_nil, ← r.length]; exact F.len _ _ _ _ h
  have b := hb s us I.kIn hl
  rw [List.append_nil] at b
  refine wpAny_call (codeAny_mono (F.run A X.stack s H ⟨us, []⟩ us vs Q E hr gd e0 b r h) ?_)
  intro r s2 got
  match r, got with
  | .ok (.ret u), got => exact I.after got
  | .ok .next, got => exact False.elim got
  | .ok .brk, got => exact False.elim got
  | .ok .cont, got => exact False.elim got
  | .error er, got => exact hx pins H s er s2 I got
def tMethS (C : Addr) (m : Str) (sp : Sp) (E : L2.St → XK) (ta : TE) (t : TA) : TE := fun σ H Q => ta σ H fun x H1 => ∃ a dx fs, x = .ref a ∧ H1 a = some (.ins C dx fs) ∧ fs.lookup m = none ∧ t σ H1 fun vs H2 => sp (x :: vs) H2 Q (E σ)
theorem pe_methG {pl : Sem Bool} (he : PE X o ta) (c : Cls X.K C) (M : Mfn X.prog X.w X.K X.mg X.base CX k C m ps sp) (hr : Room k X.A) (gd : X.A.guards = some []) (hx : ∀ σ, PassesAt CX X σ (E σ)) (ha : PA X (e :: es) t)
    (hst : starEach (e :: es) X.env = (false, eval e X.env) :: starEach es X.env := by rfl) (hpl : (backTo pos (starEach es X.env)).any (·.1) = false := by rfl)
    (ht : eval (.Call (.Attribute o m apos) (e :: es) [] pos) X.env = (do
      let ov ← eval o X.env
      standAt apos.atName
      let (f, first) ← holding [ov] (getMethod ov m pl)
      callWith pos f first (backTo pos (starEach (e :: es) X.env)) (backToKw pos (keywordEach [] X.env))) := by rfl) :
    PE X (.Call (.Attribute o m apos) (e :: es) [] pos) (tMethS C m sp E ta t) := by
  obtain ⟨f, fd, F, hm, hb⟩ := M
  constructor
  intro pins s σ H Q I h
  refine PySem.W.methodCall_KW (pl := pl) (thn (he.run pins s σ H _ I h) fun u s1 ⟨x, H1, I1, rx, a, dx, fs, ex, ea, l, q⟩ => ?_) ht
  subst ex
  obtain rfl : u = Value.ref a := rx
  refine getmeth_ok I1 ea c hm l ?_
  refine PySem.W.callWith_K (first := [.ref a]) (h₀ := X.base) I.ok.mod.kin hm.kp (thn (ha.run pos pins s1 σ H1 _ I1 q) fun us s2 ⟨vs, H2, I2, r, q2⟩ => ⟨I2.kIn, ?_⟩) hst hpl
  exact run_g (us := .ref a :: us) (vs := .ref a :: vs) F hr gd hb I2.env0 (hx σ) I2 (.cons rfl r) q2
theorem pe_methG0 {pl : Sem Bool} (he : PE X o ta) (c : Cls X.K C) (M : Mfn X.prog X.w X.K X.mg X.base CX k C m ps sp) (hr : Room k X.A) (gd : X.A.guards = some []) (hx : ∀ σ, PassesAt CX X σ (E σ))
    (ht : eval (.Call (.Attribute o m apos) [] [] pos) X.env = (do
      let ov ← eval o X.env
      standAt apos.atName
      let (f, first) ← holding [ov] (getMethod ov m pl)
      callWith pos f first (backTo pos (starEach [] X.env)) (backToKw pos (keywordEach [] X.env))) := by rfl) :
    PE X (.Call (.Attribute o m apos) [] [] pos) (tMethS C m sp E ta tNil) := by
  obtain ⟨f, fd, F, hm, hb⟩ := M
  constructor
  intro pins s σ H Q I h
  refine PySem.W.methodCall_KW (pl := pl) (thn (he.run pins s σ H _ I h) fun u s1 ⟨x, H1, I1, rx, a, dx, fs, ex, ea, l, q⟩ => ?_) ht
  subst ex
  obtain rfl : u = Value.ref a := rx
  refine getmeth_ok I1 ea c hm l ?_
  exact PySem.W.callWith_K0 (first := [.ref a]) I1.kIn hm.kp (run_g (us := [.ref a]) (vs := [.ref a]) F hr gd hb I1.env0 (hx σ) I1 (.cons rfl .nil) q)
def tMakeS (C : Addr) (sp : Sp) (E : L2.St → XK) (t : TA) : TE := fun σ H Q => t σ H fun vs H1 => ∀ x dx, H1 x = none → H1 dx = none → dx ≠ x →
  sp (.ref x :: vs) (upd (upd H1 dx (.own x)) x (.ins C dx [])) (fun v H2 => v = .non ∧ Q (.ref x) H2) (E σ)
theorem pe_makeG (c : ClsD X.K X.mg x C) (M : Mfn X.prog X.w X.K X.mg X.base CX k C "__init__" ps sp) (hr : Room (k + 1) X.A) (gd : X.A.guards = some []) (hg : Gl X x) (hx : ∀ σ, PassesAt CX X σ (E σ)) (ha : PA X (e :: es) t)
    (hdb : (x == ("__debug__" : Str)) = false := by decide) (he : starEach (e :: es) X.env = (false, eval e X.env) :: starEach es X.env := by rfl) (hpl : (backTo pos (starEach es X.env)).any (·.1) = false := by rfl) :
    PE X (.Call (.Name x p) (e :: es) [] pos) (tMakeS C sp E t) := by
  obtain ⟨f, fd, F, hm, hb⟩ := M
  constructor
  intro pins s0 σ H0 Q I0 h0
  refine wpAny_Call_Name_kw (ld_glob I0 hg c.gC ?_ hdb)
  refine PySem.W.callWith_K (h₀ := X.base) I0.ok.mod.kin c.kp (thn (ha.run pos pins s0 σ H0 _ I0 h0) fun us s ⟨vs, H, I, r, h⟩ => ⟨I.kIn, ?_⟩) he hpl
  have hq := h (s.heap.objs.size + 1) s.heap.objs.size (I.hok.fresh (Nat.le_succ _)) (I.hok.fresh (Nat.le_refl _)) (Nat.ne_of_lt (Nat.lt_succ_self _))
  have I2 := Inv.made (C := C) I
  have r2 : Vals (V.ref (s.heap.objs.size + 1) :: vs) (Value.ref (s.heap.objs.size + 1) :: us) := .cons rfl r
  have hl : ((Value.ref (s.heap.objs.size + 1) :: us) ++ []).length = ps.length := by
    rw [List.append_nil, ← r2.length]
    exact F.len _ _ _ _ hq
  have b := hb _ (Value.ref (s.heap.objs.size + 1) :: us) I2.kIn hl
  rw [List.append_nil] at b
  refine wpAny_call (make_map (f := f) I.kIn c.mks hm.at_ (beq_iff_eq.mp hm.fn) (codeAny_mono (F.run _ X.stack _ _ ⟨Value.ref (s.heap.objs.size + 1) :: us, []⟩ (Value.ref (s.heap.objs.size + 1) :: us) _ _ (E σ) (hr.make C us []) gd
    (I2.env0.make C us []) b r2 hq) ?_))
  intro r s' got
  match r, got with
  | .ok (.ret u), got =>
    obtain ⟨v, H', I3, rv, ev, q3⟩ := I2.after got
    subst ev
    exact ⟨rv, ⟨V.ref (s.heap.objs.size + 1), H', I3, rfl, q3⟩⟩
  | .ok .next, got => exact False.elim got
  | .ok .brk, got => exact False.elim got
  | .ok .cont, got => exact False.elim got
  | .error er, got => exact hx σ pins _ _ er s' I2 got
end
/-- o.m(..) -/
def dMeth (C : Addr) (m : Str) (sp : DSp) (to : DTE) (ta : DTA) (ρ : DS) (ω : Wd) (q : DQ) (x : DXK) : Prop := to ρ ω (fun o ω1 => ∃ a mo, o = refD a ∧ ω1 a = some mo ∧ isIns C m mo ∧ ta ρ ω1 (fun ts ω2 => sp (o :: ts) ω2 q x) x) x
/-- C(..) -/
def dMake (C : Addr) (sp : DSp) (ta : DTA) (ρ : DS) (ω : Wd) (q : DQ) (x : DXK) : Prop := ta ρ ω (fun ts ω1 => ∀ a dx, ω1 a = none → sp (refD a :: ts) (updW ω1 a (.ins C dx [])) (fun v ω2 => v = .none ∧ q (refD a) ω2) x) x
def dFld (K : PySem.W.Frag) (te : DTE) (f : Str) (ρ : DS) (ω : Wd) (q : DQ) (x : DXK) : Prop := te ρ ω (fun o ω1 => ∃ a C dx fs v, o = refD a ∧ ω1 a = some (.ins C dx fs) ∧ Cls K C ∧ NoAttr K C f ∧ fs.lookup f = some v ∧ q v ω1) x
def putD (f : Str) (v : PyData) : List (Str × PyData) → List (Str × PyData)
  | [] => [(f, v)]
  | (g, u) :: r => if g = f then (g, v) :: r else (g, u) :: putD f v r
def dSetF (K : PySem.W.Frag) (to te : DTE) (f : Str) (D : DEnds) (ρ : DS) (ω : Wd) : Prop := te ρ ω (fun v ω1 => to ρ ω1 (fun o ω2 => ∃ a C dx fs, o = refD a ∧ ω2 a = some (.ins C dx fs) ∧ Cls K C ∧ NoAttr K C f ∧ fs.length < 1000 ∧ D.nx ρ (updW ω2 a (.ins C dx (putD f v fs)))) (xcOf D ρ)) (xcOf D ρ)
theorem rpf_put {K : PySem.W.Frag} {J : Hp} {f : Str} {u : V} {v : PyData} (h : Rp K J u v) : ∀ {gs : List (Str × V)} {fs : List (Str × PyData)}, RpF K J gs fs → RpF K J (putF f u gs) (putD f v fs)
  | _, _, .nil => .cons ⟨rfl, h⟩ .nil
  | (a, u') :: gs, (b, v') :: fs, .cons g t => by
    obtain ⟨h1, h2⟩ := g
    simp only at h1 h2
    subst h1
    unfold putF putD
    by_cases q : a = f
    · rw [if_pos q, if_pos q]; exact .cons ⟨rfl, h⟩ t
    · rw [if_neg q, if_neg q]; exact .cons ⟨rfl, h2⟩ (rpf_put h t)
theorem RpF.length {K : PySem.W.Frag} {J : Hp} : ∀ {gs : List (Str × V)} {fs : List (Str × PyData)}, RpF K J gs fs → gs.length = fs.length
  | _, _, .nil => rfl
  | _, _, .cons _ t => by rw [List.length_cons, List.length_cons, RpF.length t]
section
variable {W : WX} {X : Cx} {K : PySem.W.Frag} {j k : Nat} {ps : List Str} {sp : DSp} {x m f : Str} {C : Addr} {p pos apos pos' : Pos} {e o : Expr} {es : List Expr} {to te : DTE} {tA : DTA} {CX : CXT}
/-- no exception, or one that is wished for -/
def PX (CX : CXT) (X : Cx) (W : WX) : Prop := ∀ σ, PassesAt CX X σ (fun cl d H => W cl d σ H)
theorem px0 : PX CX0 X W := fun _ _ _ _ _ _ _ h => False.elim h
theorem pxX (tk : Takes X W) : PX (L2.CX X.prog X.w) X W := fun σ => passAt tk σ
theorem de_meth {pl : Sem Bool} (hK : X.K = K) (M : Mfn X.prog X.w X.K X.mg X.base CX j C m ps (spD K sp)) (cl : Cls K C) (c : Ct X.mg X.A k) (h : j ≤ k) (px : PX CX X W) (ho : DE W X K o to) (args : DAs W X K (e :: es) tA)
    (hst : starEach (e :: es) X.env = (false, eval e X.env) :: starEach es X.env := by rfl) (hpl : (backTo pos (starEach es X.env)).any (·.1) = false := by rfl)
    (ht : eval (.Call (.Attribute o m apos) (e :: es) [] pos) X.env = (do
      let ov ← eval o X.env
      standAt apos.atName
      let (f, first) ← holding [ov] (getMethod ov m pl)
      callWith pos f first (backTo pos (starEach (e :: es) X.env)) (backToKw pos (keywordEach [] X.env))) := by rfl) :
    DE W X K (.Call (.Attribute o m apos) (e :: es) [] pos) (dMeth C m sp to tA) := by
  subst hK
  obtain ⟨ro, po, ko⟩ := ho
  obtain ⟨t, pp, kk⟩ := args
  refine ⟨_, pe_methG (E := fun σ cl d H => W cl d σ H) po cl M (c.r.mono h) c.g px pp hst hpl ht, fun σ H J ω ρ q x Q w s cq cx z => ko σ H J ω ρ _ x _ w s (fun r ω1 v J1 H1 z1 g1 w1 rp => ?_) cx z⟩
  obtain ⟨a, mo, rfl, e1, i, z1⟩ := z1
  obtain rfl := rp_ref rp
  obtain ⟨dx, fs, e2, l⟩ := w1.ins e1 i
  refine ⟨a, dx, fs, rfl, e2, l, kk σ H1 J1 ω1 ρ _ x _ w1 (s.mono g1.jj) (fun ts ω2 vs J2 H2 z2 g2 w2 rps => ?_) (cx.step g1) z1⟩
  exact ⟨J2, ω2, _, q, x, w2, .cons (.ref a) rps, (cq.step g1).step g2, (cx.step g1).step g2, z2⟩
theorem de_meth0 {pl : Sem Bool} (hK : X.K = K) (M : Mfn X.prog X.w X.K X.mg X.base CX j C m ps (spD K sp)) (cl : Cls K C) (c : Ct X.mg X.A k) (h : j ≤ k) (px : PX CX X W) (ho : DE W X K o to)
    (ht : eval (.Call (.Attribute o m apos) [] [] pos) X.env = (do
      let ov ← eval o X.env
      standAt apos.atName
      let (f, first) ← holding [ov] (getMethod ov m pl)
      callWith pos f first (backTo pos (starEach [] X.env)) (backToKw pos (keywordEach [] X.env))) := by rfl) :
    DE W X K (.Call (.Attribute o m apos) [] [] pos) (dMeth C m sp to dNil) := by
  subst hK
  obtain ⟨ro, po, ko⟩ := ho
  refine ⟨_, pe_methG0 (E := fun σ cl d H => W cl d σ H) po cl M (c.r.mono h) c.g px ht, fun σ H J ω ρ q x Q w s cq cx z => ko σ H J ω ρ _ x _ w s (fun r ω1 v J1 H1 z1 g1 w1 rp => ?_) cx z⟩
  obtain ⟨a, mo, rfl, e1, i, z1⟩ := z1
  obtain rfl := rp_ref rp
  obtain ⟨dx, fs, e2, l⟩ := w1.ins e1 i
  exact ⟨a, dx, fs, rfl, e2, l, J1, ω1, _, q, x, w1, .cons (.ref a) .nil, cq.step g1, cx.step g1, z1⟩
theorem de_make (hK : X.K = K) (cl : ClsD K X.mg x C) (M : Mfn X.prog X.w X.K X.mg X.base CX j C "__init__" ps (spD K sp)) (c : Ct X.mg X.A k) (h : j + 1 ≤ k) (gl : Gl X x) (px : PX CX X W) (args : DAs W X K (e :: es) tA)
    (hdb : (x == ("__debug__" : Str)) = false := by decide) (he : starEach (e :: es) X.env = (false, eval e X.env) :: starEach es X.env := by rfl) (hpl : (backTo pos (starEach es X.env)).any (·.1) = false := by rfl) :
    DE W X K (.Call (.Name x p) (e :: es) [] pos) (dMake C sp tA) := by
  subst hK
  obtain ⟨t, pp, kk⟩ := args
  refine ⟨_, pe_makeG (E := fun σ cl d H => W cl d σ H) cl M (c.r.mono h) c.g gl px pp hdb he hpl, fun σ H J ω ρ q x Q w s cq cx z => kk σ H J ω ρ _ x _ w s (fun ts ω1 vs J1 H1 z1 g1 w1 rps => ?_) cx z⟩
  intro a dx ha hd ne
  have w2 := w1.junk hd (.own a)
  have ha2 : upd H1 dx (.own a) a = none := by rw [upd_ne (Ne.symm ne)]; exact ha
  have w3 := w2.own (m := .ins C dx []) (o := .ins C dx []) rfl ha2 ⟨[], upd_same, .nil⟩
  have g3 : Grow J H ω J1 (upd (upd H1 dx (.own a)) a (.ins C dx [])) (updW ω1 a (.ins C dx [])) := (g1.trans (Grow.junk hd _)).trans (Grow.own rfl ha2 _)
  refine ⟨J1, _, _, _, x, w3, .cons (.ref a) rps, fun r ω' v J' H' z' g' w' rp => ?_, cx.step g3, z1 a dx (w1.free ha).1⟩
  obtain ⟨rfl, z'⟩ := z'
  cases rp
  exact ⟨rfl, (cq.step g3) _ _ _ _ _ z' g' w' (.ref a)⟩
theorem de_fld (hK : X.K = K) (he : DE W X K e te) (hb : attributeBase e f X.env (eval e X.env) = eval e X.env := by rfl) : DE W X K (.Attribute e f pos) (dFld K te f) := by
  subst hK
  obtain ⟨ro, po, ko⟩ := he
  refine ⟨_, pe_fld po hb, fun σ H J ω ρ q x Q w s cq cx z => ko σ H J ω ρ _ x _ w s (fun r ω1 v J1 H1 z1 g1 w1 rp => ?_) cx z⟩
  obtain ⟨a, C, dx, fs, v, rfl, e1, cl, na, l, z1⟩ := z1
  obtain rfl := rp_ref rp
  obtain ⟨gs, e2, r2⟩ := w1.cell a _ e1
  obtain ⟨u, l2, r3⟩ := rpf_lookup r2 l
  exact ⟨a, C, dx, gs, u, rfl, e2, cl, na, l2, cq _ _ _ _ _ z1 g1 w1 r3⟩
theorem ds_fld (hK : X.K = K) (ho : DE W X K o to) (he : DE W X K e te) (hs : swapsWith e (some (.Attribute o f pos')) pos.line X.env = pure false := by rfl) : DSt W X K (.Assign [.Attribute o f pos'] e pos) (dSetF K to te f) := by
  subst hK
  obtain ⟨ro, po, ko⟩ := ho
  obtain ⟨re, pe, ke⟩ := he
  refine ⟨_, ps_fld po pe hs, fun D DD σ H J ω ρ w s cs z => ke σ H J ω ρ _ _ _ w s (fun r ω1 v J1 H1 z1 g1 w1 rp => ?_) (cs.x s) z⟩
  refine ko σ H1 J1 ω1 ρ _ _ _ w1 (s.mono g1.jj) (fun r2 ω2 v2 J2 H2 z2 g2 w2 rp2 => ?_) ((cs.x s).step g1) z1
  obtain ⟨a, C, dx, fs, rfl, e1, cl, na, l, z2⟩ := z2
  obtain rfl := rp_ref rp2
  obtain ⟨gs, e2, r2⟩ := w2.cell a _ e1
  refine ⟨a, C, dx, gs, rfl, e2, cl, na, by rw [r2.length]; exact l, cs.nx _ _ _ _ _ z2 ((g1.trans g2).trans (Grow.set e1 rfl _)) (w2.set e1 rfl ⟨_, upd_same, rpf_put (rp_mono g2.jj _ _ rp) r2⟩) (s.mono (g1.trans g2).jj)⟩
end
end Tx

namespace Tx
open PySem PySem.Spec PyProof.Rows L2
/-! ## Operators of a class of the text -/
section
variable {prog : Program} {w : World} {A : Around} {E : Value → Shared → Prop} {s : Shared} {K : PySem.W.Frag} {x C f : Addr} {ox : Obj} {od : Option Obj} {b tb : Value}
theorem slot_one (X : K.In s.heap) (I : PySem.W.InstAt s.heap x ox C od) (oC : PySem.W.subIn K (.ref C) (.type "object") = some true) {Q : Unit → Shared → Prop} (h : Q () s) : wpAny (model prog w) A (checkBuiltinCall "object.__ne__" ⟨[.ref x, b], []⟩) Q E s := by
  simp only [checkBuiltinCall, F.cmpKind_ne, F.cmpSplit_ne]
  refine wpAny_bind ?_
  unfold isInstance
  refine wpAny_bind (I.type.here ((PySem.W.looks_subIn X oC).here ?_))
  have ha := F.cmpArgs_ne (.ref x) b
  unfold argsOk at ha
  cases q : Manifest.signature? "object.__ne__" with
  | none => exact wpAny_pure h
  | some sg =>
    rw [q] at ha
    show wpAny _ _ (Bind.checkArgs "object.__ne__" sg ⟨[.ref x, b], []⟩) _ _ _
    rw [show Bind.checkArgs "object.__ne__" sg ⟨[.ref x, b], []⟩ = pure () from ha]
    exact wpAny_pure h
/-- a != b where the class has an own __eq__ and no own __ne__ -/
theorem ne_own {Q : Value → Shared → Prop} (hu : A.units + 1 < cLine) (X : K.In s.heap) (I : PySem.W.InstAt s.heap x ox C od) (hb : PySem.W.Looks (model prog w) s.heap (typeOf b) tb) (hn : PySem.W.notFirst K C tb = true)
    (ne : PySem.W.findIn K (.ref C) "__ne__" = some (some (.builtin "object.__ne__"))) (eq : PySem.W.findIn K (.ref C) "__eq__" = some (some (.ref f))) (hf : PySem.W.isFn K (.ref f) = true) (oC : PySem.W.subIn K (.ref C) (.type "object") = some true)
    (h : wpAny (model prog w) A.in1 (call (.ref f) [.ref x, b]) (fun v s' => ∃ r, v = .bool r ∧ Q (.bool (!r)) s') E s) : wpAny (model prog w) A (richCompare .NotEq (.ref x) b) Q E s := by
  have entry : wpAny (model prog w) A (call (.builtin "object.__ne__") ([.ref x] ++ [b])) (fun v s' => ∃ r, v = .bool r ∧ Q v s') E s := by
    refine wpAny_call (codeAny_call_builtin (by decide +kernel) F.cmpEntry_ne (slot_one X I oC ?_))
    unfold Builtin.«object.__ne__»
    refine wpAny_bind (m := slotArgs _ _ _) (wpAny_pure ?_)
    refine wpAny_bind (wpAny_cRoomFor hu ?_)
    refine wpAny_bind (PySem.W.ifBound_K X I eq hf (wpAny_mono h (fun v s1 ⟨r, e, q⟩ => ?_) fun _ _ z => z))
    subst e
    refine wpAny_bind (wpAny_truthy_bool ?_)
    exact wpAny_pure ⟨_, rfl, q⟩
  have cs : wpAny (model prog w) A (callSpecialIfBound? (.ref x) (cmpInfo .NotEq).2.1 [b]) (fun r s' => ∃ v, r = some (.bool v) ∧ Q (.bool v) s') E s := by
    unfold callSpecialIfBound? bindSpecialIfBound?
    refine wpAny_holding (wpAny_bind (wpAny_bind (wpAny_bind (I.type.here ((PySem.W.looks_findIn X ne).here ?_)))))
    refine wpAny_bind (wpAny_askSetting (wpAny_ite ?_))
    have bd : bindSpecial (.builtin "object.__ne__") (.ref x) = pure (.builtin "object.__ne__", [.ref x]) := rfl
    simp only [bd]
    have fin : wpAny (model prog w) A (call (.builtin "object.__ne__") ([.ref x] ++ [b]) >>= fun v => pure (some v)) (fun r s' => ∃ v, r = some (.bool v) ∧ Q (.bool v) s') E s := by
      refine wpAny_bind (wpAny_mono entry (fun v s1 ⟨r, e, q⟩ => ?_) fun _ _ z => z)
      subst e
      exact wpAny_pure ⟨_, rfl, q⟩
    split
    · exact wpAny_bind (wpAny_pure (wpAny_pure (by exact fin)))
    · exact wpAny_tryCatch (wpAny_bind (wpAny_pure (wpAny_pure (by exact fin))))
  have one : wpAny (model prog w) A (tryCompare (.ref x) (cmpInfo .NotEq).2.1 b) (fun r s' => ∃ v, r = some v ∧ Q v s') E s := by
    unfold tryCompare
    refine wpAny_bind (wpAny_mono cs (fun r s1 ⟨v, e, q⟩ => ?_) fun _ _ z => z)
    subst e
    exact wpAny_pure ⟨_, rfl, q⟩
  unfold richCompare
  simp only [oneThing_ref]
  refine wpAny_holding (wpAny_bind (wpAny_cRoomFor (by omega) ?_))
  refine wpAny_bind (I.type.here (wpAny_bind (hb.here ?_)))
  have last : wpAny (model prog w) A (tryCompare (.ref x) (cmpInfo .NotEq).2.1 b) (fun r s' => ∃ v, r = some v ∧ Q v s') E s := one
  split
  · rename_i q
    have e : PySem.W.subIn K tb (.ref C) = some false := by
      rcases Bool.or_eq_true_iff.mp hn with e | e
      · rw [beq_iff_eq.mp e] at q; simp at q
      · exact beq_iff_eq.mp e
    refine wpAny_bind ((PySem.W.looks_subIn X e).here ?_)
    simp only [Bool.false_eq_true, if_false]
    refine wpAny_bind (wpAny_mono last (fun r s1 ⟨v, e, hq⟩ => ?_) fun _ _ e => e)
    subst e
    exact wpAny_pure hq
  · refine wpAny_bind (wpAny_pure ?_)
    simp only [Bool.false_eq_true, if_false]
    refine wpAny_bind (wpAny_mono last (fun r s1 ⟨v, e, hq⟩ => ?_) fun _ _ e => e)
    subst e
    exact wpAny_pure hq
end
end Tx

namespace Tx
open PySem PySem.Spec PyProof.Rows L2
section
variable {prog : Program} {w : World} {A : Around} {E : Value → Shared → Prop} {s : Shared} {K : PySem.W.Frag} {x C f : Addr} {ox : Obj} {od : Option Obj} {b tb : Value}
theorem is_type_bool : isType (.type "bool") = pure true := by first | rfl | kernel_rfl | (unfold isType; rw [isSubtype_type]; kernel_rfl)
/-- bool(x), by an own __bool__ -/
theorem bool_own {Q : Value → Shared → Prop} (X : K.In s.heap) (I : PySem.W.InstAt s.heap x ox C od) (at_ : PySem.W.findIn K (.ref C) "__bool__" = some (some (.ref f))) (fn : PySem.W.isFn K (.ref f) = true)
    (h : wpAny (model prog w) A.in1.in1 (call (.ref f) [.ref x]) (fun r s1 => ∃ c, r = Value.bool c ∧ Q r s1) E s) : wpAny (model prog w) A (call (.type "bool") [.ref x]) Q E s := by
  refine callType_codes (Bi := Builtin.«object.__init__») (Q₁ := fun r s1 => ∃ c, r = Value.bool c ∧ Q r s1) F.called_bool (F.typeCall_bool_1 _) F.entry_object_init ?made ?next
  case next =>
    rintro v s1 ⟨c, rfl, q⟩
    exact ⟨rfl, F.args_object_init_2 _ _, object_init_meets F.called_bool.init.lookup F.called_bool.made (by decide) prog w A.in1 _ s1 ⟨rfl, rfl, q⟩⟩
  case made =>
    apply codeAny_of_tree
    show wpAny _ A.in1.in1 (checkBuiltinCall "bool.__new__" ⟨[.type "bool", .ref x], []⟩ >>= fun _ => again (.builtin "bool.__new__" ⟨[.type "bool", .ref x], []⟩)) _ _ s
    refine wpAny_bind (wpAny_of_eq (F.newCall_bool_1 _) (wpAny_pure ⟨plainId_quiet (by decide +kernel) _, codeAny_builtin F.entry_bool_new ?_⟩))
    rw [Around.under_plainId (by decide +kernel) _]
    unfold Builtin.«bool.__new__»
    refine wpAny_bind (wpAny_of_eq is_type_bool ?_)
    refine PySem.W.KFB.if_not rfl (wpAny_bind (wpAny_of_eq F.conv_sub_bool (PySem.W.KFB.if_not rfl ?_)))
    refine wpAny_bind (m := someArgs _ _ _ _) (wpAny_pure ?_)
    unfold truthy
    refine wpAny_bind (wpAny_bind (m := callSpecial? (.ref x) (Str.ofString "__bool__")) (PySem.W.special_fn X I at_ (beq_iff_eq.mp fn) (wpAny_mono h (fun v s1 ⟨c, e, q⟩ => ?_) fun _ _ z => z)))
    subst e
    exact wpAny_pure (wpAny_pure ⟨_, rfl, q⟩)
/-- what the fragment says of a built-in type that stands on the right of an operator -/
structure RightT (K : PySem.W.Frag) (C : Addr) (nm T : String) : Prop where
  op : ∃ o, PySem.W.findIn K (.type T) (PySem.dunder nm) = some o
  rop : ∃ o, PySem.W.findIn K (.type T) (dunderR nm) = some o
  sub : PySem.W.subIn K (.type T) (.ref C) = some false
structure OwnBin (K : PySem.W.Frag) (C : Addr) (nm : String) : Prop where
  first : PySem.W.selfFirst K C = true
  rop : ∃ o, PySem.W.findIn K (.ref C) (dunderR nm) = some o ∧ (o = none ∨ ∃ g : Addr, o = some (.ref g))
theorem bin_own {op : Operator} {T : String} {Q : Value → Shared → Prop} (X : K.In s.heap) (I : PySem.W.InstAt s.heap x ox C od) (ty : PySem.W.Looks (model prog w) s.heap (typeOf b) (.type T)) (O : OwnBin K C op.info.2) (R : RightT K C op.info.2 T)
    (at_ : PySem.W.findIn K (.ref C) (PySem.dunder op.info.2) = some (some (.ref f))) (fn : PySem.W.isFn K (.ref f) = true)
    (h : wpAny (model prog w) A (call (.ref f) [.ref x, b]) (PySem.W.CmpBack Q) E s) : wpAny (model prog w) A (binaryOp op (.ref x) b) Q E s := by
  obtain ⟨cd, rest, h1, h2⟩ := PySem.W.ksp_first O.first
  obtain ⟨⟨o1, r1⟩, ⟨o2, r2⟩, sub⟩ := R
  obtain ⟨o3, r3, r4⟩ := O.rop
  have go := PySem.W.ksp_try X I at_ fn h
  have k1 : PySem.W.Looks (model prog w) s.heap (fillsNumberSlot (.ref C) op.info.2) true := PySem.W.fills_K X h1 h2 at_
  have k2 := PySem.W.ksp_fillsT (M := model prog w) X r1 r2
  have k3 : PySem.W.Looks (model prog w) s.heap (isSubtype (.type T) (.ref C)) false := PySem.W.looks_subIn X sub
  have k4 : PySem.W.Looks (model prog w) s.heap (numberSlotInPython (.ref C) op.info.2) true := PySem.W.ksp_inPy X at_ r3 r4
  have k5 : PySem.W.Looks (model prog w) s.heap (numberSlotInPython (.type T) op.info.2) false := PySem.W.Looks.of_pure rfl
  have k6 : PySem.W.Looks (model prog w) s.heap (typeLookup (.type T) (dunderR op.info.2)) o2 := PySem.W.looks_findIn X r2
  have k7 : PySem.W.Looks (model prog w) s.heap (typeOf (.ref x)) (.ref C) := I.type
  generalize ((o1.isSome && !isSeqSlot o1) || (o2.isSome && !isSeqSlot o2)) = rt at k2
  have no : (Value.ref C == Value.type T) = false := Bool.eq_false_iff.mpr fun z => by cases beq_iff_eq.mp z
  clear h at_ r1 r2 r3 O
  obtain ⟨sy, nm, hi⟩ : ∃ sy nm, op.info = (sy, nm) := ⟨_, _, rfl⟩
  rw [hi] at go k1 k2 k4 k5 k6
  dsimp only at go k1 k2 k4 k5 k6
  obtain ⟨hp, g, d, tt, os⟩ := s
  simp only [binaryOp, hi]
  refine wpAny_holding (wpAny_bind ?_)
  unfold binaryOp1
  refine wpAny_bind (k7.at (wpAny_bind (ty.at (wpAny_bind (k1.at ?_)))))
  simp only [no, Bool.false_eq_true, if_false]
  cases rt <;>
  · ksp_lk
    refine wpAny_mono go (fun r s1 ⟨v, e, q⟩ => ?_) fun _ _ z => z
    subst e
    ksp_lk
    exact q
end
end Tx

namespace Tx
open PySem PySem.Spec PyProof.Rows L2
/-! ## Operators of a class over data -/
abbrev RM2 := PyData → PyData → Wd → DQ → Prop
abbrev RM1 := List PyData → Wd → DQ → Prop
def lift2M (K : PySem.W.Frag) (rd : RM2) : R2 := fun x y H Q => ∃ J ω dx dy q, Rw K J H ω ∧ Rp K J x dx ∧ Rp K J y dy ∧ CovQ K J H ω q Q ∧ rd dx dy ω q
def liftAM (K : PySem.W.Frag) (rd : RM1) : List V → Hp → VK → Prop := fun xs H Q => ∃ J ω ds q, Rw K J H ω ∧ RpAll K J xs ds ∧ CovQ K J H ω q Q ∧ rd ds ω q
def CovW (K : PySem.W.Frag) (J H : Hp) (ω : Wd) (q : Wd → Prop) (Q : Hp → Prop) : Prop := ∀ ω' J' H', q ω' → Grow J H ω J' H' ω' → Rw K J' H' ω' → Q H'
abbrev RMS := PyData → PyData → PyData → Wd → (Wd → Prop) → Prop
def liftSt (K : PySem.W.Frag) (rd : RMS) : TSet := fun o i v H Q => ∃ J ω dO dI dV q, Rw K J H ω ∧ Rp K J o dO ∧ Rp K J i dI ∧ Rp K J v dV ∧ CovW K J H ω q Q ∧ rd dO dI dV ω q
/-- the built-in type of data -/
def tyR (ω : Wd) (d : PyData) : Option String := match rsv ω d with
  | .none => some "NoneType"
  | .bool _ => some "bool"
  | .int _ => some "int"
  | .str _ => some "str"
  | .list _ => some "list"
  | _ => none
/-- an instance of the class at C -/
def InsD (C : Addr) (m : Str) (ω : Wd) (d : PyData) : Prop := ∃ a mo, d = refD a ∧ ω a = some mo ∧ isIns C m mo
/-- self.m(..) by an operator -/
def rmOwn (C : Addr) (m : Str) (ok : Wd → PyData → Prop) (sp : DSp) : RM2 := fun dx dy ω q => InsD C m ω dx ∧ ok ω dy ∧ sp [dx, dy] ω q X0
def RgtOk (K : PySem.W.Frag) (C : Addr) (nm : String) (ω : Wd) (d : PyData) : Prop := (∃ T, tyR ω d = some T ∧ RightT K C nm T) ∨ ∃ m, InsD C m ω d
def rmNe (C : Addr) (sp : DSp) : RM2 := fun dx dy ω q => InsD C "__eq__" ω dx ∧ (∃ m, InsD C m ω dy) ∧ sp [dx, dy] ω (fun r ω1 => ∃ b, r = .bool b ∧ q (.bool (!b)) ω1) X0
def rmEq (C : Addr) (sp : DSp) : RM2 := fun dx dy ω q => InsD C "__eq__" ω dx ∧ (∃ m, InsD C m ω dy) ∧ sp [dx, dy] ω q X0
def rmLen (C : Addr) (sp : DSp) : RM1 := fun ds ω q => ∃ d, ds = [d] ∧ InsD C "__len__" ω d ∧ sp [d] ω (fun r ω1 => ∃ n : Int, r = .int n ∧ 0 ≤ n ∧ n < 2 ^ 63 ∧ q r ω1) X0
def rmBool (C : Addr) (sp : DSp) : RM1 := fun ds ω q => ∃ d, ds = [d] ∧ InsD C "__bool__" ω d ∧ sp [d] ω (fun r ω1 => ∃ b, r = .bool b ∧ q r ω1) X0
def rsOwn (C : Addr) (sp : DSp) : RMS := fun dO dI dV ω q => InsD C "__setitem__" ω dO ∧ sp [dO, dI, dV] ω (fun _ ω1 => q ω1) X0
def rsList : RMS := fun dO dI dV ω q => ∃ (a : Addr) (xs : List PyData) (k : Int) (j : Nat), dO = refD a ∧ dI = .int k ∧ ω a = some (.lst xs) ∧ ixN xs.length k = some j ∧ q (updW ω a (.lst (xs.set j dV)))
section
variable {X : Cx} {K : PySem.W.Frag} {pins : List (Addr × Obj)} {σ : L2.St} {J H : Hp} {ω : Wd} {s : Shared} {a C dx : Addr} {fs : List (Str × V)} {v : V} {u : Value} {d : PyData} {m : Str} {j k : Nat} {ps : List Str} {sp : DSp} {A : Around}
theorem inst_at (I : L2.Inv X pins σ H s) (e : H a = some (.ins C dx fs)) : ∃ od, PySem.W.InstAt s.heap a (PySem.W.instObj C dx) C (some od) := by
  obtain ⟨mA, O, _⟩ := ins_get I.hok e
  obtain ⟨od, J, _⟩ := O.look
  exact ⟨od, J⟩
theorem insD_at (w : Rw K J H ω) (I : L2.Inv X pins σ H s) (r : Rp K J v d) (rv : RelV v u) (i : InsD C m ω d) : ∃ a dx od, v = .ref a ∧ u = .ref a ∧ PySem.W.InstAt s.heap a (PySem.W.instObj C dx) C (some od) := by
  obtain ⟨a, mo, rfl, e, i⟩ := i
  obtain rfl := rp_ref r
  obtain ⟨dx, fs, e2, _⟩ := w.ins e i
  obtain ⟨od, J⟩ := inst_at I e2
  exact ⟨a, dx, od, rfl, rv, J⟩
theorem looks_ty {M : Model} {T : String} (w : Rw K J H ω) (I : L2.Inv X pins σ H s) (r : Rp K J v d) (rv : RelV v u) (t : tyR ω d = some T) : PySem.W.Looks M s.heap (typeOf u) (.type T) := by
  unfold tyR at t
  cases e : rsv ω d with
  | none => rw [e] at t; cases t; rw [(rp_flat r).2.2.2 e] at rv; cases (show u = Value.none from rv); exact PySem.W.Looks.of_pure rfl
  | bool b => rw [e] at t; cases t; rw [(rp_flat r).2.2.1 b e] at rv; cases (show u = Value.bool b from rv); exact PySem.W.Looks.of_pure rfl
  | int i => rw [e] at t; cases t; rw [(rp_flat r).2.1 i e] at rv; obtain ⟨tk, rfl⟩ := (show ∃ t, u = Value.int i t from rv); exact PySem.W.Looks.of_pure rfl
  | str z => rw [e] at t; cases t; rw [(rp_flat r).1 z e] at rv; obtain ⟨tk, rfl⟩ := (show ∃ t, u = Value.str z t from rv); exact PySem.W.Looks.of_pure rfl
  | list xs =>
    rw [e] at t
    cases t
    obtain ⟨a, vs, rfl, ha, _⟩ := rp_list w r e
    cases (show u = Value.ref a from rv)
    obtain ⟨its, n, _, ho, _⟩ := I.lst ha
    exact (PySem.W.Looks.ld ho).andThen .now
  | tuple _ => rw [e] at t; cases t
  | dict _ => rw [e] at t; cases t
/-- the method runs -/
theorem own_run {f : Addr} {fd : FuncData} {us : List Value} {vs : List V} {ts : List PyData} {q : DQ} {Q : VK} (F : FnG X.prog X.w X.K X.mg X.base CX0 j f fd ps (spD K sp)) (hb : L2.Binds X.K fd ps []) (hr : Room j A) (gd : A.guards = some [])
    (e0 : Env0 X.prog X.w X.K X.mg X.base A X.stack s H) (I : L2.Inv X pins σ H s) (rel : Vals vs us) (w : Rw K J H ω) (rs : RpAll K J vs ts) (cq : CovQ K J H ω q Q) (z : sp ts ω q X0) : wpAny (model X.prog X.w) A (call (.ref f) us) (EP X pins σ Q) X.xe s :=
  run_g (E := fun _ _ _ => False) F hr gd hb e0 (fun _ _ _ _ _ _ h => False.elim h) I rel ⟨J, ω, ts, q, X0, w, rs, cq, (fun _ _ _ _ _ _ z => False.elim z), z⟩
theorem dm_bin {op : Operator} (hK : X.K = K) (M : Mfn X.prog X.w X.K X.mg X.base CX0 j C m ps (spD K sp)) (c : Ct X.mg X.A k) (h : j ≤ k) (O : OwnBin K C op.info.2) (hn : PySem.dunder op.info.2 = m := by rfl) : OpR X (binaryOp op) (lift2M K (rmOwn C m (RgtOk K C op.info.2) sp)) := by
  subst hK hn
  obtain ⟨f, fd, F, hm, hb⟩ := M
  intro pins s σ H x y v u Q I rx ry ⟨J, ω, dx, dy, q, w, r1, r2, cq, i1, i2, z⟩
  obtain ⟨a, d1, od, rfl, rfl, J1⟩ := insD_at w I r1 rx i1
  have run := own_run F hb (c.r.mono h) c.g I.env0 I (.cons rx (.cons ry .nil)) w (.cons r1 (.cons r2 .nil)) cq z
  have back : wpAny (model X.prog X.w) X.A (call (.ref f) [.ref a, u]) (PySem.W.CmpBack (EP X pins σ Q)) X.xe s := thn run fun v' s' ⟨z', H', I', rz, qz⟩ => SlX.cmpback rz ⟨z', H', I', rz, qz⟩
  rcases i2 with ⟨T, t, R⟩ | ⟨m, i2⟩
  · exact bin_own I.kIn J1 (looks_ty w I r2 ry t) O R hm.at_ hm.fn back
  · obtain ⟨b, d2, od2, rfl, rfl, J2⟩ := insD_at w I r2 ry i2
    obtain ⟨mm, hF⟩ := I.fr
    exact PySem.W.binop_K hF I.ok.mod.kin J1 J2.type O.first hm.at_ hm.fn back
theorem dm_inp {op : Operator} (hK : X.K = K) (M : Mfn X.prog X.w X.K X.mg X.base CX0 j C m ps (spD K sp)) (c : Ct X.mg X.A k) (h : j ≤ k) (O : PySem.W.selfFirst K C = true) (hn : dunderI op.info.2 = m := by rfl) : PIp X op (lift2M K (rmOwn C m (fun _ _ => True) sp)) := by
  subst hK hn
  obtain ⟨f, fd, F, hm, hb⟩ := M
  intro pins s σ H x y v u Q I rx ry ⟨J, ω, dx, dy, q, w, r1, r2, cq, i1, i2, z⟩
  obtain ⟨a, d1, od, rfl, rfl, J1⟩ := insD_at w I r1 rx i1
  have run := own_run F hb (c.r.mono h) c.g I.env0 I (.cons rx (.cons ry .nil)) w (.cons r1 (.cons r2 .nil)) cq z
  obtain ⟨mm, hF⟩ := I.fr
  exact PySem.W.ksp_inplace hF I.ok.mod.kin J1 O hm.at_ hm.fn (thn run fun v' s' ⟨z', H', I', rz, qz⟩ => SlX.cmpback rz ⟨z', H', I', rz, qz⟩)
theorem first_self : PySem.W.notFirst K C (.ref C) = true := by simp [PySem.W.notFirst]
theorem dm_eq (hK : X.K = K) (M : Mfn X.prog X.w X.K X.mg X.base CX0 j C "__eq__" ps (spD K sp)) (c : Ct X.mg X.A k) (h : j ≤ k) : OpR X (compareOp .Eq) (lift2M K (rmEq C sp)) := by
  subst hK
  obtain ⟨f, fd, F, hm, hb⟩ := M
  intro pins s σ H x y v u Q I rx ry ⟨J, ω, dx, dy, q, w, r1, r2, cq, i1, ⟨m2, i2⟩, z⟩
  obtain ⟨a, d1, od, rfl, rfl, J1⟩ := insD_at w I r1 rx i1
  have run := own_run F hb (c.r.mono h) c.g I.env0 I (.cons rx (.cons ry .nil)) w (.cons r1 (.cons r2 .nil)) cq z
  obtain ⟨b, d2, od2, rfl, rfl, J2⟩ := insD_at w I r2 ry i2
  obtain ⟨mm, hF⟩ := I.fr
  exact PySem.W.cmp_K (op := .Eq) c.r.units0 hF I.ok.mod.kin J1 J2.type first_self hm.at_ hm.fn (thn run fun v' s' ⟨z', H', I', rz, qz⟩ => SlX.cmpback rz ⟨z', H', I', rz, qz⟩)
theorem dm_ne (hK : X.K = K) (M : Mfn X.prog X.w X.K X.mg X.base CX0 j C "__eq__" ps (spD K sp)) (c : Ct X.mg X.A k) (h : j + 1 ≤ k) (ne : PySem.W.findIn K (.ref C) "__ne__" = some (some (.builtin "object.__ne__"))) (oC : PySem.W.subIn K (.ref C) (.type "object") = some true) :
    OpR X (compareOp .NotEq) (lift2M K (rmNe C sp)) := by
  subst hK
  obtain ⟨f, fd, F, hm, hb⟩ := M
  intro pins s σ H x y v u Q I rx ry ⟨J, ω, dx, dy, q, w, r1, r2, cq, i1, ⟨m2, i2⟩, z⟩
  obtain ⟨a, d1, od, rfl, rfl, J1⟩ := insD_at w I r1 rx i1
  have cq2 : CovQ X.K J H ω (fun r ω1 => ∃ b, r = .bool b ∧ q (.bool (!b)) ω1) (fun v' H' => ∃ b, v' = .bl b ∧ Q (.bl (!b)) H') := fun r ω' v' J' H' ⟨b, e, z⟩ g w' rp => by
    subst e
    cases rp
    exact ⟨b, rfl, cq _ _ _ _ _ z g w' (.bl _)⟩
  have run := own_run F hb (c.r.mono h).in1 c.g I.env0.in1 I (.cons rx (.cons ry .nil)) w (.cons r1 (.cons r2 .nil)) cq2 z
  obtain ⟨b, d2, od2, rfl, rfl, J2⟩ := insD_at w I r2 ry i2
  refine ne_own (by have := c.r.units; omega) I.kIn J1 J2.type first_self ne hm.at_ hm.fn oC (thn run fun v' s' ⟨z', H', I', rz, b', e, qz⟩ => ?_)
  subst e
  exact ⟨b', rz, .bl (!b'), H', I', rfl, qz⟩
theorem dc_lenO (hK : X.K = K) (M : Mfn X.prog X.w X.K X.mg X.base CX0 j C "__len__" ps (spD K sp)) (c : Ct X.mg X.A k) (h : j + 1 ≤ k) : CallR X (.builtin "len") (liftAM K (rmLen C sp)) := by
  subst hK
  obtain ⟨f, fd, F, hm, hb⟩ := M
  intro pins s σ H xs us Q I rel ⟨J, ω, ds, q, w, rs, cq, d, e, i1, z⟩
  subst e
  cases rs with
  | cons r1 r2 =>
  cases r2
  obtain ⟨u, rfl, rx⟩ := vals1 rel
  obtain ⟨a, d1, od, rfl, rfl, J1⟩ := insD_at w I r1 rx i1
  have cq2 : CovQ X.K J H ω (fun r ω1 => ∃ n : Int, r = .int n ∧ 0 ≤ n ∧ n < 2 ^ 63 ∧ q r ω1) (fun v' H' => ∃ n : Int, v' = .int n ∧ 0 ≤ n ∧ n < 2 ^ 63 ∧ Q (.int n) H') := fun r ω' v' J' H' ⟨n, e, h0, h1, z⟩ g w' rp => by
    subst e
    cases rp
    exact ⟨n, rfl, h0, h1, cq _ _ _ _ _ z g w' (.int _)⟩
  have run := own_run F hb (c.r.mono h).in1 c.g I.env0.in1 I rel w (.cons r1 .nil) cq2 z
  obtain ⟨mm, hF⟩ := I.fr
  refine PySem.W.len_K hF I.ok.mod.kin J1 hm.at_ hm.fn (thn run fun v' s' ⟨z', H', I', rz, n, e, h0, h1, qz⟩ => ?_)
  subst e
  obtain ⟨tk, rfl⟩ := (show ∃ t, v' = Value.int n t from rz)
  exact ⟨⟨h0, h1⟩, .int n, H', I'.tok _, ⟨_, rfl⟩, qz⟩
theorem dc_boolO (hK : X.K = K) (M : Mfn X.prog X.w X.K X.mg X.base CX0 j C "__bool__" ps (spD K sp)) (c : Ct X.mg X.A k) (h : j + 2 ≤ k) : CallR X (.type "bool") (liftAM K (rmBool C sp)) := by
  subst hK
  obtain ⟨f, fd, F, hm, hb⟩ := M
  intro pins s σ H xs us Q I rel ⟨J, ω, ds, q, w, rs, cq, d, e, i1, z⟩
  subst e
  cases rs with
  | cons r1 r2 =>
  cases r2
  obtain ⟨u, rfl, rx⟩ := vals1 rel
  obtain ⟨a, d1, od, rfl, rfl, J1⟩ := insD_at w I r1 rx i1
  have cq2 : CovQ X.K J H ω (fun r ω1 => ∃ b, r = .bool b ∧ q r ω1) (fun v' H' => ∃ b, v' = .bl b ∧ Q (.bl b) H') := fun r ω' v' J' H' ⟨b, e, z⟩ g w' rp => by
    subst e
    cases rp
    exact ⟨b, rfl, cq _ _ _ _ _ z g w' (.bl _)⟩
  have run := own_run F hb (c.r.mono h).in1.in1 c.g I.env0.in1.in1 I rel w (.cons r1 .nil) cq2 z
  refine bool_own I.kIn J1 hm.at_ hm.fn (thn run fun v' s' ⟨z', H', I', rz, b, e, qz⟩ => ?_)
  subst e
  exact ⟨b, rz, .bl b, H', I', rz, qz⟩
theorem set_own (hK : X.K = K) (M : Mfn X.prog X.w X.K X.mg X.base CX0 j C "__setitem__" ps (spD K sp)) (c : Ct X.mg X.A k) (h : j ≤ k) (nq : PySem.W.noSeq K C = true) : PSet X (liftSt K (rsOwn C sp)) := by
  subst hK
  obtain ⟨f, fd, F, hm, hb⟩ := M
  intro pins s σ H o i v ov iv u Q I ro ri rv ⟨J, ω, dO, dI, dV, q, w, r1, r2, r3, cq, i1, z⟩
  obtain ⟨a, d1, od, rfl, rfl, J1⟩ := insD_at w I r1 ro i1
  have cq2 : CovQ X.K J H ω (fun _ ω1 => q ω1) (fun _ H' => Q H') := fun r ω' v' J' H' z g w' _ => cq _ _ _ z g w'
  have run := own_run F hb (c.r.mono h) c.g I.env0 I (.cons ro (.cons ri (.cons rv .nil))) w (.cons r1 (.cons r2 (.cons r3 .nil))) cq2 z
  obtain ⟨mm, hF⟩ := I.fr
  exact PySem.W.ksp_setItem hF I.ok.mod.kin J1 nq hm.at_ hm.fn (thn run fun v' s' ⟨z', H', I', rz, qz⟩ => ⟨H', I', qz⟩)
theorem set_listO : PSet X (liftSt K rsList) := by
  intro pins s σ H o i v ov iv u Q I ro ri rv ⟨J, ω, dO, dI, dV, q, w, r1, r2, r3, cq, a, xs, k, jj, e1, e2, e3, e4, z⟩
  subst e1 e2
  obtain rfl := rp_ref r1
  cases r2
  obtain ⟨vs, h1, h2⟩ := w.cell a _ e3
  refine set_list pins s σ H _ _ v ov iv u Q I ro ri rv ⟨a, vs, k, jj, rfl, rfl, h1, by rw [h2.length]; exact e4, cq _ _ _ z (Grow.set e3 rfl _) (w.set e3 rfl ⟨_, upd_same, h2.set jj r3⟩)⟩
end
end Tx

namespace Tx
open PySem PySem.Spec PyProof.Rows L2
/-! ## Rules: own operators, own lists that a comprehension makes -/
def dOpM (rd : RM2) (ta tb : DTE) (ρ : DS) (ω : Wd) (q : DQ) (x : DXK) : Prop := ta ρ ω (fun a ω1 => tb ρ ω1 (fun b ω2 => rd a b ω2 q) x) x
def dCBM (rd : RM1) (ta : DTA) (ρ : DS) (ω : Wd) (q : DQ) (x : DXK) : Prop := ta ρ ω (fun as ω1 => rd as ω1 q) x
def dAug (i : Nat) (te : DTE) (rd : RM2) (D : DEnds) (ρ : DS) (ω : Wd) : Prop := match ρ[i]? with
  | some (some d) => te ρ ω (fun r ω1 => rd d r ω1 fun v ω2 => D.nx (ρ.set i (some v)) ω2) (xcOf D ρ)
  | _ => False
def dSetS (to ti te : DTE) (rd : RMS) (D : DEnds) (ρ : DS) (ω : Wd) : Prop := te ρ ω (fun v ω1 => to ρ ω1 (fun o ω2 => ti ρ ω2 (fun i ω3 => rd o i v ω3 fun ω4 => D.nx ρ ω4) (xcOf D ρ)) (xcOf D ρ)) (xcOf D ρ)
/-- isinstance(x, C), C a class of the text -/
inductive TyD (K : PySem.W.Frag) (ω : Wd) : PyData → Value → Prop
  | data {d : PyData} (h : match rsv ω d with
      | .dict _ => False
      | _ => True) : TyD K ω d (.type (tyN (rsv ω d)))
  | ins {C : Addr} {m : Str} {d : PyData} (i : InsD C m ω d) (cl : Cls K C) (ha : PySem.W.findIn K (.ref C) "__class__" = some (some (.builtin "object.__class__")))
      (hn : PySem.W.specialIn K (.builtin "object.__class__") "__get__" = some (some (.builtin "getset_descriptor.__get__"))) (htk : PySem.W.takesIn K (.builtin "object.__class__") = some true)
      (hm : PySem.W.mroIn K C (.type "object") = some true) : TyD K ω d (.ref C)
def dIsC (K : PySem.W.Frag) (C : Addr) (te : DTE) (ρ : DS) (ω : Wd) (q : DQ) (x : DXK) : Prop := te ρ ω (fun r ω1 => ∃ t b, TyD K ω1 r t ∧ PySem.W.kitOne K t (.ref C) = some b ∧ q (.bool b) ω1) x
/-- a list that becomes data -/
def dFrzE (te : DTE) (ρ : DS) (ω : Wd) (q : DQ) (x : DXK) : Prop := te ρ ω (fun v ω1 => ∃ a ds, v = refD a ∧ ω1 a = some (.lst ds) ∧ q (.list ds) (delW ω1 a)) x
/-- a + b, both lists, a list of one's own -/
def rmCat : RM2 := fun a b ω q => ∃ xs ys, rsv ω a = .list xs ∧ rsv ω b = .list ys ∧ xs.length + ys.length ≤ sizeLine ∧ ∀ p, ω p = none → q (refD p) (updW ω p (.lst (xs ++ ys)))
theorem dm_cat {X : Cx} {K : PySem.W.Frag} (hK : X.K = K) : OpR X (binaryOp .Add) (lift2M K rmCat) := by
  subst hK
  intro pins s σ H x y v u Q I rx ry ⟨J, ω, dx, dy, q, w, hx, hy, c, xs, ys, ex, ey, l, z⟩
  obtain ⟨a, vs, rfl, ha, ra⟩ := rp_list w hx ex
  obtain ⟨b, ws, rfl, hb, rb⟩ := rp_list w hy ey
  exact op_cat pins s σ H _ _ v u Q I rx ry ⟨a, b, vs, ws, rfl, rfl, ha, hb, by rw [ra.length, rb.length]; exact l, fun p hp => c _ _ _ _ _ (z p (w.free hp).1) (Grow.own rfl hp _) (w.own rfl hp ⟨_, upd_same, ra.append rb⟩) (.ref p)⟩
section
variable {W : WX} {X : Cx} {K : PySem.W.Frag} {a b e o i t : Expr} {es : List Expr} {ta tb te to ti : DTE} {tA : DTA} {pos p pos' : Pos}
theorem dOpM_run {ra rb : TE} {rd : RM2} {σ : L2.St} {H J : Hp} {ω : Wd} {ρ : DS} {q : DQ} {x : DXK} {Q : VK}
    (ka : ∀ σ H J ω ρ q x Q, Rw K J H ω → Sl K J σ ρ → CovQ K J H ω q Q → CovX K J H ω x (fun c d H => W c d σ H) → ta ρ ω q x → ra σ H Q) (kb : ∀ σ H J ω ρ q x Q, Rw K J H ω → Sl K J σ ρ → CovQ K J H ω q Q → CovX K J H ω x (fun c d H => W c d σ H) → tb ρ ω q x → rb σ H Q)
    (w : Rw K J H ω) (s : Sl K J σ ρ) (cq : CovQ K J H ω q Q) (cx : CovX K J H ω x (fun c d H => W c d σ H)) (z : dOpM rd ta tb ρ ω q x) : tOp (lift2M K rd) ra rb σ H Q :=
  ka σ H J ω ρ _ x _ w s (fun r1 ω1 v1 J1 H1 z1 g1 w1 rp1 => kb σ H1 J1 ω1 ρ _ x _ w1 (s.mono g1.jj) (fun r2 ω2 v2 J2 H2 z2 g2 w2 rp2 => ⟨J2, ω2, r1, r2, q, w2, rp_mono g2.jj _ _ rp1, rp2, (cq.step g1).step g2, z2⟩) (cx.step g1) z1) cx z
theorem de_opM {op : Operator} {rd : RM2} (ho : OpR X (binaryOp op) (lift2M K rd)) (ha : DE W X K a ta) (hb : DE W X K b tb) : DE W X K (.BinOp a op b pos) (dOpM rd ta tb) := by
  obtain ⟨ra, pa, ka⟩ := ha
  obtain ⟨rb, pb, kb⟩ := hb
  exact ⟨_, pe_op ho pa pb, fun σ H J ω ρ q x Q w s cq cx z => dOpM_run ka kb w s cq cx z⟩
theorem de_cmpM {op : CmpOp} {rd : RM2} (ho : OpR X (compareOp op) (lift2M K rd)) (ha : DE W X K a ta) (hb : DE W X K b tb) (hm : behindInMarks op b = false) : DE W X K (.Compare a [op] [b] pos) (dOpM rd ta tb) := by
  obtain ⟨ra, pa, ka⟩ := ha
  obtain ⟨rb, pb, kb⟩ := hb
  exact ⟨_, pe_cmpR ho pa pb hm, fun σ H J ω ρ q x Q w s cq cx z => dOpM_run ka kb w s cq cx z⟩
theorem dt_cmpM {op : CmpOp} {rd : RM2} (ho : OpR X (compareOp op) (lift2M K rd)) (ha : DE W X K a ta) (hb : DE W X K b tb) (hm : behindInMarks op b = false) : DT W X K (.Compare a [op] [b] pos) (dTest (dOpM rd ta tb)) := by
  obtain ⟨ra, pa, ka⟩ := ha
  obtain ⟨rb, pb, kb⟩ := hb
  exact ⟨_, pt_cmpR ho pa pb hm, fun σ H J ω ρ q x Q w s cq cx z => dOpM_run ka kb w s (covT_test cq) cx z⟩
theorem de_callBM {x : Str} {id : String} {rd : RM1} (hc : CallR X (.builtin id) (liftAM K rd)) (hg : Gl X x) (hm : X.mg x = none) (hv : bootBuiltins x = some (.builtin id)) (ha : DAs W X K (e :: es) tA) (hn : x ≠ "__name__" := by decide) (hdb : (x == ("__debug__" : Str)) = false := by decide)
    (he : starEach (e :: es) X.env = (false, eval e X.env) :: starEach es X.env := by rfl) (hpl : (backTo pos (starEach es X.env)).any (·.1) = false := by rfl) : DE W X K (.Call (.Name x p) (e :: es) [] pos) (dCBM rd tA) := by
  obtain ⟨ra, pa, ka⟩ := ha
  exact ⟨_, pe_callB hc hg hm hv pa hn hdb he hpl, fun σ H J ω ρ q x Q w s cq cx z => ka σ H J ω ρ _ x _ w s (fun rs ω1 vs J1 H1 z1 g1 w1 rps => ⟨J1, ω1, rs, q, w1, rps, cq.step g1, z1⟩) cx z⟩
theorem de_callTyM {x : Str} {T : String} {rd : RM1} (hc : CallR X (.type T) (liftAM K rd)) (hg : Gl X x) (hm : X.mg x = none) (hv : bootBuiltins x = some (.type T)) (ha : DAs W X K (e :: es) tA) (hn : x ≠ "__name__" := by decide) (hdb : (x == ("__debug__" : Str)) = false := by decide)
    (he : starEach (e :: es) X.env = (false, eval e X.env) :: starEach es X.env := by rfl) (hpl : (backTo pos (starEach es X.env)).any (·.1) = false := by rfl) : DE W X K (.Call (.Name x p) (e :: es) [] pos) (dCBM rd tA) := by
  obtain ⟨ra, pa, ka⟩ := ha
  exact ⟨_, pe_callTy hc hg hm hv pa hn hdb he hpl, fun σ H J ω ρ q x Q w s cq cx z => ka σ H J ω ρ _ x _ w s (fun rs ω1 vs J1 H1 z1 g1 w1 rps => ⟨J1, ω1, rs, q, w1, rps, cq.step g1, z1⟩) cx z⟩
theorem ds_aug {n : Nat} {x : Str} {op : Operator} {rd : RM2} (hN : X.N.Nodup) (hi : X.N[n]? = some x) (hx : Loc X.env.scope x) (he : DE W X K e te) (ho : PIp X op (lift2M K rd)) (hf : X.fn x = true ∨ X.env.scope.names.lookup x = some .local := by first | exact .inl rfl | exact .inr rfl | assumption) :
    DSt W X K (.AugAssign (.Name x pos') op e pos) (dAug n te rd) := by
  obtain ⟨r, pe, k⟩ := he
  refine ⟨_, ps_aug hN hi hx pe ho hf, fun D DD σ H J ω ρ w s cs z => ?_⟩
  obtain ⟨v, d, h1, h2, z⟩ := s.var (q := fun d => te ρ ω (fun r ω1 => rd d r ω1 fun v ω2 => DD.nx (ρ.set n (some v)) ω2) (xcOf DD ρ)) z
  refine ⟨v, h1, k σ H J ω ρ _ _ _ w s (fun r ω1 v1 J1 H1 z1 g1 w1 rp => ?_) (cs.x s) z⟩
  refine ⟨J1, ω1, d, r, _, w1, rp_mono g1.jj _ _ h2, rp, fun r2 ω2 v2 J2 H2 z2 g2 w2 rp2 => ?_, z1⟩
  exact cs.nx _ _ _ _ _ z2 (g1.trans g2) w2 ((s.mono (g1.trans g2).jj).set n rp2)
theorem ds_setS {rd : RMS} {pos2 : Pos} (ho : DE W X K o to) (hi : DE W X K i ti) (he : DE W X K e te) (hset : PSet X (liftSt K rd))
    (ha : ∀ v, assign (.Subscript o i pos2) X.env v = (do
      let ov ← holding [v] (eval o X.env)
      let iv ← holding [v, ov] (eval i X.env)
      standAt pos2
      holding [v, ov, iv] (setItem ov iv v)
      release [v, ov, iv] []) := by intro _; rfl)
    (hs : swapsWithSole [.Subscript o i pos2] e pos.line X.env = pure false := by rfl) (hw : swappedStores [.Subscript o i pos2] e X.env = pure none := by rfl) (h1 : (assignEach [.Subscript o i pos2] X.env).map (·.2) = [assign (.Subscript o i pos2) X.env] := by rfl) :
    DSt W X K (.Assign [.Subscript o i pos2] e pos) (dSetS to ti te rd) := by
  obtain ⟨ro, po, ko⟩ := ho
  obtain ⟨ri, pi, ki⟩ := hi
  obtain ⟨re, pe, ke⟩ := he
  refine ⟨_, ps_asg pe (pg_sub po pi hset ha) hs hw h1, fun D DD σ H J ω ρ w s cs z => ke σ H J ω ρ _ _ _ w s (fun r ω1 v J1 H1 z1 g1 w1 rp => ?_) (cs.x s) z⟩
  refine ko σ H1 J1 ω1 ρ _ _ _ w1 (s.mono g1.jj) (fun r2 ω2 v2 J2 H2 z2 g2 w2 rp2 => ?_) ((cs.x s).step g1) z1
  refine ki σ H2 J2 ω2 ρ _ _ _ w2 (s.mono (g1.trans g2).jj) (fun r3 ω3 v3 J3 H3 z3 g3 w3 rp3 => ?_) ((cs.x s).step (g1.trans g2)) z2
  refine ⟨J3, ω3, r2, r3, r, _, w3, rp_mono g3.jj _ _ rp2, rp3, rp_mono (g2.trans g3).jj _ _ rp, fun ω4 J4 H4 z4 g4 w4 => ?_, z3⟩
  exact cs.nx _ _ _ _ _ z4 (((g1.trans g2).trans g3).trans g4) w4 (s.mono (((g1.trans g2).trans g3).trans g4).jj)
theorem tyD_x {J H : Hp} {ω : Wd} {v : V} {d : PyData} {t : Value} (w : Rw K J H ω) (r : Rp K J v d) (h : TyD K ω d t) : TyX K H v t := by
  cases h with
  | data h => exact tyx_rp w r h
  | ins i cl ha hn htk hm =>
    obtain ⟨a, mo, rfl, e, i⟩ := i
    obtain rfl := rp_ref r
    obtain ⟨dx, fs, e2, _⟩ := w.ins e i
    exact .base (.ins e2 cl ha hn htk hm)
theorem de_isC {C : Addr} (hK : X.K = K) (hg : Gl X "isinstance") (hm : X.mg "isinstance" = none) (ha : DE W X K a ta) (ht : PE X t (tC (.ref C)))
    (he : starEach (a :: [t]) X.env = (false, eval a X.env) :: starEach [t] X.env := by rfl) (he2 : starEach [t] X.env = (false, eval t X.env) :: starEach [] X.env := by rfl) (hpl : (backTo pos (starEach [t] X.env)).any (·.1) = false := by rfl) :
    DE W X K (.Call (.Name "isinstance" p) [a, t] [] pos) (dIsC K C ta) := by
  subst hK
  obtain ⟨ra, pa, ka⟩ := ha
  refine ⟨_, pe_callB call_isi hg hm (by decide +kernel) (pa_cons pa (pa_cons ht pa_nil he2) he) (by decide) (by decide) he hpl, fun σ H J ω ρ q x Q w s cq cx z => ka σ H J ω ρ _ x _ w s (fun r ω1 v J1 H1 z1 g1 w1 rp => ?_) cx z⟩
  obtain ⟨t', b', ty, kt, z1⟩ := z1
  exact ⟨v, .ref C, t', .ref C, b', rfl, .own C, tyD_x w1 rp ty, kt, (cq.step g1).now w1 z1 (.bl _)⟩
theorem de_frzE (h : DE W X K e te) : DE W X K e (dFrzE te) := by
  obtain ⟨r, p, k⟩ := h
  refine ⟨r, p, fun σ H J ω ρ q x Q w s cq cx z => k σ H J ω ρ _ x Q w s (fun v ω1 u J1 H1 z1 g1 w1 rp => ?_) cx z⟩
  obtain ⟨a, ds, rfl, e1, z1⟩ := z1
  obtain rfl := rp_ref rp
  obtain ⟨vs, h3, h4⟩ := w1.cell a _ e1
  exact cq _ _ _ _ _ z1 (g1.trans (Grow.fix w1 e1 h3)) (w1.fix e1 h3) (.lst upd_same (rpAll_mono (same_new (w1.out _ _ e1) _) _ _ h4))
end
end Tx

namespace Tx
open PySem PySem.Spec PyProof.Rows L2
/-! ## Comprehensions that make a list of one's own; walks over one -/
def WalkP (K : PySem.W.Frag) (J : Hp) (I : It) (xs : List PyData) (P : Wd → Prop) : Prop := ∃ G Y, Walk I xs.length G Y ∧ (∀ J' H' ω', Same J J' → Rw K J' H' ω' → P ω' → G H') ∧
  ∀ i H v H' J' ω', i < xs.length → Same J J' → Rw K J' H ω' → P ω' → Y i H v H' → (H' = H ∧ ∃ d, xs[i]? = some d ∧ Rp K J' v d) ∨ ∃ T us ds, v = .ref T ∧ H T = none ∧ H' = upd H T (.tup us) ∧ RpAll K J' us ds ∧ xs[i]? = some (.tuple ds)
abbrev DTIo := DS → Wd → (List PyData → (Wd → Prop) → Wd → Prop) → DXK → Prop
structure DIo (W : WX) (X : Cx) (K : PySem.W.Frag) (tg iter : Expr) (di : DTIo) : Prop where
  ex : ∃ wi : TI, PI X tg iter wi ∧ ∀ σ H J ω ρ (k : List PyData → (Wd → Prop) → Wd → Prop) x (R : It → Hp → Prop), Rw K J H ω → Sl K J σ ρ → (∀ xs P ω1 J1 H1 I, k xs P ω1 → Grow J H ω J1 H1 ω1 → Rw K J1 H1 ω1 → WalkP K J1 I xs P → R I H1) →
    CovX K J H ω x (fun c d H => W c d σ H) → di ρ ω k x → wi σ H R
def dioD (di : DTI) (ρ : DS) (ω : Wd) (k : List PyData → (Wd → Prop) → Wd → Prop) (x : DXK) : Prop := di ρ ω (fun xs ω1 => k xs (fun _ => True) ω1) x
def dioO (te : DTE) (ρ : DS) (ω : Wd) (k : List PyData → (Wd → Prop) → Wd → Prop) (x : DXK) : Prop := te ρ ω (fun r ω1 => ∃ a xs, r = refD a ∧ ω1 a = some (.lst xs) ∧ k xs (fun ω' => ω' a = some (.lst xs)) ω1) x
section
variable {K : PySem.W.Frag} {J : Hp} {I : It} {xs : List PyData} {P : Wd → Prop}
theorem WalkD.p (h : WalkD K J I xs) : WalkP K J I xs P := by
  obtain ⟨G, Y, w, g, y⟩ := h
  refine ⟨G, Y, w, fun J' H' ω' s r _ => g J' H' s r.jh, fun i H v H' J' ω' hi s r _ z => ?_⟩
  rcases y i H v H' hi z with ⟨e, d, e1, e2⟩ | ⟨T, us, ds, e1, e2, e3, e4, e5⟩
  · exact .inl ⟨e, d, e1, rp_mono s _ _ e2⟩
  · exact .inr ⟨T, us, ds, e1, e2, e3, rpAll_mono s _ _ e4, e5⟩
theorem walk_own {a : Addr} {n : Nat} : Walk (Itl K a) n (fun H => ∃ vs, H a = some (.lst vs) ∧ vs.length = n) (fun i H v H' => H' = H ∧ ∀ vs, H a = some (.lst vs) → vs[i]? = some v) := by
  refine ⟨fun i H hi ⟨vs, e, l⟩ => ?_, fun H ⟨vs, e, l⟩ => ⟨vs, SqL.of e, by omega⟩, fun i H x H' hi _ y => ⟨y.1, fun vs e => y.2 vs (SqL.of e)⟩⟩
  have : i < vs.length := by omega
  exact ⟨vs, vs[i], SqL.of e, List.getElem?_eq_getElem this⟩
theorem walkP_own {a : Addr} : WalkP K J (Itl K a) xs (fun ω => ω a = some (.lst xs)) := by
  refine ⟨_, _, walk_own, fun J' H' ω' _ r p => ?_, fun i H v H' J' ω' hi _ r p y => .inl ⟨y.1, ?_⟩⟩
  · obtain ⟨vs, e, ra⟩ := r.cell a _ p
    exact ⟨vs, e, ra.length⟩
  · obtain ⟨vs, e, ra⟩ := r.cell a _ p
    exact ra.get (y.2 vs e)
end
section
variable {W : WX} {X : Cx} {K : PySem.W.Frag} {tg e : Expr} {te : DTE} {di : DTI}
theorem dio_d (h : DI W X K tg e di) : DIo W X K tg e (dioD di) := by
  obtain ⟨wi, p, k⟩ := h
  exact ⟨wi, p, fun σ H J ω ρ kk x R w s c cx z => k σ H J ω ρ _ x R w s (fun xs ω1 J1 H1 I z1 g1 w1 wd => c _ _ _ _ _ _ z1 g1 w1 wd.p) cx z⟩
theorem dio_o (hK : X.K = K) (h : DE W X K e te) : DIo W X K tg e (dioO te) := by
  subst hK
  obtain ⟨t, p, k⟩ := h
  refine ⟨_, pi_data p, fun σ H J ω ρ kk x R w s c cx z => k σ H J ω ρ _ x _ w s (fun r ω1 v J1 H1 z1 g1 w1 rp => ?_) cx z⟩
  obtain ⟨a, xs, rfl, e1, z1⟩ := z1
  obtain rfl := rp_ref rp
  obtain ⟨vs, e2, _⟩ := w1.cell a _ e1
  exact .inl ⟨a, rfl, ⟨vs, SqL.of e2⟩, c _ _ _ _ _ _ z1 g1 w1 walkP_own⟩
end
def lcBody (gd : DTG) (tt : DTT) (te : DTE) (vs : List Nat) (ρ : DS) (q : DQ) (xs : List PyData) (P : Wd → Prop) (ω1 : Wd) : Prop := xs.length ≤ sizeLine ∧ ∃ Inv : Nat → List PyData → Wd → Prop, Inv 0 [] ω1 ∧ (∀ i acc ω2, Inv i acc ω2 → P ω2) ∧
  (∀ i y acc ω2, xs[i]? = some y → Inv i acc ω2 → acc.length ≤ i → gd y (wipeD ρ vs) fun ρ' => tt ρ' ω2 (fun b ω3 => if b = true then te ρ' ω3 (fun r ω4 => Inv (i + 1) (acc ++ [r]) ω4) X0 else Inv (i + 1) acc ω3) X0) ∧
  ∀ acc ω2, acc.length ≤ xs.length → Inv xs.length acc ω2 → ∀ p, ω2 p = none → q (refD p) (updW ω2 p (.lst acc))
def dLcO (di : DTIo) (gd : DTG) (tt : DTT) (te : DTE) (vs : List Nat) (ρ : DS) (ω : Wd) (q : DQ) (x : DXK) : Prop := di ρ ω (lcBody gd tt te vs ρ q) x
section
variable {K : PySem.W.Frag} {J J1 H H1 : Hp} {ω ω1 : Wd} {D : Addr} {us : List V} {acc : List PyData}
theorem Rw.own2 (w : Rw K J H ω) (hj : J D = none) (hw : Fr ω D) (h : H D = some (.lst us)) (r : RpAll K J us acc) : Rw K J H (updW ω D (.lst acc)) := by
  refine w.step (Same.refl _) w.jh (fun _ _ j => j) fun b m e => ?_
  by_cases z : b = D
  · subst z
    rw [updW_same] at e
    cases e
    refine .inr ⟨hj, ⟨us, h, r⟩, fun _ z => False.elim z, fun c m' nc ec => ⟨?_, fun _ z => False.elim z⟩⟩
    rw [updW_ne nc] at ec
    exact hw.2 c m' ec
  · rw [updW_ne z] at e
    exact .inl ⟨e, fun _ _ _ y => y⟩
theorem Grow.own2 (g : Grow J H ω J1 H1 ω1) (hD : H D = none) : Grow J H ω J1 H1 (updW ω1 D (.lst acc)) :=
  ⟨g.jj, g.dom, g.keep, g.frj, fun a h z => fr_upd rfl (g.frw a h z) (ne_new h hD)⟩
end
section
variable {W : WX} {X : Cx} {K : PySem.W.Frag} {elt tg iter : Expr} {ifs : List Expr} {scope : Scope} {own : List (Str × Nat)} {pos : Pos} {is : List Nat} {di : DTIo} {gd : DTG} {tt : DTT} {te : DTE}
theorem lcO_run {wi : TI} (hi : ∀ σ H J ω ρ (k : List PyData → (Wd → Prop) → Wd → Prop) x (R : It → Hp → Prop), Rw K J H ω → Sl K J σ ρ → (∀ xs P ω1 J1 H1 I, k xs P ω1 → Grow J H ω J1 H1 ω1 → Rw K J1 H1 ω1 → WalkP K J1 I xs P → R I H1) →
    CovX K J H ω x (fun c d H => W c d σ H) → di ρ ω k x → wi σ H R) {vs : List Nat} (his : ∀ i ∈ is, i ∈ vs)
    {σ : L2.St} {H J : Hp} {ω : Wd} {ρ : DS} {q : DQ} {x : DXK} {Q : VK} (w : Rw K J H ω) (s : Sl K J σ ρ) (cq : CovQ K J H ω q Q) (cx : CovX K J H ω x (fun c d H => W c d σ H)) (z : dLcO di gd tt te vs ρ ω q x) :
    tLc wi (liftG K is gd) (liftT K W0 tt) (liftE K W0 te) vs σ H Q := by
  refine hi σ H J ω ρ _ x _ w s (fun xs P ω1 J1 H1 I z1 g1 w1 wd => ?_) cx z
  intro D hD
  obtain ⟨hz, Inv, i0, iP, step, fin⟩ := z1
  obtain ⟨G, Y, wk, hG, hY⟩ := wd
  have hjD : J1 D = none := w1.jh.free hD
  have s1 := s.mono g1.jj
  refine lc_it wk (fun i H' => ∃ J' ω' acc us, Grow J1 H1 ω1 J' H' ω' ∧ Rw K J' H' ω' ∧ H' D = some (.lst us) ∧ J' D = none ∧ Fr ω' D ∧ RpAll K J' us acc ∧ acc.length ≤ i ∧ Inv i acc ω') ?_ ?_ ?_ ?_
  · exact ⟨J1, ω1, [], [], Grow.junk hD _, w1.junk hD _, upd_same, hjD, w1.free hD, .nil, Nat.le_refl _, i0⟩
  · rintro i H' _ ⟨J', ω', acc, us, g, w', _, _, _, _, _, iv⟩
    exact hG J' H' ω' g.jj w' (iP _ _ _ iv)
  · rintro i v H2 H2' hi ⟨J2, ω2, acc, us, g2, w2, hD2, jD2, oD2, ra, al, inv⟩ y
    have go : ∀ (d : PyData) (J3 H3 : Hp), xs[i]? = some d → Grow J2 H2 ω2 J3 H3 ω2 → Rw K J3 H3 ω2 → Rp K J3 v d → liftG K is gd v (wipe σ vs) H3 fun σ2 H2 => wipe σ2 vs = wipe σ vs ∧ liftT K W0 tt σ2 H2 fun b H3 =>
        if b = true then liftE K W0 te σ2 H3 fun y H4 => ∃ acc, H4 D = some (.lst acc) ∧ acc.length < sizeLine ∧ (∃ J' ω' acc' us, Grow J1 H1 ω1 J' (upd H4 D (.lst (acc ++ [y]))) ω' ∧ Rw K J' (upd H4 D (.lst (acc ++ [y]))) ω' ∧ upd H4 D (.lst (acc ++ [y])) D = some (.lst us) ∧ J' D = none ∧ Fr ω' D ∧ RpAll K J' us acc' ∧ acc'.length ≤ i + 1 ∧ Inv (i + 1) acc' ω')
        else ∃ J' ω' acc us, Grow J1 H1 ω1 J' H3 ω' ∧ Rw K J' H3 ω' ∧ H3 D = some (.lst us) ∧ J' D = none ∧ Fr ω' D ∧ RpAll K J' us acc ∧ acc.length ≤ i + 1 ∧ Inv (i + 1) acc ω' := by
      intro d J3 H3 e3 g3 w3 r3
      have hD3 := g3.keep D _ hD2 oD2
      have nD2 : H2 D ≠ none := by rw [hD2]; simp
      have jD3 := g3.frj D nD2 oD2 jD2
      refine ⟨J3, ω2, wipeD ρ vs, d, _, w3, (s1.mono (g2.jj.trans g3.jj)).wipe vs, r3, fun ρ' σ' z4 s4 ew => ⟨(ew vs his).trans (wipe_wipe σ vs), ?_⟩, step i d acc ω2 e3 inv al⟩
      refine ⟨J3, ω2, ρ', _, X0, w3, s4, fun b ω5 J5 H5 z5 g5 w5 => ?_, (fun _ _ _ _ _ _ z => False.elim z), z4⟩
      have nD3 : H3 D ≠ none := by rw [hD3]; simp
      have hD5 := g5.keep D _ hD3 oD2
      have jD5 := g5.frj D nD3 oD2 jD3
      have oD5 := g5.frw D nD3 oD2
      have nD5 : H5 D ≠ none := by rw [hD5]; simp
      cases b with
      | false =>
        refine iteF ⟨J5, ω5, acc, us, (g2.trans g3).trans g5, w5, hD5, jD5, oD5, rpAll_mono (g3.jj.trans g5.jj) _ _ ra, by omega, by simpa using z5⟩
      | true =>
        refine iteT ⟨J5, ω5, ρ', _, X0, w5, s4.mono g5.jj, fun r ω6 y J6 H6 z6 g6 w6 r6 => ?_, (fun _ _ _ _ _ _ z => False.elim z), by simpa using z5⟩
        have hD6 := g6.keep D _ hD5 oD5
        have jD6 := g6.frj D nD5 oD5 jD5
        have oD6 := g6.frw D nD5 oD5
        have ul := ra.length
        refine ⟨us, hD6, by omega, J6, ω6, acc ++ [r], us ++ [y], (((g2.trans g3).trans g5).trans g6).loc hD _, w6.loc jD6 oD6 _, upd_same, jD6, oD6, RpAll.append (rpAll_mono ((g3.jj.trans g5.jj).trans g6.jj) _ _ ra) (.one r6), by rw [List.length_append]; simp; omega, z6⟩
    rcases hY i H2 v H2' J2 ω2 hi g2.jj w2 (iP _ _ _ inv) y with ⟨rfl, d, e1, e2⟩ | ⟨T, us2, ds, rfl, hT, rfl, e1, e2⟩
    · exact go d J2 _ e1 Grow.refl w2 e2
    · exact go (.tuple ds) _ _ e2 (Grow.frz w2 hT _) (w2.frz hT _) (.tup (SqT.of upd_same) (rpAll_mono (same_new (w2.jh.free hT) _) _ _ e1))
  · rintro H2 ⟨J2, ω2, acc, us, g2, w2, hD2, jD2, oD2, ra, al, inv⟩
    exact (cq.step g1) _ _ _ _ _ (fin acc ω2 al inv D oD2.1) (g2.own2 hD) (w2.own2 jD2 oD2 hD2 ra) (.ref D)
theorem de_lcO (hc : X.calm = true) (hN : X.N.Nodup) (hi : DIo W X K tg iter di) (ok : BlkOk X.N X.env.scope scope own)
    (hg : ∀ (s : Shared) (H : Hp) (C : Addr) (cl : List (Str × Addr)) (fp : List Addr), DG (X.blk s H scope (compEnvC scope cl C X.env) fp) K tg is gd)
    (ht : ∀ (s : Shared) (H : Hp) (C : Addr) (cl : List (Str × Addr)) (fp : List Addr), DTs W0 (X.blk s H scope (compEnvC scope cl C X.env) fp) K ifs tt)
    (he : ∀ (s : Shared) (H : Hp) (C : Addr) (cl : List (Str × Addr)) (fp : List Addr), DE W0 (X.blk s H scope (compEnvC scope cl C X.env) fp) K elt te)
    (his : ∀ i ∈ is, i ∈ own.map (·.2) := by decide) (hs : ∀ x, foldedSetIterable iter X.env x = pure x := by intro _; rfl) :
    DE W X K (.ListComp elt [⟨tg, iter, ifs, 0⟩] scope pos) (dLcO di gd tt te (own.map (·.2))) := by
  obtain ⟨wi, p, k⟩ := hi
  exact ⟨_, pe_lc hc hN p ok hg (fun s H C cl fp => (ht s H C cl fp).ps) (fun s H C cl fp => (he s H C cl fp).pe) hs, fun σ H J ω ρ q x Q w s cq cx z => lcO_run k his w s cq cx z⟩
end
end Tx

namespace Tx
open PySem PySem.Spec PyProof.Rows L2
/-! ## A range of far bounds that has nothing; operators from the right -/
theorem turn_none {P : Program} {w : World} {K : PySem.W.Frag} {tg : Expr} (it : Addr) : Turn P w K tg (Itr 0 0) [it] it (fun _ h => ∃ x l st, IsLongIter h it x l st ∧ l ≤ 0) where
  mem := List.mem_singleton.mpr rfl
  obj := fun i h ⟨x, l, st, e, _⟩ b hb => by
    rw [List.mem_singleton.mp hb]
    exact ⟨_, e, fun v z => by
      have z2 : Data.fields _ = Data.cell v := z
      cases z2⟩
  keep := fun i h h' ⟨x, l, st, e, le⟩ k => ⟨x, l, st, k it (List.mem_singleton.mpr rfl) _ e, le⟩
  item := fun X _ _ _ _ i pins s σ H E _ _ _ go => absurd (show i < 0 from go) (Nat.not_lt_zero i)
  done := by
    intro X hP hw hK hc i pins s σ H E I hf ⟨x, l, st, e, le⟩ _
    subst hP hw hK
    obtain ⟨f0, f1, f2, f3, f4, f5⟩ := hf it (List.mem_singleton.mpr rfl)
    exact wpAny_pyNext_long_end (I.ok.hd hc) e le fun h' eb => ⟨rfl, I.turned (t' := s.toks) (fun b o hb e => eb b o hb e) f0 f1 f3 f4 f5⟩
  self := fun _ _ _ _ _ ⟨x, l, st, e, _⟩ h => wpAny_pyIter_longiter e h
def farLow (n : Int) : Prop := Builtin.Range.small 0 n 1 = false ∧ Builtin.Range.rangeSize 0 n 1 ≤ 0
def iRngW (ta : TA) : TI := fun σ H R => ta σ H fun vs H1 => ∃ j : Int, vs = [.int j] ∧ ((-(2 ^ 62) ≤ j ∧ j < 2 ^ 62) ∨ farLow j) ∧ R (Itr 0 j.toNat) H1
section
variable {X : Cx} {tg : Expr}
theorem pi_rangeW {a : Expr} {ta : TA} {p pos : Pos} (hg : Gl X "range") (hm : X.mg "range" = none) (ha : PA X [a] ta) (low : ∀ n, farLow n → n ≤ 0) (hs : starEach [a] X.env = [(false, eval a X.env)] := by rfl) : PI X tg (.Call (.Name "range" p) [a] [] pos) (iRngW ta) := by
  constructor
  intro pins s σ H R I h
  refine Call_ (ld_blt I hg hm boot_range (PyProof.Rows.callWith_type1 (thn (ha.run pos pins s σ H _ I h) fun us s1 ⟨vs, H1, I1, r1, j, e, d, q⟩ => ?_) hs rfl))
  subst e
  obtain ⟨u, rfl, t, rfl⟩ := vals1 r1
  refine call_range_1 ?_
  rcases d with ⟨q1, q2⟩ | fl
  · exact range_it I1 (by omega) (by omega) q1 q2 (by simpa using q)
  · have jl := low j fl
    refine wpAny_pyIter_longrange (IsRange.new ..) fl.1 ?_
    have I2 : L2.Inv X pins σ H1 { s1 with heap := s1.heap.push { cls := .type "range", data := .fields #[.int 0 s1.toks, .int j t, .int 1 (s1.toks + 1)] }, toks := s1.toks + 1 + 1 } := I1.kept fun b o e => Heap.get?_push_of_some _ e
    refine pi_one (tk := s1.toks + 1 + 1) I2 _ (turn_none _) ⟨_, _, _, Heap.get?_push_size _ rfl, fl.2⟩ ?_
    rw [show j.toNat = 0 by omega] at q
    exact q
end
section
variable {prog : Program} {w : World} {A : Around} {E : Value → Shared → Prop} {s : Shared} {K : PySem.W.Frag} {x C f : Addr} {ox : Obj} {od : Option Obj} {a : Value}
/-- a built-in type on the left that has no such operator of numbers -/
structure LeftT (K : PySem.W.Frag) (C : Addr) (nm T : String) : Prop where
  op : ∃ o p, PySem.W.findIn K (.type T) (PySem.dunder nm) = some o ∧ PySem.W.findIn K (.type T) (dunderR nm) = some p ∧ ((o.isSome && !isSeqSlot o) || (p.isSome && !isSeqSlot p)) = false
theorem ref_own {op : Operator} {T : String} {g : Addr} {Q : Value → Shared → Prop} (X : K.In s.heap) (I : PySem.W.InstAt s.heap x ox C od) (ty : PySem.W.Looks (model prog w) s.heap (typeOf a) (.type T)) (sf : PySem.W.selfFirst K C = true) (R : LeftT K C op.info.2 T)
    (has : PySem.W.findIn K (.ref C) (PySem.dunder op.info.2) = some (some (.ref g))) (at_ : PySem.W.findIn K (.ref C) (dunderR op.info.2) = some (some (.ref f))) (fn : PySem.W.isFn K (.ref f) = true)
    (h : wpAny (model prog w) A (call (.ref f) [.ref x, a]) (PySem.W.CmpBack Q) E s) : wpAny (model prog w) A (binaryOp op a (.ref x)) Q E s := by
  obtain ⟨cd, rest, h1, h2⟩ := PySem.W.ksp_first sf
  obtain ⟨⟨o1, o2, r1, r2, no⟩⟩ := R
  have go := PySem.W.ksp_try X I at_ fn h
  have k1 : PySem.W.Looks (model prog w) s.heap (fillsNumberSlot (.ref C) op.info.2) true := PySem.W.fills_K X h1 h2 has
  have k2 : PySem.W.Looks (model prog w) s.heap (fillsNumberSlot (.type T) op.info.2) false := no ▸ PySem.W.ksp_fillsT (M := model prog w) X r1 r2
  have k3 : PySem.W.Looks (model prog w) s.heap (typeOf (.ref x)) (.ref C) := I.type
  have ne : (Value.type T == Value.ref C) = false := Bool.eq_false_iff.mpr fun z => by cases beq_iff_eq.mp z
  clear h at_ has r1 r2
  obtain ⟨sy, nm, hi⟩ : ∃ sy nm, op.info = (sy, nm) := ⟨_, _, rfl⟩
  rw [hi] at go k1 k2
  dsimp only at go k1 k2
  obtain ⟨hp, gg, d, tt, os⟩ := s
  simp only [binaryOp, hi]
  refine wpAny_holding (wpAny_bind ?_)
  unfold binaryOp1
  refine wpAny_bind (ty.at (wpAny_bind (k3.at (wpAny_bind (k2.at ?_)))))
  simp only [ne, Bool.false_eq_true, if_false]
  ksp_lk
  refine wpAny_mono go (fun r s1 ⟨v, e, q⟩ => ?_) fun _ _ z => z
  subst e
  ksp_lk
  exact q
theorem int_no {dx : Addr} {i : Int} {t : Tok} (I : PySem.W.InstAt s.heap x (PySem.W.instObj C dx) C od) : wpAny (model prog w) A (tryMethod (.int i t) (PySem.dunder "mul") (.ref x)) (fun r s' => r = none ∧ s' = s) E s := by
  unfold tryMethod
  refine wpAny_bind (wpAny_callSpecial?_slot (name := PySem.dunder "mul") (typeIs_int s i t) F.slot_int_mul (wpAny_call_entry F.slot_int_mul (typeIs_int s i t) F.entry_int_mul ?_ (F.args_int_mul_2 _ _)))
  unfold Builtin.«int.__mul__» Builtin.Int.intBinary
  have hx := I.at_
  obtain ⟨hp, gg, d, tt, os⟩ := s
  repeat (first | (with_reducible refine wpAny_loadPart_at hx ?_) | (with_reducible refine wpAny_load hx ?_) | wp_step)
  exact ⟨_, rfl, wpAny_pure ⟨rfl, rfl⟩⟩
theorem ref_int {g dx : Addr} {i : Int} {t : Tok} {o1 o2 : Option Value} {Q : Value → Shared → Prop} (X : K.In s.heap) (I : PySem.W.InstAt s.heap x (PySem.W.instObj C dx) C od) (sf : PySem.W.selfFirst K C = true)
    (r1 : PySem.W.findIn K (.type "int") (PySem.dunder "mul") = some o1) (r2 : PySem.W.findIn K (.type "int") (dunderR "mul") = some o2) (sub : PySem.W.subIn K (.ref C) (.type "int") = some false)
    (has : PySem.W.findIn K (.ref C) (PySem.dunder "mul") = some (some (.ref g))) (at_ : PySem.W.findIn K (.ref C) (dunderR "mul") = some (some (.ref f))) (fn : PySem.W.isFn K (.ref f) = true)
    (h : wpAny (model prog w) A (call (.ref f) [.ref x, .int i t]) (PySem.W.CmpBack Q) E s) : wpAny (model prog w) A (binaryOp .Mult (.int i t) (.ref x)) Q E s := by
  obtain ⟨cd, rest, h1, h2⟩ := PySem.W.ksp_first sf
  have go := PySem.W.ksp_try X I at_ fn h
  have no := int_no (prog := prog) (w := w) (A := A) (E := E) (i := i) (t := t) I
  have k1 : PySem.W.Looks (model prog w) s.heap (fillsNumberSlot (.ref C) "mul") true := PySem.W.fills_K X h1 h2 has
  have k2 := PySem.W.ksp_fillsT (M := model prog w) (nm := "mul") (T := "int") X r1 r2
  have k3 : PySem.W.Looks (model prog w) s.heap (typeOf (.ref x)) (.ref C) := I.type
  have k4 : PySem.W.Looks (model prog w) s.heap (typeOf (.int i t)) (.type "int") := PySem.W.Looks.of_pure rfl
  have k5 : PySem.W.Looks (model prog w) s.heap (isSubtype (.ref C) (.type "int")) false := PySem.W.looks_subIn X sub
  have k6 : PySem.W.Looks (model prog w) s.heap (numberSlotInPython (.type "int") "mul") false := PySem.W.Looks.of_pure rfl
  have ne : (Value.type "int" == Value.ref C) = false := Bool.eq_false_iff.mpr fun z => by cases beq_iff_eq.mp z
  generalize ((o1.isSome && !isSeqSlot o1) || (o2.isSome && !isSeqSlot o2)) = lf at k2
  clear h at_ has r1 r2
  obtain ⟨hp, gg, d, tt, os⟩ := s
  simp only [binaryOp, Operator.info]
  refine wpAny_holding (wpAny_bind ?_)
  unfold binaryOp1
  refine wpAny_bind (k4.at (wpAny_bind (k3.at (wpAny_bind (k2.at ?_)))))
  simp only [ne, Bool.false_eq_true, if_false]
  cases lf with
  | false =>
    ksp_lk
    refine wpAny_mono go (fun r s1 ⟨v, e, q⟩ => ?_) fun _ _ z => z
    subst e
    ksp_lk
    exact q
  | true =>
    ksp_lk
    refine wpAny_mono no (fun r s1 ⟨e1, e2⟩ => ?_) fun _ _ z => z
    subst e1 e2
    ksp_lk
    refine wpAny_mono go (fun r s1 ⟨v, e, q⟩ => ?_) fun _ _ z => z
    subst e
    ksp_lk
    exact q
end
end Tx

namespace Tx
open PySem PySem.Spec PyProof.Rows L2
/-! ## Comprehensions of two clauses -/
def liftIo (K : PySem.W.Frag) (W : WX) (di : DTIo) : TI := fun σ H R => ∃ J ω ρ k x, Rw K J H ω ∧ Sl K J σ ρ ∧ (∀ xs P ω1 J1 H1 I, k xs P ω1 → Grow J H ω J1 H1 ω1 → Rw K J1 H1 ω1 → WalkP K J1 I xs P → R I H1) ∧ CovX K J H ω x (fun c d H => W c d σ H) ∧ di ρ ω k x
theorem DIo.pi {W : WX} {X : Cx} {K : PySem.W.Frag} {tg iter : Expr} {di : DTIo} (h : DIo W X K tg iter di) : PI X tg iter (liftIo K W di) := by
  obtain ⟨wi, p, k⟩ := h
  exact ⟨fun pins s σ H R I ⟨J, ω, ρ, kk, x, w, sl, c, cx, z⟩ => p.run pins s σ H R I (k σ H J ω ρ kk x R w sl c cx z)⟩
/-- the second clause's loop -/
def lcIn (gd1 : DTG) (te : DTE) (vs1 : List Nat) (ρ : DS) (acc : List PyData) (nx : List PyData → Wd → Prop) (xs : List PyData) (P : Wd → Prop) (ω : Wd) : Prop := ∃ Inv1 : Nat → List PyData → Wd → Prop, Inv1 0 acc ω ∧ (∀ j a ω2, Inv1 j a ω2 → P ω2) ∧
  (∀ j y a ω2, xs[j]? = some y → Inv1 j a ω2 → gd1 y (wipeD ρ vs1) fun ρ' => te ρ' ω2 (fun r ω3 => a.length < sizeLine ∧ Inv1 (j + 1) (a ++ [r]) ω3) X0) ∧ ∀ a ω2, Inv1 xs.length a ω2 → nx a ω2
def lcOut (gd : DTG) (di1 : DTIo) (gd1 : DTG) (te : DTE) (vs vs1 : List Nat) (ρ : DS) (q : DQ) (xs : List PyData) (P : Wd → Prop) (ω1 : Wd) : Prop := ∃ Inv : Nat → List PyData → Wd → Prop, Inv 0 [] ω1 ∧ (∀ i acc ω2, Inv i acc ω2 → P ω2) ∧
  (∀ i y acc ω2, xs[i]? = some y → Inv i acc ω2 → gd y (wipeD ρ vs) fun ρ' => di1 ρ' ω2 (lcIn gd1 te vs1 ρ' acc (fun a ω3 => Inv (i + 1) a ω3)) X0) ∧
  ∀ acc ω2, Inv xs.length acc ω2 → ∀ p, ω2 p = none → q (refD p) (updW ω2 p (.lst acc))
def dLc2 (di : DTIo) (gd : DTG) (di1 : DTIo) (gd1 : DTG) (te : DTE) (vs vs1 : List Nat) (ρ : DS) (ω : Wd) (q : DQ) (x : DXK) : Prop := di ρ ω (lcOut gd di1 gd1 te vs vs1 ρ q) x
section
variable {W : WX} {X : Cx} {K : PySem.W.Frag} {elt tg iter tg1 iter1 : Expr} {scope : Scope} {own : List (Str × Nat)} {pos : Pos} {is is1 vs1 : List Nat} {di di1 : DTIo} {gd gd1 : DTG} {te : DTE}
theorem lc2_run {wi : TI} (hi : ∀ σ H J ω ρ (k : List PyData → (Wd → Prop) → Wd → Prop) x (R : It → Hp → Prop), Rw K J H ω → Sl K J σ ρ → (∀ xs P ω1 J1 H1 I, k xs P ω1 → Grow J H ω J1 H1 ω1 → Rw K J1 H1 ω1 → WalkP K J1 I xs P → R I H1) →
    CovX K J H ω x (fun c d H => W c d σ H) → di ρ ω k x → wi σ H R) {vs : List Nat} (his : ∀ i ∈ is, i ∈ vs) (his1 : ∀ i ∈ is1, i ∈ vs1)
    {σ : L2.St} {H J : Hp} {ω : Wd} {ρ : DS} {q : DQ} {x : DXK} {Q : VK} (w : Rw K J H ω) (s : Sl K J σ ρ) (cq : CovQ K J H ω q Q) (cx : CovX K J H ω x (fun c d H => W c d σ H)) (z : dLc2 di gd di1 gd1 te vs vs1 ρ ω q x) :
    tLc2 wi (liftG K is gd) (liftT K W0 dYes) (liftIo K W0 di1) (liftG K is1 gd1) (liftT K W0 dYes) (liftE K W0 te) vs vs1 σ H Q := by
  refine hi σ H J ω ρ _ x _ w s (fun xs P ω1 J1 H1 I z1 g1 w1 wd => ?_) cx z
  intro D hD
  obtain ⟨Inv, i0, iP, step, fin⟩ := z1
  obtain ⟨G, Y, wk, hG, hY⟩ := wd
  have hjD : J1 D = none := w1.jh.free hD
  have s1 := s.mono g1.jj
  let St : (List PyData → Wd → Prop) → Hp → Prop := fun inv H' => ∃ J' ω' acc us, Grow J1 H1 ω1 J' H' ω' ∧ Rw K J' H' ω' ∧ H' D = some (.lst us) ∧ J' D = none ∧ Fr ω' D ∧ RpAll K J' us acc ∧ inv acc ω'
  refine ⟨fun i m H' => m = xs.length - i ∧ i ≤ xs.length ∧ St (Inv i) H', ⟨xs.length, by simp, Nat.zero_le _, J1, ω1, [], [], Grow.junk hD _, w1.junk hD _, upd_same, hjD, w1.free hD, .nil, i0⟩, ?_⟩
  rintro i m H2 ⟨rfl, hi, J2, ω2, acc, us, g2, w2, hD2, jD2, oD2, ra, inv⟩
  have hg := hG J2 H2 ω2 g2.jj w2 (iP _ _ _ inv)
  by_cases hge : xs.length ≤ i
  · obtain rfl : i = xs.length := by omega
    refine .inl ⟨wk.stops H2 hg, (cq.step g1) _ _ _ _ _ (fin acc ω2 inv D oD2.1) (g2.own2 hD) (w2.own2 jD2 oD2 hD2 ra) (.ref D)⟩
  have hlt : i < xs.length := by omega
  refine .inr ⟨wk.goes i H2 hlt hg, St (Inv (i + 1)), fun H' st => ⟨xs.length - (i + 1), by omega, rfl, hlt, st⟩, fun v H2' y => ?_⟩
  have y := wk.yields i H2 v H2' hlt hg y
  have go : ∀ (d : PyData) (J3 H3 : Hp), xs[i]? = some d → Grow J2 H2 ω2 J3 H3 ω2 → Rw K J3 H3 ω2 → Rp K J3 v d → liftG K is gd v (wipe σ vs) H3 fun σ2 H2 => wipe σ2 vs = wipe σ vs ∧ liftT K W0 dYes σ2 H2 fun b H3 =>
      if b = true then liftIo K W0 di1 σ2 H3 fun I1 H4 => ∃ W1 : Nat → Nat → Hp → Prop, (∃ m, W1 0 m H4) ∧ ∀ j k H, W1 j k H →
        (I1.stop j H ∧ St (Inv (i + 1)) H) ∨ (I1.go j H ∧ ∃ Nx1 : Hp → Prop, (∀ H', Nx1 H' → ∃ k', k' < k ∧ W1 (j + 1) k' H') ∧ ∀ x H', I1.yld j H x H' → liftG K is1 gd1 x (wipe σ2 vs1) H' fun σ3 H5 => wipe σ3 vs1 = wipe σ2 vs1 ∧ liftT K W0 dYes σ3 H5 fun b H6 =>
          if b = true then liftE K W0 te σ3 H6 fun y H7 => ∃ acc, H7 D = some (.lst acc) ∧ acc.length < sizeLine ∧ Nx1 (upd H7 D (.lst (acc ++ [y]))) else Nx1 H6)
      else St (Inv (i + 1)) H3 := by
    intro d J3 H3 e3 g3 w3 r3
    have hD3 := g3.keep D _ hD2 oD2
    have nD2 : H2 D ≠ none := by rw [hD2]; simp
    have jD3 := g3.frj D nD2 oD2 jD2
    have nD3 : H3 D ≠ none := by rw [hD3]; simp
    refine ⟨J3, ω2, wipeD ρ vs, d, _, w3, (s1.mono (g2.jj.trans g3.jj)).wipe vs, r3, fun ρ' σ' z4 s4 ew => ⟨(ew vs his).trans (wipe_wipe σ vs), ?_⟩, step i d acc ω2 e3 inv⟩
    refine ⟨J3, ω2, ρ', fun b ω' => b = true ∧ ω' = ω2, X0, w3, s4, fun b ω5 J5 H5 z5 g5 w5 => ?_, (fun _ _ _ _ _ _ z => False.elim z), ⟨rfl, rfl⟩⟩
    obtain ⟨rfl, rfl⟩ := z5
    have hD5 := g5.keep D _ hD3 oD2
    have jD5 := g5.frj D nD3 oD2 jD3
    have nD5 : H5 D ≠ none := by rw [hD5]; simp
    refine iteT ⟨J5, ω5, ρ', _, X0, w5, s4.mono g5.jj, fun xs1 P1 ω6 J6 H6 I1 z6 g6 w6 wd1 => ?_, (fun _ _ _ _ _ _ z => False.elim z), z4⟩
    obtain ⟨Inv1, i1, iP1, step1, fin1⟩ := z6
    obtain ⟨G1, Y1, wk1, hG1, hY1⟩ := wd1
    have hD6 := g6.keep D _ hD5 oD2
    have jD6 := g6.frj D nD5 oD2 jD5
    have oD6 := g6.frw D nD5 oD2
    have s6 := (s4.mono g5.jj).mono g6.jj
    let St1 : (List PyData → Wd → Prop) → Hp → Prop := fun inv H' => ∃ J' ω' acc us, Same J6 J' ∧ Grow J1 H1 ω1 J' H' ω' ∧ Rw K J' H' ω' ∧ H' D = some (.lst us) ∧ J' D = none ∧ Fr ω' D ∧ RpAll K J' us acc ∧ inv acc ω'
    have ga := ((g2.trans g3).trans g5).trans g6
    refine ⟨fun j m H' => m = xs1.length - j ∧ j ≤ xs1.length ∧ St1 (Inv1 j) H', ⟨xs1.length, by simp, Nat.zero_le _, J6, ω6, acc, us, Same.refl _, ga, w6, hD6, jD6, oD6, rpAll_mono ((g3.jj.trans g5.jj).trans g6.jj) _ _ ra, i1⟩, ?_⟩
    rintro j m H7 ⟨rfl, hj, J7, ω7, acc7, us7, h7, g7, w7, hD7, jD7, oD7, ra7, inv7⟩
    have hg1 := hG1 J7 H7 ω7 h7 w7 (iP1 _ _ _ inv7)
    by_cases hge1 : xs1.length ≤ j
    · obtain rfl : j = xs1.length := by omega
      exact .inl ⟨wk1.stops H7 hg1, J7, ω7, acc7, us7, g7, w7, hD7, jD7, oD7, ra7, fin1 _ _ inv7⟩
    have hl1 : j < xs1.length := by omega
    refine .inr ⟨wk1.goes j H7 hl1 hg1, St1 (Inv1 (j + 1)), fun H' st => ⟨xs1.length - (j + 1), by omega, rfl, hl1, st⟩, fun v1 H7' y1 => ?_⟩
    have y1 := wk1.yields j H7 v1 H7' hl1 hg1 y1
    have go1 : ∀ (d : PyData) (J8 H8 : Hp), xs1[j]? = some d → Grow J7 H7 ω7 J8 H8 ω7 → Rw K J8 H8 ω7 → Rp K J8 v1 d → liftG K is1 gd1 v1 (wipe σ' vs1) H8 fun σ3 H5 => wipe σ3 vs1 = wipe σ' vs1 ∧ liftT K W0 dYes σ3 H5 fun b H6 =>
        if b = true then liftE K W0 te σ3 H6 fun y H7 => ∃ acc, H7 D = some (.lst acc) ∧ acc.length < sizeLine ∧ St1 (Inv1 (j + 1)) (upd H7 D (.lst (acc ++ [y]))) else St1 (Inv1 (j + 1)) H6 := by
      intro d J8 H8 e8 g8 w8 r8
      have nD7 : H7 D ≠ none := by rw [hD7]; simp
      have hD8 := g8.keep D _ hD7 oD7
      have jD8 := g8.frj D nD7 oD7 jD7
      have nD8 : H8 D ≠ none := by rw [hD8]; simp
      refine ⟨J8, ω7, wipeD ρ' vs1, d, _, w8, ((s6.mono h7).mono g8.jj).wipe vs1, r8, fun ρ'' σ'' z9 s9 ew => ⟨(ew vs1 his1).trans (wipe_wipe σ' vs1), ?_⟩, step1 j d acc7 ω7 e8 inv7⟩
      refine ⟨J8, ω7, ρ'', fun b ω' => b = true ∧ ω' = ω7, X0, w8, s9, fun b ω9 J9 H9 z10 g9 w9 => ?_, (fun _ _ _ _ _ _ z => False.elim z), ⟨rfl, rfl⟩⟩
      obtain ⟨rfl, rfl⟩ := z10
      have hD9 := g9.keep D _ hD8 oD7
      have jD9 := g9.frj D nD8 oD7 jD8
      have nD9 : H9 D ≠ none := by rw [hD9]; simp
      refine iteT ⟨J9, ω9, ρ'', _, X0, w9, s9.mono g9.jj, fun r ω10 y J10 H10 z10 g10 w10 r10 => ?_, (fun _ _ _ _ _ _ z => False.elim z), z9⟩
      obtain ⟨hlen, z10⟩ := z10
      have hD10 := g10.keep D _ hD9 oD7
      have jD10 := g10.frj D nD9 oD7 jD9
      have oD10 := g10.frw D nD9 oD7
      have sm := (g8.jj.trans g9.jj).trans g10.jj
      refine ⟨us7, hD10, by rw [ra7.length]; exact hlen, J10, ω10, acc7 ++ [r], us7 ++ [y], h7.trans sm, (((g7.trans g8).trans g9).trans g10).loc hD _, w10.loc jD10 oD10 _, upd_same, jD10, oD10, RpAll.append (rpAll_mono sm _ _ ra7) (.one r10), z10⟩
    rcases hY1 j H7 v1 H7' J7 ω7 hl1 h7 w7 (iP1 _ _ _ inv7) y1 with ⟨rfl, d, e1, e2⟩ | ⟨T, us2, ds, rfl, hT, rfl, e1, e2⟩
    · exact go1 d J7 _ e1 Grow.refl w7 e2
    · exact go1 (.tuple ds) _ _ e2 (Grow.frz w7 hT _) (w7.frz hT _) (.tup (SqT.of upd_same) (rpAll_mono (same_new (w7.jh.free hT) _) _ _ e1))
  rcases hY i H2 v H2' J2 ω2 hlt g2.jj w2 (iP _ _ _ inv) y with ⟨rfl, d, e1, e2⟩ | ⟨T, us2, ds, rfl, hT, rfl, e1, e2⟩
  · exact go d J2 _ e1 Grow.refl w2 e2
  · exact go (.tuple ds) _ _ e2 (Grow.frz w2 hT _) (w2.frz hT _) (.tup (SqT.of upd_same) (rpAll_mono (same_new (w2.jh.free hT) _) _ _ e1))
theorem de_lc2 (hc : X.calm = true) (hN : X.N.Nodup) (hi : DIo W X K tg iter di) (ok : BlkOk X.N X.env.scope scope own) (hv : ∀ i ∈ vs1, i ∈ own.map (·.2))
    (hg : ∀ (s : Shared) (H : Hp) (C : Addr) (cl : List (Str × Addr)) (fp : List Addr), DG (X.blk s H scope (compEnvC scope cl C X.env) fp) K tg is gd)
    (hi1 : ∀ (s : Shared) (H : Hp) (C : Addr) (cl : List (Str × Addr)) (fp : List Addr), DIo W0 (X.blk s H scope (compEnvC scope cl C X.env) fp) K tg1 iter1 di1)
    (hg1 : ∀ (s : Shared) (H : Hp) (C : Addr) (cl : List (Str × Addr)) (fp : List Addr), DG (X.blk s H scope (compEnvC scope cl C X.env) fp) K tg1 is1 gd1)
    (he : ∀ (s : Shared) (H : Hp) (C : Addr) (cl : List (Str × Addr)) (fp : List Addr), DE W0 (X.blk s H scope (compEnvC scope cl C X.env) fp) K elt te)
    (his : ∀ i ∈ is, i ∈ own.map (·.2) := by decide) (his1 : ∀ i ∈ is1, i ∈ vs1 := by decide) (hs : ∀ x, foldedSetIterable iter X.env x = pure x := by intro _; rfl) (hs1 : ∀ env x, foldedSetIterable iter1 env x = pure x := by intro _ _; rfl) :
    DE W X K (.ListComp elt [⟨tg, iter, [], 0⟩, ⟨tg1, iter1, [], 0⟩] scope pos) (dLc2 di gd di1 gd1 te (own.map (·.2)) vs1) := by
  obtain ⟨wi, p, k⟩ := hi
  exact ⟨_, pe_lc2 hc hN p ok hv hg (fun s H C cl fp => (dts_nil (W := W0)).ps) (fun s H C cl fp => (hi1 s H C cl fp).pi) hg1 (fun s H C cl fp => (dts_nil (W := W0)).ps) (fun s H C cl fp => (he s H C cl fp).pe) hs hs1, fun σ H J ω ρ q x Q w s cq cx z => lc2_run k his his1 w s cq cx z⟩
end
end Tx

namespace Tx
open PySem PySem.Spec PyProof.Rows L2
/-! ## int * int and list * int; powers; an instance on the right; ranges -/
def mulAD : RD2 := fun x y ω Q => match rsv ω x, y with
  | .int i, .int j => CMul i j ∧ Q (.int (i * j))
  | .list xs, .int k => -(2 ^ 63) ≤ k ∧ k < 2 ^ 63 ∧ xs.length * k.toNat ≤ sizeLine ∧ Q (.list (List.replicate k.toNat xs).flatten)
  | _, _ => False
def rmR (C : Addr) (sp : DSp) : RM2 := fun dx dy ω q => (∃ i, dx = .int i) ∧ InsD C "__rmul__" ω dy ∧ sp [dy, dx] ω q X0
/-- what the fragment says of int on the left of a class that multiplies -/
structure LeftI (K : PySem.W.Frag) (C : Addr) : Prop where
  first : PySem.W.selfFirst K C = true
  op : ∃ o, PySem.W.findIn K (.type "int") (PySem.dunder "mul") = some o
  rop : ∃ o, PySem.W.findIn K (.type "int") (dunderR "mul") = some o
  sub : PySem.W.subIn K (.ref C) (.type "int") = some false
  has : ∃ g : Addr, PySem.W.findIn K (.ref C) (PySem.dunder "mul") = some (some (.ref g))
def diRangeW (ta : DTA) (ρ : DS) (ω : Wd) (k : List PyData → Wd → Prop) (x : DXK) : Prop := ta ρ ω (fun rs ω1 => match rs with
  | [.int n] => ((-(2 ^ 62) ≤ n ∧ n < 2 ^ 62) ∨ farLow n) ∧ k ((List.range n.toNat).map fun i => .int ((i : Nat) : Int)) ω1
  | _ => False) x
section
variable {X : Cx} {K : PySem.W.Frag}
theorem do_mulA (hK : X.K = K) : OpR X (binaryOp .Mult) (lift2 K mulAD) := by
  subst hK
  intro pins s σ H x y v u Q I rx ry ⟨J, ω, dx, dy, q, w, hx, hy, c, z⟩
  unfold mulAD at z
  split at z
  · rename_i i j ex
    obtain rfl := (rp_flat (ω := ω) hx).2.1 _ ex
    cases hy
    exact op_mul pins s σ H _ _ v u Q I rx ry ⟨i, j, rfl, rfl, z.1, c.now w z.2 (.int _)⟩
  · rename_i xs k ex
    obtain ⟨a, vs, rfl, ha, ra⟩ := rp_list w hx ex
    cases hy
    exact op_rep pins s σ H _ _ v u Q I rx ry ⟨a, k, vs, rfl, rfl, ha, z.1, z.2.1, by rw [ra.length]; exact z.2.2.1, fun p hp => c.newL w z.2.2.2 (ra.rep _) hp⟩
  · exact False.elim z
def notBD : RD2 := fun x y _ Q => ∃ a b, x = .bool a ∧ y = .bool b ∧ Q (.bool (!decide (a = b)))
theorem do_isnotB (hK : X.K = K) : OpR X (compareOp .IsNot) (lift2 K notBD) := by
  intro pins s σ H x y v u Q I rx ry ⟨J, ω, dx, dy, q, w, hx, hy, c, a, b, e1, e2, z⟩
  subst e1 e2
  cases hx
  cases hy
  exact op_isnot_bl pins s σ H _ _ v u Q I rx ry ⟨a, b, rfl, rfl, c.now w z (.bl _)⟩
theorem do_pow (hK : X.K = K) : OpR X (binaryOp .Pow) (lift2 K (intD CPow fun i j => .int (i ^ j.toNat))) := do_int op_pow hK (fun _ _ h => h) fun _ _ _ => .int _
theorem dm_rmul {C : Addr} {j k : Nat} {ps : List Str} {sp : DSp} (hK : X.K = K) (M : Mfn X.prog X.w X.K X.mg X.base CX0 j C "__rmul__" ps (spD K sp)) (c : Ct X.mg X.A k) (h : j ≤ k) (L : LeftI K C) (hn : dunderR "mul" = "__rmul__" := by rfl) : OpR X (binaryOp .Mult) (lift2M K (rmR C sp)) := by
  subst hK
  obtain ⟨f, fd, F, hm, hb⟩ := M
  intro pins s σ H x y v u Q I rx ry ⟨J, ω, dx, dy, q, w, r1, r2, cq, ⟨i, e⟩, i2, z⟩
  subst e
  cases r1
  obtain ⟨t, rfl⟩ := (show ∃ t, v = Value.int i t from rx)
  obtain ⟨b, d2, od2, rfl, rfl, J2⟩ := insD_at w I r2 ry i2
  have run := own_run F hb (c.r.mono h) c.g I.env0 I (.cons ry (.cons rx .nil)) w (.cons r2 (.cons (.int i) .nil)) cq z
  obtain ⟨o1, h1⟩ := L.op
  obtain ⟨o2, h2⟩ := L.rop
  obtain ⟨g, h3⟩ := L.has
  exact ref_int I.kIn J2 L.first h1 h2 L.sub h3 (by rw [hn]; exact hm.at_) hm.fn (thn run fun v' s' ⟨z', H', I', rz, qz⟩ => SlX.cmpback rz ⟨z', H', I', rz, qz⟩)
variable {W : WX} {tg : Expr} {tA : DTA}
theorem far_low {n : Int} (h : farLow n) : n ≤ 0 := by
  have := h.2
  rw [rangeSize_one] at this
  split at this <;> omega
theorem di_rangeW {a : Expr} {p pos : Pos} (hg : Gl X "range") (hm : X.mg "range" = none) (ha : DAs W X K [a] tA) (hs : starEach [a] X.env = [(false, eval a X.env)] := by rfl) : DI W X K tg (.Call (.Name "range" p) [a] [] pos) (diRangeW tA) := by
  obtain ⟨t, pp, k⟩ := ha
  refine ⟨_, pi_rangeW hg hm pp (fun n h => far_low h) hs, fun σ H J ω ρ kk x R w s c cx z => k σ H J ω ρ _ x _ w s (fun rs ω1 vs J1 H1 z1 g1 w1 rps => ?_) cx z⟩
  split at z1
  · cases rps with
    | cons r1 r2 =>
      cases r1
      cases r2
      refine ⟨_, rfl, z1.1, c _ _ _ _ _ z1.2 g1 w1 ?_⟩
      have := walkD_range (K := K) (J := J1) (lo := 0) (n := Int.toNat (by assumption))
      simpa using this
  · exact False.elim z1
theorem far_k10 : farLow (0 - 10 ^ 20) := by
  refine ⟨by decide +kernel, ?_⟩
  rw [rangeSize_one]
  decide +kernel
end
end Tx

namespace Tx
open PySem PySem.Spec PyProof.Rows L2
/-! ## x in o by an own __contains__; x in a list; xs[::-1]; text.upper() -/
def rmIn (C : Addr) (sp : DSp) : RM2 := fun dx dy ω q => InsD C "__contains__" ω dy ∧ sp [dy, dx] ω (fun r ω1 => ∃ b, r = .bool b ∧ q (.bool b) ω1) X0
def rmNotIn (C : Addr) (sp : DSp) : RM2 := fun dx dy ω q => InsD C "__contains__" ω dy ∧ sp [dy, dx] ω (fun r ω1 => ∃ b, r = .bool b ∧ q (.bool (!b)) ω1) X0
def inD : RD2 := fun x y ω Q => ∃ ds, Full ω y (.list ds) ∧ SeqAt.shaped x = true ∧ SeqAt.shaped (.list ds) = true ∧ Q (.bool (ds.any fun z => PyData.eqv z x))
section
variable {X : Cx} {K : PySem.W.Frag} {C : Addr} {j k : Nat} {ps : List Str} {sp : DSp}
theorem dm_in (hK : X.K = K) (M : Mfn X.prog X.w X.K X.mg X.base CX0 j C "__contains__" ps (spD K sp)) (c : Ct X.mg X.A k) (h : j ≤ k) : OpR X (compareOp .In) (lift2M K (rmIn C sp)) := by
  subst hK
  obtain ⟨f, fd, F, hm, hb⟩ := M
  intro pins s σ H x y v u Q I rx ry ⟨J, ω, dx, dy, q, w, r1, r2, cq, i2, z⟩
  obtain ⟨b, d2, od2, rfl, rfl, J2⟩ := insD_at w I r2 ry i2
  have cq2 : CovQ X.K J H ω (fun r ω1 => ∃ b, r = .bool b ∧ q (.bool b) ω1) (fun v' H' => ∃ b, v' = .bl b ∧ Q (.bl b) H') := fun r ω' v' J' H' ⟨b, e, z⟩ g w' rp => by
    subst e
    cases rp
    exact ⟨b, rfl, cq _ _ _ _ _ z g w' (.bl _)⟩
  have run := own_run F hb (c.r.mono h) c.g I.env0 I (.cons ry (.cons rx .nil)) w (.cons r2 (.cons r1 .nil)) cq2 z
  obtain ⟨mm, hF⟩ := I.fr
  refine PySem.W.in_K hF I.ok.mod.kin J2 hm.at_ hm.fn (thn run fun v' s' ⟨z', H', I', rz, b', e, qz⟩ => ?_)
  subst e
  cases (show v' = Value.bool b' from rz)
  exact wpAny_truthy_bool ⟨.bl b', H', I', rfl, qz⟩
theorem dm_notin (hK : X.K = K) (M : Mfn X.prog X.w X.K X.mg X.base CX0 j C "__contains__" ps (spD K sp)) (c : Ct X.mg X.A k) (h : j ≤ k) : OpR X (compareOp .NotIn) (lift2M K (rmNotIn C sp)) := by
  subst hK
  obtain ⟨f, fd, F, hm, hb⟩ := M
  intro pins s σ H x y v u Q I rx ry ⟨J, ω, dx, dy, q, w, r1, r2, cq, i2, z⟩
  obtain ⟨b, d2, od2, rfl, rfl, J2⟩ := insD_at w I r2 ry i2
  have cq2 : CovQ X.K J H ω (fun r ω1 => ∃ b, r = .bool b ∧ q (.bool (!b)) ω1) (fun v' H' => ∃ b, v' = .bl b ∧ Q (.bl (!b)) H') := fun r ω' v' J' H' ⟨b, e, z⟩ g w' rp => by
    subst e
    cases rp
    exact ⟨b, rfl, cq _ _ _ _ _ z g w' (.bl _)⟩
  have run := own_run F hb (c.r.mono h) c.g I.env0 I (.cons ry (.cons rx .nil)) w (.cons r2 (.cons r1 .nil)) cq2 z
  obtain ⟨mm, hF⟩ := I.fr
  refine PySem.W.notIn_K hF I.ok.mod.kin J2 hm.at_ hm.fn (thn run fun v' s' ⟨z', H', I', rz, b', e, qz⟩ => ?_)
  subst e
  cases (show v' = Value.bool b' from rz)
  exact wpAny_truthy_bool ⟨.bl (!b'), H', I', rfl, qz⟩
theorem do_in (hK : X.K = K) (hu2 : X.A.units + 65 < cLine) : OpR X (compareOp .In) (lift2 K inD) := by
  subst hK
  intro pins s σ H x y v u Q I rx ry ⟨J, ω, dx, dy, q, w, hx, hy, c, ds, f2, s1, s2, z⟩
  exact op_inD hu2 pins s σ H _ _ v u Q I rx ry ⟨_, _, Full.dp (.inl rfl) w hx (shaped_lay s1), f2.dp w hy (shaped_lay s2), s1, s2, c.now w z (.bl _)⟩
end
theorem _root_.L2.Room.units65 {k : Nat} {A : Around} (r : Room k A) : A.units + 65 < cLine := by have := r.un; omega
def dRev (te : DTE) (ρ : DS) (ω : Wd) (q : DQ) (x : DXK) : Prop := te ρ ω (fun r ω1 => ∃ xs, rsv ω1 r = .list xs ∧ q (.list xs.reverse) ω1) x
def dUpper (te : DTE) (ρ : DS) (ω : Wd) (q : DQ) (x : DXK) : Prop := te ρ ω (fun r ω1 => ∃ z, r = .str z ∧ z.length ≤ 5592405 ∧ q (.str (Txt.upper z)) ω1) x
theorem RpAll.reverse {K : PySem.W.Frag} {J : Hp} : ∀ {ds : List PyData} {vs : List V}, RpAll K J vs ds → RpAll K J vs.reverse ds.reverse
  | [], _, h => by cases h; exact .nil
  | d :: ds, _, h => by
    cases h with
    | cons h1 h2 => rw [List.reverse_cons, List.reverse_cons]; exact (RpAll.reverse h2).append (.one h1)
section
variable {W : WX} {X : Cx} {K : PySem.W.Frag} {o e : Expr} {te to : DTE} {pos : Pos}
theorem de_rev {k : Nat} {p1 p2 p3 : Pos} (hK : X.K = K) (h : DE W X K e te) : DE W X K (.Subscript e (.Slice none none (some (.UnaryOp .USub (.Constant (.int 1) k p1) p2)) p3) pos) (dRev te) := by
  subst hK
  obtain ⟨t, p, k⟩ := h
  refine ⟨_, pe_revL p, fun σ H J ω ρ q x Q w s cq cx z => k σ H J ω ρ _ x _ w s (fun r ω1 v J1 H1 z1 g1 w1 rp => ?_) cx z⟩
  obtain ⟨xs, e1, z1⟩ := z1
  obtain ⟨a, vs, rfl, ha, ra⟩ := rp_list w1 rp e1
  exact ⟨a, vs, rfl, SqL.of ha, fun p hp => (cq.step g1).newL w1 z1 ra.reverse hp⟩
theorem de_upper {apos cpos : Pos} (hK : X.K = K) (ho : DE W X K o to) (hbase : attributeBase o "upper" X.env (eval o X.env) = eval o X.env := by rfl) (hline : (apos.endLine == cpos.line) = true := by rfl) :
    DE W X K (.Call (.Attribute o "upper" apos) [] [] cpos) (dUpper to) := by
  subst hK
  obtain ⟨t, p, k⟩ := ho
  refine ⟨_, pe_bm0 PySem.F.plainAttrs_str PySem.F.slot_str_upper PySem.F.type_str_upper mt_upper p hbase hline, fun σ H J ω ρ q x Q w s cq cx z => k σ H J ω ρ _ x _ w s (fun r ω1 v J1 H1 z1 g1 w1 rp => ?_) cx z⟩
  obtain ⟨z, rfl, hz, z1⟩ := z1
  cases rp
  exact ⟨rfl, z, rfl, rfl, hz, (cq.step g1).now w1 z1 (.str _)⟩
end
end Tx

namespace Tx
open PySem PySem.Spec PyProof.Rows L2
/-! ## o[i] by an own __getitem__ that may raise; o[i] = v by an own __setitem__ that may raise; list(x), a list of one's own -/
def GI (K : PySem.W.Frag) (C : Addr) : Prop := ∃ f : Addr, PySem.W.findIn K (.ref C) "__getitem__" = some (some (.ref f)) ∧ PySem.W.fnIn K f = true
def dIxX (C : Addr) (sp : DSp) (to ti : DTE) (ρ : DS) (ω : Wd) (q : DQ) (x : DXK) : Prop := to ρ ω (fun o ω1 => ti ρ ω1 (fun i ω2 => InsD C "__getitem__" ω2 o ∧ sp [o, i] ω2 q x) x) x
section
variable {W : WX} {X : Cx} {K : PySem.W.Frag} {o i : Expr} {to ti : DTE} {pos : Pos} {CX : CXT} {C : Addr} {j k : Nat} {ps : List Str} {sp : DSp}
theorem de_ixO (hK : X.K = K) (M : Mfn X.prog X.w X.K X.mg X.base CX j C "__getitem__" ps (spD K sp)) (gi : GI K C) (c : Ct X.mg X.A k) (h : j + 1 ≤ k) (px : PX CX X W) (ho : DE W X K o to) (hi : DE W X K i ti)
    (hsl : ∀ ov iv, subscripted i true ov iv = runValue (.builtin "lifetime.subscript" ⟨[ov, iv], []⟩)) : DE W X K (.Subscript o i pos) (dIxX C sp to ti) := by
  subst hK
  obtain ⟨f, fd, F, hm, hb⟩ := M
  obtain ⟨ro, po, ko⟩ := ho
  obtain ⟨ri, pi, ki⟩ := hi
  obtain ⟨g, g1, g2⟩ := gi
  obtain rfl : g = f := by
    have := hm.at_
    rw [g1] at this
    cases this
    rfl
  let rd : L2.St → V → V → Hp → VK → Prop := fun σ x y H Q => ∃ J ω dx dy q xk, Rw X.K J H ω ∧ Rp X.K J x dx ∧ Rp X.K J y dy ∧ CovQ X.K J H ω q Q ∧ CovX X.K J H ω xk (fun cl d H => W cl d σ H) ∧ InsD C "__getitem__" ω dx ∧ sp [dx, dy] ω q xk
  refine ⟨fun σ H Q => ro σ H fun x H1 => ri σ H1 fun y H2 => rd σ x y H2 Q, ⟨fun pins s σ H Q I hh => ?_⟩, fun σ H J ω ρ q x Q w s cq cx z => ko σ H J ω ρ _ x _ w s (fun r1 ω1 v1 J1 H1 z1 k1 w1 rp1 => ki σ H1 J1 ω1 ρ _ x _ w1 (s.mono k1.jj) (fun r2 ω2 v2 J2 H2 z2 k2 w2 rp2 => ?_) (cx.step k1) z1) cx z⟩
  · refine Subscript_ (binT po pi I hh fun v u s2 x y H2 I2 rx ry q => ?_)
    obtain ⟨J, ω, dx, dy, qq, xk, w, r1, r2, cq, cx, i1, z⟩ := q
    obtain ⟨a, d1, od, rfl, rfl, J1⟩ := insD_at w I2 r1 rx i1
    obtain ⟨mm, hF⟩ := I2.fr
    refine PySem.W.sub_K hF I2.ok.mod.kin J1 hm.at_ g2 hm.fn ?_ (hsl _ _)
    exact run_g F (c.r.mono h).in1 c.g hb I2.env0.in1 (px σ) I2 (.cons rx (.cons ry .nil)) ⟨J, ω, _, qq, xk, w, .cons r1 (.cons r2 .nil), cq, cx, z⟩
  · exact ⟨J2, ω2, r1, r2, q, x, w2, rp_mono k2.jj _ _ rp1, rp2, (cq.step k1).step k2, (cx.step k1).step k2, z2.1, z2.2⟩
end
abbrev RMSX := PyData → PyData → PyData → Wd → (Wd → Prop) → DXK → Prop
def liftStX (K : PySem.W.Frag) (E : XK) (rd : RMSX) : TSet := fun o i v H Q => ∃ J ω dO dI dV q x, Rw K J H ω ∧ Rp K J o dO ∧ Rp K J i dI ∧ Rp K J v dV ∧ CovW K J H ω q Q ∧ CovX K J H ω x E ∧ rd dO dI dV ω q x
def rsOwnX (C : Addr) (sp : DSp) : RMSX := fun dO dI dV ω q x => InsD C "__setitem__" ω dO ∧ sp [dO, dI, dV] ω (fun _ ω1 => q ω1) x
def dSetSX (to ti te : DTE) (rd : RMSX) (D : DEnds) (ρ : DS) (ω : Wd) : Prop := te ρ ω (fun v ω1 => to ρ ω1 (fun o ω2 => ti ρ ω2 (fun i ω3 => rd o i v ω3 (fun ω4 => D.nx ρ ω4) (xcOf D ρ)) (xcOf D ρ)) (xcOf D ρ)) (xcOf D ρ)
section
variable {E : XK} {X : Cx} {K : PySem.W.Frag} {e o i : Expr} {te to ti : DTE} {pos : Pos} {CX : CXT} {C : Addr} {j k : Nat} {ps : List Str} {sp : DSp}
theorem set_ownX (hK : X.K = K) (M : Mfn X.prog X.w X.K X.mg X.base CX j C "__setitem__" ps (spD K sp)) (c : Ct X.mg X.A k) (h : j ≤ k) (nq : PySem.W.noSeq K C = true) (px : PX CX X (fun cl d _ H => E cl d H)) : PSet X (liftStX K E (rsOwnX C sp)) := by
  subst hK
  obtain ⟨f, fd, F, hm, hb⟩ := M
  intro pins s σ H o i v ov iv u Q I ro ri rv ⟨J, ω, dO, dI, dV, q, x, w, r1, r2, r3, cq, cx, i1, z⟩
  obtain ⟨a, d1, od, rfl, rfl, J1⟩ := insD_at w I r1 ro i1
  have cq2 : CovQ X.K J H ω (fun _ ω1 => q ω1) (fun _ H' => Q H') := fun r ω' v' J' H' z g w' _ => cq _ _ _ z g w'
  have run := run_g (E := fun cl d H => E cl d H) F (c.r.mono h) c.g hb I.env0 (px σ) I (.cons ro (.cons ri (.cons rv .nil))) ⟨J, ω, _, _, x, w, .cons r1 (.cons r2 (.cons r3 .nil)), cq2, cx, z⟩
  obtain ⟨mm, hF⟩ := I.fr
  exact PySem.W.ksp_setItem hF I.ok.mod.kin J1 nq hm.at_ hm.fn (thn run fun v' s' ⟨z', H', I', rz, qz⟩ => ⟨H', I', qz⟩)
theorem ds_setSX {rd : RMSX} {pos2 : Pos} (ho : DE (fun cl d _ H => E cl d H) X K o to) (hi : DE (fun cl d _ H => E cl d H) X K i ti) (he : DE (fun cl d _ H => E cl d H) X K e te) (hset : PSet X (liftStX K E rd))
    (ha : ∀ v, assign (.Subscript o i pos2) X.env v = (do
      let ov ← holding [v] (eval o X.env)
      let iv ← holding [v, ov] (eval i X.env)
      standAt pos2
      holding [v, ov, iv] (setItem ov iv v)
      release [v, ov, iv] []) := by intro _; rfl)
    (hs : swapsWithSole [.Subscript o i pos2] e pos.line X.env = pure false := by rfl) (hw : swappedStores [.Subscript o i pos2] e X.env = pure none := by rfl) (h1 : (assignEach [.Subscript o i pos2] X.env).map (·.2) = [assign (.Subscript o i pos2) X.env] := by rfl) :
    DSt (fun cl d _ H => E cl d H) X K (.Assign [.Subscript o i pos2] e pos) (dSetSX to ti te rd) := by
  obtain ⟨ro, po, ko⟩ := ho
  obtain ⟨ri, pi, ki⟩ := hi
  obtain ⟨re, pe, ke⟩ := he
  refine ⟨_, ps_asg pe (pg_sub po pi hset ha) hs hw h1, fun D DD σ H J ω ρ w s cs z => ke σ H J ω ρ _ _ _ w s (fun r ω1 v J1 H1 z1 g1 w1 rp => ?_) (cs.x s) z⟩
  refine ko σ H1 J1 ω1 ρ _ _ _ w1 (s.mono g1.jj) (fun r2 ω2 v2 J2 H2 z2 g2 w2 rp2 => ?_) ((cs.x s).step g1) z1
  refine ki σ H2 J2 ω2 ρ _ _ _ w2 (s.mono (g1.trans g2).jj) (fun r3 ω3 v3 J3 H3 z3 g3 w3 rp3 => ?_) ((cs.x s).step (g1.trans g2)) z2
  refine ⟨J3, ω3, r2, r3, r, _, _, w3, rp_mono g3.jj _ _ rp2, rp3, rp_mono (g2.trans g3).jj _ _ rp, fun ω4 J4 H4 z4 g4 w4 => ?_, (cs.x s).step ((g1.trans g2).trans g3), z3⟩
  exact cs.nx _ _ _ _ _ z4 (((g1.trans g2).trans g3).trans g4) w4 (s.mono (((g1.trans g2).trans g3).trans g4).jj)
end
def rmListO : RM1 := fun ds ω q => ∃ d xs, ds = [d] ∧ rsv ω d = .list xs ∧ ∀ p, ω p = none → q (refD p) (updW ω p (.lst xs))
theorem dc_listO {X : Cx} {K : PySem.W.Frag} (hK : X.K = K) : CallR X (.type "list") (liftAM K rmListO) := by
  subst hK
  intro pins s σ H xs us Q I rel ⟨J, ω, ds, q, w, hx, c, d, ys, e1, e2, z⟩
  subst e1
  cases hx with
  | cons hx h0 =>
  cases h0
  obtain ⟨a, vs, rfl, ha, ra⟩ := rp_list w hx e2
  exact call_list_of pins s σ H _ us Q I rel ⟨a, vs, rfl, .inl (SqL.of ha), fun p hp => c _ _ _ _ _ (z p (w.free hp).1) (Grow.own rfl hp _) (w.own rfl hp ⟨_, upd_same, ra⟩) (.ref p)⟩
theorem gi_of {K : PySem.W.Frag} {C : Addr} {q : Str} {st : Stmt} (h : HasM K C "__getitem__" q st) : GI K C := by
  obtain ⟨f, fd, F, m⟩ := h
  obtain ⟨oc, od, kV, doc, pm, an, cdv, ct, osl, _, e, _⟩ := F.ex
  exact ⟨f, m.at_, by unfold PySem.W.fnIn; rw [e]⟩
end Tx

namespace Tx
open PySem PySem.Spec PyProof.Rows L2
/-! ## a def f(a, *r) where no repr is under way; a class called by a local name; C.m(..) by a classmethod -/
structure FnV (P : Program) (w : World) (K : PySem.W.Frag) (mg : Str → Option Value) (base : Heap) (CX : CXT) (k : Nat) (f : Addr) (sp : Sp) : Prop where
  run : ∀ (A : Around) (out : List Env) (s : Shared) (H : Hp) (us : List Value) (vs : List V) (Q : VK) (E : XK), Room k A → A.guards = some [] → Env0 P w K mg base A out s H → Vals vs us → sp vs H Q E →
      codeAny (model P w) A (.call (.ref f) ⟨us, []⟩) (CR CX out P w H s Q E) s
theorem cx_new {P : Program} {w : World} : CXNew (L2.CX P w) := by
  intro outer s H h2 p rest E e s' kp hp hn ⟨a, B, H', cls, d, e1, fl, hok, ub, na, os, ag, z⟩
  have np : ∀ b o, s.heap.get? b = some o → b ≠ p := fun b o e z => absurd (Heap.lt_size e) (Nat.not_lt.mpr (by rw [z]; exact hp))
  refine ⟨a, B, H', cls, d, e1, fl, hok, ⟨fun b o q n f => ?_, fun b o q f => ?_, fun b o q n => ?_, fun b o q f => ?_, fun b xs q => ?_, fun b o xs q => ?_, fun b ps q => ?_⟩, na, os, ag, z⟩
  · exact ub.keep b o (kp b o q) (by rw [upd_ne (np b o q)]; exact n) f
  · exact ub.slot b o (kp b o q) f
  · exact ub.free b o (kp b o q) (by rw [upd_ne (np b o q)]; exact n)
  · exact ub.there b o (kp b o q) f
  · exact ub.tups b xs (by rw [upd_ne (fun z => by rw [z, hn] at q; cases q)]; exact q)
  · exact ub.frzs b o xs (by rw [upd_ne (fun z => by rw [z, hn] at q; cases q)]; exact q)
  · exact ub.tbls b ps (by rw [upd_ne (fun z => by rw [z, hn] at q; cases q)]; exact q)
section
variable {P : Program} {w : World} {K : PySem.W.Frag} {mg : Str → Option Value} {base : Heap} {CX : CXT} {k : Nat} {f : Addr} {fd : FuncData} {x qual : Str} {st : Stmt} {N : List Str} {pa pv : Str} {sp : Sp}
theorem env0_tup {A : Around} {out : List Env} {s : Shared} {H : Hp} {rest : List V} {ur : List Value} (e0 : Env0 P w K mg base A out s H) (rr : Vals rest ur) (hl : rest.length ≤ sizeLine) :
    Env0 P w K mg base A out { s with heap := s.heap.push ({ cls := .type "tuple", data := .seq ur.toArray } : Obj) } (upd H s.heap.objs.size (.tup rest)) := by
  have kp : ∀ b o, s.heap.get? b = some o → (s.heap.push ({ cls := .type "tuple", data := .seq ur.toArray } : Obj)).get? b = some o := fun b o e => Heap.get?_push_of_some _ e
  have new : ObjOk P w (upd H s.heap.objs.size (.tup rest)) (s.heap.push ({ cls := .type "tuple", data := .seq ur.toArray } : Obj)) s.heap.objs.size (.tup rest) := ⟨hl, ur, rr, ⟨_, Heap.get?_push_size _ rfl, rfl, _, rfl⟩⟩
  refine ⟨e0.frames, e0.mod, fun b o e => ⟨kp b o (e0.bs b o e).1, ?_⟩, ?_, Heap.FunFrames.of_keeps (fun b o e _ => ⟨o, kp b o e, rfl⟩) e0.funs, fun b hb => ?_, e0.hok.laid kp (Nat.le_refl _) new, e0.bare⟩
  · rw [upd_ne (Nat.ne_of_lt (Heap.lt_size (e0.bs b o e).1))]
    exact (e0.bs b o e).2
  · show base.objs.size ≤ (s.heap.push _).objs.size
    rw [Heap.size_push]
    exact Nat.le_succ_of_le e0.bsz
  · obtain ⟨_, o, ho, _⟩ := e0.funs.mem hb
    rw [upd_ne (Nat.ne_of_lt (Heap.lt_size ho))]
    exact e0.frf b hb
theorem okV (F : Fun K x qual st f fd) (S : FnScope N [pa, pv] (defScope st)) (hb : ∀ (u : Value) (rest : List Value), rest.length ≤ 5 → bindArgs fd ⟨u :: rest, []⟩ = (newTuple rest >>= fun t => pure [(pa, u), (pv, t)])) (hCX : CXNew CX)
    (body : ∀ (cv : Value) (A : Around) (out : List Env) (s : Shared) (H : Hp) (vs : List V) (Q : VK) (E : XK), Room k (A.deeper (envOfC qual (defScope st) s.heap.objs.size f cv)) → A.guards = some [] → sp vs H Q E →
      ∃ t, PSs (cxOf CX P w K mg base N qual (defScope st) f cv A out s H E) (defBody st) t ∧ t { nx := fun _ H' => Q .non H', rt := Q } (start N vs) H) :
    FnV P w K mg base CX (k + 1) f (fun vs H Q E => ∃ v rest, vs = v :: rest ∧ rest.length ≤ 5 ∧ ∀ p, H p = none → sp [v, .ref p] (upd H p (.tup rest)) Q E) := by
  obtain ⟨_, _, _, _, _, _, cv, _, _, rfl, at_f, code⟩ := F.ex
  refine ⟨fun A out s H us vs Q E room gd e0 rel ask => ?_⟩
  obtain ⟨v, rest, rfl, hl, ask⟩ := ask
  cases rel with
  | @cons _ u _ ur rv rr =>
  have sz : rest.length ≤ sizeLine := Nat.le_trans hl (by decide)
  have hlu : ur.length ≤ 5 := by rw [← rr.length]; exact hl
  have hn : H s.heap.objs.size = none := e0.hok.fresh (Nat.le_refl _)
  have inH : K.In s.heap := e0.mod.kin.keeps fun b o z => (e0.bs b o z).1
  have e2 := env0_tup e0 rr sz
  have kp : ∀ b o, s.heap.get? b = some o → (s.heap.push ({ cls := .type "tuple", data := .seq ur.toArray } : Obj)).get? b = some o := fun b o e => Heap.get?_push_of_some _ e
  have un : Un (frs out) [] H (upd H s.heap.objs.size (.tup rest)) s.heap (s.heap.push ({ cls := .type "tuple", data := .seq ur.toArray } : Obj)) := Un.laid kp (Nat.le_refl _) hn
  have free : (s.heap.push ({ cls := .type "tuple", data := .seq ur.toArray } : Obj)).NoLimit := e0.mod.nolimit.keeps fun b o z => (e2.bs b o z).1
  refine codeAny_call_function room.depth (inH _ _ at_f) rfl S.co S.gen rfl (PySem.W.codeRec_of inH code) ?_
  rw [hb u ur hlu]
  refine wpAny_bind (wpAny_newTuple (wpAny_pure ?_) (Nat.le_trans hlu (by decide)))
  refine wpAny_newFunctionEnv_cells (s := { s with heap := s.heap.push ({ cls := .type "tuple", data := .seq ur.toArray } : Obj) }) S.kind ?kinds ?entered
  case kinds =>
    intro y hz
    rcases S.par y.1 (List.of_mem_zip (l₁ := [pa, pv]) (l₂ := [u, Value.ref s.heap.objs.size]) hz).1 with q | q
    · exact .inl q
    · exact .inr ⟨q, PySem.W.cellsFrom_some _ _ _ (.inl q)⟩
  case entered =>
    intro env he s1 ic
    subst he
    obtain ⟨t, pss, rd⟩ := body cv A out { s with heap := s.heap.push ({ cls := .type "tuple", data := .seq ur.toArray } : Obj) } (upd H s.heap.objs.size (.tup rest)) [v, .ref s.heap.objs.size] Q E (room.deeper _) gd (ask _ hn)
    have r2 : Vals [v, V.ref s.heap.objs.size] [u, Value.ref s.heap.objs.size] := .cons rv (.cons rfl .nil)
    have I := inv_start (CX := CX) (E := E) S room.hd e2 rfl r2 ic
    refine ⟨free.keeps ic.toInCall.keep, codeAny_func (wpAny_mono (pss.run [] s1 (start N [v, .ref s.heap.objs.size]) _ _ I rd) ?_ fun e s2 z => ?_)⟩
    · intro fl s2 got
      cases fl with
      | next => obtain ⟨_, H2, J, q⟩ := got; exact ⟨.non, H2, J.os, J.bare, un.trans J.base, J.hok, rfl, q⟩
      | ret u => obtain ⟨v, _, H2, J, r, q⟩ := got; exact ⟨v, H2, J.os, J.bare, un.trans J.base, J.hok, r, q⟩
      | brk => obtain ⟨_, _, _, q⟩ := got; exact False.elim q
      | cont => obtain ⟨_, _, _, q⟩ := got; exact False.elim q
    · exact wpAny_mono z (fun _ s3 y => hCX out s H _ _ rest E e s3 kp (Nat.le_refl _) hn y) fun e' s3 y => hCX out s H _ _ rest E e' s3 kp (Nat.le_refl _) hn y
end
end Tx

namespace Tx
open PySem PySem.Spec PyProof.Rows L2
/-! ## C.m(..) by a classmethod with a star parameter; a class called by a local name -/
def spV (K : PySem.W.Frag) (sp : DSp) : Sp := fun vs H Q E => ∃ v rest, vs = v :: rest ∧ rest.length ≤ 5 ∧ ∀ p, H p = none → spD K sp [v, .ref p] (upd H p (.tup rest)) Q E
def Vfn (P : Program) (w : World) (K : PySem.W.Frag) (mg : Str → Option Value) (base : Heap) (CX : CXT) (k : Nat) (C : Addr) (m : Str) (sp : DSp) : Prop := ∃ mc p g, ClX.CRead K C mc ∧ ClX.CMet K C mc m p g ∧ FnV P w K mg base CX k g (spV K sp)
def HasV (K : PySem.W.Frag) (C : Addr) (m qual : Str) (st : Stmt) : Prop := ∃ mc p g fd, ClX.CRead K C mc ∧ ClX.CMet K C mc m p g ∧ Fun K m qual st g fd
def BindsV (x qual : Str) (st : Stmt) (pa pv : Str) : Prop := ∀ (kV doc pm : Value) (an : Option Addr) (cdv ct : Value) (u : Value) (rest : List Value), rest.length ≤ 5 →
  bindArgs (PySem.W.fnOf x qual (defArgs st) (defBody st) (defScope st) .none kV doc pm an cdv ct) ⟨u :: rest, []⟩ = (newTuple rest >>= fun t => pure [(pa, u), (pv, t)])
section
variable {P : Program} {w : World} {K : PySem.W.Frag} {mg : Str → Option Value} {base : Heap} {k : Nat} {C : Addr} {m qual : Str} {N : List Str} {pa pv : Str} {sp : DSp} {st : Stmt}
theorem vfnDX (h : HasV K C m qual st) (B : Bi mg) (S : FnScope N [pa, pv] (defScope st)) (bd : BindsV m qual st pa pv)
    (body : ∀ (f : Addr) (cv : Value) (A : Around) (out : List Env) (s : Shared) (H : Hp) (E : XK), Ct mg (A.deeper (envOfC qual (defScope st) s.heap.objs.size f cv)) k →
      ∃ td, DSs (fun cl d _ H => E cl d H) (cxOf (L2.CX P w) P w K mg base N qual (defScope st) f cv A out s H E) K (defBody st) td ∧ ∀ ts ω q xx, sp ts ω q xx → td (endsD q xx) (startD N ts) ω) :
    Vfn P w K mg base (L2.CX P w) (k + 1) C m sp := by
  obtain ⟨mc, p, g, fd, r, c, F⟩ := h
  refine ⟨mc, p, g, r, c, okV (k := k) F S ?_ cx_new ?_⟩
  · obtain ⟨_, _, kV, doc, pm, an, cdv, ct, _, rfl, _, _⟩ := F.ex
    exact fun u rest hl => bd kV doc pm an cdv ct u rest hl
  intro cv A out s H vs Q E room gd ask
  obtain ⟨J, ω, ts, q, xx, w, r, cq, cx, z⟩ := ask
  obtain ⟨td, ⟨t, p, kk⟩, hb⟩ := body g cv A out s H E ⟨B, room, gd⟩
  exact ⟨t, p, kk _ _ _ H J ω _ w (sl_start r) ⟨fun _ _ _ _ _ z g w _ => cq _ _ _ _ _ z g w .non, fun _ _ _ _ _ z _ _ _ => False.elim z, fun _ _ _ _ _ z _ _ _ => False.elim z, cq, fun C fs _ ω' d _ J' H' z g w _ x => cx C fs ω' d J' H' z g w x⟩ (hb ts ω q xx z)⟩
end
def dCM (C : Addr) (sp : DSp) (ta : DTA) (ρ : DS) (ω : Wd) (q : DQ) (x : DXK) : Prop := ta ρ ω (fun ts ω1 => ts.length ≤ 5 ∧ sp [refD C, .tuple ts] ω1 q x) x
def dMakeL (i : Nat) (C : Addr) (sp : DSp) (ta : DTA) (ρ : DS) (ω : Wd) (q : DQ) (x : DXK) : Prop := ρ[i]? = some (some (refD C)) ∧ dMake C sp ta ρ ω q x
section
variable {W : WX} {X : Cx} {K : PySem.W.Frag} {CX : CXT} {j k : Nat} {C : Addr} {m : Str} {sp : DSp} {o e : Expr} {es : List Expr} {tA : DTA} {t : TA} {apos pos p : Pos} {ps : List Str} {x : Str}
theorem pe_cmethG {pl : Sem Bool} {E : L2.St → XK} (he : PE X o (tC (.ref C))) (V : Vfn X.prog X.w X.K X.mg X.base CX k C m sp) (hr : Room k X.A) (gd : X.A.guards = some []) (hx : ∀ σ, PassesAt CX X σ (E σ)) (ha : PA X (e :: es) t)
    (hst : starEach (e :: es) X.env = (false, eval e X.env) :: starEach es X.env := by rfl) (hpl : (backTo pos (starEach es X.env)).any (·.1) = false := by rfl)
    (ht : eval (.Call (.Attribute o m apos) (e :: es) [] pos) X.env = (do
      let ov ← eval o X.env
      standAt apos.atName
      let (f, first) ← holding [ov] (getMethod ov m pl)
      callWith pos f first (backTo pos (starEach (e :: es) X.env)) (backToKw pos (keywordEach [] X.env))) := by rfl) :
    PE X (.Call (.Attribute o m apos) (e :: es) [] pos) (fun σ H Q => t σ H fun vs H2 => spV X.K sp (.ref C :: vs) H2 Q (E σ)) := by
  obtain ⟨mc, p, g, r, c, F⟩ := V
  refine ⟨fun pins s σ H Q I h => ?_⟩
  refine PySem.W.methodCall_KW (pl := pl) (thn (he.run pins s σ H (fun v H1 => v = .ref C ∧ t σ H1 fun vs H2 => spV X.K sp (.ref C :: vs) H2 Q (E σ)) I ⟨rfl, h⟩) fun u s1 ⟨x, H1, I1, rx, ex, q⟩ => ?_) ht
  subst ex
  obtain rfl : u = Value.ref C := rx
  refine ClX.getmethcm_ok I1 r c fun s2 I2 => ?_
  refine ClX.callwith_cm I2 (ClX.base_none I1 (Nat.le_refl _)) c.fi (thn (ha.run pos _ s2 σ H1 _ I2 q) fun us s3 ⟨vs, H2, I3, rv, q2⟩ => ⟨⟨ClX.pin_at I3, I3.kIn⟩, ?_⟩) hst hpl
  have zz : wpAny (model X.prog X.w) X.A (call (.ref s1.heap.objs.size) us) (EP X ((s1.heap.objs.size, PySem.W.methodObj (.ref g) (.ref C)) :: pins) σ Q) X.xe s3 := by
    refine wpAny_call (PySem.W.method_call (ClX.pin_at I3) (codeAny_mono (F.run X.A X.stack s3 H2 (.ref C :: us) (.ref C :: vs) Q (E σ) hr gd I3.env0 (.cons rfl rv) q2) ?_))
    intro r s4 got
    match r, got with
    | .ok (.ret u), got => exact I3.after got
    | .ok .next, got => exact False.elim got
    | .ok .brk, got => exact False.elim got
    | .ok .cont, got => exact False.elim got
    | .error er, got => exact hx σ _ H2 s3 er s4 I3 got
  exact thn zz fun _ _ y => ClX.unpinE y
theorem de_cmeth {pl : Sem Bool} (hK : X.K = K) (he : PE X o (tC (.ref C))) (V : Vfn X.prog X.w X.K X.mg X.base CX j C m sp) (c : Ct X.mg X.A k) (h : j ≤ k) (px : PX CX X W) (args : DAs W X K (e :: es) tA)
    (hst : starEach (e :: es) X.env = (false, eval e X.env) :: starEach es X.env := by rfl) (hpl : (backTo pos (starEach es X.env)).any (·.1) = false := by rfl)
    (ht : eval (.Call (.Attribute o m apos) (e :: es) [] pos) X.env = (do
      let ov ← eval o X.env
      standAt apos.atName
      let (f, first) ← holding [ov] (getMethod ov m pl)
      callWith pos f first (backTo pos (starEach (e :: es) X.env)) (backToKw pos (keywordEach [] X.env))) := by rfl) :
    DE W X K (.Call (.Attribute o m apos) (e :: es) [] pos) (dCM C sp tA) := by
  subst hK
  obtain ⟨t, pp, kk⟩ := args
  refine ⟨_, pe_cmethG (E := fun σ cl d H => W cl d σ H) he V (c.r.mono h) c.g px pp hst hpl ht, fun σ H J ω ρ q x Q w s cq cx z => kk σ H J ω ρ _ x _ w s (fun ts ω1 vs J1 H1 z1 g1 w1 rps => ?_) cx z⟩
  refine ⟨.ref C, vs, rfl, by rw [rps.length]; exact z1.1, fun p hp => ?_⟩
  have g2 := g1.trans (Grow.frz w1 hp (.tup vs))
  exact ⟨_, ω1, _, q, x, w1.frz hp _, .cons (.ref C) (.cons (.tup (SqT.of upd_same) (rpAll_mono (same_new (w1.jh.free hp) _) _ _ rps)) .nil), cq.step g2, cx.step g2, z1.2⟩
theorem pe_makeL {i : Nat} {y : Str} {sp : Sp} {E : L2.St → XK} (c : ClsD X.K X.mg y C) (M : Mfn X.prog X.w X.K X.mg X.base CX k C "__init__" ps sp) (hr : Room (k + 1) X.A) (gd : X.A.guards = some []) (hN : X.N[i]? = some x) (hv : Vis X.env.scope x) (hx : ∀ σ, PassesAt CX X σ (E σ)) (ha : PA X (e :: es) t)
    (hdb : (x == ("__debug__" : Str)) = false := by decide) (hcd : (x == ("__classdict__" : Str)) = false := by decide) (he : starEach (e :: es) X.env = (false, eval e X.env) :: starEach es X.env := by rfl) (hpl : (backTo pos (starEach es X.env)).any (·.1) = false := by rfl) :
    PE X (.Call (.Name x p) (e :: es) [] pos) (fun σ H Q => σ[i]? = some (some (.ref C)) ∧ tMakeS C sp E t σ H Q) := by
  obtain ⟨f, fd, F, hm, hb⟩ := M
  constructor
  intro pins s00 σ H00 Q I00 ⟨hs, h0⟩
  refine wpAny_Call_Name_kw (thn ((pe_var (pos := p) hN hv hdb hcd).run pins s00 σ H00 (fun v H1 => v = .ref C ∧ H1 = H00) I00 ⟨.ref C, hs, rfl, rfl⟩) fun u0 s0 ⟨v0, H0, I0, r0, q0⟩ => ?_)
  obtain ⟨rfl, rfl⟩ := q0
  cases r0
  refine PySem.W.callWith_K (h₀ := X.base) I0.ok.mod.kin c.kp (thn (ha.run pos pins s0 σ _ _ I0 h0) fun us s ⟨vs, H, I, r, h⟩ => ⟨I.kIn, ?_⟩) he hpl
  have hq := h (s.heap.objs.size + 1) s.heap.objs.size (I.hok.fresh (Nat.le_succ _)) (I.hok.fresh (Nat.le_refl _)) (Nat.ne_of_lt (Nat.lt_succ_self _))
  have I2 := Inv.made (C := C) I
  have r2 : Vals (V.ref (s.heap.objs.size + 1) :: vs) (Value.ref (s.heap.objs.size + 1) :: us) := .cons rfl r
  have hl : ((Value.ref (s.heap.objs.size + 1) :: us) ++ []).length = ps.length := by
    rw [List.append_nil, ← r2.length]
    exact F.len _ _ _ _ hq
  have b := hb _ (Value.ref (s.heap.objs.size + 1) :: us) I2.kIn hl
  rw [List.append_nil] at b
  refine wpAny_call (make_map (f := f) I.kIn c.mks hm.at_ (beq_iff_eq.mp hm.fn) (codeAny_mono (F.run _ X.stack _ _ ⟨Value.ref (s.heap.objs.size + 1) :: us, []⟩ (Value.ref (s.heap.objs.size + 1) :: us) _ _ (E σ) (hr.make C us []) gd
    (I2.env0.make C us []) b r2 hq) ?_))
  intro r s' got
  match r, got with
  | .ok (.ret u), got =>
    obtain ⟨v, H', I3, rv, ev, q3⟩ := I2.after got
    subst ev
    exact ⟨rv, ⟨V.ref (s.heap.objs.size + 1), H', I3, rfl, q3⟩⟩
  | .ok .next, got => exact False.elim got
  | .ok .brk, got => exact False.elim got
  | .ok .cont, got => exact False.elim got
  | .error er, got => exact hx σ pins _ _ er s' I2 got
theorem de_makeL {i : Nat} {y : Str} (hK : X.K = K) (cl : ClsD K X.mg y C) (M : Mfn X.prog X.w X.K X.mg X.base CX j C "__init__" ps (spD K sp)) (c : Ct X.mg X.A k) (h : j + 1 ≤ k) (hN : X.N[i]? = some x) (hv : Vis X.env.scope x) (px : PX CX X W) (args : DAs W X K (e :: es) tA)
    (hdb : (x == ("__debug__" : Str)) = false := by decide) (hcd : (x == ("__classdict__" : Str)) = false := by decide) (he : starEach (e :: es) X.env = (false, eval e X.env) :: starEach es X.env := by rfl) (hpl : (backTo pos (starEach es X.env)).any (·.1) = false := by rfl) :
    DE W X K (.Call (.Name x p) (e :: es) [] pos) (dMakeL i C sp tA) := by
  subst hK
  obtain ⟨t, pp, kk⟩ := args
  refine ⟨_, pe_makeL (E := fun σ cl d H => W cl d σ H) cl M (c.r.mono h) c.g hN hv px pp hdb hcd he hpl, fun σ H J ω ρ q x Q w s cq cx z => ?_⟩
  obtain ⟨v, e1, r1⟩ := s.2 i _ z.1
  obtain rfl := rp_ref r1
  refine ⟨e1, kk σ H J ω ρ _ x _ w s (fun ts ω1 vs J1 H1 z1 g1 w1 rps => ?_) cx z.2⟩
  intro a dx ha hd ne
  have w2 := w1.junk hd (.own a)
  have ha2 : upd H1 dx (.own a) a = none := by rw [upd_ne (Ne.symm ne)]; exact ha
  have w3 := w2.own (m := .ins C dx []) (o := .ins C dx []) rfl ha2 ⟨[], upd_same, .nil⟩
  have g3 : Grow J H ω J1 (upd (upd H1 dx (.own a)) a (.ins C dx [])) (updW ω1 a (.ins C dx [])) := (g1.trans (Grow.junk hd _)).trans (Grow.own rfl ha2 _)
  refine ⟨J1, _, _, _, x, w3, .cons (.ref a) rps, fun r ω' v J' H' z' g' w' rp => ?_, cx.step g3, z1 a dx (w1.free ha).1⟩
  obtain ⟨rfl, z'⟩ := z'
  cases rp
  exact ⟨rfl, (cq.step g3) _ _ _ _ _ z' g' w' (.ref a)⟩
end
end Tx

namespace Tx
open PySem PySem.Spec PyProof.Rows L2
/-! ## Scopes: values that are data for some statements, and cells again behind them -/
structure Rt where
  a : Addr
  N : Hp
  d : PyData
def delR (ω : Wd) : List Rt → Wd
  | [] => ω
  | r :: rs => delR (delW ω r.a) rs
def joinR (J : Hp) : List Rt → Hp
  | [] => J
  | r :: rs => joinR (join J r.N) rs
def Rts (ω : Wd) : List Rt → Prop
  | [] => True
  | r :: rs => ω r.a = some (.tmp r.N r.d) ∧ Rts (delW ω r.a) rs
def flatD : PyData → Bool
  | .none => true
  | .bool _ => true
  | .int _ => true
  | .str _ => true
  | .dict [(.int _, .none)] => true
  | _ => false
def MO.flat : MO → Bool
  | .bag => true
  | .tmp _ _ => true
  | .lst ds => ds.all flatD
  | .ins _ _ fs => fs.all fun p => flatD p.2
  | .xd fs => fs.all fun p => flatD p.2
  | .ent _ _ _ _ ds => ds.all flatD
section
variable {K : PySem.W.Frag} {J J1 H H1 : Hp} {ω ω1 : Wd} {v : V} {d : PyData}
theorem rp_fl (f : flatD d = true) (h : Rp K J v d) : Rp K J1 v d := by
  cases h with
  | non => exact .non
  | bl b => exact .bl b
  | int i => exact .int i
  | str x => exact .str x
  | ref a => exact .ref a
  | lst _ _ => cases f
  | tup _ _ => cases f
  | scr _ => cases f
  | pub _ => cases f
theorem rpAll_fl : ∀ {ds : List PyData} {vs : List V}, ds.all flatD = true → RpAll K J vs ds → RpAll K J1 vs ds
  | [], _, _, h => by cases h; exact .nil
  | d :: ds, _, f, h => by
    simp only [List.all_cons, Bool.and_eq_true] at f
    cases h with
    | cons h1 h2 => exact .cons (rp_fl f.1 h1) (rpAll_fl f.2 h2)
theorem rpF_fl : ∀ {fs : List (Str × PyData)} {gs : List (Str × V)}, (fs.all fun p => flatD p.2) = true → RpF K J gs fs → RpF K J1 gs fs
  | [], _, _, h => by cases h; exact .nil
  | d :: ds, _, f, h => by
    simp only [List.all_cons, Bool.and_eq_true] at f
    cases h with
    | cons h1 h2 => exact .cons ⟨h1.1, rp_fl f.1 h1.2⟩ (rpF_fl f.2 h2)
theorem Cell.flat {a : Addr} {m : MO} (f : m.flat = true) (c : Cell K J H a m) : Cell K J1 H a m := by
  cases m with
  | lst ds => obtain ⟨vs, e, r⟩ := c; exact ⟨vs, e, rpAll_fl f r⟩
  | bag => exact c
  | ins C dx fs => obtain ⟨vs, e, r⟩ := c; exact ⟨vs, e, rpF_fl f r⟩
  | xd fs => obtain ⟨vs, e, r⟩ := c; exact ⟨vs, e, rpF_fl f r⟩
  | tmp N d => exact c
  | ent C dx p f' ds => obtain ⟨e1, vs, e, r⟩ := c; exact ⟨e1, vs, e, rpAll_fl f r⟩
theorem thaw_all : ∀ {rs : List Rt} {J : Hp} {ω : Wd}, Rw K J H ω → Rts ω rs → Rw K (joinR J rs) H (delR ω rs) ∧ Grow J H ω (joinR J rs) H (delR ω rs) ∧ ∀ r ∈ rs, Same r.N (joinR J rs) ∧ ω r.a = some (.tmp r.N r.d)
  | [], J, ω, w, _ => ⟨w, Grow.refl, fun _ h => nomatch h⟩
  | r :: rs, J, ω, w, h => by
    obtain ⟨i1, i2, i3⟩ := thaw_all (rw_thaw w h.1) h.2
    refine ⟨i1, (grow_thaw w h.1).trans i2, fun x hx => ?_⟩
    cases hx with
    | head => exact ⟨fun b o e => i2.jj b o (join_some e), h.1⟩
    | tail _ hx => exact ⟨(i3 x hx).1, (delW_some (i3 x hx).2).1⟩
theorem dict_at {l : List (PyData × PyData)} {v v' : V} (h : Rp K J v (.dict l)) (h' : Rp K J1 v' (.dict l)) : v = v' := by
  cases h with
  | ref a => cases h' with
    | ref b => rfl
  | scr _ => 
    generalize e : PyData.dict _ = x at h'
    cases h' with
    | ref b => cases e
    | scr _ =>
      have e1 := PyData.dict.inj e
      simp only [List.cons.injEq, Prod.mk.injEq, PyData.int.injEq, and_true] at e1
      rw [Int.ofNat_inj.mp e1.1]
    | pub _ => cases e
    | _ => cases e
  | pub _ =>
    generalize e : PyData.dict _ = x at h'
    cases h' with
    | ref b => cases e
    | scr _ => cases e
    | pub _ => cases e; rfl
    | _ => cases e
theorem pub_at {a : Addr} (h : Rp K J v (pubD a d)) : v = .ref a ∧ Rp K J (.ref a) d := by
  generalize e : pubD a d = x at h
  cases h with
  | pub h => cases e; exact ⟨rfl, h⟩
  | _ => cases e
end
structure Bs where
  ρ : DS
  ω : Wd
  rs : List Rt
def PubS (rs : List Rt) (ρ ρ' : DS) : Prop := ρ'.length = ρ.length ∧ ∀ (i : Nat) (d : PyData), ρ'[i]? = some (some d) → ρ[i]? = some (some d) ∨ ∃ r ∈ rs, d = pubD r.a r.d ∧ ρ[i]? = some (some (refD r.a))
def KeptS (b : Bs) (ρ' ρ2 : DS) : Prop := ρ2.length = ρ'.length ∧ ∀ (i : Nat) (d : PyData), ρ2[i]? = some (some d) → (ρ'[i]? = some (some d) ∧ flatD d = true) ∨ (ρ'[i]? = some (some d) ∧ b.ρ[i]? = some (some d) ∧ ∃ l, d = .dict l) ∨ ∃ r ∈ b.rs, d = refD r.a ∧ ρ'[i]? = some (some (pubD r.a r.d))
def KeptW (b : Bs) (ω' ω2 : Wd) : Prop := ∀ c m, ω2 c = some m → (ω' c = some m ∧ m.flat = true) ∨ ∃ r ∈ b.rs, c = r.a ∧ m = .tmp r.N r.d
structure BOk (K : PySem.W.Frag) (b : Bs) (J0 H0 : Hp) (σ0 : L2.St) (J H : Hp) (ω : Wd) : Prop where
  w0 : Rw K J0 H0 b.ω
  rt : Rts b.ω b.rs
  sl : Sl K J0 σ0 b.ρ
  gr : Grow (joinR J0 b.rs) H0 (delR b.ω b.rs) J H ω
section
variable {K : PySem.W.Frag} {b : Bs} {J0 H0 J H : Hp} {σ0 σ : L2.St} {ω ω2 : Wd} {ρ ρ2 : DS}
theorem BOk.grow (h : BOk K b J0 H0 σ0 J H ω) : Grow J0 H0 b.ω J H ω := (thaw_all h.w0 h.rt).2.1.trans h.gr
theorem BOk.step {J1 H1 : Hp} {ω1 : Wd} (h : BOk K b J0 H0 σ0 J H ω) (g : Grow J H ω J1 H1 ω1) : BOk K b J0 H0 σ0 J1 H1 ω1 := ⟨h.w0, h.rt, h.sl, h.gr.trans g⟩
theorem BOk.back (h : BOk K b J0 H0 σ0 J H ω) (w : Rw K J H ω) (s : Sl K J σ ρ) (k : KeptS b ρ ρ2) (kw : KeptW b ω ω2) : Rw K J0 H ω2 ∧ Sl K J0 σ ρ2 ∧ Grow J0 H0 b.ω J0 H ω2 := by
  obtain ⟨t1, t2, t3⟩ := thaw_all h.w0 h.rt
  have j0 : ∀ c, J c = none → J0 c = none := fun c e => by
    cases q : J0 c with
    | none => rfl
    | some o => rw [h.grow.jj c o q] at e; cases e
  have nj : ∀ r ∈ b.rs, ∀ c, r.N c ≠ none → J c ≠ none := fun r hr c n => by
    cases q : r.N c with
    | none => exact absurd q n
    | some o => rw [h.gr.jj c o ((t3 r hr).1 c o q)]; simp
  have ra : ∀ r ∈ b.rs, r.N r.a ≠ none := fun r hr => (h.w0.cell r.a _ (t3 r hr).2).2.2
  refine ⟨⟨fun c o e => w.jh c o (h.grow.jj c o e), fun c m e => ?_, fun c m e => ?_, fun c m e b' pb => ?_⟩, ⟨by rw [k.1]; exact s.1, fun i d e => ?_⟩, ⟨Same.refl _, h.grow.dom, h.grow.keep, fun _ _ _ z => z, fun c hc z => ?_⟩⟩
  · rcases kw c m e with ⟨e1, _⟩ | ⟨r, hr, rfl, rfl⟩
    · exact j0 c (w.out c m e1)
    · exact h.w0.out _ _ (t3 r hr).2
  · rcases kw c m e with ⟨e1, f⟩ | ⟨r, hr, rfl, rfl⟩
    · exact (w.cell c m e1).flat f
    · obtain ⟨_, c2, c3⟩ := h.w0.cell r.a _ (t3 r hr).2
      exact ⟨fun c o e => w.jh c o (h.gr.jj c o ((t3 r hr).1 c o e)), c2, c3⟩
  · rcases kw c m e with ⟨e1, f⟩ | ⟨r, hr, rfl, rfl⟩
    · obtain ⟨p1, p2, p3⟩ := w.tmp c m e1 b' pb
      refine ⟨j0 b' p1, fun ne => ?_, fun c' m' nc ec => ?_⟩
      · cases q : ω2 b' with
        | none => rfl
        | some m2 =>
          rcases kw b' m2 q with ⟨y, _⟩ | ⟨r, hr, rfl, rfl⟩
          · rw [p2 ne] at y; cases y
          · exact absurd p1 (nj r hr _ (ra r hr))
      · rcases kw c' m' ec with ⟨y, _⟩ | ⟨r, hr, rfl, rfl⟩
        · exact p3 c' m' nc y
        · exact fun z => nj r hr b' z p1
    · obtain ⟨p1, p2, p3⟩ := h.w0.tmp r.a _ (t3 r hr).2 b' pb
      refine ⟨p1, fun ne => ?_, fun c' m' nc ec => ?_⟩
      · cases q : ω2 b' with
        | none => rfl
        | some m2 =>
          rcases kw b' m2 q with ⟨y, _⟩ | ⟨r', hr', rfl, rfl⟩
          · exact absurd (w.out b' _ y) (nj r hr _ pb)
          · have := (t3 r' hr').2
            rw [p2 ne] at this
            cases this
      · rcases kw c' m' ec with ⟨y, _⟩ | ⟨r', hr', rfl, rfl⟩
        · exact fun z => nj r hr b' pb (w.tmp c' m' y b' z).1
        · exact p3 _ _ nc (t3 r' hr').2
  · rcases k.2 i d e with ⟨e1, f⟩ | ⟨e1, e2, l, rfl⟩ | ⟨r, hr, rfl, e1⟩
    · obtain ⟨v, h1, h2⟩ := s.2 i d e1
      exact ⟨v, h1, rp_fl f h2⟩
    · obtain ⟨v, h1, h2⟩ := s.2 i _ e1
      obtain ⟨v0, g1, g2⟩ := h.sl.2 i _ e2
      exact ⟨v, h1, dict_at g2 h2 ▸ g2⟩
    · obtain ⟨v, h1, h2⟩ := s.2 i _ e1
      obtain ⟨rfl, _⟩ := pub_at h2
      exact ⟨_, h1, .ref _⟩
  · have z1 := h.grow.frw c hc z
    refine ⟨?_, fun c' m' ec => ?_⟩
    · cases q : ω2 c with
      | none => rfl
      | some m =>
        rcases kw c m q with ⟨y, _⟩ | ⟨r, hr, rfl, rfl⟩
        · rw [z1.1] at y; cases y
        · have := (t3 r hr).2
          rw [z.1] at this
          cases this
    · rcases kw c' m' ec with ⟨y, _⟩ | ⟨r, hr, rfl, rfl⟩
      · exact z1.2 c' m' y
      · exact z.2 _ _ (t3 r hr).2
end
structure DSc (W : WX) (X : Cx) (K : PySem.W.Frag) (st : List Stmt) (td : Bs → DTS) : Prop where
  ex : ∃ t : TS, PSs X st t ∧ ∀ b D DD σ H J ω ρ J0 H0 σ0, Rw K J H ω → Sl K J σ ρ → BOk K b J0 H0 σ0 J H ω → CovS K J0 H0 b.ω W DD D → td b DD ρ ω → t D σ H
def dEnd (u : DTS) (b : Bs) (D : DEnds) (ρ : DS) (ω : Wd) : Prop := (∀ r ∈ b.rs, ω r.a = none) → ∃ ρ2 ω2, KeptS b ρ ρ2 ∧ KeptW b ω ω2 ∧ u D ρ2 ω2
def dBegin (u : Bs → DTS) (D : DEnds) (ρ : DS) (ω : Wd) : Prop := ∃ rs ρ', Rts ω rs ∧ PubS rs ρ ρ' ∧ u ⟨ρ, ω, rs⟩ D ρ' (delR ω rs)
def dSeqB (t : DTS) (u : Bs → DTS) (b : Bs) : DTS := dSeq t (u b)
def dPub (te : DTE) (ρ : DS) (ω : Wd) (q : DQ) (x : DXK) : Prop := te ρ ω (fun r ω1 => ∃ d, (r = d ∨ ∃ a, r = pubD a d) ∧ q d ω1) x
section
variable {W : WX} {X : Cx} {K : PySem.W.Frag} {st : Stmt} {rest : List Stmt} {t u : DTS} {ub : Bs → DTS} {e : Expr} {te : DTE}
theorem dsc_cons (h : DSt W X K st t) (hs : DSc W X K rest ub) : DSc W X K (st :: rest) (dSeqB t ub) := by
  obtain ⟨r, p, k⟩ := h
  obtain ⟨r2, p2, k2⟩ := hs
  refine ⟨_, pss_cons p p2, fun b D DD σ H J ω ρ J0 H0 σ0 w s bo cs z => ?_⟩
  have cs1 := cs.step bo.grow
  refine k { D with nx := r2 D } { DD with nx := ub b DD } σ H J ω ρ w s ⟨fun ρ' ω' σ' J' H' z' g' w' s' => ?_, cs1.bk, cs1.ct, cs1.rt, cs1.xc⟩ z
  exact k2 b D DD σ' H' J' ω' ρ' J0 H0 σ0 w' s' (bo.step g') cs z'
theorem dsc_end (h : DSs W X K rest u) : DSc W X K rest (dEnd u) := by
  obtain ⟨r, p, k⟩ := h
  refine ⟨_, p, fun b D DD σ H J ω ρ J0 H0 σ0 w s bo cs z => ?_⟩
  obtain ⟨ρ2, ω2, ks, kw, z⟩ := z fun r hr => by
    obtain ⟨t1, t2, t3⟩ := thaw_all bo.w0 bo.rt
    have ra := (bo.w0.cell r.a _ (t3 r hr).2).2.2
    cases q : ω r.a with
    | none => rfl
    | some m =>
      have e := w.out r.a m q
      cases q2 : r.N r.a with
      | none => exact absurd q2 ra
      | some o => rw [bo.gr.jj _ o ((t3 r hr).1 _ o q2)] at e; cases e
  obtain ⟨w2, s2, g2⟩ := bo.back w s ks kw
  exact k D DD σ H J0 ω2 ρ2 w2 s2 (cs.step g2) z
theorem dss_begin (h : DSc W X K rest ub) : DSs W X K rest (dBegin ub) := by
  obtain ⟨r, p, k⟩ := h
  refine ⟨_, p, fun D DD σ H J ω ρ w s cs z => ?_⟩
  obtain ⟨rs, ρ', rt, ps, z⟩ := z
  obtain ⟨t1, t2, t3⟩ := thaw_all w rt
  refine k ⟨ρ, ω, rs⟩ D DD σ H _ _ ρ' J H σ t1 ⟨by rw [ps.1]; exact s.1, fun i d e => ?_⟩ ⟨w, rt, s, Grow.refl⟩ cs z
  rcases ps.2 i d e with e1 | ⟨r, hr, rfl, e1⟩
  · obtain ⟨v, h1, h2⟩ := s.2 i d e1
    exact ⟨v, h1, rp_mono t2.jj _ _ h2⟩
  · obtain ⟨v, h1, h2⟩ := s.2 i _ e1
    obtain rfl := rp_ref h2
    exact ⟨_, h1, .pub (rp_mono (t3 r hr).1 _ _ (w.cell r.a _ (t3 r hr).2).2.1)⟩
theorem de_pub (h : DE W X K e te) : DE W X K e (dPub te) := by
  obtain ⟨r, p, k⟩ := h
  refine ⟨r, p, fun σ H J ω ρ q x Q w s cq cx z => k σ H J ω ρ _ x Q w s (fun v ω1 u J1 H1 z1 g1 w1 rp => ?_) cx z⟩
  obtain ⟨d, e1, z1⟩ := z1
  rcases e1 with rfl | ⟨a, rfl⟩
  · exact cq _ _ _ _ _ z1 g1 w1 rp
  · obtain ⟨rfl, r2⟩ := pub_at rp
    exact cq _ _ _ _ _ z1 g1 w1 r2
end
end Tx

namespace Tx
open PySem PySem.Spec PyProof.Rows L2
/-! ## Entries: what the class has, what the methods promise -/
/-- a class of the text, called x, its one field f: what the written part says of it -/
structure OC (K : PySem.W.Frag) (mg : Str → Option Value) (x f : Str) (C : Addr) : Prop where
  cd : ClsD K mg x C
  na : NoAttr K C f
  badd : OwnBin K C "add"
  rn : RightT K C "add" "NoneType"
  rs : RightT K C "add" "str"
  rl : RightT K C "add" "list"
  ne : PySem.W.findIn K (.ref C) "__ne__" = some (some (.builtin "object.__ne__"))
  sub : PySem.W.subIn K (.ref C) (.type "object") = some true
  nq : PySem.W.noSeq K C = true
  ha : PySem.W.findIn K (.ref C) "__class__" = some (some (.builtin "object.__class__"))
  hn : PySem.W.specialIn K (.builtin "object.__class__") "__get__" = some (some (.builtin "getset_descriptor.__get__"))
  htk : PySem.W.takesIn K (.builtin "object.__class__") = some true
  hm : PySem.W.mroIn K C (.type "object") = some true
  kc : PySem.W.kitOne K (.ref C) (.ref C) = some true
  kn : PySem.W.kitOne K (.type "NoneType") (.ref C) = some false
  ks : PySem.W.kitOne K (.type "str") (.ref C) = some false
  kl : PySem.W.kitOne K (.type "list") (.ref C) = some false
theorem oc_of {K : PySem.W.Frag} {mg : Str → Option Value} {x f : Str} {C : Addr} {o1 o2 o3 o4 o5 o6 o7 : Option Value} (cd : ClsD K mg x C) (na : PySem.W.findIn K (.ref C) f = some none) (sf : PySem.W.selfFirst K C = true) (ra : PySem.W.findIn K (.ref C) (dunderR "add") = some o7) (ra2 : o7 = none ∨ ∃ g : Addr, o7 = some (.ref g))
    (n1 : PySem.W.findIn K (.type "NoneType") (PySem.dunder "add") = some o1) (n2 : PySem.W.findIn K (.type "NoneType") (dunderR "add") = some o2) (n3 : PySem.W.subIn K (.type "NoneType") (.ref C) = some false)
    (s1 : PySem.W.findIn K (.type "str") (PySem.dunder "add") = some o3) (s2 : PySem.W.findIn K (.type "str") (dunderR "add") = some o4) (s3 : PySem.W.subIn K (.type "str") (.ref C) = some false)
    (l1 : PySem.W.findIn K (.type "list") (PySem.dunder "add") = some o5) (l2 : PySem.W.findIn K (.type "list") (dunderR "add") = some o6) (l3 : PySem.W.subIn K (.type "list") (.ref C) = some false)
    (ne : PySem.W.findIn K (.ref C) "__ne__" = some (some (.builtin "object.__ne__"))) (sub : PySem.W.subIn K (.ref C) (.type "object") = some true) (nq : PySem.W.noSeq K C = true)
    (ha : PySem.W.findIn K (.ref C) "__class__" = some (some (.builtin "object.__class__"))) (hn : PySem.W.specialIn K (.builtin "object.__class__") "__get__" = some (some (.builtin "getset_descriptor.__get__"))) (htk : PySem.W.takesIn K (.builtin "object.__class__") = some true)
    (hm : PySem.W.mroIn K C (.type "object") = some true) (kc : PySem.W.kitOne K (.ref C) (.ref C) = some true) (kn : PySem.W.kitOne K (.type "NoneType") (.ref C) = some false) (ks : PySem.W.kitOne K (.type "str") (.ref C) = some false) (kl : PySem.W.kitOne K (.type "list") (.ref C) = some false) : OC K mg x f C :=
  ⟨cd, na, ⟨sf, _, ra, ra2⟩, ⟨⟨_, n1⟩, ⟨_, n2⟩, n3⟩, ⟨⟨_, s1⟩, ⟨_, s2⟩, s3⟩, ⟨⟨_, l1⟩, ⟨_, l2⟩, l3⟩, ne, sub, nq, ha, hn, htk, hm, kc, kn, ks, kl⟩
/-- the entries that a value means -/
def meantD : PyData → List PyData
  | .str x => [.str x]
  | .list ds => ds
  | _ => []
def Ent (C : Addr) (ω : Wd) (a : Addr) (ds : List PyData) : Prop := ∃ dx p, ω a = some (.ent C dx p "rows" ds)
def Src (C : Addr) (ω : Wd) (t : PyData) (ds : List PyData) : Prop := (isVal t = true ∧ ds = meantD t) ∨ ∃ a dx p, t = refD a ∧ ω a = some (.ent C dx p "rows" ds)
abbrev Lot (ds : List PyData) : Prop := Val 20 1000000 (.list ds)
theorem Lot.len {ds : List PyData} (h : Lot ds) : ds.length ≤ 1000000 := by
  have := h.size
  have := len_le_szAll ds
  simp only [szD] at *
  omega
theorem Lot.len2 {ds : List PyData} (h : Lot ds) : ds.length ≤ sizeLine := Nat.le_trans h.len (by decide)
theorem Lot.get {ds : List PyData} (h : Lot ds) {i : Nat} {d : PyData} (e : ds[i]? = some d) : isVal d = true ∧ d.depth < 30 ∧ szD d ≤ 1000000 := by
  have v := h.item (List.mem_of_getElem? e)
  exact ⟨v.val, by have := v.deep; omega, by have := v.size; omega⟩
/-- a new list of one's own -/
def NewL (ω : Wd) (ds : List PyData) (q : DQ) : Prop := ∀ r, ω r = none → q (refD r) (updW ω r (.lst ds))
def dsMeant (C : Addr) : DSp := fun ts ω q _ => ∃ t ds, ts = [t] ∧ Src C ω t ds ∧ Lot ds ∧ NewL ω ds q
def dsCheck : DSp := fun ts ω q _ => ∃ t, ts = [t] ∧ Val 20 1000000 t ∧ q .none ω
def dsWrongV : DSp := fun ts ω q _ => ∃ t, ts = [t] ∧ Val 20 1000000 t ∧ q .none ω
mutual
theorem val_wrong : ∀ d : PyData, isVal d = true → wrongP d = none
  | .none, _ => rfl
  | .str x, h => by simp only [isVal] at h; simp only [wrongP, h, if_true]
  | .list ds, h => by simp only [isVal] at h; simp only [wrongP]; exact valAll_wrong ds 0 h
  | .bool _, h => by simp [isVal] at h
  | .int _, h => by simp [isVal] at h
  | .tuple _, h => by simp [isVal] at h
  | .dict _, h => by simp [isVal] at h
theorem valAll_wrong : ∀ (ds : List PyData) (i : Nat), isValAll ds = true → wrongAll i ds = none
  | [], _, _ => rfl
  | d :: ds, i, h => by
    simp only [isValAll, Bool.and_eq_true] at h
    simp only [wrongAll, val_wrong d h.1]
    exact valAll_wrong ds (i + 1) h.2
end
section
variable {P : Program} {w : World} {K : PySem.W.Frag} {mg : Str → Option Value} {base : Heap} {C : Addr}
theorem dd_wrongV (D : Dfn P w K mg base CX0 31 "wrong_place" ["thing"] (spWrongPlace K 30)) : Dfn P w K mg base CX0 31 "wrong_place" ["thing"] (spD K dsWrongV) := by
  refine D.toD fun vs H Q E z => ?_
  obtain ⟨J, ω, ts, q, x, w, r, cq, cx, t, rfl, v, z⟩ := z
  cases r with
  | cons r1 r2 =>
  cases r2
  refine ⟨_, t, rfl, val_dp w.jh r1 v.val, (v.thing.mono (by omega) (by omega)), by omega, fun u H' sm h1 _ => ?_⟩
  rw [h1 (val_wrong t v.val)]
  exact cq _ _ _ _ _ z (same_grow w sm).1 (same_grow w sm).2 .non
end
/-- 0 thing, 1 place -/
abbrev sCheckV : Stmt := top 10
theorem scCheckV : FnScope ["thing", "place"] ["thing"] (defScope sCheckV) := ⟨rfl, rfl, rfl, by decide +kernel, rfl, by decide +kernel, by decide +kernel⟩
/-- 0 value, 1 one -/
abbrev sMeant : Stmt := top 13
theorem scMeant : FnScope ["value", "one"] ["value"] (defScope sMeant) := ⟨rfl, rfl, rfl, by decide +kernel, rfl, by decide +kernel, by decide +kernel⟩
section
variable {P : Program} {w : World} {K : PySem.W.Frag} {mg : Str → Option Value} {base : Heap} {C : Addr}
theorem dd_check (h : Has K mg "check_value" sCheckV) (B : Bi mg) (D_wrong_place : Dfn P w K mg base CX0 31 "wrong_place" ["thing"] (spD K dsWrongV)) : Dfn P w K mg base CX0 32 "check_value" ["thing"] (spD K dsCheck) := by
  refine dfnD (k := 31) h B scCheckV (fun _ _ _ _ _ _ us hl => match us, hl with | [_], _ => rfl) (fun ts ω q xx h => ?_) (fun f cv A out s H E c => ⟨_, (dss_cons (ds_set (i := 1) scCheckV.nd rfl (Or.inl rfl) (de_d D_wrong_place c (by omega) (by rfl) (da_cons (de_var (pv 0)) da_nil)))
    (dss_one (ds_if (dt_cmp (do_isnot rfl) (de_var (pv 1)) de_non (nomark _)) (dss_one ds_never) dss_nil))), fun ts ω q xx z => ?_⟩)
  · obtain ⟨t, rfl, _⟩ := h
    rfl
  obtain ⟨t, rfl, v, z⟩ := z
  simp only [dAnd, dAndV, dAsg, dC, dCB, dCall, dCallX, dChain, dCons, dDrop, dErr1, dIf, dIfS, dIsi, dLst, dNext, dNil, dNot, dNotV, dOp, dOr, dOrV, dPar, dRet, dRetN, dRetS, dSeq, dSet, dSl, dTest, dTup, dVar, dgCons, dgName, dgNil, dgTup, dNeg, endsD, xcOf, dFz, startD, wipeD, List.getElem?_cons_zero, List.getElem?_cons_succ, List.set_cons_zero, List.set_cons_succ, List.map_cons, List.map_nil, List.cons_append, List.nil_append, List.length_cons, List.length_nil, List.replicate]
  refine ⟨t, rfl, v, ?_⟩
  simp only [dAnd, dAndV, dAsg, dC, dCB, dCall, dCallX, dChain, dCons, dDrop, dErr1, dIf, dIfS, dIsi, dLst, dNext, dNil, dNot, dNotV, dOp, dOr, dOrV, dPar, dRet, dRetN, dRetS, dSeq, dSet, dSl, dTest, dTup, dVar, dgCons, dgName, dgNil, dgTup, dNeg, endsD, xcOf, dFz, startD, wipeD, List.getElem?_cons_zero, List.getElem?_cons_succ, List.set_cons_zero, List.set_cons_succ, List.map_cons, List.map_nil, List.cons_append, List.nil_append, List.length_cons, List.length_nil, List.replicate]
  refine ⟨rfl, ?_⟩
  exact z
end
end Tx

namespace Tx
open PySem PySem.Spec PyProof.Rows L2
theorem take_snoc {α : Type} {ds : List α} {i : Nat} {d : α} (e : ds[i]? = some d) : ds.take i ++ [d] = ds.take (i + 1) := by
  rw [List.take_add_one, e]
  rfl
theorem cls_opn_new {ω : Wd} {a C dx p r : Addr} {f : Str} {ds es : List PyData} (h : ω a = some (.ent C dx p f ds)) (hp : ω p = none) (ne : p ≠ a) (hr : opn ω a C dx p f ds r = none) :
    cls (updW (opn ω a C dx p f ds) r (.lst es)) a C dx p f ds = updW ω r (.lst es) := by
  have n1 : r ≠ a := fun e => by rw [e, opn_a ne] at hr; cases hr
  have n2 : r ≠ p := fun e => by rw [e, opn_p] at hr; cases hr
  funext b
  by_cases e1 : b = a
  · rw [e1, cls_a, updW_ne (Ne.symm n1), h]
  · by_cases e2 : b = p
    · rw [e2, cls_p ne, updW_ne (Ne.symm n2), hp]
    · rw [cls_ne e1 e2]
      by_cases e3 : b = r
      · rw [e3, updW_same, updW_same]
      · rw [updW_ne e3, updW_ne e3, opn_ne e1 e2]
theorem opn_none {ω : Wd} {a C dx p r : Addr} {f : Str} {ds : List PyData} (hr : opn ω a C dx p f ds r = none) (ne : p ≠ a) : ω r = none ∧ r ≠ a ∧ r ≠ p := by
  have n1 : r ≠ a := fun e => by rw [e, opn_a ne] at hr; cases hr
  have n2 : r ≠ p := fun e => by rw [e, opn_p] at hr; cases hr
  rw [opn_ne n1 n2] at hr
  exact ⟨hr, n1, n2⟩
/-- [copied(one) for one in ..] -/
theorem copy_all {ds : List PyData} {ρ : DS} {P : Wd → Prop} {ω : Wd} {q : DQ} {t : PyData} (lot : Lot ds) (hP : P ω) (z : NewL ω ds q) : lcBody (dgName 1) dYes (dFz (dCall (dsCopied 30) (dCons (dVar 1) dNil))) [1] [some t, none] q ds P ω := by
  refine ⟨lot.len2, fun i acc ω2 => acc = ds.take i ∧ ω2 = ω, ⟨rfl, rfl⟩, fun i acc ω2 h => by rw [h.2]; exact hP, fun i y acc ω2 e h _ => ?_, fun acc ω2 _ h => ?_⟩
  · obtain ⟨rfl, rfl⟩ := h
    obtain ⟨v1, v2, v3⟩ := lot.get e
    simp only [dAnd, dAndV, dAsg, dC, dCB, dCall, dCallX, dChain, dCons, dDrop, dErr1, dIf, dIfS, dIsi, dLst, dNext, dNil, dNot, dNotV, dOp, dOr, dOrV, dPar, dRet, dRetN, dRetS, dSeq, dSet, dSl, dTest, dTup, dVar, dgCons, dgName, dgNil, dgTup, dNeg, endsD, xcOf, dFz, startD, wipeD, List.getElem?_cons_zero, List.getElem?_cons_succ, List.set_cons_zero, List.set_cons_succ, List.map_cons, List.map_nil, List.cons_append, List.nil_append, List.length_cons, List.length_nil, List.replicate]
    unfold dYes
    simp only [dAnd, dAndV, dAsg, dC, dCB, dCall, dCallX, dChain, dCons, dDrop, dErr1, dIf, dIfS, dIsi, dLst, dNext, dNil, dNot, dNotV, dOp, dOr, dOrV, dPar, dRet, dRetN, dRetS, dSeq, dSet, dSl, dTest, dTup, dVar, dgCons, dgName, dgNil, dgTup, dNeg, endsD, xcOf, dFz, startD, wipeD, List.getElem?_cons_zero, List.getElem?_cons_succ, List.set_cons_zero, List.set_cons_succ, List.map_cons, List.map_nil, List.cons_append, List.nil_append, List.length_cons, List.length_nil, List.replicate]
    exact ⟨y, rfl, v1, v2, v3, fun u ω' tm => ⟨y, ω2, tm.fz, take_snoc e, rfl⟩⟩
  · obtain ⟨rfl, rfl⟩ := h
    rw [List.take_length]
    exact z
section
variable {P : Program} {w : World} {K : PySem.W.Frag} {mg : Str → Option Value} {base : Heap} {C : Addr}
theorem dd_meant (xc : OC K mg "Entries" "rows" C) (h : Has K mg "meant_by" sMeant) (B : Bi mg) (D_copied : Dfn P w K mg base CX0 30 "copied" ["value"] (spD K (dsCopied 30))) : Dfn P w K mg base CX0 31 "meant_by" ["value"] (spD K (dsMeant C)) := by
  refine dfnD (k := 30) h B scMeant (fun _ _ _ _ _ _ us hl => match us, hl with | [_], _ => rfl) (fun ts ω q xx h => ?_) (fun f cv A out s H E c => ⟨_, dss_gh (dss_cons (ds_if (dt_val (de_isC rfl (by rfl) c.b.isinstance (de_var (pv 0)) (pe_gcl xc.cd.gC (by rfl)))) (dss_one (ds_ret (de_lcO (own := [("one", 1)]) (gd := (dgName 1)) (is := [1]) (tt := dYes) rfl scMeant.nd (dio_o rfl (de_fld rfl (de_var (pv 0)))) (blkOk_by (own := [("one", 1)]) (N := ["value", "one"]) (sc := defScope sMeant) (by decide +kernel)) (fun _ _ _ _ _ => (dg_name (pg_name (i := 1) scMeant.nd rfl (Or.inl rfl)))) (fun _ _ _ _ _ => dts_nil) (fun _ _ _ _ _ => (de_fz (de_d D_copied c (by omega) (by rfl) (da_cons (de_var (pv 1)) da_nil))))))) dss_nil)
    (dss_cons (ds_if (dt_cmp (do_is rfl) (de_var (pv 0)) de_non (nomark _)) (dss_one (ds_ret (de_lstO da_nil))) dss_nil)
    (dss_cons (ds_if (dt_val (de_isi (T := "str") rfl kit_str (by rfl) c.b.isinstance (de_var (pv 0)) (pe_bltn (v := .ty "str") (by rfl) c.b.str (by decide +kernel) rfl))) (dss_one (ds_ret (de_lstO (da_cons (de_var (pv 0)) da_nil)))) dss_nil)
    (dss_one (ds_ret (de_lcO (own := [("one", 1)]) (gd := (dgName 1)) (is := [1]) (tt := dYes) rfl scMeant.nd (dio_d (di_data rfl (de_var (pv 0)))) (blkOk_by (own := [("one", 1)]) (N := ["value", "one"]) (sc := defScope sMeant) (by decide +kernel)) (fun _ _ _ _ _ => (dg_name (pg_name (i := 1) scMeant.nd rfl (Or.inl rfl)))) (fun _ _ _ _ _ => dts_nil) (fun _ _ _ _ _ => (de_fz (de_d D_copied c (by omega) (by rfl) (da_cons (de_var (pv 1)) da_nil)))))))))), fun ts ω q xx z => ?_⟩)
  · obtain ⟨t, ds, rfl, _⟩ := h
    rfl
  obtain ⟨t, ds, rfl, src, lot, z⟩ := z
  intro lw
  rcases src with ⟨val, rfl⟩ | ⟨a, dx, p, rfl, ea⟩
  · refine ⟨ω, Gh.refl, ?_⟩
    simp only [dAnd, dAndV, dAsg, dC, dCB, dCall, dCallX, dChain, dCons, dDrop, dErr1, dIf, dIfS, dIsi, dLst, dNext, dNil, dNot, dNotV, dOp, dOr, dOrV, dPar, dRet, dRetN, dRetS, dSeq, dSet, dSl, dTest, dTup, dVar, dgCons, dgName, dgNil, dgTup, dNeg, endsD, xcOf, dFz, startD, wipeD, List.getElem?_cons_zero, List.getElem?_cons_succ, List.set_cons_zero, List.set_cons_succ, List.map_cons, List.map_nil, List.cons_append, List.nil_append, List.length_cons, List.length_nil, List.replicate]
    unfold dIsC
    simp only [dAnd, dAndV, dAsg, dC, dCB, dCall, dCallX, dChain, dCons, dDrop, dErr1, dIf, dIfS, dIsi, dLst, dNext, dNil, dNot, dNotV, dOp, dOr, dOrV, dPar, dRet, dRetN, dRetS, dSeq, dSet, dSl, dTest, dTup, dVar, dgCons, dgName, dgNil, dgTup, dNeg, endsD, xcOf, dFz, startD, wipeD, List.getElem?_cons_zero, List.getElem?_cons_succ, List.set_cons_zero, List.set_cons_succ, List.map_cons, List.map_nil, List.cons_append, List.nil_append, List.length_cons, List.length_nil, List.replicate]
    cases t with
    | none =>
      refine ⟨.type "NoneType", false, .data (d := .none) (by simp only [rsv]), xc.kn, ?_⟩
      refine iteF ⟨rfl, iteT ?_⟩
      unfold dLstO
      simp only [dAnd, dAndV, dAsg, dC, dCB, dCall, dCallX, dChain, dCons, dDrop, dErr1, dIf, dIfS, dIsi, dLst, dNext, dNil, dNot, dNotV, dOp, dOr, dOrV, dPar, dRet, dRetN, dRetS, dSeq, dSet, dSl, dTest, dTup, dVar, dgCons, dgName, dgNil, dgTup, dNeg, endsD, xcOf, dFz, startD, wipeD, List.getElem?_cons_zero, List.getElem?_cons_succ, List.set_cons_zero, List.set_cons_succ, List.map_cons, List.map_nil, List.cons_append, List.nil_append, List.length_cons, List.length_nil, List.replicate]
      exact ⟨by decide, fun r hr _ => ⟨_, Gh.refl, z r hr⟩⟩
    | str x =>
      refine ⟨.type "str", false, .data (d := .str x) (by simp only [rsv]), xc.ks, iteF ⟨rfl, iteF ?_⟩⟩
      refine ⟨trivial, iteT ?_⟩
      unfold dLstO
      simp only [dAnd, dAndV, dAsg, dC, dCB, dCall, dCallX, dChain, dCons, dDrop, dErr1, dIf, dIfS, dIsi, dLst, dNext, dNil, dNot, dNotV, dOp, dOr, dOrV, dPar, dRet, dRetN, dRetS, dSeq, dSet, dSl, dTest, dTup, dVar, dgCons, dgName, dgNil, dgTup, dNeg, endsD, xcOf, dFz, startD, wipeD, List.getElem?_cons_zero, List.getElem?_cons_succ, List.set_cons_zero, List.set_cons_succ, List.map_cons, List.map_nil, List.cons_append, List.nil_append, List.length_cons, List.length_nil, List.replicate]
      exact ⟨by decide, fun r hr _ => ⟨_, Gh.refl, z r hr⟩⟩
    | list ds =>
      refine ⟨.type "list", false, .data (d := .list ds) (by simp only [rsv]), xc.kl, iteF ⟨rfl, iteF ?_⟩⟩
      refine ⟨trivial, iteF ?_⟩
      unfold dLcO dioD diData
      simp only [dAnd, dAndV, dAsg, dC, dCB, dCall, dCallX, dChain, dCons, dDrop, dErr1, dIf, dIfS, dIsi, dLst, dNext, dNil, dNot, dNotV, dOp, dOr, dOrV, dPar, dRet, dRetN, dRetS, dSeq, dSet, dSl, dTest, dTup, dVar, dgCons, dgName, dgNil, dgTup, dNeg, endsD, xcOf, dFz, startD, wipeD, List.getElem?_cons_zero, List.getElem?_cons_succ, List.set_cons_zero, List.set_cons_succ, List.map_cons, List.map_nil, List.cons_append, List.nil_append, List.length_cons, List.length_nil, List.replicate]
      exact ⟨ds, rfl, copy_all (ρ := []) lot trivial fun r hr _ => ⟨_, Gh.refl, z r hr⟩⟩
    | _ => simp [isVal] at val
  · obtain ⟨ne, hp⟩ := lw.ent ea
    refine ⟨_, Gh.open ea, ?_⟩
    simp only [dAnd, dAndV, dAsg, dC, dCB, dCall, dCallX, dChain, dCons, dDrop, dErr1, dIf, dIfS, dIsi, dLst, dNext, dNil, dNot, dNotV, dOp, dOr, dOrV, dPar, dRet, dRetN, dRetS, dSeq, dSet, dSl, dTest, dTup, dVar, dgCons, dgName, dgNil, dgTup, dNeg, endsD, xcOf, dFz, startD, wipeD, List.getElem?_cons_zero, List.getElem?_cons_succ, List.set_cons_zero, List.set_cons_succ, List.map_cons, List.map_nil, List.cons_append, List.nil_append, List.length_cons, List.length_nil, List.replicate]
    unfold dIsC
    simp only [dAnd, dAndV, dAsg, dC, dCB, dCall, dCallX, dChain, dCons, dDrop, dErr1, dIf, dIfS, dIsi, dLst, dNext, dNil, dNot, dNotV, dOp, dOr, dOrV, dPar, dRet, dRetN, dRetS, dSeq, dSet, dSl, dTest, dTup, dVar, dgCons, dgName, dgNil, dgTup, dNeg, endsD, xcOf, dFz, startD, wipeD, List.getElem?_cons_zero, List.getElem?_cons_succ, List.set_cons_zero, List.set_cons_succ, List.map_cons, List.map_nil, List.cons_append, List.nil_append, List.length_cons, List.length_nil, List.replicate]
    refine ⟨.ref C, true, .ins (m := "") ⟨a, _, rfl, opn_a ne, rfl, rfl⟩ xc.cd.cl xc.ha xc.hn xc.htk xc.hm, xc.kc, ?_⟩
    refine iteT ?_
    unfold dLcO dioO dFld
    simp only [dAnd, dAndV, dAsg, dC, dCB, dCall, dCallX, dChain, dCons, dDrop, dErr1, dIf, dIfS, dIsi, dLst, dNext, dNil, dNot, dNotV, dOp, dOr, dOrV, dPar, dRet, dRetN, dRetS, dSeq, dSet, dSl, dTest, dTup, dVar, dgCons, dgName, dgNil, dgTup, dNeg, endsD, xcOf, dFz, startD, wipeD, List.getElem?_cons_zero, List.getElem?_cons_succ, List.set_cons_zero, List.set_cons_succ, List.map_cons, List.map_nil, List.cons_append, List.nil_append, List.length_cons, List.length_nil, List.replicate]
    refine ⟨a, C, dx, _, _, rfl, opn_a ne, xc.cd.cl, xc.na, rfl, p, ds, rfl, opn_p, ?_⟩
    refine copy_all (ρ := []) lot opn_p fun r hr _ => ⟨_, Gh.close (by rw [updW_ne]; exact opn_a ne; exact Ne.symm (opn_none hr ne).2.1) (by rw [updW_ne]; exact opn_p; exact Ne.symm (opn_none hr ne).2.2), ?_⟩
    rw [cls_opn_new ea hp ne hr]
    exact z r (opn_none hr ne).1
end
end Tx

namespace Tx
open PySem PySem.Spec PyProof.Rows L2
/-! ## an opened instance is closed behind a new cell -/
theorem cls_opn_any {ω : Wd} {a C dx p r : Addr} {f : Str} {ds : List PyData} {m : MO} (h : ω a = some (.ent C dx p f ds)) (hp : ω p = none) (ne : p ≠ a) (hr : opn ω a C dx p f ds r = none) :
    cls (updW (opn ω a C dx p f ds) r m) a C dx p f ds = updW ω r m := by
  obtain ⟨_, n1, n2⟩ := opn_none hr ne
  funext b
  by_cases e1 : b = a
  · rw [e1, cls_a, updW_ne (Ne.symm n1), h]
  · by_cases e2 : b = p
    · rw [e2, cls_p ne, updW_ne (Ne.symm n2), hp]
    · rw [cls_ne e1 e2]
      by_cases e3 : b = r
      · rw [e3, updW_same, updW_same]
      · rw [updW_ne e3, updW_ne e3, opn_ne e1 e2]
end Tx

namespace Tx
open PySem PySem.Spec PyProof.Rows L2
/-! ## Entries: methods -/
/-- 0 self, 1 value -/
abbrev sInit : Stmt := inClass (top 14) 0
theorem scInit : FnScope ["self", "value"] ["self", "value"] (defScope sInit) := ⟨rfl, rfl, rfl, by decide +kernel, rfl, by decide +kernel, by decide +kernel⟩
/-- 0 self -/
abbrev sLen : Stmt := inClass (top 14) 2
theorem scLen : FnScope ["self"] ["self"] (defScope sLen) := ⟨rfl, rfl, rfl, by decide +kernel, rfl, by decide +kernel, by decide +kernel⟩
/-- 0 self -/
abbrev sBool : Stmt := inClass (top 14) 3
theorem scBool : FnScope ["self"] ["self"] (defScope sBool) := ⟨rfl, rfl, rfl, by decide +kernel, rfl, by decide +kernel, by decide +kernel⟩
/-- 0 self, 1 other -/
abbrev sEq : Stmt := inClass (top 14) 6
theorem scEq : FnScope ["self", "other"] ["self", "other"] (defScope sEq) := ⟨rfl, rfl, rfl, by decide +kernel, rfl, by decide +kernel, by decide +kernel⟩
/-- 0 self, 1 other -/
abbrev sAdd : Stmt := inClass (top 14) 8
theorem scAdd : FnScope ["self", "other"] ["self", "other"] (defScope sAdd) := ⟨rfl, rfl, rfl, by decide +kernel, rfl, by decide +kernel, by decide +kernel⟩
/-- 0 self, 1 other -/
abbrev sIadd : Stmt := inClass (top 14) 10
theorem scIadd : FnScope ["self", "other"] ["self", "other"] (defScope sIadd) := ⟨rfl, rfl, rfl, by decide +kernel, rfl, by decide +kernel, by decide +kernel⟩
/-- 0 self, 1 at, 2 value -/
abbrev sSetitem : Stmt := inClass (top 14) 14
theorem scSetitem : FnScope ["self", "at", "value"] ["self", "at", "value"] (defScope sSetitem) := ⟨rfl, rfl, rfl, by decide +kernel, rfl, by decide +kernel, by decide +kernel⟩
/-- 0 self, 1 at, 2 many -/
abbrev sIndex : Stmt := inClass (top 14) 15
theorem scIndex : FnScope ["self", "at", "many"] ["self", "at"] (defScope sIndex) := ⟨rfl, rfl, rfl, by decide +kernel, rfl, by decide +kernel, by decide +kernel⟩
def dsInit (C : Addr) : DSp := fun ts ω q _ => ∃ a dx t, ts = [refD a, t] ∧ ω a = some (.ins C dx []) ∧ Val 19 900000 t ∧ ∀ p, ω p = none → q .none (updW ω a (.ent C dx p "rows" (meantD t)))
def dsLen (C : Addr) : DSp := fun ts ω q _ => ∃ a ds, ts = [refD a] ∧ Ent C ω a ds ∧ q (.int ds.length) ω
def dsBool (C : Addr) : DSp := fun ts ω q _ => ∃ a ds, ts = [refD a] ∧ Ent C ω a ds ∧ q (.bool (decide (0 < ds.length))) ω
def dsEq (C : Addr) : DSp := fun ts ω q _ => ∃ a b ds es, ts = [refD a, refD b] ∧ Ent C ω a ds ∧ Ent C ω b es ∧ Lot ds ∧ Lot es ∧ q (.bool (PyData.eqv (.list ds) (.list es))) ω
def dsAdd (C : Addr) : DSp := fun ts ω q _ => ∃ a t ds es, ts = [refD a, t] ∧ Ent C ω a ds ∧ Src C ω t es ∧ Lot ds ∧ Lot es ∧ Val 19 900000 (.list (ds ++ es)) ∧ ∀ b dx p, ω b = none → q (refD b) (updW ω b (.ent C dx p "rows" (ds ++ es)))
def dsIadd (C : Addr) : DSp := fun ts ω q _ => ∃ a dx p t ds es, ts = [refD a, t] ∧ ω a = some (.ent C dx p "rows" ds) ∧ Src C ω t es ∧ Lot ds ∧ Lot es ∧ ∀ p', q (refD a) (updW ω a (.ent C dx p' "rows" (ds ++ es)))
def dsIndex (C : Addr) : DSp := fun ts ω q _ => ∃ a dx p ds k j, ts = [refD a, .int k] ∧ ω a = some (.ins C dx [("rows", refD p)]) ∧ ω p = some (.lst ds) ∧ ixN ds.length k = some j ∧ ds.length ≤ 1000000 ∧ q (.int (j : Nat)) ω
def dsSetitem (C : Addr) : DSp := fun ts ω q _ => ∃ a dx p ds k j v, ts = [refD a, .int k, v] ∧ ω a = some (.ent C dx p "rows" ds) ∧ ixN ds.length k = some j ∧ ds.length ≤ 1000000 ∧ Val 20 1000000 v ∧ q .none (updW ω a (.ent C dx p "rows" (ds.set j v)))
theorem ixN_at {n j : Nat} (h : j < n) : ixN n ((j : Nat) : Int) = some j := by
  unfold ixN
  rw [if_pos (by omega), if_pos (by omega)]
  simp
theorem Val.meant {t : PyData} (h : Val 19 900000 t) : Lot (meantD t) := by
  cases t with
  | str x => exact ⟨by have := h.val; simpa [isVal, isValAll, meantD] using this, by simp [meantD, PyData.depth, PyData.depthAll], by have := h.size; simp only [szD, szAll, meantD] at *; omega⟩
  | list ds => exact ⟨h.val, by have := h.deep; simp only [meantD]; omega, by have := h.size; simp only [meantD]; omega⟩
  | _ => exact ⟨rfl, by simp [meantD, PyData.depth, PyData.depthAll], by simp [meantD, szD, szAll]⟩
section
variable {P : Program} {w : World} {K : PySem.W.Frag} {mg : Str → Option Value} {base : Heap} {C : Addr}
theorem m_init (xc : OC K mg "Entries" "rows" C) (h : HasM K C "__init__" "Entries.__init__" sInit) (B : Bi mg) (D_check_value : Dfn P w K mg base CX0 32 "check_value" ["thing"] (spD K dsCheck)) (D_meant_by : Dfn P w K mg base CX0 31 "meant_by" ["value"] (spD K (dsMeant C))) :
    Mfn P w K mg base CX0 33 C "__init__" ["self", "value"] (spD K (dsInit C)) := by
  refine mfnD (k := 32) h B scInit (fun _ _ _ _ _ _ us hl => match us, hl with | [_, _], _ => rfl) (fun ts ω q xx h => ?_) (fun f cv A out s H E c => ⟨_, dss_gh (dss_cons (ds_expr (de_d D_check_value c (by omega) (by rfl) (da_cons (de_var (pv 1)) da_nil)))
    (dss_one (ds_fld rfl (de_var (pv 0)) (de_d D_meant_by c (by omega) (by rfl) (da_cons (de_var (pv 1)) da_nil))))), fun ts ω q xx z => ?_⟩)
  · obtain ⟨a, dx, t, rfl, _⟩ := h
    rfl
  obtain ⟨a, dx, t, rfl, ea, v, z⟩ := z
  intro lw
  refine ⟨ω, Gh.refl, ?_⟩
  unfold dSetF
  simp only [dAnd, dAndV, dAsg, dC, dCB, dCall, dCallX, dChain, dCons, dDrop, dErr1, dIf, dIfS, dIsi, dLst, dNext, dNil, dNot, dNotV, dOp, dOr, dOrV, dPar, dRet, dRetN, dRetS, dSeq, dSet, dSl, dTest, dTup, dVar, dgCons, dgName, dgNil, dgTup, dNeg, endsD, xcOf, dFz, startD, wipeD, List.getElem?_cons_zero, List.getElem?_cons_succ, List.set_cons_zero, List.set_cons_succ, List.map_cons, List.map_nil, List.cons_append, List.nil_append, List.length_cons, List.length_nil, List.replicate]
  refine ⟨t, rfl, ⟨v.val, by have := v.deep; omega, by have := v.size; omega⟩, t, _, rfl, .inl ⟨v.val, rfl⟩, v.meant, fun r hr => ?_⟩
  have ne : r ≠ a := fun e => by rw [e, ea] at hr; cases hr
  refine ⟨a, C, dx, [], rfl, by rw [updW_ne (Ne.symm ne)]; exact ea, xc.cd.cl, xc.na, by decide, fun _ => ⟨_, Gh.close (C := C) (dx := dx) (f := "rows") (p := r) (ds := meantD t) updW_same (by rw [updW_ne ne]; exact updW_same), ?_⟩⟩
  have e : cls (updW (updW ω r (.lst (meantD t))) a (.ins C dx [("rows", refD r)])) a C dx r "rows" (meantD t) = updW ω a (.ent C dx r "rows" (meantD t)) := by
    funext b
    by_cases e1 : b = a
    · rw [e1, cls_a, updW_same]
    · by_cases e2 : b = r
      · rw [e2, cls_p ne, updW_ne ne, hr]
      · rw [cls_ne e1 e2, updW_ne e1, updW_ne e2, updW_ne e1]
  exact e ▸ z r hr
theorem m_len (xc : OC K mg "Entries" "rows" C) (h : HasM K C "__len__" "Entries.__len__" sLen) (B : Bi mg) : Mfn P w K mg base CX0 1 C "__len__" ["self"] (spD K (dsLen C)) := by
  refine mfnD (k := 0) h B scLen (fun _ _ _ _ _ _ us hl => match us, hl with | [_], _ => rfl) (fun ts ω q xx h => ?_) (fun f cv A out s H E c => ⟨_, dss_gh (dss_one (ds_ret (de_callB (dc_len rfl) (by rfl) c.b.len (by decide +kernel) (da_cons (de_fld rfl (de_var (pv 0))) da_nil)))), fun ts ω q xx z => ?_⟩)
  · obtain ⟨a, ds, rfl, _⟩ := h
    rfl
  obtain ⟨a, ds, rfl, ⟨dx, p, ea⟩, z⟩ := z
  intro lw
  obtain ⟨ne, hp⟩ := lw.ent ea
  refine ⟨_, Gh.open ea, ?_⟩
  unfold dRet dFld
  simp only [dAnd, dAndV, dAsg, dC, dCB, dCall, dCallX, dChain, dCons, dDrop, dErr1, dIf, dIfS, dIsi, dLst, dNext, dNil, dNot, dNotV, dOp, dOr, dOrV, dPar, dRet, dRetN, dRetS, dSeq, dSet, dSl, dTest, dTup, dVar, dgCons, dgName, dgNil, dgTup, dNeg, endsD, xcOf, dFz, startD, wipeD, List.getElem?_cons_zero, List.getElem?_cons_succ, List.set_cons_zero, List.set_cons_succ, List.map_cons, List.map_nil, List.cons_append, List.nil_append, List.length_cons, List.length_nil, List.replicate]
  refine ⟨a, C, dx, _, _, rfl, opn_a ne, xc.cd.cl, xc.na, rfl, lenD_cell opn_p fun _ => ⟨_, Gh.close (opn_a ne) opn_p, ?_⟩⟩
  rw [cls_opn0 ea hp ne]
  exact z
theorem m_bool (xc : OC K mg "Entries" "rows" C) (h : HasM K C "__bool__" "Entries.__bool__" sBool) (B : Bi mg) : Mfn P w K mg base CX0 1 C "__bool__" ["self"] (spD K (dsBool C)) := by
  refine mfnD (k := 0) h B scBool (fun _ _ _ _ _ _ us hl => match us, hl with | [_], _ => rfl) (fun ts ω q xx h => ?_) (fun f cv A out s H E c => ⟨_, dss_gh (dss_one (ds_ret (de_cmp (do_gt rfl) (de_callB (dc_len rfl) (by rfl) c.b.len (by decide +kernel) (da_cons (de_fld rfl (de_var (pv 0))) da_nil)) de_int (nomark _)))), fun ts ω q xx z => ?_⟩)
  · obtain ⟨a, ds, rfl, _⟩ := h
    rfl
  obtain ⟨a, ds, rfl, ⟨dx, p, ea⟩, z⟩ := z
  intro lw
  obtain ⟨ne, hp⟩ := lw.ent ea
  refine ⟨_, Gh.open ea, ?_⟩
  unfold dRet dFld
  simp only [dAnd, dAndV, dAsg, dC, dCB, dCall, dCallX, dChain, dCons, dDrop, dErr1, dIf, dIfS, dIsi, dLst, dNext, dNil, dNot, dNotV, dOp, dOr, dOrV, dPar, dRet, dRetN, dRetS, dSeq, dSet, dSl, dTest, dTup, dVar, dgCons, dgName, dgNil, dgTup, dNeg, endsD, xcOf, dFz, startD, wipeD, List.getElem?_cons_zero, List.getElem?_cons_succ, List.set_cons_zero, List.set_cons_succ, List.map_cons, List.map_nil, List.cons_append, List.nil_append, List.length_cons, List.length_nil, List.replicate]
  refine ⟨a, C, dx, _, _, rfl, opn_a ne, xc.cd.cl, xc.na, rfl, lenD_cell opn_p ⟨trivial, fun _ => ⟨_, Gh.close (opn_a ne) opn_p, ?_⟩⟩⟩
  rw [cls_opn0 ea hp ne]
  show q (.bool (decide ((0 : Int) < ((ds.length : Nat) : Int)))) ω
  rw [show (decide ((0 : Int) < ((ds.length : Nat) : Int))) = decide (0 < ds.length) by simp]
  exact z
theorem m_index (xc : OC K mg "Entries" "rows" C) (h : HasM K C "index_of" "Entries.index_of" sIndex) (B : Bi mg) : Mfn P w K mg base CX0 1 C "index_of" ["self", "at"] (spD K (dsIndex C)) := by
  refine mfnD (k := 0) h B scIndex (fun _ _ _ _ _ _ us hl => match us, hl with | [_, _], _ => rfl) (fun ts ω q xx h => ?_) (fun f cv A out s H E c => ⟨_, (dss_cons (ds_set (i := 2) scIndex.nd rfl (Or.inl rfl) (de_callB (dc_len rfl) (by rfl) c.b.len (by decide +kernel) (da_cons (de_fld rfl (de_var (pv 0))) da_nil)))
    (dss_cons (ds_if (DW.dt (dw_or (dt_not (dt_val (de_isi (T := "int") rfl kit_int (by rfl) c.b.isinstance (de_var (pv 1)) (pe_bltn (v := .ty "int") (by rfl) c.b.int (by decide +kernel) rfl)))) (dw_or (dt_val (de_isi (T := "bool") rfl kit_bool (by rfl) c.b.isinstance (de_var (pv 1)) (pe_bltn (v := .ty "bool") (by rfl) c.b.bool (by decide +kernel) rfl))) (dw_or1 (dt_not (dt_chain (do_le rfl) (do_lt rfl) (de_neg (de_var (pv 2))) (de_var (pv 1)) (de_var (pv 2)))))))) (dss_one ds_never) dss_nil)
    (dss_one (ds_ret (de_if (dt_cmp (do_lt rfl) (de_var (pv 1)) de_int (nomark _)) (de_op (do_add rfl) (de_var (pv 1)) (de_var (pv 2))) (de_var (pv 1))))))), fun ts ω q xx z => ?_⟩)
  · obtain ⟨a, dx, p, ds, k, j, rfl, _⟩ := h
    rfl
  obtain ⟨a, dx, p, ds, k, j, rfl, ea, ep, ej, el, z⟩ := z
  unfold dSeq dSet dFld
  simp only [dAnd, dAndV, dAsg, dC, dCB, dCall, dCallX, dChain, dCons, dDrop, dErr1, dIf, dIfS, dIsi, dLst, dNext, dNil, dNot, dNotV, dOp, dOr, dOrV, dPar, dRet, dRetN, dRetS, dSeq, dSet, dSl, dTest, dTup, dVar, dgCons, dgName, dgNil, dgTup, dNeg, endsD, xcOf, dFz, startD, wipeD, List.getElem?_cons_zero, List.getElem?_cons_succ, List.set_cons_zero, List.set_cons_succ, List.map_cons, List.map_nil, List.cons_append, List.nil_append, List.length_cons, List.length_nil, List.replicate]
  refine ⟨a, C, dx, _, _, rfl, ea, xc.cd.cl, xc.na, rfl, lenD_cell ep ⟨trivial, iteF ⟨trivial, iteF ?_⟩⟩⟩
  obtain ⟨h1, h2, h3, h4⟩ := ixN_seq ej
  refine ⟨trivial, ?_⟩
  simp only [decide_eq_true h3, if_true]
  refine ⟨trivial, ?_⟩
  simp only [decide_eq_true h4, Bool.not_true, Bool.false_eq_true, if_false]
  refine ⟨trivial, ?_⟩
  unfold ixN at ej
  by_cases k0 : k < 0
  · simp only [decide_eq_true k0, if_true]
    show q (.int (k + (ds.length : Nat))) ω
    rw [if_neg (by omega), if_pos h3] at ej
    have e : k + (ds.length : Nat) = ((j : Nat) : Int) := by
      have := Option.some.inj ej
      omega
    rw [e]
    exact z
  · simp only [decide_eq_false k0, Bool.false_eq_true, if_false]
    rw [if_pos (by omega), if_pos h4] at ej
    have e : k = ((j : Nat) : Int) := by
      have := Option.some.inj ej
      omega
    rw [e]
    exact z
theorem m_set (xc : OC K mg "Entries" "rows" C) (h : HasM K C "__setitem__" "Entries.__setitem__" sSetitem) (B : Bi mg) (M_index_of : Mfn P w K mg base CX0 1 C "index_of" ["self", "at"] (spD K (dsIndex C))) (D_copied : Dfn P w K mg base CX0 30 "copied" ["value"] (spD K (dsCopied 30))) :
    Mfn P w K mg base CX0 31 C "__setitem__" ["self", "at", "value"] (spD K (dsSetitem C)) := by
  refine mfnD (k := 30) h B scSetitem (fun _ _ _ _ _ _ us hl => match us, hl with | [_, _, _], _ => rfl) (fun ts ω q xx h => ?_) (fun f cv A out s H E c => ⟨_, dss_gh (dss_one (ds_setS (de_fld rfl (de_var (pv 0))) (de_meth rfl M_index_of xc.cd.cl c (by omega) px0 (de_var (pv 0)) (da_cons (de_var (pv 1)) da_nil)) (de_fz (de_d D_copied c (by omega) (by rfl) (da_cons (de_var (pv 2)) da_nil))) set_listO)), fun ts ω q xx z => ?_⟩)
  · obtain ⟨a, dx, p, ds, k, j, v, rfl, _⟩ := h
    rfl
  obtain ⟨a, dx, p, ds, k, j, v, rfl, ea, ej, el, vv, z⟩ := z
  intro lw
  obtain ⟨ne, hp⟩ := lw.ent ea
  refine ⟨_, Gh.open ea, ?_⟩
  unfold dSetS dFld dMeth
  simp only [dAnd, dAndV, dAsg, dC, dCB, dCall, dCallX, dChain, dCons, dDrop, dErr1, dIf, dIfS, dIsi, dLst, dNext, dNil, dNot, dNotV, dOp, dOr, dOrV, dPar, dRet, dRetN, dRetS, dSeq, dSet, dSl, dTest, dTup, dVar, dgCons, dgName, dgNil, dgTup, dNeg, endsD, xcOf, dFz, startD, wipeD, List.getElem?_cons_zero, List.getElem?_cons_succ, List.set_cons_zero, List.set_cons_succ, List.map_cons, List.map_nil, List.cons_append, List.nil_append, List.length_cons, List.length_nil, List.replicate]
  refine ⟨v, rfl, vv.val, by have := vv.deep; omega, vv.size, fun u ω' tm => ⟨v, _, tm.fz, a, C, dx, _, _, rfl, opn_a ne, xc.cd.cl, xc.na, rfl, a, _, rfl, opn_a ne, ⟨rfl, rfl⟩, ?_⟩⟩
  refine ⟨a, dx, p, ds, k, j, rfl, opn_a ne, opn_p, ej, el, p, ds, (j : Nat), j, rfl, rfl, opn_p, ?_, fun _ => ⟨_, Gh.close (by rw [updW_ne (Ne.symm ne)]; exact opn_a ne) updW_same, ?_⟩⟩
  · exact ixN_at (ixN_seq ej).2.1
  · rw [cls_opn hp ne]
    exact z
theorem m_add (xc : OC K mg "Entries" "rows" C) (h : HasM K C "__add__" "Entries.__add__" sAdd) (B : Bi mg) (D_meant_by : Dfn P w K mg base CX0 31 "meant_by" ["value"] (spD K (dsMeant C))) (M_init : Mfn P w K mg base CX0 33 C "__init__" ["self", "value"] (spD K (dsInit C))) :
    Mfn P w K mg base CX0 35 C "__add__" ["self", "other"] (spD K (dsAdd C)) := by
  refine mfnD (k := 34) h B scAdd (fun _ _ _ _ _ _ us hl => match us, hl with | [_, _], _ => rfl) (fun ts ω q xx h => ?_) (fun f cv A out s H E c => ⟨_, (dss_one (ds_ret (de_make rfl xc.cd M_init c (by omega) (by rfl) px0 (da_cons (de_op (do_add rfl) (de_frzE (de_d D_meant_by c (by omega) (by rfl) (da_cons (de_var (pv 0)) da_nil))) (de_frzE (de_d D_meant_by c (by omega) (by rfl) (da_cons (de_var (pv 1)) da_nil)))) da_nil)))), fun ts ω q xx z => ?_⟩)
  · obtain ⟨a, t, ds, es, rfl, _⟩ := h
    rfl
  obtain ⟨a, t, ds, es, rfl, ⟨dx, p, ea⟩, src, l1, l2, v, z⟩ := z
  unfold dRet dMake dFrzE
  simp only [dAnd, dAndV, dAsg, dC, dCB, dCall, dCallX, dChain, dCons, dDrop, dErr1, dIf, dIfS, dIsi, dLst, dNext, dNil, dNot, dNotV, dOp, dOr, dOrV, dPar, dRet, dRetN, dRetS, dSeq, dSet, dSl, dTest, dTup, dVar, dgCons, dgName, dgNil, dgTup, dNeg, endsD, xcOf, dFz, startD, wipeD, List.getElem?_cons_zero, List.getElem?_cons_succ, List.set_cons_zero, List.set_cons_succ, List.map_cons, List.map_nil, List.cons_append, List.nil_append, List.length_cons, List.length_nil, List.replicate]
  refine ⟨_, ds, rfl, .inr ⟨a, dx, p, rfl, ea⟩, l1, fun r hr => ⟨r, ds, rfl, updW_same, ?_⟩⟩
  rw [delW_updW hr]
  refine ⟨_, es, rfl, src, l2, fun r2 hr2 => ⟨r2, es, rfl, updW_same, ?_⟩⟩
  rw [delW_updW hr2]
  refine ⟨?_, ?_⟩
  · have := l1.len
    have := l2.len
    rw [sizeLine_eq]
    omega
  intro b dx' hb
  refine ⟨b, dx', _, rfl, updW_same, v, fun p' hp' => ⟨rfl, ?_⟩⟩
  rw [updW_updW]
  exact z b dx' p' hb
theorem m_iadd (xc : OC K mg "Entries" "rows" C) (h : HasM K C "__iadd__" "Entries.__iadd__" sIadd) (B : Bi mg) (D_meant_by : Dfn P w K mg base CX0 31 "meant_by" ["value"] (spD K (dsMeant C))) :
    Mfn P w K mg base CX0 32 C "__iadd__" ["self", "other"] (spD K (dsIadd C)) := by
  refine mfnD (k := 31) h B scIadd (fun _ _ _ _ _ _ us hl => match us, hl with | [_, _], _ => rfl) (fun ts ω q xx h => ?_) (fun f cv A out s H E c => ⟨_, dss_gh (dss_cons (ds_fld rfl (de_var (pv 0)) (de_opM (dm_cat rfl) (de_fld rfl (de_var (pv 0))) (de_gh (de_frzE (de_d D_meant_by c (by omega) (by rfl) (da_cons (de_var (pv 1)) da_nil))))))
    (dss_one (ds_ret (de_var (pv 0))))), fun ts ω q xx z => ?_⟩)
  · obtain ⟨a, dx, p, t, ds, es, rfl, _⟩ := h
    rfl
  obtain ⟨a, dx, p, t, ds, es, rfl, ea, src, l1, l2, z⟩ := z
  intro lw
  obtain ⟨ne, hp⟩ := lw.ent ea
  refine ⟨_, Gh.open ea, ?_⟩
  unfold dSeq dSetF dOpM dGhE dFrzE dFld
  simp only [dAnd, dAndV, dAsg, dC, dCB, dCall, dCallX, dChain, dCons, dDrop, dErr1, dIf, dIfS, dIsi, dLst, dNext, dNil, dNot, dNotV, dOp, dOr, dOrV, dPar, dRet, dRetN, dRetS, dSeq, dSet, dSl, dTest, dTup, dVar, dgCons, dgName, dgNil, dgTup, dNeg, endsD, xcOf, dFz, startD, wipeD, List.getElem?_cons_zero, List.getElem?_cons_succ, List.set_cons_zero, List.set_cons_succ, List.map_cons, List.map_nil, List.cons_append, List.nil_append, List.length_cons, List.length_nil, List.replicate]
  refine ⟨a, C, dx, _, _, rfl, opn_a ne, xc.cd.cl, xc.na, rfl, fun _ => ⟨_, Gh.close (opn_a ne) opn_p, ?_⟩⟩
  rw [cls_opn0 ea hp ne]
  refine ⟨_, es, rfl, src, l2, fun r2 hr2 => ⟨r2, es, rfl, updW_same, fun _ => ⟨_, Gh.trans (ω1 := ω) (by rw [delW_updW hr2]; exact Gh.refl) (Gh.open ea), ?_⟩⟩⟩
  refine ⟨ds, es, rsv_cell opn_p, by simp only [rsv], ?_, fun p2 hp2 => ⟨a, C, dx, [("rows", refD p)], rfl, ?_, xc.cd.cl, xc.na, (by show 1 < 1000; decide), fun _ => ⟨_, Gh.trans (Gh.close (C := C) (dx := dx) (f := "rows") (p := p2) (ds := ds ++ es) updW_same (by rw [updW_ne (opn_none hp2 ne).2.1]; exact updW_same)) (Gh.sub ?_), z p2⟩⟩⟩
  · have := l1.len
    have := l2.len
    rw [sizeLine_eq]
    omega
  · rw [updW_ne (Ne.symm (opn_none hp2 ne).2.1)]
    exact opn_a ne
  · intro b m e
    by_cases e1 : b = a
    · rw [e1, updW_same] at e
      rw [e1, cls_a]
      exact e
    · rw [updW_ne e1] at e
      have e2 : b ≠ p2 := fun y => by rw [y, (opn_none hp2 ne).1] at e; cases e
      have e3 : b ≠ p := fun y => by rw [y, hp] at e; cases e
      rw [cls_ne e1 e2, updW_ne e1, updW_ne e2, opn_ne e1 e3]
      exact e
end
end Tx

namespace Tx
open PySem PySem.Spec PyProof.Rows L2
/-- 0 self -/
abbrev sListed : Stmt := inClass (top 14) 17
theorem scListed : FnScope ["self"] ["self"] (defScope sListed) := ⟨rfl, rfl, rfl, by decide +kernel, rfl, by decide +kernel, by decide +kernel⟩
def dsListed (C : Addr) : DSp := fun ts ω q _ => ∃ a ds, ts = [refD a] ∧ Ent C ω a ds ∧ Lot ds ∧ NewL ω ds q
section
variable {P : Program} {w : World} {K : PySem.W.Frag} {mg : Str → Option Value} {base : Heap} {C : Addr}
theorem m_listed (xc : OC K mg "Entries" "rows" C) (h : HasM K C "listed" "Entries.listed" sListed) (B : Bi mg) (D_meant_by : Dfn P w K mg base CX0 31 "meant_by" ["value"] (spD K (dsMeant C))) :
    Mfn P w K mg base CX0 32 C "listed" ["self"] (spD K (dsListed C)) := by
  refine mfnD (k := 31) h B scListed (fun _ _ _ _ _ _ us hl => match us, hl with | [_], _ => rfl) (fun ts ω q xx h => ?_) (fun f cv A out s H E c => ⟨_, (dss_one (ds_ret (de_d D_meant_by c (by omega) (by rfl) (da_cons (de_var (pv 0)) da_nil)))), fun ts ω q xx z => ?_⟩)
  · obtain ⟨a, ds, rfl, _⟩ := h
    rfl
  obtain ⟨a, ds, rfl, ⟨dx, p, ea⟩, lot, z⟩ := z
  simp only [dAnd, dAndV, dAsg, dC, dCB, dCall, dCallX, dChain, dCons, dDrop, dErr1, dIf, dIfS, dIsi, dLst, dNext, dNil, dNot, dNotV, dOp, dOr, dOrV, dPar, dRet, dRetN, dRetS, dSeq, dSet, dSl, dTest, dTup, dVar, dgCons, dgName, dgNil, dgTup, dNeg, endsD, xcOf, dFz, startD, wipeD, List.getElem?_cons_zero, List.getElem?_cons_succ, List.set_cons_zero, List.set_cons_succ, List.map_cons, List.map_nil, List.cons_append, List.nil_append, List.length_cons, List.length_nil, List.replicate]
  exact ⟨_, ds, rfl, .inr ⟨a, dx, p, rfl, ea⟩, lot, z⟩
end
end Tx

namespace Tx
open PySem PySem.Spec PyProof.Rows L2
/-- 0 _law_value_here -/
abbrev sLawEntries : Stmt := top 21
theorem scLawEntries : FnScope ["_law_value_here"] ["_law_value_here"] (defScope sLawEntries) := ⟨rfl, rfl, rfl, by decide +kernel, rfl, by decide +kernel, by decide +kernel⟩
theorem Lot.shaped {ds : List PyData} (h : Lot ds) : SeqAt.shaped (.list ds) = true := (h.thing.ok (by omega) (by omega)).shaped
def dsEntries : DSp := fun ts ω q _ => ∃ t, ts = [t] ∧ isVal t = true ∧ q (.list (meantD t)) ω
section
variable {P : Program} {w : World} {K : PySem.W.Frag} {mg : Str → Option Value} {base : Heap} {C : Addr}
theorem m_eq (xc : OC K mg "Entries" "rows" C) (h : HasM K C "__eq__" "Entries.__eq__" sEq) (B : Bi mg) : Mfn P w K mg base CX0 1 C "__eq__" ["self", "other"] (spD K (dsEq C)) := by
  refine mfnD (k := 0) h B scEq (fun _ _ _ _ _ _ us hl => match us, hl with | [_, _], _ => rfl) (fun ts ω q xx h => ?_) (fun f cv A out s H E c => ⟨_, dss_gh (dss_one (ds_ret (de_and (de_isC rfl (by rfl) c.b.isinstance (de_var (pv 1)) (pe_gcl xc.cd.gC (by rfl))) (de_one (de_cmp (do_eq rfl c.r.units) (de_fld rfl (de_var (pv 0))) (de_fld rfl (de_var (pv 1))) (nomark _)))))), fun ts ω q xx z => ?_⟩)
  · obtain ⟨a, b, ds, es, rfl, _⟩ := h
    rfl
  obtain ⟨a, b, ds, es, rfl, ⟨dx, p, ea⟩, ⟨dy, r, eb⟩, l1, l2, z⟩ := z
  intro lw
  obtain ⟨ne, hp⟩ := lw.ent ea
  obtain ⟨ne2, hr⟩ := lw.ent eb
  by_cases ab : b = a
  · subst ab
    rw [ea] at eb
    cases eb
    refine ⟨_, Gh.open ea, ?_⟩
    unfold dRet dIsC dFld
    simp only [dAnd, dAndV, dAsg, dC, dCB, dCall, dCallX, dChain, dCons, dDrop, dErr1, dIf, dIfS, dIsi, dLst, dNext, dNil, dNot, dNotV, dOp, dOr, dOrV, dPar, dRet, dRetN, dRetS, dSeq, dSet, dSl, dTest, dTup, dVar, dgCons, dgName, dgNil, dgTup, dNeg, endsD, xcOf, dFz, startD, wipeD, List.getElem?_cons_zero, List.getElem?_cons_succ, List.set_cons_zero, List.set_cons_succ, List.map_cons, List.map_nil, List.cons_append, List.nil_append, List.length_cons, List.length_nil, List.replicate]
    refine ⟨.ref C, true, .ins (m := "") ⟨b, _, rfl, opn_a ne, rfl, rfl⟩ xc.cd.cl xc.ha xc.hn xc.htk xc.hm, xc.kc, ?_⟩
    refine ⟨b, C, dx, _, _, rfl, opn_a ne, xc.cd.cl, xc.na, rfl, b, C, dx, _, _, rfl, opn_a ne, xc.cd.cl, xc.na, rfl, ?_⟩
    refine eqD_of (Full.cell opn_p) (Full.cell opn_p) l1.shaped l1.shaped fun _ => ⟨_, Gh.close (opn_a ne) opn_p, ?_⟩
    rw [cls_opn0 ea hp ne]
    exact z
  · have bp : b ≠ p := fun e => by rw [e, hp] at eb; cases eb
    have ar : a ≠ r := fun e => by rw [e, hr] at ea; cases ea
    have eb' : opn ω a C dx p "rows" ds b = some (.ent C dy r "rows" es) := by rw [opn_ne ab bp]; exact eb
    obtain ⟨lK, lJ, lH, lwr⟩ := lw
    obtain ⟨J1, w1, _⟩ := Gh.open ea lK lJ lH lwr
    obtain ⟨_, hr'⟩ := Lw.ent ⟨_, _, _, w1⟩ eb'
    have pr : p ≠ r := fun e => by rw [← e, opn_p] at hr'; cases hr'
    refine ⟨_, (Gh.open ea).trans (Gh.open eb'), ?_⟩
    have qa : opn (opn ω a C dx p "rows" ds) b C dy r "rows" es a = some (.ins C dx [("rows", refD p)]) := by rw [opn_ne (Ne.symm ab) ar]; exact opn_a ne
    have qp : opn (opn ω a C dx p "rows" ds) b C dy r "rows" es p = some (.lst ds) := by rw [opn_ne (Ne.symm bp) pr]; exact opn_p
    unfold dRet dIsC dFld
    simp only [dAnd, dAndV, dAsg, dC, dCB, dCall, dCallX, dChain, dCons, dDrop, dErr1, dIf, dIfS, dIsi, dLst, dNext, dNil, dNot, dNotV, dOp, dOr, dOrV, dPar, dRet, dRetN, dRetS, dSeq, dSet, dSl, dTest, dTup, dVar, dgCons, dgName, dgNil, dgTup, dNeg, endsD, xcOf, dFz, startD, wipeD, List.getElem?_cons_zero, List.getElem?_cons_succ, List.set_cons_zero, List.set_cons_succ, List.map_cons, List.map_nil, List.cons_append, List.nil_append, List.length_cons, List.length_nil, List.replicate]
    refine ⟨.ref C, true, .ins (m := "") ⟨b, _, rfl, opn_a ne2, rfl, rfl⟩ xc.cd.cl xc.ha xc.hn xc.htk xc.hm, xc.kc, ?_⟩
    refine ⟨a, C, dx, _, _, rfl, qa, xc.cd.cl, xc.na, rfl, b, C, dy, _, _, rfl, opn_a ne2, xc.cd.cl, xc.na, rfl, ?_⟩
    refine eqD_of (Full.cell qp) (Full.cell opn_p) l1.shaped l2.shaped fun _ => ⟨_, Gh.trans (Gh.close (opn_a ne2) opn_p) (Gh.close (C := C) (dx := dx) (p := p) (f := "rows") (ds := ds) (a := a) (by rw [cls_opn0 eb' hr' ne2]; exact opn_a ne) (by rw [cls_opn0 eb' hr' ne2]; exact opn_p)), ?_⟩
    rw [cls_opn0 eb' hr' ne2, cls_opn0 ea hp ne]
    exact z
theorem dd_entries (h : Has K mg "_law_entries" sLawEntries) (B : Bi mg) : Dfn P w K mg base CX0 1 "_law_entries" ["_law_value_here"] (spD K dsEntries) := by
  refine dfnD (k := 0) h B scLawEntries (fun _ _ _ _ _ _ us hl => match us, hl with | [_], _ => rfl) (fun ts ω q xx h => ?_) (fun f cv A out s H E c => ⟨_, (dss_cons (ds_if (dt_cmp (do_is rfl) (de_var (pv 0)) de_non (nomark _)) (dss_one (ds_ret (de_lst da_nil))) dss_nil)
    (dss_one (ds_ret (de_if (dt_val (de_isi (T := "str") rfl kit_str (by rfl) c.b.isinstance (de_var (pv 0)) (pe_bltn (v := .ty "str") (by rfl) c.b.str (by decide +kernel) rfl))) (de_lst (da_cons (de_var (pv 0)) da_nil)) (de_callTy (dc_list rfl rfl) (by rfl) c.b.list (by decide +kernel) (da_cons (de_var (pv 0)) da_nil)))))), fun ts ω q xx z => ?_⟩)
  · obtain ⟨t, rfl, _⟩ := h
    rfl
  obtain ⟨t, rfl, v, z⟩ := z
  simp only [dAnd, dAndV, dAsg, dC, dCB, dCall, dCallX, dChain, dCons, dDrop, dErr1, dIf, dIfS, dIsi, dLst, dNext, dNil, dNot, dNotV, dOp, dOr, dOrV, dPar, dRet, dRetN, dRetS, dSeq, dSet, dSl, dTest, dTup, dVar, dgCons, dgName, dgNil, dgTup, dNeg, endsD, xcOf, dFz, startD, wipeD, List.getElem?_cons_zero, List.getElem?_cons_succ, List.set_cons_zero, List.set_cons_succ, List.map_cons, List.map_nil, List.cons_append, List.nil_append, List.length_cons, List.length_nil, List.replicate]
  cases t with
  | none => exact ⟨rfl, iteT ⟨by decide, z⟩⟩
  | str x => exact ⟨rfl, iteF ⟨trivial, iteT ⟨by decide, z⟩⟩⟩
  | list ds => exact ⟨rfl, iteF ⟨trivial, iteF z⟩⟩
  | _ => simp [isVal] at v
end
end Tx

namespace Tx
open PySem PySem.Spec PyProof.Rows L2
/-! ## value + object; Entries whose rows are new at any depth -/
structure OR (K : PySem.W.Frag) (C : Addr) : Prop where
  first : PySem.W.selfFirst K C = true
  ln : LeftT K C "add" "NoneType"
  ls : LeftT K C "add" "str"
  ll : LeftT K C "add" "list"
  has : ∃ g : Addr, PySem.W.findIn K (.ref C) (PySem.dunder "add") = some (some (.ref g))
theorem or_of {K : PySem.W.Frag} {C g : Addr} {o1 o2 o3 o4 o5 o6 : Option Value} (sf : PySem.W.selfFirst K C = true)
    (n1 : PySem.W.findIn K (.type "NoneType") (PySem.dunder "add") = some o1) (n2 : PySem.W.findIn K (.type "NoneType") (dunderR "add") = some o2) (n3 : ((o1.isSome && !isSeqSlot o1) || (o2.isSome && !isSeqSlot o2)) = false)
    (s1 : PySem.W.findIn K (.type "str") (PySem.dunder "add") = some o3) (s2 : PySem.W.findIn K (.type "str") (dunderR "add") = some o4) (s3 : ((o3.isSome && !isSeqSlot o3) || (o4.isSome && !isSeqSlot o4)) = false)
    (l1 : PySem.W.findIn K (.type "list") (PySem.dunder "add") = some o5) (l2 : PySem.W.findIn K (.type "list") (dunderR "add") = some o6) (l3 : ((o5.isSome && !isSeqSlot o5) || (o6.isSome && !isSeqSlot o6)) = false)
    (has : PySem.W.findIn K (.ref C) (PySem.dunder "add") = some (some (.ref g))) : OR K C := ⟨sf, ⟨_, _, n1, n2, n3⟩, ⟨_, _, s1, s2, s3⟩, ⟨_, _, l1, l2, l3⟩, _, has⟩
def rmRad (C : Addr) (sp : DSp) : RM2 := fun dx dy ω q => (tyR ω dx = some "NoneType" ∨ tyR ω dx = some "str" ∨ tyR ω dx = some "list") ∧ InsD C "__radd__" ω dy ∧ sp [dy, dx] ω q X0
theorem dm_radd {X : Cx} {K : PySem.W.Frag} {C : Addr} {j k : Nat} {ps : List Str} {sp : DSp} (hK : X.K = K) (M : Mfn X.prog X.w X.K X.mg X.base CX0 j C "__radd__" ps (spD K sp)) (c : Ct X.mg X.A k) (h : j ≤ k) (L : OR K C) (hn : dunderR "add" = "__radd__" := by rfl) : OpR X (binaryOp .Add) (lift2M K (rmRad C sp)) := by
  subst hK
  obtain ⟨f, fd, F, hm, hb⟩ := M
  intro pins s σ H x y v u Q I rx ry ⟨J, ω, dx, dy, q, w, r1, r2, cq, ty, i2, z⟩
  obtain ⟨b, d2, od2, rfl, rfl, J2⟩ := insD_at w I r2 ry i2
  have run := own_run F hb (c.r.mono h) c.g I.env0 I (.cons ry (.cons rx .nil)) w (.cons r2 (.cons r1 .nil)) cq z
  obtain ⟨g, h3⟩ := L.has
  have back : wpAny (model X.prog X.w) X.A (call (.ref f) [.ref b, v]) (PySem.W.CmpBack (EP X pins σ Q)) X.xe s := thn run fun v' s' ⟨z', H', I', rz, qz⟩ => SlX.cmpback rz ⟨z', H', I', rz, qz⟩
  rcases ty with t | t | t
  · exact ref_own (op := .Add) I.kIn J2 (looks_ty w I r1 rx t) L.first L.ln h3 (by rw [show (Operator.Add).info.2 = "add" from rfl, hn]; exact hm.at_) hm.fn back
  · exact ref_own (op := .Add) I.kIn J2 (looks_ty w I r1 rx t) L.first L.ls h3 (by rw [show (Operator.Add).info.2 = "add" from rfl, hn]; exact hm.at_) hm.fn back
  · exact ref_own (op := .Add) I.kIn J2 (looks_ty w I r1 rx t) L.first L.ll h3 (by rw [show (Operator.Add).info.2 = "add" from rfl, hn]; exact hm.at_) hm.fn back
/-- an instance and its new list become one cell -/
theorem Gh.hold {ω : Wd} {a C dx p : Addr} {f : Str} {N : Hp} {ds : List PyData} (ha : ω a = some (.ins C dx [(f, refD p)])) (hp : ω p = some (.tmp N (.list ds))) (val : isValAll ds = true) : Gh ω (cls ω a C dx p f ds) := fun K J H w => by
  obtain ⟨gs, e1, r1⟩ := w.cell a _ ha
  obtain ⟨sN, rN, nN⟩ := w.cell p _ hp
  obtain ⟨vs, e2, ra⟩ : ∃ vs, N p = some (.lst vs) ∧ RpAll K N vs ds := by
    cases rN with
    | lst h1 h2 => exact ⟨_, h1, h2⟩
  have hH := sN _ _ e2
  have ne : p ≠ a := fun e => by rw [e, e1] at hH; cases hH
  have eg : gs = [(f, .ref p)] := by
    cases r1 with
    | cons h t =>
      cases t
      obtain ⟨h1, h2⟩ := h
      rename_i g
      obtain ⟨g1, g2⟩ := g
      simp only at h1 h2
      rw [h1, rp_ref h2]
  subst eg
  let N' : Hp := fun b => if b = p then none else N b
  have n1 : ∀ b o, N' b = some o → N b = some o ∧ b ≠ p := fun b o e => by
    by_cases z : b = p
    · simp only [N', if_pos z] at e; cases e
    · simp only [N', if_neg z] at e; exact ⟨e, z⟩
  have n2 : ∀ b, N b = none → N' b = none := fun b e => by
    cases q : N' b with
    | none => rfl
    | some o => rw [(n1 b o q).1] at e; cases e
  have n3 : ∀ b, N' b ≠ none → N b ≠ none := fun b e z => e (n2 b z)
  have np : N' p = none := if_pos rfl
  have ra' : RpAll K N' vs ds := by
    refine nwAll_rp ds (fun x => x = p) vs (rpAll_nw (Same.refl N) ds _ vs val ra fun x hx => .inr ⟨.list ds, by simpa only [isVal] using val, by rw [hx]; exact rN, by simp only [PyData.depth]; omega⟩) fun b o nb e => ?_
    simp only [N', if_neg nb]
    exact e
  have tp := w.tmp p _ hp
  have sj : Same J (join J N') := same_join fun b nb => (tp b (n3 b nb)).1
  have jp : join J N' p = none := by rw [join_none np]; exact w.out p _ hp
  have na : N a = none := by
    cases q : N a with
    | none => rfl
    | some o => have := (tp a (show N a ≠ none by rw [q]; simp)).2.1 (Ne.symm ne); rw [ha] at this; cases this
  have jh : Same (join J N') H := fun b u e => by
    cases q : N' b with
    | none => rw [join_none q] at e; exact w.jh b u e
    | some o => rw [join_some q] at e; cases e; exact sN b _ (n1 b _ q).1
  have out : ∀ b m, b ≠ p → ω b = some m → join J N' b = none := fun b m nb e => by
    rw [join_none]
    · exact w.out b m e
    · refine n2 b ?_
      cases q : N b with
      | none => rfl
      | some o => have := (tp b (show N b ≠ none by rw [q]; simp)).2.1 nb; rw [this] at e; cases e
  have prv : ∀ b m b', b ≠ p → ω b = some m → m.priv b' → join J N' b' = none := fun b m b' nb e pb => by
    obtain ⟨t1, _, t3⟩ := w.tmp b m e b' pb
    rw [join_none (n2 b' (priv_none (t3 p _ (Ne.symm nb) hp)))]
    exact t1
  refine ⟨join J N', ⟨jh, fun b m e => ?_, fun b m e => ?_, fun b m e b' pb => ?_⟩, sj, fun _ z => z, fun _ _ z _ => z, fun b _ z j => ?_, fun b _ z => ?_⟩
  · by_cases e4 : b = a
    · subst e4; exact out _ _ (Ne.symm ne) ha
    · have bp : b ≠ p := fun z => by rw [z, cls_p ne] at e; cases e
      rw [cls_ne e4 bp] at e
      exact out b m bp e
  · by_cases e4 : b = a
    · subst e4
      rw [cls_a] at e
      cases e
      exact ⟨e1, vs, hH, rpAll_mono same_joinN _ _ ra'⟩
    · have bp : b ≠ p := fun z => by rw [z, cls_p ne] at e; cases e
      rw [cls_ne e4 bp] at e
      exact (w.cell b m e).mono sj fun _ _ _ z => z
  · by_cases e4 : b = a
    · subst e4
      rw [cls_a] at e
      cases e
      rw [show b' = p from pb]
      refine ⟨jp, fun _ => cls_p ne, fun c m' nc ec => ?_⟩
      have cp : c ≠ p := fun e => by rw [e, cls_p ne] at ec; cases ec
      rw [cls_ne nc cp] at ec
      exact w.apart hp cp ec
    · have bp : b ≠ p := fun z => by rw [z, cls_p ne] at e; cases e
      rw [cls_ne e4 bp] at e
      obtain ⟨t1, t2, t3⟩ := w.tmp b m e b' pb
      refine ⟨prv b m b' bp e pb, fun nb => ?_, fun c m' nc ec => ?_⟩
      · by_cases z : b' = a
        · rw [z] at nb t2; rw [t2 nb] at ha; cases ha
        · by_cases z2 : b' = p
          · rw [z2]; exact cls_p ne
          · rw [cls_ne z z2]; exact t2 nb
      · by_cases z : c = a
        · subst z
          rw [cls_a] at ec
          cases ec
          intro z2
          rw [show b' = p from z2] at t2
          rw [t2 (Ne.symm bp)] at hp
          cases hp
        · have cp : c ≠ p := fun e => by rw [e, cls_p ne] at ec; cases ec
          rw [cls_ne z cp] at ec
          exact t3 c m' nc ec
  · rw [join_none (n2 b (priv_none (z.2 p _ hp)))]; exact j
  · have n1' : b ≠ a := fr_ne0 ha z
    have n2' : b ≠ p := fr_ne0 hp z
    refine ⟨by rw [cls_ne n1' n2']; exact z.1, fun c m' ec => ?_⟩
    by_cases e4 : c = a
    · subst e4; rw [cls_a] at ec; cases ec; exact n2'
    · have cp : c ≠ p := fun e => by rw [e, cls_p ne] at ec; cases ec
      rw [cls_ne e4 cp] at ec
      exact z.2 c m' ec
end Tx

namespace Tx
open PySem PySem.Spec PyProof.Rows L2
/-! ## Entries: __mul__, __rmul__ -/
structure OM (K : PySem.W.Frag) (C : Addr) : Prop where
  bm : OwnBin K C "mul"
  ri : RightT K C "mul" "int"
  li : LeftI K C
theorem om_of {K : PySem.W.Frag} {C g : Addr} {o1 o2 o3 : Option Value} (sf : PySem.W.selfFirst K C = true) (ra : PySem.W.findIn K (.ref C) (dunderR "mul") = some o3) (ra2 : o3 = none ∨ ∃ g : Addr, o3 = some (.ref g)) (n1 : PySem.W.findIn K (.type "int") (PySem.dunder "mul") = some o1) (n2 : PySem.W.findIn K (.type "int") (dunderR "mul") = some o2)
    (n3 : PySem.W.subIn K (.type "int") (.ref C) = some false) (sub : PySem.W.subIn K (.ref C) (.type "int") = some false) (has : PySem.W.findIn K (.ref C) (PySem.dunder "mul") = some (some (.ref g))) : OM K C :=
  ⟨⟨sf, _, ra, ra2⟩, ⟨⟨_, n1⟩, ⟨_, n2⟩, n3⟩, ⟨sf, ⟨_, n1⟩, ⟨_, n2⟩, sub, ⟨_, has⟩⟩⟩
/-- 0 self, 1 count, 2 turn, 3 one -/
abbrev sMul : Stmt := inClass (top 14) 11
theorem scMul : FnScope ["self", "count", "turn", "one"] ["self", "count"] (defScope sMul) := ⟨rfl, rfl, rfl, by decide +kernel, rfl, by decide +kernel, by decide +kernel⟩
/-- 0 self, 1 count -/
abbrev sRmul : Stmt := inClass (top 14) 12
theorem scRmul : FnScope ["self", "count"] ["self", "count"] (defScope sRmul) := ⟨rfl, rfl, rfl, by decide +kernel, rfl, by decide +kernel, by decide +kernel⟩
def repD (k : Int) (ds : List PyData) : List PyData := (List.replicate k.toNat ds).flatten
def dsMul (C : Addr) : DSp := fun ts ω q _ => ∃ a dx p ds k, ts = [refD a, .int k] ∧ ω a = some (.ent C dx p "rows" ds) ∧ Lot ds ∧ ((-(2 ^ 62) ≤ k ∧ k < 2 ^ 62) ∨ farLow k) ∧ Val 19 900000 (.list (repD k ds)) ∧ ∀ b dx' p', ω b = none → q (refD b) (updW ω b (.ent C dx' p' "rows" (repD k ds)))
theorem rep_len {n : Nat} {ds : List PyData} : (List.replicate n ds).flatten.length = n * ds.length := by
  induction n with
  | zero => simp
  | succ n ih => rw [List.replicate_succ, List.flatten_cons, List.length_append, ih, Nat.succ_mul]; omega
theorem rep_succ {n : Nat} {ds : List PyData} : (List.replicate n ds).flatten ++ ds = (List.replicate (n + 1) ds).flatten := by
  rw [List.replicate_succ', List.flatten_append]
  simp
section
variable {P : Program} {w : World} {K : PySem.W.Frag} {mg : Str → Option Value} {base : Heap} {C : Addr}
theorem m_mul (xc : OC K mg "Entries" "rows" C) (h : HasM K C "__mul__" "Entries.__mul__" sMul) (B : Bi mg) (D_copied : Dfn P w K mg base CX0 30 "copied" ["value"] (spD K (dsCopied 30))) (M_init : Mfn P w K mg base CX0 33 C "__init__" ["self", "value"] (spD K (dsInit C))) :
    Mfn P w K mg base CX0 35 C "__mul__" ["self", "count"] (spD K (dsMul C)) := by
  refine mfnD (k := 34) h B scMul (fun _ _ _ _ _ _ us hl => match us, hl with | [_, _], _ => rfl) (fun ts ω q xx h => ?_) (fun f cv A out s H E c => ⟨_, dss_gh (dss_one (ds_ret (de_make rfl xc.cd M_init c (by omega) (by rfl) px0 (da_cons (de_frzE (de_lc2 (own := [("turn", 2), ("one", 3)]) (gd := (dgName 2)) (gd1 := (dgName 3)) (is := [2]) (is1 := [3]) (vs1 := [3]) rfl scMul.nd (dio_d (di_rangeW (by rfl) c.b.range (da_cons (de_var (pv 1)) da_nil))) (blkOk_by (own := [("turn", 2), ("one", 3)]) (N := ["self", "count", "turn", "one"]) (sc := defScope sMul) (by decide +kernel)) (by decide) (fun _ _ _ _ _ => (dg_name (pg_name (i := 2) scMul.nd rfl (Or.inl rfl)))) (fun _ _ _ _ _ => (dio_o rfl (de_fld rfl (de_var (pv 0))))) (fun _ _ _ _ _ => (dg_name (pg_name (i := 3) scMul.nd rfl (Or.inl rfl)))) (fun _ _ _ _ _ => (de_fz (de_d D_copied c (by omega) (by rfl) (da_cons (de_var (pv 3)) da_nil)))))) da_nil)))), fun ts ω q xx z => ?_⟩)
  · obtain ⟨a, dx, p, ds, k, rfl, _⟩ := h
    rfl
  obtain ⟨a, dx, p, ds, k, rfl, ea, lot, hk, v, z⟩ := z
  intro lw
  obtain ⟨ne, hp⟩ := lw.ent ea
  refine ⟨_, Gh.open ea, ?_⟩
  unfold dRet dMake dFrzE dLc2 dioD diRangeW
  simp only [dAnd, dAndV, dAsg, dC, dCB, dCall, dCallX, dChain, dCons, dDrop, dErr1, dIf, dIfS, dIsi, dLst, dNext, dNil, dNot, dNotV, dOp, dOr, dOrV, dPar, dRet, dRetN, dRetS, dSeq, dSet, dSl, dTest, dTup, dVar, dgCons, dgName, dgNil, dgTup, dNeg, endsD, xcOf, dFz, startD, wipeD, List.getElem?_cons_zero, List.getElem?_cons_succ, List.set_cons_zero, List.set_cons_succ, List.map_cons, List.map_nil, List.cons_append, List.nil_append, List.length_cons, List.length_nil, List.replicate]
  have xl : ((List.range k.toNat).map fun i : Nat => PyData.int ((i : Nat) : Int)).length = k.toNat := by rw [List.length_map, List.length_range]
  have tot : k.toNat * ds.length ≤ 900000 := by
    have h1 := v.size
    have h2 := len_le_szAll (repD k ds)
    have h3 : (repD k ds).length = k.toNat * ds.length := rep_len
    simp only [szD] at h1
    omega
  refine ⟨hk, fun i acc ω2 => acc = (List.replicate i ds).flatten ∧ ω2 = opn ω a C dx p "rows" ds, ⟨rfl, rfl⟩, fun _ _ _ _ => trivial, fun i y acc ω2 e h => ?_, fun acc ω2 h r hr => ?_⟩
  · obtain ⟨rfl, rfl⟩ := h
    have hi : i < k.toNat := by
      have := (List.getElem?_eq_some_iff.mp e).1
      rw [xl] at this
      exact this
    have step : (i + 1) * ds.length ≤ k.toNat * ds.length := Nat.mul_le_mul_right _ hi
    rw [Nat.succ_mul] at step
    unfold dioO dFld
    simp only [dAnd, dAndV, dAsg, dC, dCB, dCall, dCallX, dChain, dCons, dDrop, dErr1, dIf, dIfS, dIsi, dLst, dNext, dNil, dNot, dNotV, dOp, dOr, dOrV, dPar, dRet, dRetN, dRetS, dSeq, dSet, dSl, dTest, dTup, dVar, dgCons, dgName, dgNil, dgTup, dNeg, endsD, xcOf, dFz, startD, wipeD, List.getElem?_cons_zero, List.getElem?_cons_succ, List.set_cons_zero, List.set_cons_succ, List.map_cons, List.map_nil, List.cons_append, List.nil_append, List.length_cons, List.length_nil, List.replicate]
    refine ⟨a, C, dx, _, _, rfl, opn_a ne, xc.cd.cl, xc.na, rfl, p, ds, rfl, opn_p, ?_⟩
    refine ⟨fun j a' ω3 => a' = (List.replicate i ds).flatten ++ ds.take j ∧ ω3 = opn ω a C dx p "rows" ds, ⟨by simp, rfl⟩, fun j a' ω3 h => by rw [h.2]; exact opn_p, fun j y a' ω3 ej h => ?_, fun a' ω3 h => ?_⟩
    · obtain ⟨rfl, rfl⟩ := h
      obtain ⟨v1, v2, v3⟩ := lot.get ej
      simp only [dAnd, dAndV, dAsg, dC, dCB, dCall, dCallX, dChain, dCons, dDrop, dErr1, dIf, dIfS, dIsi, dLst, dNext, dNil, dNot, dNotV, dOp, dOr, dOrV, dPar, dRet, dRetN, dRetS, dSeq, dSet, dSl, dTest, dTup, dVar, dgCons, dgName, dgNil, dgTup, dNeg, endsD, xcOf, dFz, startD, wipeD, List.getElem?_cons_zero, List.getElem?_cons_succ, List.set_cons_zero, List.set_cons_succ, List.map_cons, List.map_nil, List.cons_append, List.nil_append, List.length_cons, List.length_nil, List.replicate]
      refine ⟨y, rfl, v1, v2, v3, fun u ω' tm => ⟨y, _, tm.fz, ?_, by rw [List.append_assoc, take_snoc ej], rfl⟩⟩
      rw [List.length_append, rep_len, sizeLine_eq]
      have := List.length_take_le j ds
      have := List.length_take_le' j ds
      omega
    · obtain ⟨rfl, rfl⟩ := h
      rw [List.take_length, rep_succ]
      exact ⟨rfl, rfl⟩
  · obtain ⟨rfl, rfl⟩ := h
    rw [xl]
    refine ⟨r, _, rfl, updW_same, ?_⟩
    rw [delW_updW hr]
    intro b dx' hb
    have nb := opn_none hb ne
    refine ⟨b, dx', _, rfl, updW_same, v, fun p' hp' => ⟨rfl, fun _ => ⟨_, Gh.close (C := C) (dx := dx) (f := "rows") (p := p) (a := a) (ds := ds) (by rw [updW_updW, updW_ne (Ne.symm nb.2.1)]; exact opn_a ne) (by rw [updW_updW, updW_ne (Ne.symm nb.2.2)]; exact opn_p), ?_⟩⟩⟩
    rw [updW_updW, cls_opn_any ea hp ne hb]
    exact z b dx' p' nb.1
theorem m_rmul (xc : OC K mg "Entries" "rows" C) (xm : OM K C) (h : HasM K C "__rmul__" "Entries.__rmul__" sRmul) (B : Bi mg) (M_mul : Mfn P w K mg base CX0 35 C "__mul__" ["self", "count"] (spD K (dsMul C))) :
    Mfn P w K mg base CX0 36 C "__rmul__" ["self", "count"] (spD K (dsMul C)) := by
  refine mfnD (k := 35) h B scRmul (fun _ _ _ _ _ _ us hl => match us, hl with | [_, _], _ => rfl) (fun ts ω q xx h => ?_) (fun f cv A out s H E c => ⟨_, (dss_one (ds_ret (de_opM (dm_bin rfl M_mul c (by omega) xm.bm) (de_var (pv 0)) (de_var (pv 1))))), fun ts ω q xx z => ?_⟩)
  · obtain ⟨a, dx, p, ds, k, rfl, _⟩ := h
    rfl
  obtain ⟨a, dx, p, ds, k, rfl, ea, lot, hk, v, z⟩ := z
  unfold dRet dOpM
  simp only [dAnd, dAndV, dAsg, dC, dCB, dCall, dCallX, dChain, dCons, dDrop, dErr1, dIf, dIfS, dIsi, dLst, dNext, dNil, dNot, dNotV, dOp, dOr, dOrV, dPar, dRet, dRetN, dRetS, dSeq, dSet, dSl, dTest, dTup, dVar, dgCons, dgName, dgNil, dgTup, dNeg, endsD, xcOf, dFz, startD, wipeD, List.getElem?_cons_zero, List.getElem?_cons_succ, List.set_cons_zero, List.set_cons_succ, List.map_cons, List.map_nil, List.cons_append, List.nil_append, List.length_cons, List.length_nil, List.replicate]
  exact ⟨⟨a, _, rfl, ea, rfl, rfl⟩, .inl ⟨"int", rfl, xm.ri⟩, a, dx, p, ds, k, rfl, ea, lot, hk, v, z⟩
end
end Tx

namespace Tx
open PySem PySem.Spec PyProof.Rows L2
/-! ## Entries: indexes that may be refused -/
/-- 0 self, 1 at, 2 many -/
abbrev sIndexX : Stmt := inClass (top 14) 15
theorem scIndexX : FnScope ["self", "at", "many"] ["self", "at"] (defScope sIndexX) := ⟨rfl, rfl, rfl, by decide +kernel, rfl, by decide +kernel, by decide +kernel⟩
/-- 0 self, 1 at -/
abbrev sGetX : Stmt := inClass (top 14) 13
theorem scGetX : FnScope ["self", "at"] ["self", "at"] (defScope sGetX) := ⟨rfl, rfl, rfl, by decide +kernel, rfl, by decide +kernel, by decide +kernel⟩
/-- 0 self, 1 at, 2 value -/
abbrev sSetX : Stmt := inClass (top 14) 14
theorem scSetX : FnScope ["self", "at", "value"] ["self", "at", "value"] (defScope sSetX) := ⟨rfl, rfl, rfl, by decide +kernel, rfl, by decide +kernel, by decide +kernel⟩
/-- 0 self, 1 at, 2 value -/
abbrev sSetEX : Stmt := inClass (top 14) 16
theorem scSetEX : FnScope ["self", "at", "value"] ["self", "at", "value"] (defScope sSetEX) := ⟨rfl, rfl, rfl, by decide +kernel, rfl, by decide +kernel, by decide +kernel⟩
def ixOf (n : Nat) : PyData → Option Nat
  | .int i => ixN n i
  | _ => none
def Plain : PyData → Prop
  | .dict _ => False
  | _ => True
def Thg (ω : Wd) (t v : PyData) : Prop := t = v ∨ ∃ c N, t = refD c ∧ ω c = some (.tmp N v)
theorem Thg.full {ω : Wd} {t v : PyData} (h : Thg ω t v) : Full ω t v := by
  rcases h with rfl | ⟨c, N, rfl, e⟩
  · exact .inl rfl
  · exact Full.tmp e
def dsCopiedF (n : Nat) : DSp := fun ts ω q _ => ∃ t d, ts = [t] ∧ Thg ω t d ∧ isVal d = true ∧ d.depth < n ∧ szD d ≤ 1000000 ∧ ∀ u ω', Tm ω u d ω' → q u ω'
def dsIndexX (C N : Addr) : DSp := fun ts ω q xx => ∃ a dx p ds k, ts = [refD a, k] ∧ ω a = some (.ins C dx [("rows", refD p)]) ∧ ω p = some (.lst ds) ∧ ds.length ≤ 1000000 ∧ Plain k ∧ (match ixOf ds.length k with
  | some j => q (.int (j : Nat)) ω
  | none => xx N [("at", k)] ω)
def dsGetX (C N : Addr) : DSp := fun ts ω q xx => ∃ a dx p ds k, ts = [refD a, k] ∧ ω a = some (.ent C dx p "rows" ds) ∧ Lot ds ∧ Plain k ∧ (match ixOf ds.length k with
  | some j => ∃ d, ds[j]? = some d ∧ ∀ u ω', Tm ω u d ω' → q u ω'
  | none => xx N [("at", k)] ω)
def dsSetX (C N : Addr) : DSp := fun ts ω q xx => ∃ a dx p ds k t v, ts = [refD a, k, t] ∧ ω a = some (.ent C dx p "rows" ds) ∧ ds.length ≤ 1000000 ∧ Plain k ∧ Thg ω t v ∧ Val 20 1000000 v ∧ (match ixOf ds.length k with
  | some j => q .none (updW ω a (.ent C dx p "rows" (ds.set j v)))
  | none => xx N [("at", k)] ω)
section
variable {P : Program} {w : World} {K : PySem.W.Frag} {mg : Str → Option Value} {base : Heap} {C CN : Addr}
theorem dd_copiedF (h : Has K mg "copied" sCopied) (B : Bi mg) (n : Nat) : Dfn P w K mg base CX0 n "copied" ["value"] (spD K (dsCopiedF n)) := by
  refine (d_copied h B n).toD fun vs H Q E z => ?_
  obtain ⟨J, ω, ts, q, x, w, r, cq, cx, t, d, rfl, th, val, dn, sz, z⟩ := z
  cases r with
  | cons r1 r2 =>
  cases r2
  exact ⟨_, d, rfl, th.full.dp w r1 (fine_lay d (val_fine d val)), val, dn, sz, fun u H' sm hu => nw_tm w sm cq hu val z⟩
theorem m_indexX (xc : OC K mg "Entries" "rows" C) (X_NoEntry : Err1 P w K mg base "NoEntry" "at" CN) (h : HasM K C "index_of" "Entries.index_of" sIndexX) (B : Bi mg) : Mfn P w K mg base (L2.CX P w) 3 C "index_of" ["self", "at"] (spD K (dsIndexX C CN)) := by
  refine mfnDX (k := 2) h B scIndexX (fun _ _ _ _ _ _ us hl => match us, hl with | [_, _], _ => rfl) (fun ts ω q xx h => ?_) (fun f cv A out s H E c => ⟨_, (dss_cons (ds_set (i := 2) scIndexX.nd rfl (Or.inl rfl) (de_callB (dc_len rfl) (by rfl) c.b.len (by decide +kernel) (da_cons (de_fld rfl (de_var (pv 0))) da_nil)))
    (dss_cons (ds_if (DW.dt (dw_or (dt_not (dt_val (de_isi (T := "int") rfl kit_int (by rfl) c.b.isinstance (de_var (pv 1)) (pe_bltn (v := .ty "int") (by rfl) c.b.int (by decide +kernel) rfl)))) (dw_or (dt_val (de_isi (T := "bool") rfl kit_bool (by rfl) c.b.isinstance (de_var (pv 1)) (pe_bltn (v := .ty "bool") (by rfl) c.b.bool (by decide +kernel) rfl))) (dw_or1 (dt_not (dt_chain (do_le rfl) (do_lt rfl) (de_neg (de_var (pv 2))) (de_var (pv 1)) (de_var (pv 2)))))))) (dss_one (ds_err1 (k := 0) X_NoEntry rfl (c.r.mono (by omega)) (takes_of rfl rfl rfl rfl) (de_var (pv 1)) (by rfl))) dss_nil)
    (dss_one (ds_ret (de_if (dt_cmp (do_lt rfl) (de_var (pv 1)) de_int (nomark _)) (de_op (do_add rfl) (de_var (pv 1)) (de_var (pv 2))) (de_var (pv 1))))))), fun ts ω q xx z => ?_⟩)
  · obtain ⟨a, dx, p, ds, k, rfl, _⟩ := h
    rfl
  obtain ⟨a, dx, p, ds, k, rfl, ea, ep, el, pl, z⟩ := z
  unfold dSeq dSet dFld
  simp only [dAnd, dAndV, dAsg, dC, dCB, dCall, dCallX, dChain, dCons, dDrop, dErr1, dIf, dIfS, dIsi, dLst, dNext, dNil, dNot, dNotV, dOp, dOr, dOrV, dPar, dRet, dRetN, dRetS, dSeq, dSet, dSl, dTest, dTup, dVar, dgCons, dgName, dgNil, dgTup, dNeg, endsD, xcOf, dFz, startD, wipeD, List.getElem?_cons_zero, List.getElem?_cons_succ, List.set_cons_zero, List.set_cons_succ, List.map_cons, List.map_nil, List.cons_append, List.nil_append, List.length_cons, List.length_nil, List.replicate]
  refine ⟨a, C, dx, _, _, rfl, ea, xc.cd.cl, xc.na, rfl, lenD_cell ep ?_⟩
  cases k with
  | int k =>
    refine ⟨trivial, iteF ⟨trivial, iteF ?_⟩⟩
    refine ⟨trivial, ?_⟩
    by_cases h3 : -((ds.length : Nat) : Int) ≤ k
    · simp only [decide_eq_true h3, if_true]
      refine ⟨trivial, ?_⟩
      by_cases h4 : k < ((ds.length : Nat) : Int)
      · simp only [decide_eq_true h4, Bool.not_true, Bool.false_eq_true, if_false]
        refine ⟨trivial, ?_⟩
        simp only [ixOf] at z
        unfold ixN at z
        by_cases k0 : k < 0
        · simp only [decide_eq_true k0, if_true]
          rw [if_neg (by omega), if_pos h3] at z
          show q (.int (k + (ds.length : Nat))) ω
          have e : k + (ds.length : Nat) = (((k + (ds.length : Nat)).toNat : Nat) : Int) := by omega
          rw [e]
          exact z
        · simp only [decide_eq_false k0, Bool.false_eq_true, if_false]
          rw [if_pos (by omega), if_pos h4] at z
          have e : k = ((k.toNat : Nat) : Int) := by omega
          rw [e]
          exact z
      · simp only [decide_eq_false h4, Bool.not_false, if_true]
        simp only [ixOf] at z
        unfold ixN at z
        rw [if_pos (by omega), if_neg h4] at z
        exact z
    · simp only [decide_eq_false h3, Bool.false_eq_true, if_false, Bool.not_false, if_true]
      simp only [ixOf] at z
      unfold ixN at z
      rw [if_neg (by omega), if_neg h3] at z
      exact z
  | bool b => exact ⟨trivial, iteF ⟨trivial, iteT z⟩⟩
  | none => exact ⟨trivial, iteT z⟩
  | str _ => exact ⟨trivial, iteT z⟩
  | list _ => exact ⟨trivial, iteT z⟩
  | tuple _ => exact ⟨trivial, iteT z⟩
  | dict _ => exact False.elim pl
theorem ixOf_lt {n j : Nat} {k : PyData} (h : ixOf n k = some j) : j < n := by
  cases k with
  | int i => exact (ixN_seq h).2.1
  | _ => cases h
theorem m_getX (xc : OC K mg "Entries" "rows" C) (h : HasM K C "__getitem__" "Entries.__getitem__" sGetX) (B : Bi mg) (M_index_of : Mfn P w K mg base (L2.CX P w) 3 C "index_of" ["self", "at"] (spD K (dsIndexX C CN))) (D_copied : Dfn P w K mg base CX0 30 "copied" ["value"] (spD K (dsCopied 30))) :
    Mfn P w K mg base (L2.CX P w) 31 C "__getitem__" ["self", "at"] (spD K (dsGetX C CN)) := by
  refine mfnDX (k := 30) h B scGetX (fun _ _ _ _ _ _ us hl => match us, hl with | [_, _], _ => rfl) (fun ts ω q xx h => ?_) (fun f cv A out s H E c => ⟨_, dss_gh (dss_one (ds_ret (de_d D_copied c (by omega) (by rfl) (da_cons (de_ix rfl (de_fld rfl (de_var (pv 0))) (de_meth rfl M_index_of xc.cd.cl c (by omega) (pxX (takes_of rfl rfl rfl rfl)) (de_var (pv 0)) (da_cons (de_var (pv 1)) da_nil)) (fun _ _ => rfl)) da_nil)))), fun ts ω q xx z => ?_⟩)
  · obtain ⟨a, dx, p, ds, k, rfl, _⟩ := h
    rfl
  obtain ⟨a, dx, p, ds, k, rfl, ea, lot, pl, z⟩ := z
  intro lw
  obtain ⟨ne, hp⟩ := lw.ent ea
  refine ⟨_, Gh.open ea, ?_⟩
  unfold dRet dFld dMeth
  simp only [dAnd, dAndV, dAsg, dC, dCB, dCall, dCallX, dChain, dCons, dDrop, dErr1, dIf, dIfS, dIsi, dLst, dNext, dNil, dNot, dNotV, dOp, dOr, dOrV, dPar, dRet, dRetN, dRetS, dSeq, dSet, dSl, dTest, dTup, dVar, dgCons, dgName, dgNil, dgTup, dNeg, endsD, xcOf, dFz, startD, wipeD, List.getElem?_cons_zero, List.getElem?_cons_succ, List.set_cons_zero, List.set_cons_succ, List.map_cons, List.map_nil, List.cons_append, List.nil_append, List.length_cons, List.length_nil, List.replicate]
  refine ⟨a, C, dx, _, _, rfl, opn_a ne, xc.cd.cl, xc.na, rfl, a, _, rfl, opn_a ne, ⟨rfl, rfl⟩, a, dx, p, ds, k, rfl, opn_a ne, opn_p, lot.len, pl, ?_⟩
  cases e : ixOf ds.length k with
  | none =>
    rw [e] at z
    refine fun _ => ⟨_, Gh.close (opn_a ne) opn_p, ?_⟩
    rw [cls_opn0 ea hp ne]
    exact z
  | some j =>
    rw [e] at z
    obtain ⟨d, ed, z⟩ := z
    obtain ⟨v1, v2, v3⟩ := lot.get ed
    refine ixD_cell opn_p (d := d) ?_ ?_
    · unfold atI
      rw [ixN_at (ixOf_lt e)]
      exact ed
    refine ⟨d, rfl, v1, v2, v3, fun u ω' tm _ => ?_⟩
    rcases tm with ⟨nl, rfl, rfl⟩ | ⟨r, N, rfl, hr, rfl, il⟩
    · refine ⟨_, Gh.close (opn_a ne) opn_p, ?_⟩
      rw [cls_opn0 ea hp ne]
      exact z _ _ (.inl ⟨nl, rfl, rfl⟩)
    · obtain ⟨n0, n1, n2⟩ := opn_none hr ne
      refine ⟨_, Gh.close (C := C) (dx := dx) (p := p) (f := "rows") (ds := ds) (by rw [updW_ne (Ne.symm n1)]; exact opn_a ne) (by rw [updW_ne (Ne.symm n2)]; exact opn_p), ?_⟩
      rw [cls_opn_any ea hp ne hr]
      exact z _ _ (.inr ⟨r, N, rfl, n0, rfl, il⟩)
theorem m_setX (xc : OC K mg "Entries" "rows" C) (h : HasM K C "__setitem__" "Entries.__setitem__" sSetX) (B : Bi mg) (M_index_of : Mfn P w K mg base (L2.CX P w) 3 C "index_of" ["self", "at"] (spD K (dsIndexX C CN))) (D_copied : Dfn P w K mg base CX0 30 "copied" ["value"] (spD K (dsCopiedF 30))) :
    Mfn P w K mg base (L2.CX P w) 31 C "__setitem__" ["self", "at", "value"] (spD K (dsSetX C CN)) := by
  refine mfnDX (k := 30) h B scSetX (fun _ _ _ _ _ _ us hl => match us, hl with | [_, _, _], _ => rfl) (fun ts ω q xx h => ?_) (fun f cv A out s H E c => ⟨_, dss_gh (dss_one (ds_setS (de_fld rfl (de_var (pv 0))) (de_meth rfl M_index_of xc.cd.cl c (by omega) (pxX (takes_of rfl rfl rfl rfl)) (de_var (pv 0)) (da_cons (de_var (pv 1)) da_nil)) (de_fz (de_d D_copied c (by omega) (by rfl) (da_cons (de_var (pv 2)) da_nil))) set_listO)), fun ts ω q xx z => ?_⟩)
  · obtain ⟨a, dx, p, ds, k, t, v, rfl, _⟩ := h
    rfl
  obtain ⟨a, dx, p, ds, k, t, v, rfl, ea, el, pl, th, vv, z⟩ := z
  intro lw
  obtain ⟨ne, hp⟩ := lw.ent ea
  refine ⟨_, Gh.open ea, ?_⟩
  have th2 : Thg (opn ω a C dx p "rows" ds) t v := by
    rcases th with rfl | ⟨c, N, rfl, e⟩
    · exact .inl rfl
    · refine .inr ⟨c, N, rfl, ?_⟩
      rw [opn_ne (fun z => by rw [z, ea] at e; cases e) (fun z => by rw [z, hp] at e; cases e)]
      exact e
  unfold dSetS dFld dMeth
  simp only [dAnd, dAndV, dAsg, dC, dCB, dCall, dCallX, dChain, dCons, dDrop, dErr1, dIf, dIfS, dIsi, dLst, dNext, dNil, dNot, dNotV, dOp, dOr, dOrV, dPar, dRet, dRetN, dRetS, dSeq, dSet, dSl, dTest, dTup, dVar, dgCons, dgName, dgNil, dgTup, dNeg, endsD, xcOf, dFz, startD, wipeD, List.getElem?_cons_zero, List.getElem?_cons_succ, List.set_cons_zero, List.set_cons_succ, List.map_cons, List.map_nil, List.cons_append, List.nil_append, List.length_cons, List.length_nil, List.replicate]
  refine ⟨t, v, rfl, th2, vv.val, by have := vv.deep; omega, vv.size, fun u ω' tm => ⟨v, _, tm.fz, a, C, dx, _, _, rfl, opn_a ne, xc.cd.cl, xc.na, rfl, a, _, rfl, opn_a ne, ⟨rfl, rfl⟩, a, dx, p, ds, k, rfl, opn_a ne, opn_p, el, pl, ?_⟩⟩
  cases e : ixOf ds.length k with
  | none =>
    rw [e] at z
    refine fun _ => ⟨_, Gh.close (opn_a ne) opn_p, ?_⟩
    rw [cls_opn0 ea hp ne]
    exact z
  | some j =>
    rw [e] at z
    refine ⟨p, ds, (j : Nat), j, rfl, rfl, opn_p, ixN_at (ixOf_lt e), fun _ => ⟨_, Gh.close (by rw [updW_ne (Ne.symm ne)]; exact opn_a ne) updW_same, ?_⟩⟩
    rw [cls_opn hp ne]
    exact z
theorem m_setEX (xc : OC K mg "Entries" "rows" C) (h : HasM K C "set_entry" "Entries.set_entry" sSetEX) (B : Bi mg) (M_setitem : Mfn P w K mg base (L2.CX P w) 31 C "__setitem__" ["self", "at", "value"] (spD K (dsSetX C CN))) :
    Mfn P w K mg base (L2.CX P w) 32 C "set_entry" ["self", "at", "value"] (spD K (dsSetX C CN)) := by
  refine mfnDX (k := 31) h B scSetEX (fun _ _ _ _ _ _ us hl => match us, hl with | [_, _, _], _ => rfl) (fun ts ω q xx h => ?_) (fun f cv A out s H E c => ⟨_, (dss_one (ds_setSX (de_var (pv 0)) (de_var (pv 1)) (de_var (pv 2)) (set_ownX rfl M_setitem c (by omega) xc.nq (pxX (takes_of rfl rfl rfl rfl))))), fun ts ω q xx z => ?_⟩)
  · obtain ⟨a, dx, p, ds, k, t, v, rfl, _⟩ := h
    rfl
  obtain ⟨a, dx, p, ds, k, t, v, rfl, ea, z⟩ := z
  unfold dSetSX
  simp only [dAnd, dAndV, dAsg, dC, dCB, dCall, dCallX, dChain, dCons, dDrop, dErr1, dIf, dIfS, dIsi, dLst, dNext, dNil, dNot, dNotV, dOp, dOr, dOrV, dPar, dRet, dRetN, dRetS, dSeq, dSet, dSl, dTest, dTup, dVar, dgCons, dgName, dgNil, dgTup, dNeg, endsD, xcOf, dFz, startD, wipeD, List.getElem?_cons_zero, List.getElem?_cons_succ, List.set_cons_zero, List.set_cons_succ, List.map_cons, List.map_nil, List.cons_append, List.nil_append, List.length_cons, List.length_nil, List.replicate]
  refine ⟨⟨a, _, rfl, ea, rfl, rfl⟩, a, dx, p, ds, k, t, v, rfl, ea, z⟩
end
end Tx

namespace Tx
open PySem PySem.Spec PyProof.Rows L2
/-! ## k11, k14: _law_copy, _law_entries -/
abbrev sLawCopy : Stmt := top 22
theorem scLawCopy : FnScope ["_law_value_here", "_law_one"] ["_law_value_here"] (defScope sLawCopy) := ⟨rfl, rfl, rfl, by decide +kernel, rfl, by decide +kernel, by decide +kernel⟩
/-- 0 _law_value_here -/
abbrev sEntriesO : Stmt := top 21
theorem scEntriesO : FnScope ["_law_value_here"] ["_law_value_here"] (defScope sEntriesO) := ⟨rfl, rfl, rfl, by decide +kernel, rfl, by decide +kernel, by decide +kernel⟩
def dsEntriesO : DSp := fun ts ω q _ => ∃ t, ts = [t] ∧ isVal t = true ∧ ∀ r, ω r = none → q (refD r) (updW ω r (.lst (meantD t)))
section
variable {P : Program} {w : World} {K : PySem.W.Frag} {mg : Str → Option Value} {base : Heap}
theorem dd_entriesO (h : Has K mg "_law_entries" sEntriesO) (B : Bi mg) : Dfn P w K mg base CX0 1 "_law_entries" ["_law_value_here"] (spD K dsEntriesO) := by
  refine dfnD (k := 0) h B scEntriesO (fun _ _ _ _ _ _ us hl => match us, hl with | [_], _ => rfl) (fun ts ω q xx h => ?_) (fun f cv A out s H E c => ⟨_, (dss_cons (ds_if (dt_cmp (do_is rfl) (de_var (pv 0)) de_non (nomark _)) (dss_one (ds_ret (de_lstO da_nil))) dss_nil)
    (dss_one (ds_ret (de_if (dt_val (de_isi (T := "str") rfl kit_str (by rfl) c.b.isinstance (de_var (pv 0)) (pe_bltn (v := .ty "str") (by rfl) c.b.str (by decide +kernel) rfl))) (de_lstO (da_cons (de_var (pv 0)) da_nil)) (de_callTyM (dc_listO rfl) (by rfl) c.b.list (by decide +kernel) (da_cons (de_var (pv 0)) da_nil)))))), fun ts ω q xx z => ?_⟩)
  · obtain ⟨t, rfl, _⟩ := h
    rfl
  obtain ⟨t, rfl, val, z⟩ := z
  unfold dLstO dCBM
  simp only [dAnd, dAndV, dAsg, dC, dCB, dCall, dCallX, dChain, dCons, dDrop, dErr1, dIf, dIfS, dIsi, dLst, dNext, dNil, dNot, dNotV, dOp, dOr, dOrV, dPar, dRet, dRetN, dRetS, dSeq, dSet, dSl, dTest, dTup, dVar, dgCons, dgName, dgNil, dgTup, dNeg, endsD, xcOf, dFz, startD, wipeD, List.getElem?_cons_zero, List.getElem?_cons_succ, List.set_cons_zero, List.set_cons_succ, List.map_cons, List.map_nil, List.cons_append, List.nil_append, List.length_cons, List.length_nil, List.replicate]
  cases t with
  | none => exact ⟨rfl, iteT ⟨by decide, z⟩⟩
  | str x => exact ⟨rfl, iteF ⟨trivial, iteT ⟨by show 1 ≤ sizeLine; decide, z⟩⟩⟩
  | list ds => exact ⟨rfl, iteF ⟨trivial, iteF ⟨_, ds, rfl, rfl, z⟩⟩⟩
  | _ => simp [isVal] at val
theorem d_lawcopy (h : Has K mg "_law_copy" sLawCopy) (B : Bi mg) : ∀ n, Dfn P w K mg base CX0 n "_law_copy" ["_law_value_here"] (spCopied K n)
  | 0 => dfn_none h (fun _ _ _ _ _ _ us hl => match us, hl with | [_], _ => rfl) fun vs H Q E z => by
    obtain ⟨_, _, _, _, _, z, _⟩ := z
    omega
  | n + 1 => by
    have D_law_copy := d_lawcopy h B n
    refine dfn0 h B scLawCopy (fun _ _ _ _ _ _ us hl => match us, hl with | [_], _ => rfl) (fun vs H Q E h => ?_) (fun f cv A out s H vs Q E c h => ?_)
    · obtain ⟨v, d, rfl, _⟩ := h
      rfl
    obtain ⟨v, d, rfl, hd, val, dn, sz, q⟩ := h
    refine ⟨_, (pss_one (ps_ret (pe_ifExp (pt_val (pe_callB (call_isD (T := "list")) (by rfl) c.b.isinstance (by decide +kernel) (pa_cons (pv 0) (pa_cons (pe_bltn (v := .ty "list") (by rfl) c.b.list (by decide +kernel) rfl) pa_nil)))) (pe_lc (own := [("_law_one", 1)]) (g := (gName 1)) (tt := tYes) rfl scLawCopy.nd (pi_list (pv 0)) (blkOk_by (own := [("_law_one", 1)]) (N := ["_law_value_here", "_law_one"]) (sc := defScope sLawCopy) (by decide +kernel)) (fun _ _ _ _ _ => (pg_name (i := 1) scLawCopy.nd rfl (Or.inl rfl))) (fun _ _ _ _ _ => pts_nil) (fun _ _ _ _ _ => (pe_d D_law_copy c (by omega) (by rfl) (pa_cons (pv 1) pa_nil)))) (pv 0)))), ?_⟩
    refine ⟨_, rfl, _, d, _, rfl, hd, kit_list _, _, rfl, ?_⟩
    cases d with
    | none =>
      cases hd
      exact iteF ⟨_, rfl, q _ _ (Same.refl _) (by simp only [Nw])⟩
    | str x =>
      cases hd
      exact iteF ⟨_, rfl, q _ _ (Same.refl _) (by simp only [Nw])⟩
    | list ds =>
      refine iteT ?_
      cases hd with
      | @lst a xs _ hs ha =>
      have sx : szD (.list ds) = 1 + szAll ds := by simp [szD]
      have hlen := DpAll.length ha
      have hle := len_le_szAll ds
      simp only [PyData.depth] at dn
      simp only [isVal] at val
      refine ⟨_, rfl, a, rfl, ⟨_, hs⟩, fun L hL => ?_⟩
      refine lc_list (K := K) (a := a) (xs := xs) (fun i H' => Same H H' ∧ ∃ us, H' L = some (.lst us) ∧ NwAll 0 H' (ds.take i) (fun x => H x ≠ none ∨ x = L) us)
        ⟨same_new hL _, [], upd_same, by rw [List.take_zero]; simp only [NwAll]⟩ (fun i H' _ z => z.1.seq hs) ?_ ?_
      · rintro i x H1 hx ⟨sm, us, hL1, hN⟩
        obtain ⟨d, e1, e2⟩ := DpAll.get ha hx
        have hm := List.mem_of_getElem? e1
        have hi : i < ds.length := (List.getElem?_eq_some_iff.mp e1).1
        have hul := hN.len
        rw [List.length_take] at hul
        refine ⟨rfl, _, rfl, _, d, rfl, dp_mono sm d _ e2, isValAll_iff.mp val d hm, ?_, ?_, fun u H2 sm2 hu => ?_⟩
        · have := depth_mem hm
          omega
        · have := szD_mem hm
          omega
        have up : ∀ (a : Addr) (o : HO), ¬ (H a ≠ none ∨ a = L) → H2 a = some o → upd H2 L (.lst (us ++ [u])) a = some o := fun a o n e => by
          rw [upd_ne fun z => n (.inr z)]; exact e
        refine ⟨us, sm2 _ _ hL1, ?_, (fun b o e => ?_), us ++ [u], upd_same, ?_⟩
        · rw [sizeLine_eq]
          omega
        · rw [upd_ne (ne_of_none e hL)]
          exact sm2 _ _ (sm _ _ e)
        · rw [List.take_add_one, e1]
          refine NwAll.append (NwAll.to (Nat.le_refl _) _ _ _ _ (fun _ z => z) (fun a o n e => up a o n (sm2 _ _ e)) hN) (NwAll.one (Nw.to (Nat.le_refl _) d _ _ u (fun a z => ?_) (fun a o n e => ?_) hu))
          · rcases z with z | z
            · cases q : H a with
              | none => exact absurd q z
              | some o => rw [sm _ _ q]; simp
            · rw [z, hL1]; simp
          · rw [upd_ne fun z => n (by rw [z, hL1]; simp)]; exact e
      · rintro H1 ⟨sm, us, hL1, hN⟩
        rw [hlen, List.take_length] at hN
        refine q _ _ sm ?_
        simp only [Nw]
        exact ⟨L, us, 0, rfl, fun z => z hL, by rw [List.replicate_zero, List.append_nil]; exact hL1, Nat.le_refl _, hN⟩
    | bool _ => simp [isVal] at val
    | int _ => simp [isVal] at val
    | tuple _ => simp [isVal] at val
    | dict _ => simp [isVal] at val
theorem dd_copyF (h : Has K mg "_law_copy" sLawCopy) (B : Bi mg) (n : Nat) : Dfn P w K mg base CX0 n "_law_copy" ["_law_value_here"] (spD K (dsCopiedF n)) := by
  refine (d_lawcopy h B n).toD fun vs H Q E z => ?_
  obtain ⟨J, ω, ts, q, x, w, r, cq, cx, t, d, rfl, th, val, dn, sz, z⟩ := z
  cases r with
  | cons r1 r2 =>
  cases r2
  exact ⟨_, d, rfl, th.full.dp w r1 (fine_lay d (val_fine d val)), val, dn, sz, fun u H' sm hu => nw_tm w sm cq hu val z⟩
end
end Tx

namespace Tx
open PySem PySem.Spec PyProof.Rows L2
/-! ## repr tells apart a value and a thing of letters -/
def abc (c : Nat) : Bool := decide ((65 ≤ c ∧ c ≤ 90) ∨ (97 ≤ c ∧ c ≤ 122))
mutual
def abcD : PyData → Bool
  | .none => true
  | .bool _ => true
  | .int i => decide (i = 0 ∨ i = 1)
  | .str x => x.cps.toList.all abc
  | .list xs => abcAll xs
  | .tuple xs => abcAll xs
  | .dict _ => false
def abcAll : List PyData → Bool
  | [] => true
  | x :: xs => abcD x && abcAll xs
end
theorem abcAll_iff : ∀ {xs : List PyData}, abcAll xs = true ↔ ∀ d ∈ xs, abcD d = true
  | [] => by simp [abcAll]
  | x :: xs => by simp [abcAll, abcAll_iff (xs := xs)]
mutual
theorem abc_val : ∀ d : PyData, isVal d = true → abcD d = true
  | .none, _ => rfl
  | .str x, h => by
    simp only [isVal, ltr, List.all_eq_true, decide_eq_true_eq] at h
    simp only [abcD, List.all_eq_true, abc, decide_eq_true_eq]
    exact fun c hc => .inr (h c hc)
  | .list xs, h => by simp only [isVal] at h; simp only [abcD]; exact abcAll_val xs h
  | .bool _, h => by simp [isVal] at h
  | .int _, h => by simp [isVal] at h
  | .tuple _, h => by simp [isVal] at h
  | .dict _, h => by simp [isVal] at h
theorem abcAll_val : ∀ xs : List PyData, isValAll xs = true → abcAll xs = true
  | [], _ => rfl
  | x :: xs, h => by
    simp only [isValAll, Bool.and_eq_true] at h
    simp only [abcAll, abc_val x h.1, abcAll_val xs h.2, Bool.and_self]
end
def sh (d : PyData) : List Nat := d.shown.cps.toList
theorem app_cps (x y : Str) : (x ++ y).cps.toList = x.cps.toList ++ y.cps.toList := by
  show (x.cps ++ y.cps).toList = _
  simp
theorem cps_inj {x y : Str} (h : x.cps.toList = y.cps.toList) : x = y := by
  cases x; cases y
  congr
  exact Array.toList_inj.mp h
theorem abc_print : ∀ c, c < 128 → abc c = true → Unicode.isPrintable c = true := by decide +kernel
theorem repr_fold (l : List Nat) (h : l.all abc = true) : ∀ acc : Array Nat, (l.foldl (fun out c => out ++ (Builtin.Str.reprChar 39 c).toArray) acc).toList = acc.toList ++ l := by
  induction l with
  | nil => intro acc; simp
  | cons c r ih =>
    intro acc
    simp only [List.all_cons, Bool.and_eq_true] at h
    rw [List.foldl_cons, ih h.2]
    have hc := h.1
    simp only [abc, decide_eq_true_eq] at hc
    have hp : Unicode.isPrintable c = true := by
      exact abc_print c (by omega) (by unfold abc; exact decide_eq_true hc)
    have e : Builtin.Str.reprChar 39 c = [c] := by
      unfold Builtin.Str.reprChar
      simp only [beq_iff_eq, Bool.or_eq_true]
      rw [if_neg (by omega), if_neg (by omega), if_neg (by omega), if_neg (by omega), if_pos hp]
    rw [e]
    simp
theorem repr_abc {x : Str} (h : x.cps.toList.all abc = true) : (reprText x).cps.toList = 39 :: (x.cps.toList ++ [39]) := by
  have q : reprQuote x = 39 := by
    unfold reprQuote
    rw [if_neg]
    intro e
    simp only [Bool.and_eq_true, Array.contains_eq_mem, decide_eq_true_eq] at e
    have := List.all_eq_true.mp h 39 (Array.mem_toList_iff.mpr e.1)
    simp [abc] at this
  unfold reprText
  show (Array.push (Array.foldl (fun out c => out ++ (Builtin.Str.reprChar (reprQuote x) c).toArray) #[reprQuote x] x.cps) (reprQuote x)).toList = _
  rw [q, Array.toList_push, ← Array.foldl_toList, repr_fold _ h]
  simp
def restL : List PyData → List Nat
  | [] => [93]
  | d :: ds => 44 :: 32 :: (sh d ++ restL ds)
theorem join_rest : ∀ (d : PyData) (ds : List PyData), (Str.join ", " (PyData.shownAll (d :: ds))).cps.toList ++ [93] = sh d ++ restL ds
  | d, [] => rfl
  | d, e :: es => by
    have ih := join_rest e es
    show (d.shown ++ ((", " : String) : Str) ++ Str.join ", " (PyData.shownAll (e :: es))).cps.toList ++ [93] = _
    rw [app_cps, app_cps, List.append_assoc, List.append_assoc, ih]
    rfl
theorem sh_nil : sh (.list []) = [91, 93] := by
  unfold sh
  rw [PyData.shown_list]
  rfl
theorem sh_cons (d : PyData) (ds : List PyData) : sh (.list (d :: ds)) = 91 :: (sh d ++ restL ds) := by
  rw [← join_rest]
  unfold sh
  rw [PyData.shown_list, app_cps, app_cps]
  rfl
def hdD : PyData → Nat
  | .none => 78
  | .bool b => if b then 84 else 70
  | .int i => if i = 0 then 48 else 49
  | .str _ => 39
  | .list _ => 91
  | .tuple _ => 40
  | .dict _ => 0
theorem sh_head : ∀ e : PyData, abcD e = true → ∃ t, sh e = hdD e :: t
  | .none, _ => ⟨[111, 110, 101], by unfold sh; rw [PyData.shown_none]; rfl⟩
  | .bool true, _ => ⟨[114, 117, 101], by unfold sh; rw [PyData.shown_bool]; rfl⟩
  | .bool false, _ => ⟨[97, 108, 115, 101], by unfold sh; rw [PyData.shown_bool]; rfl⟩
  | .int i, h => by
    simp only [abcD, decide_eq_true_eq] at h
    unfold sh
    rw [PyData.shown_int]
    rcases h with rfl | rfl
    · exact ⟨[], by decide⟩
    · exact ⟨[], by decide⟩
  | .str x, h => by
    simp only [abcD] at h
    unfold sh
    rw [PyData.shown_str, repr_abc h]
    exact ⟨_, rfl⟩
  | .list [], _ => ⟨_, sh_nil⟩
  | .list (d :: ds), _ => ⟨_, sh_cons d ds⟩
  | .tuple xs, _ => by
    unfold sh
    rw [PyData.shown_tuple, app_cps, app_cps]
    exact ⟨_, rfl⟩
  | .dict _, h => by simp [abcD] at h
theorem pre_eq : ∀ {a b : List Nat} {x y : List Nat}, a.all abc = true → b.all abc = true → a ++ 39 :: x = b ++ 39 :: y → a = b ∧ x = y
  | [], [], x, y, _, _, h => ⟨rfl, by simpa using h⟩
  | [], c :: b, x, y, _, hb, h => by
    simp only [List.nil_append, List.cons_append, List.cons.injEq] at h
    simp only [List.all_cons, Bool.and_eq_true] at hb
    rw [← h.1] at hb
    simp [abc] at hb
  | c :: a, [], x, y, ha, _, h => by
    simp only [List.nil_append, List.cons_append, List.cons.injEq] at h
    simp only [List.all_cons, Bool.and_eq_true] at ha
    rw [h.1] at ha
    simp [abc] at ha
  | c :: a, d :: b, x, y, ha, hb, h => by
    simp only [List.cons_append, List.cons.injEq] at h
    simp only [List.all_cons, Bool.and_eq_true] at ha hb
    obtain ⟨e1, e2⟩ := pre_eq ha.2 hb.2 h.2
    exact ⟨by rw [h.1, e1], e2⟩
mutual
theorem sh_inj : ∀ (d e : PyData) (x y : List Nat), isVal d = true → abcD e = true → sh d ++ x = sh e ++ y → d = e ∧ x = y
  | .none, e, x, y, _, he, h => by
    obtain ⟨t1, h1⟩ := sh_head .none rfl
    obtain ⟨t, h2⟩ := sh_head e he
    have hh := h
    rw [h1, h2] at hh
    have hd := (List.cons.inj hh).1
    cases e with
    | none => exact ⟨rfl, List.append_cancel_left h⟩
    | bool b => cases b <;> simp [hdD] at hd
    | int i => simp only [hdD] at hd; split at hd <;> simp at hd
    | _ => simp [hdD] at hd
  | .str a, e, x, y, hv, he, h => by
    obtain ⟨t1, h1⟩ := sh_head (.str a) (abc_val _ hv)
    obtain ⟨t, h2⟩ := sh_head e he
    have hh := h
    rw [h1, h2] at hh
    have hd := (List.cons.inj hh).1
    cases e with
    | str b =>
      have ha := abc_val _ hv
      simp only [abcD] at ha he
      unfold sh at h
      rw [PyData.shown_str, PyData.shown_str, repr_abc ha, repr_abc he] at h
      simp only [List.cons_append, List.append_assoc, List.singleton_append, List.cons.injEq, true_and] at h
      obtain ⟨e1, e2⟩ := pre_eq ha he h
      exact ⟨by rw [cps_inj e1], e2⟩
    | bool b => cases b <;> simp [hdD] at hd
    | int i => simp only [hdD] at hd; split at hd <;> simp at hd
    | _ => simp [hdD] at hd
  | .list ds, e, x, y, hv, he, h => by
    obtain ⟨t1, h1⟩ := sh_head (.list ds) (abc_val _ hv)
    obtain ⟨t, h2⟩ := sh_head e he
    have hh := h
    rw [h1, h2] at hh
    have hd := (List.cons.inj hh).1
    cases e with
    | list es =>
      simp only [isVal] at hv
      simp only [abcD] at he
      have r := sh_injL ds es x y hv he h
      exact ⟨by rw [r.1], r.2⟩
    | bool b => cases b <;> simp [hdD] at hd
    | int i => simp only [hdD] at hd; split at hd <;> simp at hd
    | _ => simp [hdD] at hd
  | .bool _, _, _, _, h, _, _ => by simp [isVal] at h
  | .int _, _, _, _, h, _, _ => by simp [isVal] at h
  | .tuple _, _, _, _, h, _, _ => by simp [isVal] at h
  | .dict _, _, _, _, h, _, _ => by simp [isVal] at h
theorem sh_injL : ∀ (ds es : List PyData) (x y : List Nat), isValAll ds = true → abcAll es = true → sh (.list ds) ++ x = sh (.list es) ++ y → ds = es ∧ x = y
  | [], [], x, y, _, _, h => ⟨rfl, List.append_cancel_left h⟩
  | [], e :: es, x, y, _, he, h => by
    simp only [abcAll, Bool.and_eq_true] at he
    obtain ⟨t, h2⟩ := sh_head e he.1
    rw [sh_nil, sh_cons, h2] at h
    simp only [List.cons_append, List.cons.injEq, true_and] at h
    have hd := h.1
    cases e with
    | bool b => cases b <;> simp [hdD] at hd
    | int i => simp only [hdD] at hd; split at hd <;> simp at hd
    | _ => simp [hdD] at hd
  | d :: ds, [], x, y, hv, _, h => by
    simp only [isValAll, Bool.and_eq_true] at hv
    obtain ⟨t, h2⟩ := sh_head d (abc_val _ hv.1)
    rw [sh_nil, sh_cons, h2] at h
    simp only [List.cons_append, List.cons.injEq, true_and] at h
    have hd := h.1
    cases d with
    | bool b => cases b <;> simp [hdD] at hd
    | int i => simp only [hdD] at hd; split at hd <;> simp at hd
    | _ => simp [hdD] at hd
  | d :: ds, e :: es, x, y, hv, he, h => by
    simp only [isValAll, Bool.and_eq_true] at hv
    simp only [abcAll, Bool.and_eq_true] at he
    rw [sh_cons, sh_cons] at h
    simp only [List.cons_append, List.append_assoc, List.cons.injEq, true_and] at h
    obtain ⟨e1, h⟩ := sh_inj d e _ _ hv.1 he.1 h
    obtain ⟨e2, h⟩ := sh_injR ds es x y hv.2 he.2 h
    exact ⟨by rw [e1, e2], h⟩
theorem sh_injR : ∀ (ds es : List PyData) (x y : List Nat), isValAll ds = true → abcAll es = true → restL ds ++ x = restL es ++ y → ds = es ∧ x = y
  | [], [], x, y, _, _, h => ⟨rfl, List.append_cancel_left h⟩
  | [], e :: es, x, y, _, _, h => by simp [restL] at h
  | d :: ds, [], x, y, _, _, h => by simp [restL] at h
  | d :: ds, e :: es, x, y, hv, he, h => by
    simp only [isValAll, Bool.and_eq_true] at hv
    simp only [abcAll, Bool.and_eq_true] at he
    simp only [restL, List.cons_append, List.append_assoc, List.cons.injEq, true_and] at h
    obtain ⟨e1, h⟩ := sh_inj d e _ _ hv.1 he.1 h
    obtain ⟨e2, h⟩ := sh_injR ds es x y hv.2 he.2 h
    exact ⟨by rw [e1, e2], h⟩
end
theorem shown_inj {d e : PyData} (hd : isVal d = true) (he : abcD e = true) (h : d.shown = e.shown) : d = e :=
  (sh_inj d e [] [] hd he (by unfold sh; rw [h])).1
mutual
theorem eqv_val : ∀ d e : PyData, isVal d = true → PyData.eqv d e = true → d = e
  | .none, e, _, h => by cases e <;> simp [PyData.eqv] at h ⊢
  | .str x, e, _, h => by
    cases e with
    | str y => simp only [PyData.eqv, beq_iff_eq] at h; rw [h]
    | _ => simp [PyData.eqv] at h
  | .list xs, e, hv, h => by
    cases e with
    | list ys =>
      simp only [isVal] at hv
      simp only [PyData.eqv] at h
      rw [eqvAll_val xs ys hv h]
    | _ => simp [PyData.eqv] at h
  | .bool _, _, h, _ => by simp [isVal] at h
  | .int _, _, h, _ => by simp [isVal] at h
  | .tuple _, _, h, _ => by simp [isVal] at h
  | .dict _, _, h, _ => by simp [isVal] at h
theorem eqvAll_val : ∀ xs ys : List PyData, isValAll xs = true → PyData.eqvAll xs ys = true → xs = ys
  | [], [], _, _ => rfl
  | [], _ :: _, _, h => by simp [PyData.eqvAll] at h
  | _ :: _, [], _, h => by simp [PyData.eqvAll] at h
  | x :: xs, y :: ys, hv, h => by
    simp only [isValAll, Bool.and_eq_true] at hv
    simp only [PyData.eqvAll, Bool.and_eq_true] at h
    rw [eqv_val x y hv.1 h.1, eqvAll_val xs ys hv.2 h.2]
end
theorem eqv_self {d : PyData} (hd : isVal d = true) : PyData.eqv d d = true := SeqAt.eqv_refl d (fine_lay d (val_fine d hd))
theorem eqv_shown {d e : PyData} (hd : isVal d = true) (he : abcD e = true) : decide (d.shown = e.shown) = PyData.eqv d e := by
  cases h : PyData.eqv d e with
  | true => rw [eqv_val d e hd h]; simp
  | false =>
    refine decide_eq_false fun z => ?_
    have := shown_inj hd he z
    subst this
    rw [eqv_self hd] at h
    cases h
end Tx

namespace Tx
open PySem PySem.Spec PyProof.Rows L2
/-! ## Entries.__contains__ -/
/-- 0 self, 1 thing, 2 one -/
abbrev sContains : Stmt := inClass (top 14) 5
theorem scContains : FnScope ["self", "thing", "one"] ["self", "thing"] (defScope sContains) := ⟨rfl, rfl, rfl, by decide +kernel, rfl, by decide +kernel, by decide +kernel⟩
def dsContains (C : Addr) : DSp := fun ts ω q _ => ∃ a ds e, ts = [refD a, e] ∧ Ent C ω a ds ∧ Lot ds ∧ SeqAt.shaped e = true ∧ q (.bool (ds.any fun d => PyData.eqv d e)) ω
theorem Lot.shapedI {ds : List PyData} (h : Lot ds) {i : Nat} {d : PyData} (e : ds[i]? = some d) : SeqAt.shaped d = true := by
  obtain ⟨h1, h2, h3⟩ := h.get e
  exact (Val.ok (n := 30) (m := 1000000) ⟨h1, by omega, h3⟩ (by decide) (by decide)).shaped
section
variable {P : Program} {w : World} {K : PySem.W.Frag} {mg : Str → Option Value} {base : Heap} {C : Addr}
theorem m_contains (xc : OC K mg "Entries" "rows" C) (h : HasM K C "__contains__" "Entries.__contains__" sContains) (B : Bi mg) : Mfn P w K mg base CX0 1 C "__contains__" ["self", "thing"] (spD K (dsContains C)) := by
  refine mfnD (k := 0) h B scContains (fun _ _ _ _ _ _ us hl => match us, hl with | [_, _], _ => rfl) (fun ts ω q xx h => ?_) (fun f cv A out s H E c => ⟨_, dss_gh (dss_one (ds_ret (de_callB (dc_any rfl rfl) (by rfl) c.b.any (by decide +kernel) (da_cons (de_lcO (own := [("one", 2)]) (gd := (dgName 2)) (is := [2]) (tt := dYes) rfl scContains.nd (dio_o rfl (de_fld rfl (de_var (pv 0)))) (blkOk_by (own := [("one", 2)]) (N := ["self", "thing", "one"]) (sc := defScope sContains) (by decide +kernel)) (fun _ _ _ _ _ => (dg_name (pg_name (i := 2) scContains.nd rfl (Or.inl rfl)))) (fun _ _ _ _ _ => dts_nil) (fun _ _ _ _ _ => (de_cmp (do_eq rfl c.r.units) (de_var (pv 2)) (de_var (pv 1)) (nomark _)))) da_nil)))), fun ts ω q xx z => ?_⟩)
  · obtain ⟨a, ds, e, rfl, _⟩ := h
    rfl
  obtain ⟨a, ds, e, rfl, ⟨dx, p, ea⟩, lot, he, z⟩ := z
  intro lw
  obtain ⟨ne, hp⟩ := lw.ent ea
  refine ⟨_, Gh.open ea, ?_⟩
  unfold dRet dFld
  simp only [dAnd, dAndV, dAsg, dC, dCB, dCall, dCallX, dChain, dCons, dDrop, dErr1, dIf, dIfS, dIsi, dLst, dNext, dNil, dNot, dNotV, dOp, dOr, dOrV, dPar, dRet, dRetN, dRetS, dSeq, dSet, dSl, dTest, dTup, dVar, dgCons, dgName, dgNil, dgTup, dNeg, endsD, xcOf, dFz, startD, wipeD, List.getElem?_cons_zero, List.getElem?_cons_succ, List.set_cons_zero, List.set_cons_succ, List.map_cons, List.map_nil, List.cons_append, List.nil_append, List.length_cons, List.length_nil, List.replicate]
  refine ⟨a, C, dx, _, _, rfl, opn_a ne, xc.cd.cl, xc.na, rfl, p, ds, rfl, opn_p, lot.len2, fun i acc ω2 => acc = (ds.take i).map (fun d => PyData.bool (PyData.eqv d e)) ∧ ω2 = opn ω a C dx p "rows" ds, ⟨rfl, rfl⟩, ?_, ?_, ?_⟩
  · rintro i acc ω2 ⟨_, rfl⟩
    exact opn_p
  · rintro i y acc ω2 hy ⟨rfl, rfl⟩ _
    simp only [dAnd, dAndV, dAsg, dC, dCB, dCall, dCallX, dChain, dCons, dDrop, dErr1, dIf, dIfS, dIsi, dLst, dNext, dNil, dNot, dNotV, dOp, dOr, dOrV, dPar, dRet, dRetN, dRetS, dSeq, dSet, dSl, dTest, dTup, dVar, dgCons, dgName, dgNil, dgTup, dNeg, endsD, xcOf, dFz, startD, wipeD, List.getElem?_cons_zero, List.getElem?_cons_succ, List.set_cons_zero, List.set_cons_succ, List.map_cons, List.map_nil, List.cons_append, List.nil_append, List.length_cons, List.length_nil, List.replicate]
    unfold dYes
    simp only [dAnd, dAndV, dAsg, dC, dCB, dCall, dCallX, dChain, dCons, dDrop, dErr1, dIf, dIfS, dIsi, dLst, dNext, dNil, dNot, dNotV, dOp, dOr, dOrV, dPar, dRet, dRetN, dRetS, dSeq, dSet, dSl, dTest, dTup, dVar, dgCons, dgName, dgNil, dgTup, dNeg, endsD, xcOf, dFz, startD, wipeD, List.getElem?_cons_zero, List.getElem?_cons_succ, List.set_cons_zero, List.set_cons_succ, List.map_cons, List.map_nil, List.cons_append, List.nil_append, List.length_cons, List.length_nil, List.replicate]
    simp only [if_true, and_true]
    refine eqD_of (.inl rfl) (.inl rfl) (lot.shapedI hy) he ?_
    rw [← take_snoc hy, List.map_append]
    rfl
  · rintro acc ω2 _ ⟨rfl, rfl⟩ r hr
    refine ⟨_, ds.map fun d => PyData.eqv d e, rfl, ?_, fun _ => ⟨_, (Gh.sub (SubW.upd hr)).trans (Gh.close (opn_a ne) opn_p), ?_⟩⟩
    · rw [rsv_cell updW_same, List.take_length, List.map_map]
      rfl
    · rw [cls_opn0 ea hp ne, List.any_map]
      exact z
end
end Tx

namespace Tx
open PySem PySem.Spec PyProof.Rows L2
/-! ## HELD: things that stand in lists of their own, read as they are -/
/-- read as data, whatever it is: data, a cell, a list of one's own of cells -/
def Ful (ω : Wd) (v d : PyData) : Prop := Full ω v d ∨ Full ω (rsv ω v) d
theorem Ful.of {ω : Wd} {v d : PyData} (h : Full ω v d) : Ful ω v d := .inl h
theorem Ful.rfl' {ω : Wd} {d : PyData} : Ful ω d d := .inl .rfl'
theorem rsv_dict {ω : Wd} {d : PyData} {l : List (PyData × PyData)} (h : rsv ω d = .dict l) : d = .dict l := by
  unfold rsv at h
  split at h
  · split at h
    · cases h
    · exact h
  · exact h
theorem Ful.dp {K : PySem.W.Frag} {J H : Hp} {ω : Wd} {v : V} {d e : PyData} (h : Ful ω d e) (w : Rw K J H ω) (r : Rp K J v d) (c : e.canLay0 = true) : Dp K H v e := by
  rcases h with h | h
  · exact h.dp w r c
  · rcases h with h | h
    · subst h
      exact rp_rsv w r c
    · subst h
      cases ed : rsv ω d with
      | list xs =>
        obtain ⟨a, vs, rfl, ha, ra⟩ := rp_list w r ed
        rw [ed] at c
        simp only [full] at c ⊢
        exact .lst (SqL.of ha) (fullAll_dp w xs vs (by simpa only [PyData.canLay0] using c) ra)
      | none => rw [ed] at c; simp only [full] at c ⊢; have := rp_rsv w r (by rw [ed]; exact c); rw [ed] at this; exact this
      | bool b => rw [ed] at c; simp only [full] at c ⊢; have := rp_rsv w r (by rw [ed]; exact c); rw [ed] at this; exact this
      | int b => rw [ed] at c; simp only [full] at c ⊢; have := rp_rsv w r (by rw [ed]; exact c); rw [ed] at this; exact this
      | str b => rw [ed] at c; simp only [full] at c ⊢; have := rp_rsv w r (by rw [ed]; exact c); rw [ed] at this; exact this
      | tuple xs =>
        rw [ed] at c
        obtain ⟨a, vs, rfl, ha, ra, _⟩ := rp_tup w r ed
        simp only [full] at c ⊢
        exact .tup ha (fullAll_dp w xs vs (by simpa only [PyData.canLay0] using c) ra)
      | dict l =>
        have e2 : d = .dict l := rsv_dict ed
        rw [ed] at c
        rw [← e2] at c ⊢
        exact full_dp w d v c r
/-- cells that stay keep what is read -/
def Keep (ω ω' : Wd) : Prop := ∀ c m, ω c = some m → ω' c = some m
theorem Keep.refl {ω : Wd} : Keep ω ω := fun _ _ h => h
theorem Keep.new {ω : Wd} {a : Addr} {m : MO} (h : ω a = none) : Keep ω (updW ω a m) := fun c m' e => by
  rw [updW_ne fun z => by rw [z, h] at e; cases e]
  exact e
theorem Keep.trans {a b c : Wd} (h : Keep a b) (g : Keep b c) : Keep a c := fun x m e => g x m (h x m e)
theorem Keep.no {ω ω' : Wd} {a : Addr} (h : Keep ω ω') (e : ω' a = none) : ω a = none := by
  cases q : ω a with
  | none => rfl
  | some m => rw [h a m q] at e; cases e
theorem Keep.tm {ω ω' : Wd} {u d : PyData} (t : Tm ω u d ω') : Keep ω ω' := by
  rcases t with ⟨_, _, rfl⟩ | ⟨b, N, _, hb, rfl, _⟩
  · exact Keep.refl
  · exact Keep.new hb
theorem cellD_keep {ω ω' : Wd} (k : Keep ω ω') {a : Addr} (h : (cellD ω a).canLay0 = true) : cellD ω' a = cellD ω a := by
  unfold cellD at h ⊢
  cases e : ω a with
  | none => rw [e] at h; simp [PyData.canLay0] at h
  | some m =>
    rw [k a m e]
mutual
theorem full_keep {ω ω' : Wd} (k : Keep ω ω') : ∀ d : PyData, (full ω d).canLay0 = true → full ω' d = full ω d
  | .none, _ => rfl
  | .bool _, _ => rfl
  | .int _, _ => rfl
  | .str _, _ => rfl
  | .list xs, h => by
    simp only [full, PyData.canLay0] at h ⊢
    rw [fullAll_keep k xs h]
  | .tuple xs, h => by
    simp only [full, PyData.canLay0] at h ⊢
    rw [fullAll_keep k xs h]
  | .dict l, h => by
    by_cases hl : ∃ i, l = [(.int i, .none)]
    · obtain ⟨i, rfl⟩ := hl
      exact cellD_keep k h
    · have e : full ω (.dict l) = .dict l := by
        unfold full
        split
        · rename_i h1
          exact absurd ⟨_, PyData.dict.inj h1⟩ hl
        · rename_i h1; cases h1
        · rename_i h1; cases h1
        · rfl
      rw [e] at h
      simp [PyData.canLay0] at h
theorem fullAll_keep {ω ω' : Wd} (k : Keep ω ω') : ∀ xs : List PyData, PyData.canLayAll0 (fullAll ω xs) = true → fullAll ω' xs = fullAll ω xs
  | [], _ => rfl
  | x :: xs, h => by
    simp only [fullAll, PyData.canLayAll0, Bool.and_eq_true] at h ⊢
    rw [full_keep k x h.1, fullAll_keep k xs h.2]
end
theorem Full.keep {ω ω' : Wd} {v d : PyData} (k : Keep ω ω') (h : Full ω v d) (c : d.canLay0 = true) : Full ω' v d := by
  rcases h with h | h
  · exact .inl h
  · subst h
    exact .inr (full_keep k v c)
theorem val_lay {d : PyData} (h : isVal d = true) : d.canLay0 = true := fine_lay _ (val_fine _ h)
end Tx

namespace Tx
open PySem PySem.Spec PyProof.Rows L2
/-! ## a, b, c = x, y, z -/
def dPar3 (i j l : Nat) (ta : DTA) (D : DEnds) (ρ : DS) (ω : Wd) : Prop := ta ρ ω (fun rs ω1 => match rs with
  | [a, b, c] => D.nx (((ρ.set i (some a)).set j (some b)).set l (some c)) ω1
  | _ => False) (xcOf D ρ)
section
variable {W : WX} {X : Cx} {K : PySem.W.Frag} {te ta tb : DTE} {tA : DTA} {pos p : Pos}
theorem ds_par3 {i j l : Nat} {x y z : Str} {a b c : Expr} {px py pz pt : Pos} {kt k2 pt2} (hc : X.calm = true) (hN : X.N.Nodup) (hi : X.N[i]? = some x) (hj : X.N[j]? = some y) (hl : X.N[l]? = some z) (hij : i ≠ j) (hil : i ≠ l) (hjl : j ≠ l)
    (hx : X.env.scope.names.lookup x = some .local) (hy : X.env.scope.names.lookup y = some .local) (hz : X.env.scope.names.lookup z = some .local) (ha : DAs W X K [a, b, c] tA)
    (hw : swappedStores [.Tuple [.Name x px, .Name y py, .Name z pz] kt pt] (.Tuple [a, b, c] k2 pt2) X.env = pure (some [x, y, z]))
    (hs : swapsWithSole [.Tuple [.Name x px, .Name y py, .Name z pz] kt pt] (.Tuple [a, b, c] k2 pt2) pos.line X.env = pure false := by rfl) :
    DSt W X K (.Assign [.Tuple [.Name x px, .Name y py, .Name z pz] kt pt] (.Tuple [a, b, c] k2 pt2) pos) (dPar3 i j l tA) := by
  obtain ⟨r, p, kk⟩ := ha
  refine ⟨_, ps_par3 hc hN hi hj hl hij hil hjl hx hy hz p hw hs, fun D DD σ H J ω ρ w s cs z => kk σ H J ω ρ _ _ _ w s (fun ds ω1 vs J1 H1 z1 g1 w1 rp => ?_) (cs.x s) z⟩
  split at z1
  · cases rp with
    | cons r1 r2 =>
    cases r2 with
    | cons r3 r4 =>
    cases r4 with
    | cons r5 r6 =>
    cases r6
    exact ⟨_, _, _, rfl, cs.nx _ _ _ _ _ z1 g1 w1 ((((s.mono g1.jj).set i r1).set j r3).set l r5)⟩
  · exact False.elim z1
end
end Tx

namespace Tx
open PySem PySem.Spec PyProof.Rows L2
/-! ## Rules over things that are read as they are: len, repr, ==, isinstance, o[i], f-strings; an own __repr__; a, b, c = .. -/
def lenFD : RD1 := fun xs ω Q => ∃ x ds, xs = [x] ∧ Ful ω x (.list ds) ∧ (PyData.list ds).canLay0 = true ∧ Q (.int ds.length)
def reprFD : RD1 := fun xs ω Q => ∃ x d, xs = [x] ∧ Ful ω x d ∧ Ok d ∧ Q (.str d.shown)
def eqFD : RD2 := fun x y ω Q => ∃ d e, Ful ω x d ∧ Ful ω y e ∧ SeqAt.shaped d = true ∧ SeqAt.shaped e = true ∧ Q (.bool (PyData.eqv d e))
def neFD : RD2 := fun x y ω Q => ∃ d e, Ful ω x d ∧ Ful ω y e ∧ SeqAt.shaped d = true ∧ SeqAt.shaped e = true ∧ Q (.bool (!PyData.eqv d e))
/-- o[i], no list -/
def ixFD : RD2 := fun x y ω Q => ∃ ds i d, y = .int i ∧ Ful ω x (.list ds) ∧ (PyData.list ds).canLay0 = true ∧ atI ds i = some d ∧ isL d = false ∧ isVal d = true ∧ Q d
def dIsiF (f : PyData → Bool) (te : DTE) (ρ : DS) (ω : Wd) (q : DQ) (x : DXK) : Prop := te ρ ω (fun a ω1 => ∃ d, Ful ω1 a d ∧ d.canLay0 = true ∧ q (.bool (f d)) ω1) x
def dIsIxF (f : PyData → Bool) (ta tb : DTE) (ρ : DS) (ω : Wd) (q : DQ) (x : DXK) : Prop := ta ρ ω (fun a ω1 => tb ρ ω1 (fun b ω2 => ∃ ds i d, b = .int i ∧ Ful ω2 a (.list ds) ∧ (PyData.list ds).canLay0 = true ∧ atI ds i = some d ∧ q (.bool (f d)) ω2) x) x
/-- a new list of new things: no lists in it -/
def dLstT (ta : DTA) (ρ : DS) (ω : Wd) (q : DQ) (x : DXK) : Prop := ta ρ ω (fun as ω1 => as.length ≤ 1000 ∧ isValAll as = true ∧ as.all flatD = true ∧ ∀ u ω', Tm ω1 u (.list as) ω' → q u ω') x
def dFmtR (te : DTE) (ρ : DS) (ω : Wd) (q : DQ) (x : DXK) : Prop := te ρ ω (fun v ω1 => ∃ ds, Ful ω1 v (.list ds) ∧ Ok (.list ds) ∧ q (.str (PyData.shown (.list ds))) ω1) x
def dJs : List DTE → Str → DS → Wd → (Str → Wd → Prop) → DXK → Prop
  | [], acc, _, ω, q, _ => q acc ω
  | t :: ts, acc, ρ, ω, q, x => t ρ ω (fun r ω1 => ∃ y, r = .str y ∧ (acc ++ y).length ≤ sizeLine ∧ dJs ts (acc ++ y) ρ ω1 q x) x
structure DJ (W : WX) (X : Cx) (K : PySem.W.Frag) (es : List Expr) (tds : List DTE) : Prop where
  ex : ∃ ts, PJ X es ts ∧ ∀ acc σ H J ω ρ (q : Str → Wd → Prop) x (Q : Str → Hp → Prop), Rw K J H ω → Sl K J σ ρ → (∀ y ω' J' H', q y ω' → Grow J H ω J' H' ω' → Rw K J' H' ω' → Q y H') → CovX K J H ω x (fun c d H => W c d σ H) → dJs tds acc ρ ω q x → tJs ts acc σ H Q
def dJoined (tds : List DTE) (ρ : DS) (ω : Wd) (q : DQ) (x : DXK) : Prop := dJs tds Str.empty ρ ω (fun y ω1 => q (.str y) ω1) x
def rmRepr (C : Addr) (sp : DSp) : RM1 := fun ds ω q => ∃ d, ds = [d] ∧ InsD C "__repr__" ω d ∧ sp [d] ω (fun r ω1 => ∃ z, r = .str z ∧ q r ω1) X0
section
variable {X : Cx} {K : PySem.W.Frag} {C : Addr} {j k : Nat} {ps : List Str} {sp : DSp}
theorem dp_list {H : Hp} {v : V} {ds : List PyData} (h : Dp K H v (.list ds)) : ∃ a xs, v = .ref a ∧ SqL K H a xs ∧ DpAll K H xs ds := by
  cases h with
  | lst hs ha => exact ⟨_, _, rfl, hs, ha⟩
theorem dc_lenF (hK : X.K = K) : CallR X (.builtin "len") (liftA K lenFD) := by
  subst hK
  intro pins s σ H xs us Q I rel ⟨J, ω, ds, q, w, hx, c, x, es, e, f, lay, z⟩
  subst e
  cases hx with
  | cons hx h0 =>
  cases h0
  obtain ⟨a, vs, rfl, hs, ha⟩ := dp_list (f.dp w hx lay)
  exact call_len_seq pins s σ H _ us Q I rel ⟨a, vs, rfl, .inl hs, by rw [DpAll.length ha]; exact c.now w z (.int _)⟩
theorem dc_reprF (hK : X.K = K) (gd : X.A.guards = some []) (hu : X.A.units + 64 < cLine) : CallR X (.builtin "repr") (liftA K reprFD) := by
  subst hK
  intro pins s σ H xs us Q I rel ⟨J, ω, ds, q, w, hx, c, x, d, e, f, ok, z⟩
  subst e
  cases hx with
  | cons hx h0 =>
  cases h0
  exact call_repr gd hu pins s σ H _ us Q I rel ⟨_, _, rfl, f.dp w hx (fine_lay _ ok.1), ok, c.now w z (.str _)⟩
theorem do_eqF (hK : X.K = K) (hu : X.A.units + 64 < cLine) : OpR X (compareOp .Eq) (lift2 K eqFD) := by
  subst hK
  intro pins s σ H x y v u Q I rx ry ⟨J, ω, dx, dy, q, w, hx, hy, c, d1, d2, f1, f2, z1, z2, z⟩
  exact op_eqD hu pins s σ H _ _ v u Q I rx ry ⟨_, _, f1.dp w hx (shaped_lay z1), f2.dp w hy (shaped_lay z2), z1, z2, c.now w z (.bl _)⟩
theorem do_neF (hK : X.K = K) (hu : X.A.units + 64 < cLine) : OpR X (compareOp .NotEq) (lift2 K neFD) := by
  subst hK
  intro pins s σ H x y v u Q I rx ry ⟨J, ω, dx, dy, q, w, hx, hy, c, d1, d2, f1, f2, z1, z2, z⟩
  exact op_neD hu pins s σ H _ _ v u Q I rx ry ⟨_, _, f1.dp w hx (shaped_lay z1), f2.dp w hy (shaped_lay z2), z1, z2, c.now w z (.bl _)⟩
theorem dpAll_at {H : Hp} {vs : List V} {ds : List PyData} {i : Int} {d : PyData} (h : DpAll K H vs ds) (e : atI ds i = some d) : ∃ v, atI vs i = some v ∧ Dp K H v d := by
  unfold atI at e ⊢
  rw [DpAll.length h]
  cases q : ixN ds.length i with
  | none => rw [q] at e; cases e
  | some j =>
    rw [q] at e
    have hj := (List.getElem?_eq_some_iff.mp e).1
    have e2 : vs[j]? = some (vs[j]'(by rw [DpAll.length h]; exact hj)) := List.getElem?_eq_getElem _
    obtain ⟨d', h1, h2⟩ := DpAll.get h e2
    have h1 : ds[j]? = some d' := h1
    have e : ds[j]? = some d := e
    rw [e] at h1
    cases h1
    exact ⟨_, e2, h2⟩
theorem do_ixF (hK : X.K = K) : IxR X (lift2 K ixFD) := by
  subst hK
  intro value slice pins s σ H x y v u Q I rx ry h hs
  obtain ⟨J, ω, dx, dy, q, w, hx, hy, c, ds, i, d, e, f, lay, e1, nl, val, z⟩ := h
  subst e
  cases hy
  obtain ⟨a, vs, rfl, hl, ha⟩ := dp_list (f.dp w hx lay)
  obtain ⟨y, e2, e3⟩ := dpAll_at ha e1
  refine ix_list value slice pins s σ H _ _ v u Q I rx ry ⟨a, vs, i, y, rfl, rfl, hl, e2, c.now w z ?_⟩ hs
  cases e3 with
  | non => exact .non
  | str x => exact .str x
  | lst _ _ => cases nl
  | _ => simp [isVal] at val
theorem dc_reprO (hK : X.K = K) (M : Mfn X.prog X.w X.K X.mg X.base CX0 j C "__repr__" ps (spD K sp)) (c : Ct X.mg X.A k) (h : j + 1 ≤ k) : CallR X (.builtin "repr") (liftAM K (rmRepr C sp)) := by
  subst hK
  obtain ⟨f, fd, F, hm, hb⟩ := M
  intro pins s σ H xs us Q I rel ⟨J, ω, ds, q, w, rs, cq, d, e, i1, z⟩
  subst e
  cases rs with
  | cons r1 r2 =>
  cases r2
  obtain ⟨u, rfl, rx⟩ := vals1 rel
  obtain ⟨a, d1, od, rfl, rfl, J1⟩ := insD_at w I r1 rx i1
  have cq2 : CovQ X.K J H ω (fun r ω1 => ∃ z, r = .str z ∧ q r ω1) (fun v' H' => ∃ z, v' = .str z ∧ Q (.str z) H') := fun r ω' v' J' H' ⟨n, e, z⟩ g w' rp => by
    subst e
    cases rp
    exact ⟨n, rfl, cq _ _ _ _ _ z g w' (.str _)⟩
  have run := own_run F hb (c.r.mono h).in1 c.g I.env0.in1 I rel w (.cons r1 .nil) cq2 z
  obtain ⟨mm, hF⟩ := I.fr
  refine PySem.W.repr_K (by have := c.r.units; show X.A.units + 1 < cLine; omega) hF I.ok.mod.kin J1 hm.at_ hm.fn (thn run fun v' s' ⟨z', H', I', rz, n, e, qz⟩ => ?_)
  subst e
  obtain ⟨tk, rfl⟩ := (show ∃ t, v' = Value.str n t from rz)
  exact ⟨.str n, H', I', ⟨_, rfl⟩, qz⟩
end
section
variable {W : WX} {X : Cx} {K : PySem.W.Frag} {e a b : Expr} {es : List Expr} {te ta tb : DTE} {tA : DTA} {tds : List DTE} {pos p : Pos}
theorem de_isiF {T : String} {f : PyData → Bool} {t : Expr} (hK : X.K = K) (hk : ∀ d, kitB (tyN d) T = some (f d)) (hg : Gl X "isinstance") (hm : X.mg "isinstance" = none) (ha : DE W X K a ta) (ht : PE X t (tC (.ty T)))
    (he : starEach (a :: [t]) X.env = (false, eval a X.env) :: starEach [t] X.env := by rfl) (he2 : starEach [t] X.env = (false, eval t X.env) :: starEach [] X.env := by rfl) (hpl : (backTo pos (starEach [t] X.env)).any (·.1) = false := by rfl) :
    DE W X K (.Call (.Name "isinstance" p) [a, t] [] pos) (dIsiF f ta) := by
  subst hK
  obtain ⟨ra, pa, ka⟩ := ha
  refine ⟨_, pe_callB call_isi hg hm (by decide +kernel) (pa_cons pa (pa_cons ht pa_nil he2) he) (by decide) (by decide) he hpl, fun σ H J ω ρ q x Q w s cq cx z => ka σ H J ω ρ _ x _ w s (fun r ω1 v J1 H1 z1 g1 w1 rp => ?_) cx z⟩
  obtain ⟨d, fu, lay, z1⟩ := z1
  exact ⟨v, .ty T, .type (tyN d), .type T, _, rfl, .ty T, tyx_of (fu.dp w1 rp lay), kit_ty (hk _), (cq.step g1).now w1 z1 (.bl _)⟩
theorem de_isIxF {T : String} {f : PyData → Bool} {t : Expr} {pos2 : Pos} (hK : X.K = K) (hk : ∀ d, kitB (tyN d) T = some (f d)) (hg : Gl X "isinstance") (hm : X.mg "isinstance" = none) (ha : DE W X K a ta) (hb : DE W X K b tb) (ht : PE X t (tC (.ty T))) (hs : PlainIx b)
    (he : starEach (Expr.Subscript a b pos2 :: [t]) X.env = (false, eval (.Subscript a b pos2) X.env) :: starEach [t] X.env := by rfl) (he2 : starEach [t] X.env = (false, eval t X.env) :: starEach [] X.env := by rfl) (hpl : (backTo pos (starEach [t] X.env)).any (·.1) = false := by rfl) :
    DE W X K (.Call (.Name "isinstance" p) [.Subscript a b pos2, t] [] pos) (dIsIxF f ta tb) := by
  subst hK
  obtain ⟨ra, pa, ka⟩ := ha
  obtain ⟨rb, pb, kb⟩ := hb
  refine ⟨_, pe_callB call_isi hg hm (by decide +kernel) (pa_cons (pe_ix ix_list pa pb hs) (pa_cons ht pa_nil he2) he) (by decide) (by decide) he hpl, fun σ H J ω ρ q x Q w s cq cx z => ?_⟩
  refine ka σ H J ω ρ _ x _ w s (fun r1 ω1 v1 J1 H1 z1 g1 w1 rp1 => ?_) cx z
  refine kb σ H1 J1 ω1 ρ _ x _ w1 (s.mono g1.jj) (fun r2 ω2 v2 J2 H2 z2 g2 w2 rp2 => ?_) (cx.step g1) z1
  obtain ⟨ds, i, d, rfl, fu, lay, e1, z2⟩ := z2
  cases rp2
  obtain ⟨a, vs, rfl, hl, hA⟩ := dp_list (fu.dp w2 (rp_mono g2.jj _ _ rp1) lay)
  obtain ⟨y, e2, e3⟩ := dpAll_at hA e1
  exact ⟨a, vs, i, y, rfl, rfl, hl, e2, y, .ty T, .type (tyN d), .type T, _, rfl, .ty T, tyx_of e3, kit_ty (hk _), ((cq.step g1).step g2).now w2 z2 (.bl _)⟩
theorem de_lstT (ha : DAs W X K es tA) : DE W X K (.List es pos) (dLstT tA) := by
  obtain ⟨ra, pa, ka⟩ := ha
  refine ⟨_, pe_lst pa, fun σ H J ω ρ q x Q w s cq cx z => ka σ H J ω ρ _ x _ w s (fun rs ω1 vs J1 H1 z1 g1 w1 rps => ?_) cx z⟩
  obtain ⟨hl, val, fl, z1⟩ := z1
  refine ⟨by rw [rps.length, sizeLine_eq]; omega, fun p hp => ?_⟩
  have np : ∀ b, (fun b => if b = p then some (HO.lst vs) else none : Hp) b ≠ none → b = p := fun b h => by
    by_cases e : b = p
    · exact e
    · simp only [if_neg e] at h; exact absurd rfl h
  refine tm_cov (N := fun b => if b = p then some (HO.lst vs) else none) w1 (Grow.junk hp _) (w1.junk hp _) (cq.step g1) (fun b h => by rw [np b h]; exact hp) (fun b o e => ?_) (.lst (if_pos rfl) (rpAll_fl fl rps)) (by simpa only [isVal] using val) z1
  by_cases h : b = p
  · simp only [if_pos h] at e
    rw [h, upd_same, e]
  · simp only [if_neg h] at e
    cases e
theorem pe_fmtRD (gd : X.A.guards = some []) (hu : X.A.units + 64 < cLine) {t : TE} (he : PE X e t) : PE X (.FormattedValue e 114 none pos) (fun σ H Q => t σ H fun x H1 => ∃ ds, Dp X.K H1 x (.list ds) ∧ Ok (.list ds) ∧ Q (.str (PyData.shown (.list ds))) H1) := by
  refine ⟨fun pins s σ H Q I h => ?_⟩
  refine wpAny_FormattedValue_repr (thn (he.run pins s σ H _ I h) fun v s1 hv => ?_)
  obtain ⟨x, H1, I1, r1, ds, dp, ok, q⟩ := hv
  obtain ⟨as, rd⟩ := Dp.reads I1 _ x v dp r1
  obtain ⟨a, xs, rfl, _, _⟩ := dp_list dp
  cases (show v = Value.ref a from r1)
  refine pyReprObj_of_reads rd (fine_showable _ ok.1) (PyData.noDict_hsm ok.nodict) gd (by have := ok.2.1; omega) (fun _ _ z => z) (fun h' t tk hk => ?_) ok.fits
  exact wpAny_formatField_str ⟨.str _, H1, I1.kept (t' := tk) hk, ⟨_, rfl⟩, q⟩ ⟨.str _, H1, (I1.kept (t' := tk) hk).tok _, ⟨_, rfl⟩, q⟩ ok.fits
theorem de_fmtR (hK : X.K = K) (gd : X.A.guards = some []) (hu : X.A.units + 64 < cLine) (he : DE W X K e te) : DE W X K (.FormattedValue e 114 none pos) (dFmtR te) := by
  subst hK
  obtain ⟨r, p, kk⟩ := he
  refine ⟨_, pe_fmtRD gd hu p, fun σ H J ω ρ q x Q w s cq cx z => kk σ H J ω ρ _ x _ w s (fun v ω1 u J1 H1 z1 g1 w1 rp => ?_) cx z⟩
  obtain ⟨ds, f, ok, z1⟩ := z1
  exact ⟨ds, f.dp w1 rp (fine_lay _ ok.1), ok, (cq.step g1).now w1 z1 (.str _)⟩
theorem dj_nil : DJ W X K [] [] := ⟨⟨[], .nil, fun acc σ H J ω ρ q x Q w s c cx z => c _ _ _ _ z Grow.refl w⟩⟩
theorem dj_cons (he : DE W X K e te) (hs : DJ W X K es tds) : DJ W X K (e :: es) (te :: tds) := by
  obtain ⟨r, p, kk⟩ := he
  obtain ⟨ts, pj, kj⟩ := hs
  refine ⟨⟨r :: ts, .cons p pj, fun acc σ H J ω ρ q x Q w s c cx z => kk σ H J ω ρ _ x _ w s (fun v ω1 u J1 H1 z1 g1 w1 rp => ?_) cx z⟩⟩
  obtain ⟨y, rfl, hl, z1⟩ := z1
  cases rp
  exact ⟨y, rfl, hl, kj _ σ H1 J1 ω1 ρ q x Q w1 (s.mono g1.jj) (fun y ω' J' H' z g w => c y ω' J' H' z (g1.trans g) w) (cx.step g1) z1⟩
theorem de_joined {v1 v2 : Expr} {rest : List Expr} (h : DJ W X K (v1 :: v2 :: rest) tds) : DE W X K (.JoinedStr (v1 :: v2 :: rest) pos) (dJoined tds) := by
  obtain ⟨ts, pj, kj⟩ := h
  exact ⟨_, pe_joined pj, fun σ H J ω ρ q x Q w s cq cx z => kj _ σ H J ω ρ _ x _ w s (fun y ω' J' H' z g w => cq _ _ _ _ _ z g w (.str _)) cx z⟩
end
end Tx

namespace Tx
open PySem PySem.Spec PyProof.Rows L2
/-! ## HELD: an instance whose list of rows is its own at any depth; copies of what is read; == and != with anything -/
/-- a value: data, or a list that is read -/
def Vf (ω : Wd) (t d : PyData) : Prop := t = d ∨ (isL d = true ∧ isNn t = false ∧ Ful ω t d)
theorem Vf.ful {ω : Wd} {t d : PyData} (h : Vf ω t d) : Ful ω t d := by
  rcases h with rfl | ⟨_, _, h⟩
  · exact Ful.rfl'
  · exact h
theorem Tm.vf {ω ω' : Wd} {u d : PyData} (h : Tm ω u d ω') : Vf ω' u d := by
  have f := h.full
  rcases h with ⟨_, h1, _⟩ | ⟨a, N, h1, _, _, l⟩
  · exact .inl h1
  · exact .inr ⟨l, by rw [h1]; rfl, .inl f⟩
theorem Vf.flat {ω : Wd} {t d : PyData} (h : Vf ω t d) (l : isL d = false) : t = d := by
  rcases h with h | ⟨l2, _⟩
  · exact h
  · rw [l] at l2; cases l2
theorem rsv_keep {ω ω' : Wd} (k : Keep ω ω') {t : PyData} (h : (∃ l, rsv ω t = .dict l) → False) : rsv ω' t = rsv ω t := by
  unfold rsv at h ⊢
  split
  · rename_i i
    dsimp only at h
    cases e : ω i.toNat with
    | none => rw [e] at h; exact absurd ⟨_, rfl⟩ h
    | some m =>
      rw [k _ _ e]
  · rfl
theorem Ful.keep {ω ω' : Wd} {t d : PyData} (k : Keep ω ω') (h : Ful ω t d) (c : d.canLay0 = true) : Ful ω' t d := by
  rcases h with h | h
  · exact .inl (h.keep k c)
  · by_cases e : ∃ l, rsv ω t = .dict l
    · obtain ⟨l, e⟩ := e
      have := rsv_dict e
      subst this
      rw [e] at h
      exact .inl (h.keep k c)
    · right
      rw [rsv_keep k e]
      exact h.keep k c
theorem Vf.keep {ω ω' : Wd} {t d : PyData} (k : Keep ω ω') (h : Vf ω t d) (c : isVal d = true) : Vf ω' t d := by
  rcases h with h | ⟨h1, h2, h3⟩
  · exact .inl h
  · exact .inr ⟨h1, h2, h3.keep k (val_lay c)⟩
def Held (C : Addr) (ω : Wd) (a : Addr) (ds : List PyData) : Prop := ∃ dx r N, ω a = some (.ins C dx [("rows", refD r)]) ∧ ω r = some (.tmp N (.list ds))
theorem Held.keep {C a : Addr} {ω ω' : Wd} {ds : List PyData} (k : Keep ω ω') (h : Held C ω a ds) : Held C ω' a ds := by
  obtain ⟨dx, r, N, h1, h2⟩ := h
  exact ⟨dx, r, N, k _ _ h1, k _ _ h2⟩
theorem Held.ne {C a b : Addr} {ω : Wd} {ds : List PyData} (h : Held C ω a ds) (e : ω b = none) : a ≠ b := fun z => by
  obtain ⟨dx, r, N, h1, h2⟩ := h
  rw [z, e] at h1
  cases h1
theorem Held.rows {C a : Addr} {ω : Wd} {ds : List PyData} (h : Held C ω a ds) : ∃ dx r, ω a = some (.ins C dx [("rows", refD r)]) ∧ Ful ω (refD r) (.list ds) := by
  obtain ⟨dx, r, N, h1, h2⟩ := h
  exact ⟨dx, r, h1, .inl (Full.tmp h2)⟩
theorem Held.ins {C a : Addr} {ω : Wd} {ds : List PyData} {m : Str} (h : Held C ω a ds) (hm : (([("rows", refD a)] : List (Str × PyData)).lookup m).isNone = true := by rfl) : InsD C m ω (refD a) := by
  obtain ⟨dx, r, N, h1, h2⟩ := h
  refine ⟨a, _, rfl, h1, rfl, ?_⟩
  simp only [List.lookup] at hm ⊢
  split at hm
  · cases hm
  · rfl
/-! ### what is copied -/
def dCopyF (j : Nat) (te : DTE) (ρ : DS) (ω : Wd) (q : DQ) (x : DXK) : Prop := j < ρ.length ∧ te ρ ω (fun t ω1 => ∃ ds, Ful ω1 t (.list ds) ∧ Lot3 ds ∧ ∀ u ω', Tm ω1 u (.list ds) ω' → q u ω') x
where Lot3 (ds : List PyData) : Prop := Val 20 1000000 (.list ds)
theorem copyF_run {W : WX} {K : PySem.W.Frag} {te : DTE} {j : Nat} {σ : L2.St} {H J : Hp} {ω : Wd} {ρ : DS} {q : DQ} {x : DXK} {Q : VK} (w : Rw K J H ω) (s : Sl K J σ ρ) (cq : CovQ K J H ω q Q) (cx : CovX K J H ω x (fun c d H => W c d σ H)) (z : dCopyF j te ρ ω q x) :
    tLc (iList K (liftE K W te)) (gName j) tYes (tCall (spCopied K 30) [] E0 (tCons (tVar j) tNil)) [j] σ H Q := by
  obtain ⟨hj, z⟩ := z
  refine ⟨J, ω, ρ, _, x, w, s, fun t ω1 v J1 H1 z1 g1 w1 rp => ?_, cx, z⟩
  obtain ⟨ds, fu, lot, z1⟩ := z1
  have val : isVal (.list ds) = true := lot.val
  have dn := lot.deep
  have sz := lot.size
  obtain ⟨a, xs, rfl, hs, ha⟩ := dp_list (fu.dp w1 rp (val_lay val))
  have sx : szD (.list ds) = 1 + szAll ds := by simp [szD]
  have hlen := DpAll.length ha
  have hle := len_le_szAll ds
  simp only [PyData.depth] at dn
  have val2 := val
  simp only [isVal] at val
  refine ⟨a, rfl, ⟨_, hs⟩, fun L hL => ?_⟩
  refine lc_list (K := K) (a := a) (xs := xs) (fun i H' => Same H1 H' ∧ ∃ us, H' L = some (.lst us) ∧ NwAll 0 H' (ds.take i) (fun x => H1 x ≠ none ∨ x = L) us)
    ⟨same_new hL _, [], upd_same, by rw [List.take_zero]; simp only [NwAll]⟩ (fun i H' _ z => z.1.seq hs) ?_ ?_
  · rintro i y H2 hx ⟨sm, us, hL1, hN⟩
    obtain ⟨d, e1, e2⟩ := DpAll.get ha hx
    have hm := List.mem_of_getElem? e1
    have hi : i < ds.length := (List.getElem?_eq_some_iff.mp e1).1
    have hul := hN.len
    rw [List.length_take] at hul
    have ew : wipe ((wipe σ [j]).set j (some y)) [j] = wipe σ [j] := (wipe_set (by simp)).trans (wipe_wipe σ [j])
    have ev : ((wipe σ [j]).set j (some y))[j]? = some (some y) := by
      rw [List.getElem?_set, if_pos rfl, if_pos]
      show j < (wipe σ [j]).length
      unfold L2.wipe L2.wipe
      rw [List.length_set, s.1]
      exact hj
    refine ⟨ew, y, ev, y, d, rfl, dp_mono sm d _ e2, isValAll_iff.mp val d hm, ?_, ?_, fun u H3 sm2 hu => ?_⟩
    · have := depth_mem hm
      omega
    · have := szD_mem hm
      omega
    have up : ∀ (a : Addr) (o : HO), ¬ (H1 a ≠ none ∨ a = L) → H3 a = some o → upd H3 L (.lst (us ++ [u])) a = some o := fun a o n e => by
      rw [upd_ne fun z => n (.inr z)]; exact e
    refine ⟨us, sm2 _ _ hL1, ?_, (fun b o e => ?_), us ++ [u], upd_same, ?_⟩
    · rw [sizeLine_eq]
      omega
    · rw [upd_ne (ne_of_none e hL)]
      exact sm2 _ _ (sm _ _ e)
    · rw [List.take_add_one, e1]
      refine NwAll.append (NwAll.to (Nat.le_refl _) _ _ _ _ (fun _ z => z) (fun a o n e => up a o n (sm2 _ _ e)) hN) (NwAll.one (Nw.to (Nat.le_refl _) d _ _ u (fun a z => ?_) (fun a o n e => ?_) hu))
      · rcases z with z | z
        · cases q : H1 a with
          | none => exact absurd q z
          | some o => rw [sm _ _ q]; simp
        · rw [z, hL1]; simp
      · rw [upd_ne fun z => n (by rw [z, hL1]; simp)]; exact e
  · rintro H2 ⟨sm, us, hL1, hN⟩
    rw [hlen, List.take_length] at hN
    refine nw_tm w1 sm (cq.step g1) ?_ val2 z1
    simp only [Nw]
    exact ⟨L, us, 0, rfl, fun z => z hL, by rw [List.replicate_zero, List.append_nil]; exact hL1, Nat.le_refl _, hN⟩
/-! ### isinstance(x, C) of what is read; == and != with anything -/
def dIsCF (K : PySem.W.Frag) (C : Addr) (te : DTE) (ρ : DS) (ω : Wd) (q : DQ) (x : DXK) : Prop := te ρ ω (fun r ω1 => ∃ t b, (TyD K ω1 r t ∨ ∃ d, Ful ω1 r d ∧ d.canLay0 = true ∧ t = .type (tyN d)) ∧ PySem.W.kitOne K t (.ref C) = some b ∧ q (.bool b) ω1) x
def EqRt (K : PySem.W.Frag) (C : Addr) (ω : Wd) (dy : PyData) : Prop := (∃ m, InsD C m ω dy) ∨ ∃ d, Ful ω dy d ∧ d.canLay0 = true ∧ PySem.W.subIn K (PySem.W.dataType d) (.ref C) = some false
def rmEqA (K : PySem.W.Frag) (C : Addr) (sp : DSp) : RM2 := fun dx dy ω q => InsD C "__eq__" ω dx ∧ EqRt K C ω dy ∧ sp [dx, dy] ω q X0
def rmNeA (K : PySem.W.Frag) (C : Addr) (sp : DSp) : RM2 := fun dx dy ω q => InsD C "__eq__" ω dx ∧ EqRt K C ω dy ∧ sp [dx, dy] ω (fun r ω1 => ∃ b, r = .bool b ∧ q (.bool (!b)) ω1) X0
section
variable {X : Cx} {K : PySem.W.Frag} {C : Addr} {j k : Nat} {ps : List Str} {sp : DSp}
theorem eqRt_looks {pins : List (Addr × Obj)} {σ : L2.St} {J H : Hp} {ω : Wd} {s : Shared} {v : V} {u : Value} {dy : PyData} (w : Rw X.K J H ω) (I : L2.Inv X pins σ H s) (r : Rp X.K J v dy) (rv : RelV v u) (h : EqRt X.K C ω dy) :
    ∃ tb, PySem.W.Looks (model X.prog X.w) s.heap (typeOf u) tb ∧ PySem.W.notFirst X.K C tb = true := by
  rcases h with ⟨m, i2⟩ | ⟨d, f, lay, sub⟩
  · obtain ⟨b, d2, od2, rfl, rfl, J2⟩ := insD_at w I r rv i2
    exact ⟨_, J2.type, first_self⟩
  · obtain ⟨as, rd⟩ := Dp.reads I _ v u (f.dp w r lay) rv
    refine ⟨_, PySem.W.looks_reads rd, ?_⟩
    unfold PySem.W.notFirst
    rw [sub]
    simp
theorem dm_eqA (hK : X.K = K) (M : Mfn X.prog X.w X.K X.mg X.base CX0 j C "__eq__" ps (spD K sp)) (c : Ct X.mg X.A k) (h : j ≤ k) : OpR X (compareOp .Eq) (lift2M K (rmEqA K C sp)) := by
  subst hK
  obtain ⟨f, fd, F, hm, hb⟩ := M
  intro pins s σ H x y v u Q I rx ry ⟨J, ω, dx, dy, q, w, r1, r2, cq, i1, i2, z⟩
  obtain ⟨a, d1, od, rfl, rfl, J1⟩ := insD_at w I r1 rx i1
  have run := own_run F hb (c.r.mono h) c.g I.env0 I (.cons rx (.cons ry .nil)) w (.cons r1 (.cons r2 .nil)) cq z
  obtain ⟨tb, lk, nf⟩ := eqRt_looks w I r2 ry i2
  obtain ⟨mm, hF⟩ := I.fr
  exact PySem.W.cmp_K (op := .Eq) c.r.units0 hF I.ok.mod.kin J1 lk nf hm.at_ hm.fn (thn run fun v' s' ⟨z', H', I', rz, qz⟩ => SlX.cmpback rz ⟨z', H', I', rz, qz⟩)
theorem dm_neA (hK : X.K = K) (M : Mfn X.prog X.w X.K X.mg X.base CX0 j C "__eq__" ps (spD K sp)) (c : Ct X.mg X.A k) (h : j + 1 ≤ k) (ne : PySem.W.findIn K (.ref C) "__ne__" = some (some (.builtin "object.__ne__"))) (oC : PySem.W.subIn K (.ref C) (.type "object") = some true) :
    OpR X (compareOp .NotEq) (lift2M K (rmNeA K C sp)) := by
  subst hK
  obtain ⟨f, fd, F, hm, hb⟩ := M
  intro pins s σ H x y v u Q I rx ry ⟨J, ω, dx, dy, q, w, r1, r2, cq, i1, i2, z⟩
  obtain ⟨a, d1, od, rfl, rfl, J1⟩ := insD_at w I r1 rx i1
  have cq2 : CovQ X.K J H ω (fun r ω1 => ∃ b, r = .bool b ∧ q (.bool (!b)) ω1) (fun v' H' => ∃ b, v' = .bl b ∧ Q (.bl (!b)) H') := fun r ω' v' J' H' ⟨b, e, z⟩ g w' rp => by
    subst e
    cases rp
    exact ⟨b, rfl, cq _ _ _ _ _ z g w' (.bl _)⟩
  have run := own_run F hb (c.r.mono h).in1 c.g I.env0.in1 I (.cons rx (.cons ry .nil)) w (.cons r1 (.cons r2 .nil)) cq2 z
  obtain ⟨tb, lk, nf⟩ := eqRt_looks w I r2 ry i2
  refine ne_own (by have := c.r.units; omega) I.kIn J1 lk nf ne hm.at_ hm.fn oC (thn run fun v' s' ⟨z', H', I', rz, b', e, qz⟩ => ?_)
  subst e
  exact ⟨b', rz, .bl (!b'), H', I', rfl, qz⟩
variable {W : WX} {a t : Expr} {ta : DTE} {pos p : Pos}
theorem de_isCF (hK : X.K = K) (hg : Gl X "isinstance") (hm : X.mg "isinstance" = none) (ha : DE W X K a ta) (ht : PE X t (tC (.ref C)))
    (he : starEach (a :: [t]) X.env = (false, eval a X.env) :: starEach [t] X.env := by rfl) (he2 : starEach [t] X.env = (false, eval t X.env) :: starEach [] X.env := by rfl) (hpl : (backTo pos (starEach [t] X.env)).any (·.1) = false := by rfl) :
    DE W X K (.Call (.Name "isinstance" p) [a, t] [] pos) (dIsCF K C ta) := by
  subst hK
  obtain ⟨ra, pa, ka⟩ := ha
  refine ⟨_, pe_callB call_isi hg hm (by decide +kernel) (pa_cons pa (pa_cons ht pa_nil he2) he) (by decide) (by decide) he hpl, fun σ H J ω ρ q x Q w s cq cx z => ka σ H J ω ρ _ x _ w s (fun r ω1 v J1 H1 z1 g1 w1 rp => ?_) cx z⟩
  obtain ⟨t', b', ty, kt, z1⟩ := z1
  refine ⟨v, .ref C, t', .ref C, b', rfl, .own C, ?_, kt, (cq.step g1).now w1 z1 (.bl _)⟩
  rcases ty with ty | ⟨d, f, lay, rfl⟩
  · exact tyD_x w1 rp ty
  · exact tyx_of (f.dp w1 rp lay)
end
end Tx

namespace Tx
open PySem PySem.Spec PyProof.Rows L2
/-! ## a[i], b[j] = (x, y) -/
def dSubs2 (to1 ti1 to2 ti2 te : DTE) (rd : RMS) (D : DEnds) (ρ : DS) (ω : Wd) : Prop := te ρ ω (fun v ω1 => ∃ x y, v = .tuple [x, y] ∧ to1 ρ ω1 (fun o ω2 => ti1 ρ ω2 (fun i ω3 => rd o i x ω3 fun ω4 =>
  to2 ρ ω4 (fun o2 ω5 => ti2 ρ ω5 (fun i2 ω6 => rd o2 i2 y ω6 fun ω7 => D.nx ρ ω7) (xcOf D ρ)) (xcOf D ρ)) (xcOf D ρ)) (xcOf D ρ)) (xcOf D ρ)
theorem ds_subs2 {W : WX} {X : Cx} {K : PySem.W.Frag} {o1 i1 o2 i2 e : Expr} {to1 ti1 to2 ti2 te : DTE} {rd : RMS} {p1 p2 pt pos : Pos} {kt : Nat} (hc : X.calm = true) (ho1 : DE W X K o1 to1) (hi1 : DE W X K i1 ti1) (ho2 : DE W X K o2 to2) (hi2 : DE W X K i2 ti2) (he : DE W X K e te) (hset : PSet X (liftSt K rd)) (hK : X.K = K)
    (ha1 : ∀ v, assign (.Subscript o1 i1 p1) X.env v = (do
      let ov ← holding [v] (eval o1 X.env)
      let iv ← holding [v, ov] (eval i1 X.env)
      standAt p1
      holding [v, ov, iv] (setItem ov iv v)
      release [v, ov, iv] []) := by intro _; rfl)
    (ha2 : ∀ v, assign (.Subscript o2 i2 p2) X.env v = (do
      let ov ← holding [v] (eval o2 X.env)
      let iv ← holding [v, ov] (eval i2 X.env)
      standAt p2
      holding [v, ov, iv] (setItem ov iv v)
      release [v, ov, iv] []) := by intro _; rfl)
    (hs : swapsWithSole [.Tuple [.Subscript o1 i1 p1, .Subscript o2 i2 p2] kt pt] e pos.line X.env = pure false := by rfl) (hw : swappedStores [.Tuple [.Subscript o1 i1 p1, .Subscript o2 i2 p2] kt pt] e X.env = pure none := by rfl)
    (h1 : (assignEach [.Tuple [.Subscript o1 i1 p1, .Subscript o2 i2 p2] kt pt] X.env).map (·.2) = [assign (.Tuple [.Subscript o1 i1 p1, .Subscript o2 i2 p2] kt pt) X.env] := by rfl)
    (hn : (assignEach [Expr.Subscript o1 i1 p1, .Subscript o2 i2 p2] X.env).length = 2 := by rfl) (hst : (assignEach [Expr.Subscript o1 i1 p1, .Subscript o2 i2 p2] X.env).findIdx? (·.1) = none := by rfl)
    (hs1 : (assignEach [Expr.Subscript o1 i1 p1, .Subscript o2 i2 p2] X.env).map (·.2) = assign (.Subscript o1 i1 p1) X.env :: (assignEach [Expr.Subscript o2 i2 p2] X.env).map (·.2) := by rfl)
    (hs2 : (assignEach [Expr.Subscript o2 i2 p2] X.env).map (·.2) = assign (.Subscript o2 i2 p2) X.env :: (assignEach [] X.env).map (·.2) := by rfl) :
    DSt W X K (.Assign [.Tuple [.Subscript o1 i1 p1, .Subscript o2 i2 p2] kt pt] e pos) (dSubs2 to1 ti1 to2 ti2 te rd) := by
  subst hK
  obtain ⟨ro1, po1, ko1⟩ := ho1
  obtain ⟨ri1, pi1, ki1⟩ := hi1
  obtain ⟨ro2, po2, ko2⟩ := ho2
  obtain ⟨ri2, pi2, ki2⟩ := hi2
  obtain ⟨re, pe, ke⟩ := he
  refine ⟨_, ps_asg pe (pg_tup hc (pgs_cons (pg_sub po1 pi1 hset ha1) (pgs_cons (pg_sub po2 pi2 hset ha2) pgs_nil hs2) hs1) hn hst) hs hw h1, fun D DD σ H J ω ρ w s cs z => ke σ H J ω ρ _ _ _ w s (fun r ω1 v J1 H1 z1 g1 w1 rp => ?_) (cs.x s) z⟩
  obtain ⟨x, y, rfl, z1⟩ := z1
  cases rp with
  | tup hsq hal =>
  cases hal with
  | cons r1 r2 =>
  cases r2 with
  | cons r2 r3 =>
  cases r3
  refine ⟨_, _, rfl, Same.sqT w1.jh hsq, rfl, _, _, rfl, ?_⟩
  refine ko1 σ H1 J1 ω1 ρ _ _ _ w1 (s.mono g1.jj) (fun d2 ω2 v2 J2 H2 z2 g2 w2 rp2 => ?_) ((cs.x s).step g1) z1
  refine ki1 σ H2 J2 ω2 ρ _ _ _ w2 (s.mono (g1.trans g2).jj) (fun d3 ω3 v3 J3 H3 z3 g3 w3 rp3 => ?_) ((cs.x s).step (g1.trans g2)) z2
  refine ⟨J3, ω3, d2, d3, x, _, w3, rp_mono g3.jj _ _ rp2, rp3, rp_mono (g2.trans g3).jj _ _ r1, fun ω4 J4 H4 z4 g4 w4 => ?_, z3⟩
  have ga := ((g1.trans g2).trans g3).trans g4
  refine ⟨_, _, rfl, ?_⟩
  refine ko2 σ H4 J4 ω4 ρ _ _ _ w4 (s.mono ga.jj) (fun d5 ω5 v5 J5 H5 z5 g5 w5 rp5 => ?_) ((cs.x s).step ga) z4
  refine ki2 σ H5 J5 ω5 ρ _ _ _ w5 (s.mono (ga.trans g5).jj) (fun d6 ω6 v6 J6 H6 z6 g6 w6 rp6 => ?_) ((cs.x s).step (ga.trans g5)) z5
  refine ⟨J6, ω6, d5, d6, y, _, w6, rp_mono g6.jj _ _ rp5, rp6, rp_mono ((((g2.trans g3).trans g4).trans g5).trans g6).jj _ _ r2, fun ω7 J7 H7 z7 g7 w7 => ?_, z6⟩
  have gb := ((ga.trans g5).trans g6).trans g7
  exact ⟨rfl, cs.nx _ _ _ _ _ z7 gb w7 (s.mono gb.jj)⟩
end Tx

namespace Tx
open PySem PySem.Spec PyProof.Rows L2
/-! ## enumerate of a list of one's own; a def that tells a scalar, called with things that are read -/
def dioEnumO (ta : DTA) (ρ : DS) (ω : Wd) (k : List PyData → (Wd → Prop) → Wd → Prop) (x : DXK) : Prop := ta ρ ω (fun rs ω1 => ∃ a xs, rs = [refD a] ∧ ω1 a = some (.lst xs) ∧ k (enumD xs) (fun ω' => ω' a = some (.lst xs)) ω1) x
theorem walk_enumO {K : PySem.W.Frag} {a : Addr} {n : Nat} : Walk (Ite K a) n (fun H => ∃ vs, H a = some (.lst vs) ∧ vs.length = n) (fun i H v H' => ∃ T x, v = .ref T ∧ H T = none ∧ H' = upd H T (.tup [.int (i : Nat), x]) ∧ ∀ vs, H a = some (.lst vs) → vs[i]? = some x) := by
  refine ⟨fun i H hi ⟨vs, e, l⟩ => ?_, fun H ⟨vs, e, l⟩ => ⟨vs, SqL.of e, by omega⟩, fun i H v H' hi _ y => ?_⟩
  · have : i < vs.length := by omega
    exact ⟨vs, vs[i], SqL.of e, List.getElem?_eq_getElem this⟩
  · obtain ⟨T, x, h1, h2, h3, h4⟩ := y
    exact ⟨T, x, h1, h2, h3, fun vs e => h4 vs (SqL.of e)⟩
theorem walkP_enumO {K : PySem.W.Frag} {J : Hp} {a : Addr} {xs : List PyData} : WalkP K J (Ite K a) (enumD xs) (fun ω => ω a = some (.lst xs)) := by
  have el : (enumD xs).length = xs.length := by unfold enumD; rw [List.length_mapIdx]
  refine ⟨_, _, walk_enumO, fun J' H' ω' _ r p => ?_, fun i H v H' J' ω' hi _ r p y => .inr ?_⟩
  · obtain ⟨vs, e, ra⟩ := r.cell a _ p
    exact ⟨vs, e, by rw [el]; exact ra.length⟩
  · obtain ⟨T, x, e1, e2, e3, e4⟩ := y
    obtain ⟨vs, e, ra⟩ := r.cell a _ p
    obtain ⟨d, e6, e7⟩ := ra.get (e4 vs e)
    exact ⟨T, _, [.int ((i : Nat) : Int), d], e1, e2, e3, .cons (.int _) (.cons e7 .nil), by unfold enumD; rw [List.getElem?_mapIdx, e6]; rfl⟩
theorem dio_enumO {W : WX} {X : Cx} {K : PySem.W.Frag} {tA : DTA} {a : Expr} {p pos tpos : Pos} {elts : List Expr} {kk : Nat} (hK : X.K = K) (hg : Gl X "enumerate") (hm : X.mg "enumerate" = none) (ha : DAs W X K [a] tA) (hs : starEach [a] X.env = [(false, eval a X.env)] := by rfl) :
    DIo W X K (.Tuple elts kk tpos) (.Call (.Name "enumerate" p) [a] [] pos) (dioEnumO tA) := by
  subst hK
  obtain ⟨t, pp, k⟩ := ha
  refine ⟨_, pi_enum hg hm pp hs, fun σ H J ω ρ kk x R w s c cx z => k σ H J ω ρ _ x _ w s (fun rs ω1 vs J1 H1 z1 g1 w1 rps => ?_) cx z⟩
  obtain ⟨a, xs, rfl, e1, z1⟩ := z1
  cases rps with
  | cons r1 r2 =>
  cases r2
  obtain rfl := rp_ref r1
  obtain ⟨vs, e2, _⟩ := w1.cell a _ e1
  exact ⟨a, _, rfl, SqL.of e2, c _ _ _ _ _ _ z1 g1 w1 walkP_enumO⟩
/-! ### read in the heap as it stands -/
section
variable {K : PySem.W.Frag} {J H : Hp} {ω : Wd}
theorem full_ref {ω : Wd} (a : Addr) : full ω (refD a) = cellD ω a := by
  show cellD ω (((a : Nat) : Int).toNat) = _
  rw [Int.toNat_natCast]
theorem cell_rp (w : Rw K J H ω) {a : Addr} (z : (cellD ω a).canLay0 = true) : Rp K H (.ref a) (cellD ω a) := by
  unfold cellD at z ⊢
  cases q : ω a with
  | none => rw [q] at z; simp [PyData.canLay0] at z
  | some m =>
    rw [q] at z
    cases m with
    | lst ds =>
      obtain ⟨vs, h1, h2⟩ := w.cell a _ q
      exact .lst h1 (rpAll_mono w.jh _ _ h2)
    | tmp N d =>
      obtain ⟨h1, h2, _⟩ := w.cell a _ q
      exact rp_mono h1 _ _ h2
    | bag => simp [PyData.canLay0] at z
    | ins _ _ _ => simp [PyData.canLay0] at z
    | xd _ => simp [PyData.canLay0] at z
    | ent _ _ _ _ _ => simp [PyData.canLay0] at z
mutual
theorem full_rp (w : Rw K J H ω) : ∀ {v : V} {d : PyData}, Rp K J v d → (full ω d).canLay0 = true → Rp K H v (full ω d)
  | _, _, .non, _ => .non
  | _, _, .bl b, _ => .bl b
  | _, _, .int i, _ => .int i
  | _, _, .str x, _ => .str x
  | _, _, .lst hs ha, z => by
    simp only [full] at z ⊢
    exact .lst (w.jh _ _ hs) (fullAll_rp w ha (by simpa only [PyData.canLay0] using z))
  | _, _, .tup hs ha, z => by
    simp only [full] at z ⊢
    exact .tup (Same.sqT w.jh hs) (fullAll_rp w ha (by simpa only [PyData.canLay0] using z))
  | _, _, .ref a, z => by
    rw [full_ref] at z ⊢
    exact cell_rp w z
  | _, _, .scr hs, z => by simp [full, PyData.canLay0] at z
  | _, _, .pub h, z => by simp [full, PyData.canLay0] at z
theorem fullAll_rp (w : Rw K J H ω) : ∀ {vs : List V} {ds : List PyData}, RpAll K J vs ds → PyData.canLayAll0 (fullAll ω ds) = true → RpAll K H vs (fullAll ω ds)
  | _, _, .nil, _ => .nil
  | _, _, .cons h1 h2, z => by
    simp only [fullAll, PyData.canLayAll0, Bool.and_eq_true] at z ⊢
    exact .cons (full_rp w h1 z.1) (fullAll_rp w h2 z.2)
end
/-- as it is, or read -/
def As (ω : Wd) (t t' : PyData) : Prop := t' = t ∨ (t' = full ω t ∧ t'.canLay0 = true)
inductive AsAll (ω : Wd) : List PyData → List PyData → Prop
  | nil : AsAll ω [] []
  | cons {t t' : PyData} {ts ts' : List PyData} : As ω t t' → AsAll ω ts ts' → AsAll ω (t :: ts) (t' :: ts')
theorem AsAll.rp (w : Rw K J H ω) {ts ts' : List PyData} (h : AsAll ω ts ts') : ∀ {vs : List V}, RpAll K J vs ts → RpAll K H vs ts' := by
  induction h with
  | nil => intro vs r; cases r; exact .nil
  | cons h1 _ ih =>
    intro vs r
    cases r with
    | cons r1 r2 =>
      refine .cons ?_ (ih r2)
      rcases h1 with rfl | ⟨rfl, lay⟩
      · exact rp_mono w.jh _ _ r1
      · exact full_rp w r1 lay
def scalar : PyData → Bool
  | .none => true
  | .bool _ => true
  | .int _ => true
  | .str _ => true
  | _ => false
theorem rp_scalar {J' : Hp} {v : V} {d : PyData} (h : Rp K J v d) (s : scalar d = true) : Rp K J' v d := by
  cases h with
  | non => exact .non
  | bl b => exact .bl b
  | int i => exact .int i
  | str x => exact .str x
  | lst _ _ => cases s
  | tup _ _ => cases s
  | ref _ => cases s
  | scr _ => cases s
  | pub _ => cases s
end
/-- a def that changes nothing and tells a scalar: its things may be read as they stand -/
def frm (sp : DSp) : DSp := fun ts ω q _ => ∃ ts', AsAll ω ts ts' ∧ sp ts' (fun _ => none) (fun r _ => scalar r = true ∧ q r ω) X0
theorem dfn_frm {P : Program} {w : World} {K : PySem.W.Frag} {mg : Str → Option Value} {base : Heap} {k : Nat} {nm : Str} {ps : List Str} {sp : DSp} (D : Dfn P w K mg base CX0 k nm ps (spD K sp)) : Dfn P w K mg base CX0 k nm ps (spD K (frm sp)) := by
  refine D.toD fun vs H Q E z => ?_
  obtain ⟨J, ω, ts, q, x, w, r, cq, cx, ts', hp, z⟩ := z
  refine ⟨H, fun _ => none, ts', fun r _ => scalar r = true ∧ q r ω, X0, ⟨Same.refl _, (fun _ _ e => nomatch e), (fun _ _ e => nomatch e), (fun _ _ e => nomatch e)⟩, hp.rp w r, fun r1 ω' v J' H' ⟨sc, qr⟩ g w' rp => ?_, fun _ _ _ _ _ _ z => z.elim, z⟩
  have sm : Same H H' := fun a o e => w'.jh _ _ (g.jj _ _ e)
  exact cq _ _ _ _ _ qr (same_grow w sm).1 (same_grow w sm).2 (rp_scalar rp sc)
end Tx

namespace Tx
open PySem PySem.Spec PyProof.Rows L2 HotX L2H
/-! ## within an except suite: the end of a list, comprehensions; errors whose context is None -/
section
variable {prog : Program} {w : World} {A : Around} {E : Value → Shared → Prop} {s : Shared}
theorem pyNext_list_end_hot {it l x1 : Addr} {i : Nat} {items : Array Value} {Q : Option Value → Shared → Prop} (hot : HotAt A x1 s.heap) (hne : x1 ≠ it) (hit : s.heap.IsListIter it l i) (hl : s.heap.IsList l items) (hx : items[i]? = none)
    (hQ : ∀ h', (∀ b o, b ≠ it → s.heap.get? b = some o → h'.get? b = some o) → Q none { s with heap := h' }) : wpAny (model prog w) A (pyNext (.ref it)) Q E s := by
  obtain ⟨o, ho, hc, hd⟩ := id hit
  obtain ⟨ol, hol, _, nl, hdl⟩ := hl
  obtain ⟨hh, o1, vs1, h1, d1, c1⟩ := hot
  unfold pyNext
  refine wpAny_bind (wpAny_attempt (wpAny_callSpecial?_slot (name := Str.ofString "__next__") hit.typeIs slot_listiter_next
    (wpAny_call_entry slot_listiter_next hit.typeIs entry_listiter_next ?_ (args_listiter_next _))))
  show wpAny _ _ (field (.ref it) 0 >>= _) _ _ s
  refine wpAny_bind (wpAny_field ho hd (x := .ref l) rfl ?_)
  show wpAny _ _ (if (Value.ref l == Value.none) = true then _ else _) _ _ s
  rw [if_neg (show ¬ ((Value.ref l == Value.none) = true) from Bool.false_ne_true)]
  show wpAny _ _ (field (.ref it) 1 >>= _) _ _ s
  refine wpAny_bind (wpAny_field ho hd (x := .int i 0) rfl ?_)
  show wpAny _ _ (seqItems? (.ref l) >>= _) _ _ s
  refine wpAny_bind (wpAny_seqItems hol hdl ?_)
  simp only [Int.toNat_natCast, hx]
  refine wpAny_bind (wpAny_rule (wpAny_bind (wpAny_setField ho hd (by simp) ?_)))
  show wpAny _ _ (newExc (.type "StopIteration") [] >>= _) _ _ _
  refine wpAny_bind ?_
  simp only [newExc, newTuple]
  refine wpAny_bind (wpAny_newObj_type ?_ (by size_fits))
  refine wpAny_bind (m := firstArgMember _ _) (wpAny_of_eq (a := Value.none) (by first | rfl | (simp only [firstArgMember]; rfl)) ?_)
  refine wpAny_newObj_type ?_ (by size_fits)
  have h2 := (Heap.get?_update_other s.heap (Obj.mapFields (·.setIfInBounds 0 Value.none)) (Ne.symm hne)).trans h1
  refine raiseNew_hot ⟨hh, o1, vs1, Heap.get?_push_of_some _ (Heap.get?_push_of_some _ h2), d1, c1⟩ (Nat.ne_of_lt (Heap.lt_size (Heap.get?_push_of_some _ h2))) (Heap.get?_push_size _ rfl) rfl (by first | (simp; done) | (simp; omega) | (simp only [Array.size_append]; simp; omega)) ?_
  refine wpAny_bind (wpAny_isInstance (T := "StopIteration") (b := true) ⟨_, Heap.get?_update_self _ (Heap.get?_push_size _ rfl) rfl, rfl⟩ isSubtype_stop ?_)
  refine wpAny_pure (hQ _ fun b o nb e => ?_)
  have e2 := (Heap.get?_update_other s.heap (Obj.mapFields (·.setIfInBounds 0 Value.none)) (Ne.symm nb)).trans e
  rw [Heap.get?_update_other _ _ (Nat.ne_of_gt (Heap.lt_size (Heap.get?_push_of_some _ e2)))]
  exact Heap.get?_push_of_some _ (Heap.get?_push_of_some _ e2)
end
theorem list_done_hot {X : Cx} {pins : List (Addr × Obj)} {σ : L2.St} {H : Hp} {s : Shared} {E : Value → Shared → Prop} {p : Addr × Obj} {it a : Addr} {i : Nat} (ht : Hot1 X.A p) (hp : p ∈ X.pn ++ pins) (I : Inv X pins σ H s) (hf : FpOk X pins H it) (st : s.heap.IsListIter it a i) (hg : (Itl X.K a).stop i H) :
    wpAny (model X.prog X.w) X.A (pyNext (.ref it)) (fun r s1 => r = none ∧ Inv X pins σ H s1) E s := by
  obtain ⟨xs, hq, hx⟩ := hg
  obtain ⟨its, rv, pl, hz⟩ := I.list hq
  obtain ⟨f0, f1, f2, f3, f4, f5⟩ := hf
  obtain ⟨hh, vs, d1, c1⟩ := ht
  have hl := rv.length
  exact pyNext_list_end_hot ⟨hh, p.2, vs, (I.pin p hp).1, d1, c1⟩ (f5 p hp) st pl.isList (by simp; omega) fun h' eb => ⟨rfl, I.turned (t' := s.toks) eb f0 f1 f3 f4 f5⟩
theorem list_item_hot {X : Cx} {pins : List (Addr × Obj)} {σ : L2.St} {H : Hp} {s : Shared} {E : Value → Shared → Prop} {tg : Expr} {it a : Addr} {i : Nat} (I : Inv X pins σ H s) (hf : FpOk X pins H it) (st : s.heap.IsListIter it a i) (hg : (Itl X.K a).go i H) :
    wpAny (model X.prog X.w) X.A (pyNext (.ref it)) (fun r s1 => ∃ u, r = some u ∧ wpAny (model X.prog X.w) X.A (letOwnedTupleGo tg (.ref it) u) (fun _ s2 => ∃ x H', Inv X pins σ H' s2 ∧ RelV x u ∧ (Itl X.K a).yld i H x H' ∧ s2.heap.IsListIter it a (i + 1) ∧ H' it = none) E s1) E s := by
  obtain ⟨xs, x, hq, hx⟩ := hg
  obtain ⟨its, rv, p, hz⟩ := I.list hq
  obtain ⟨u, hu, ru⟩ := rv.get hx
  obtain ⟨f0, f1, f2, f3, f4, f5⟩ := hf
  refine wpAny_pyNext_list_item st p.isList (x := u) (by simpa using hu) fun h' st' sb => ?_
  have I1 : Inv X pins σ H { s with heap := h' } := I.turned (t' := s.toks) (fun b o hb e => (sb.2 b hb).trans e) f0 f1 f3 f4 f5
  obtain ⟨o, e, c, d⟩ := id st'
  exact ⟨u, rfl, go_of (s := { s with heap := h' }) e c d (by decide) ⟨x, H, I1, ru, ⟨rfl, fun ys hy => by rw [I.list_inj hy hq]; exact hx⟩, st', f0⟩⟩
/-- [elt for target in a list if ..] within an except suite -/
theorem pe_lcH {X : Cx} {elt tg iter : Expr} {ifs : List Expr} {scope : Scope} {own : List (Str × Nat)} {pos : Pos} {ti : TE} {g : TG} {tt : TT} {te : TE} (hot : HotC X) (hN : X.N.Nodup) (hi : PE X iter ti) (ok : BlkOk X.N X.env.scope scope own)
    (hg : ∀ (s : Shared) (H : Hp) (C : Addr) (cl : List (Str × Addr)) (fp : List Addr), PG (X.blk s H scope (compEnvC scope cl C X.env) fp) tg g) (ht : ∀ (s : Shared) (H : Hp) (C : Addr) (cl : List (Str × Addr)) (fp : List Addr), PTs (X.blk s H scope (compEnvC scope cl C X.env) fp) ifs tt)
    (he : ∀ (s : Shared) (H : Hp) (C : Addr) (cl : List (Str × Addr)) (fp : List Addr), PE (X.blk s H scope (compEnvC scope cl C X.env) fp) elt te) (hs : ∀ x, foldedSetIterable iter X.env x = pure x := by intro _; rfl) :
    PE X (.ListComp elt [⟨tg, iter, ifs, 0⟩] scope pos) (tLc (iList X.K ti) g tt te (own.map (·.2))) := by
  refine ⟨fun pins s σ H Q I h => ?_⟩
  rw [eval_ListComp]
  obtain ⟨pp, hot1, hpn⟩ := hot
  have hfree : ∀ y ∈ scope.names, y.2 = .free → ∃ c, X.env.cells.lookup y.1 = some c := fun y hy e => by
    rcases ok.free y hy e with k | k
    · exact I.ok.has _ (.inl k)
    · exact I.ok.has _ (.inr k)
  refine wpAny_comprehension_free rfl hs (closure_ok hfree) ok.kind (fun y hy e => by rw [ok.uniq y hy, e])
    (thn (hi.run pins s σ H _ I h) fun xv s1 ⟨x, H2, I1, r1, q1⟩ => ?_)
  obtain ⟨a, e, ⟨xs, hq⟩, q⟩ := q1
  subst e
  cases r1
  obtain ⟨its, rv, pl, hz⟩ := I1.list hq
  refine wpAny_pyIter_list pl.isList ?_
  generalize hit : s1.heap.objs.size = it
  generalize hs2 : ({ s1 with heap := s1.heap.push _ } : Shared) = s2
  have I2 : Inv X pins σ H2 s2 := by
    rw [← hs2]
    exact I1.kept (t' := s1.toks) fun b o e => Heap.get?_push_of_some _ e
  have st2 : s2.heap.IsListIter it a 0 := by
    rw [← hs2, ← hit]
    exact ⟨_, Heap.get?_push_size _ rfl, rfl, rfl⟩
  have f2 : FpOk X pins H2 it := by
    rw [← hit]
    exact I1.fpOk (Nat.le_refl _) (I1.hok.fresh (Nat.le_refl _))
  refine wpAny_newObj_type (newEnv_comp ?_) (by show 0 ≤ sizeLine; decide)
  generalize hD : s2.heap.objs.size = D
  have hDn : H2 D = none := I2.hok.fresh (Nat.le_of_eq hD)
  obtain ⟨W, ⟨m0, w0⟩, turn⟩ := q D hDn
  -- the new list
  generalize hs3 : ({ s2 with heap := s2.heap.push { cls := .type "list", data := .seq ([] : List Value).toArray } } : Shared) = s3
  have I3 : Inv X pins σ (upd H2 D (.lst [])) s3 := by
    rw [← hs3]
    refine I2.laid (t' := s2.toks) (fun b o e => Heap.get?_push_of_some _ e) (Nat.le_of_eq hD) ⟨Nat.zero_le _, [], 0, .nil, ?_⟩
    rw [← hD]
    exact Heap.get?_push_size _ rfl
  have h3 : s3.heap = s2.heap.push { cls := .type "list", data := .seq ([] : List Value).toArray } := by rw [← hs3]
  have sz : it < s2.heap.objs.size := by
    obtain ⟨o, e, _⟩ := id st2
    exact Heap.lt_size e
  have f3 : FpOk X pins (upd H2 D (.lst [])) it ∧ it < s3.heap.objs.size := by
    refine ⟨⟨?_, f2.2⟩, by rw [h3, Heap.size_push]; exact Nat.lt_succ_of_lt sz⟩
    rw [upd_ne (by rw [← hD]; exact Nat.ne_of_lt sz)]
    exact f2.1
  have st3 : s3.heap.IsListIter it a 0 := st2.at fun o e => by rw [h3]; exact Heap.get?_push_of_some _ e
  have I4 := block_start (fp := [it]) I3 ok hN fun b hb => by rw [List.mem_singleton.mp hb]; exact f3
  have pg := hg s3 (upd H2 D (.lst [])) s3.heap.objs.size (cellsFrom (s3.heap.objs.size + 1) scope.names (cloFrom X.env.cells scope.names [])) [it]
  have pt := ht s3 (upd H2 D (.lst [])) s3.heap.objs.size (cellsFrom (s3.heap.objs.size + 1) scope.names (cloFrom X.env.cells scope.names [])) [it]
  have pe := he s3 (upd H2 D (.lst [])) s3.heap.objs.size (cellsFrom (s3.heap.objs.size + 1) scope.names (cloFrom X.env.cells scope.names [])) [it]
  show codeAny _ _ (.compStart (.ListComp elt [⟨tg, iter, ifs, 0⟩] scope pos) 0 (.ref it) (.ref D) (compEnvC scope (cellsFrom (s3.heap.objs.size + 1) scope.names (cloFrom X.env.cells scope.names [])) s3.heap.objs.size X.env)) (compPost (model X.prog X.w) X.A X.xe none _ (.ref D) s3.heap.objs.size) { s3 with heap := pushCells (s3.heap.push { cls := .type "dict", data := .dict #[] }) scope.names }
  have pin3 := I3.pin pp (List.mem_append_left _ hpn)
  generalize hce : compEnvC scope (cellsFrom (s3.heap.objs.size + 1) scope.names (cloFrom X.env.cells scope.names [])) s3.heap.objs.size X.env = ce at I4 pg pt pe ⊢
  have cL : ce.locals = s3.heap.objs.size := by subst hce; rfl
  generalize hH3 : upd H2 D (.lst []) = H3 at I3 I4 pg pt pe w0 f3 pin3
  generalize hs4 : ({ s3 with heap := pushCells (s3.heap.push { cls := .type "dict", data := .dict #[] }) scope.names } : Shared) = s4 at I4 ⊢
  have st4 : s4.heap.IsListIter it a 0 := st3.at fun o e => by rw [← hs4]; exact pushCells_keeps _ _ _ _ (Heap.get?_push_of_some _ e)
  have I4p : Inv (X.blk s3 H3 scope ce [it]) [pp] (wipe σ (own.map (·.2))) H3 s4 := I4.pins_of fun p hp => by
    rw [List.mem_singleton.mp hp]
    refine ⟨?_, pin3.2.1, ?_, ?_, pin3.2.2.2.2⟩
    · rw [← hs4]; exact pushCells_keeps _ _ _ _ (Heap.get?_push_of_some _ pin3.1)
    · show pp.1 ≠ ce.locals
      rw [cL]
      exact Nat.ne_of_lt (Heap.lt_size pin3.1)
    · exact fun hm => (List.mem_cons.mp (I3.stkSub pp.1 hm)).elim pin3.2.2.1 pin3.2.2.2.1
  have stat : ∀ {σ' : L2.St} {H' : Hp} {s' : Shared}, Inv (X.blk s3 H3 scope ce [it]) [pp] σ' H' s' → H' it = none → FpOk (X.blk s3 H3 scope ce [it]) [pp] H' it := fun {σ' H' s'} I' hn =>
    ⟨hn, (I'.ok.exf it (List.mem_singleton.mpr rfl)).1, I'.ok.exfs it (List.mem_singleton.mpr rfl), .inl (List.mem_singleton.mpr rfl), fun x c e => (I'.ok.exf it (List.mem_singleton.mpr rfl)).2 x c e, fun p hp => by
      rw [List.mem_singleton.mp (show p ∈ [pp] from hp)]
      exact f3.1.2.2.2.2.2 pp (List.mem_append_left _ hpn)⟩
  have hRR : ∀ s' m H', Inv X pins σ H' s' → Q (.ref D) H' → s'.heap.Ns s3.heap.objs.size m → FpOk X pins H' s3.heap.objs.size → compPost (model X.prog X.w) X.A X.xe none (EP X pins σ Q) (.ref D) s3.heap.objs.size (.ok .next) s' := fun s' m H' I' q hn f => ⟨m, hn, fun h'' sb => by
    obtain ⟨f0, f1, f2, f3, f4, f5⟩ := f
    exact ⟨.ref D, H', I'.turned (t' := s'.toks) (fun b o hb e => (sb.2 b hb).trans e) f0 f1 f3 f4 f5, rfl, q⟩⟩
  have loop : codeAny (model X.prog X.w) X.A (.compLoop (.ListComp elt [⟨tg, iter, ifs, 0⟩] scope pos) 0 (.ref it) (.ref D) ce) (compPost (model X.prog X.w) X.A X.xe none (EP X pins σ Q) (.ref D) s3.heap.objs.size) s4 := by
    refine compLoop_any (fun n s' => ∃ i H', Inv (X.blk s3 H3 scope ce [it]) [pp] (wipe σ (own.map (·.2))) H' s' ∧ s'.heap.IsListIter it a i ∧ H' it = none ∧ W i n H') ?_ m0 ⟨0, H3, I4p, st4, f3.1.1, w0⟩
    rintro n s5 ⟨i, H5, I5, st5, n5, w5⟩
    rcases turn i n H5 w5 with ⟨stop, qq⟩ | ⟨go, Nx, hNx, step⟩
    · have td := list_done_hot (X := X.blk s3 H3 scope ce [it]) (E := fun _ _ => False) (p := pp) hot1 (List.mem_append_right _ (List.mem_singleton.mpr rfl)) I5 (stat I5 n5) st5 stop
      refine thnF td fun r s6 ⟨hr, I6⟩ => ?_
      subst hr
      -- back in the def's context
      have I7 : Inv X pins σ H5 s6 := I3.call' (ch := [it]) I6.os I6.base I6.hok I6.bare fun b hb => by
        rw [List.mem_singleton.mp hb]
        exact ⟨f3.1.2.2.2.1, f3.1.2.1, f3.1.2.2.2.2.1, f3.1.2.2.2.2.2⟩
      have nC : H5 s3.heap.objs.size = none := by
        have z : H5 ce.locals = none := I6.free
        rw [cL] at z
        exact z
      obtain ⟨m, hn, _⟩ := I6.loc
      have hn : s6.heap.Ns ce.locals m := hn
      rw [cL] at hn
      exact hRR s6 m H5 I7 qq hn (I3.fpOk (Nat.le_refl _) nC)
    · have ti := list_item_hot (X := X.blk s3 H3 scope ce [it]) (E := fun _ _ => False) (tg := tg) I5 (stat I5 n5) st5 go
      refine thnF ti fun r s6 ⟨u, hr, h6⟩ => ?_
      subst hr
      refine thnF h6 fun _ s7 ⟨x, H7, I7, r7, y7, st7, n7⟩ => ?_
      have I7' := I7.pinned (fp := [it]) (fun b hb => by rw [List.mem_singleton.mp hb]; exact stat I7 n7) (fun b hb => by
        rw [List.mem_singleton.mp hb]
        obtain ⟨o, e, c, d⟩ := id st7
        exact ⟨o, e, fun v z => by rw [d] at z; cases z⟩)
      refine thnF (pg.run _ s7 _ H7 x u _ I7' r7 (step x H7 y7)) fun _ s8 ⟨σ8, H8, I8, hw8, q8⟩ => ?_
      refine thnF (pt.run _ s8 σ8 H8 _ I8 q8) fun b s9 ⟨H9, I9, q9⟩ => ?_
      -- the turn's end
      have fin : ∀ {s' : Shared} {H' : Hp}, Inv (X.blk s3 H3 scope ce [it]) ([pp] ++ pinsAt [it] s7.heap) σ8 H' s' → Nx H' → ∃ m, m < n ∧ ∃ i H', Inv (X.blk s3 H3 scope ce [it]) [pp] (wipe σ (own.map (·.2))) H' s' ∧ s'.heap.IsListIter it a i ∧ H' it = none ∧ W i m H' := fun {s' H'} I' nx => by
        obtain ⟨m', hm, w'⟩ := hNx H' nx
        have pin' : ∀ o, s7.heap.get? it = some o → s'.heap.get? it = some o ∧ H' it = none := fun o e =>
          let z := I'.pin (it, o) (List.mem_append_right _ (List.mem_append_right _ (mem_pinsAt (List.mem_singleton.mpr rfl) e)))
          ⟨z.1, z.2.1⟩
        have hl : (wipe σ (own.map (·.2))).length = σ8.length := by rw [← hw8, wipe_length]
        refine ⟨m', hm, i + 1, H', (I'.unpinned (pins := [pp])).weak hl (fun j v e => ?_), st7.at fun o e => (pin' o e).1, ?_, w'⟩
        · rw [← hw8] at e
          exact (wipe_some e).1
        · obtain ⟨o, e, _⟩ := id st7
          exact (pin' o e).2
      cases b with
      | false =>
        simp only [Bool.false_eq_true, if_false] at q9 ⊢
        exact fin I9 q9
      | true =>
        simp only [if_true] at q9 ⊢
        refine thnF (pe.run _ s9 σ8 H9 _ I9 q9) fun z s10 ⟨yv, H10, I10, r10, acc, hD10, hz10, nx⟩ => ?_
        exact app_ok (X := X.blk s3 H3 scope ce [it]) I10 hD10 hz10 r10 fun s11 I11 => fin I11 nx
  exact codeAny_compStart_list loop (wpAny_pyIter_listiter st4 loop)
end Tx

namespace Tx
open PySem PySem.Spec PyProof.Rows L2 HotX L2H
/-! ## errors whose context is None, over data -/
section
variable {P : Program} {w : World} {K : PySem.W.Frag} {mg : Str → Option Value} {base : Heap} {CX : CXT} {k : Nat} {C : Addr} {m qual : Str} {ps N : List Str} {sp : DSp} {st : Stmt}
theorem mfnDXN (h : HasM K C m qual st) (B : Bi mg) (S : FnScope N ps (defScope st)) (bd : BindsByQ m qual st ps) (len : ∀ ts ω q xx, sp ts ω q xx → ts.length = ps.length)
    (body : ∀ (f : Addr) (cv : Value) (A : Around) (out : List Env) (s : Shared) (H : Hp) (E : XK), Ct mg (A.deeper (envOfC qual (defScope st) s.heap.objs.size f cv)) k →
      ∃ td, DSs (fun cl d _ H => E cl d H) (cxOf (L2N.CX P w) P w K mg base N qual (defScope st) f cv A out s H E) K (defBody st) td ∧ ∀ ts ω q xx, sp ts ω q xx → td (endsD q xx) (startD N ts) ω) :
    Mfn P w K mg base (L2N.CX P w) (k + 1) C m ps (spD K sp) := by
  obtain ⟨f, fd, F, mt⟩ := h
  refine ⟨f, fd, okG F S (fun vs H Q E z => ?_) ?_, mt, F.binds bd⟩
  · obtain ⟨J, ω, ts, q, xx, w, r, _, _, z⟩ := z
    rw [r.length]
    exact len _ _ _ _ z
  intro cv A out s H vs Q E room gd ask
  obtain ⟨J, ω, ts, q, xx, w, r, cq, cx, z⟩ := ask
  obtain ⟨td, ⟨t, p, kk⟩, hb⟩ := body f cv A out s H E ⟨B, room, gd⟩
  exact ⟨t, p, kk _ _ _ H J ω _ w (sl_start r) ⟨fun _ _ _ _ _ z g w _ => cq _ _ _ _ _ z g w .non, fun _ _ _ _ _ z _ _ _ => False.elim z, fun _ _ _ _ _ z _ _ _ => False.elim z, cq, fun C fs _ ω' d _ J' H' z g w _ x => cx C fs ω' d J' H' z g w x⟩ (hb ts ω q xx z)⟩
end
theorem pxXN {X : Cx} {W : WX} (tk : L2N.Takes X W) : PX (L2N.CX X.prog X.w) X W := fun σ => L2N.passAt tk σ
theorem takes0N {X : Cx} : L2N.Takes X (fun _ _ _ _ => False) := fun _ _ x => by
  obtain ⟨_, _, _, _, _, _, _, _, _, _, _, _, _, _, _, _, z⟩ := x
  exact z.elim
theorem hotC_of {X : Cx} {a : Addr} {oe : Obj} {pn : List (Addr × Obj)} {cls : Value} {d : Option Addr} (hz : L2N.Zn cls d oe) (hf : ∃ vs, oe.data = .fields vs) : HotC (X.suite a ((a, oe) :: pn)) := by
  obtain ⟨vs, e⟩ := hf
  exact ⟨(a, oe), ⟨rfl, vs, e, hz.2.2 vs e⟩, List.mem_cons_self⟩
section
variable {X : Cx} {CX : CXT} {x : Str} {C fI : Addr} {k : Nat} {fd : FuncData} {ps : List Str} {sp : Sp} {ta : TA} {e : Expr} {es : List Expr} {p pos : Pos}
/-- C(e, ..): what is made has no context -/
theorem pmk_oexN {ds : List Value} {dvs : List V} (T : OexC X.K C) (iC : PySem.W.findIn X.K (.ref C) "__init__" = some (some (.ref fI))) (tI : PySem.W.typeIn X.K (.ref fI) = some (.type "function"))
    (F1 : FnOk X.prog X.w X.K X.mg X.base CX k fI fd ps sp) (hr : Room (k + 1) X.A) (hb : Binds X.K fd ps ds) (hd : Vals dvs ds) (hx : Passes CX X (fun _ _ _ => False)) (hg : Gl X x) (hm : X.mg x = some (.ref C)) (ha : PA X (e :: es) ta)
    (hdb : (x == ("__debug__" : Str)) = false := by decide) (he : starEach (e :: es) X.env = (false, eval e X.env) :: starEach es X.env := by rfl) (hpl : (backTo pos (starEach es X.env)).any (·.1) = false := by rfl) :
    L2N.PMk X (.Call (.Name x p) (e :: es) [] pos) (tMkO C sp dvs ta) := by
  intro pins s σ H Q I h
  obtain ⟨nm, q, N, bs, bm, sn, sub, ab, col, dd, k0, k1, k2, k3, k5, hC, hbm⟩ := T.cls
  refine wpAny_Call_Name_kw (ld_glob I hg hm ?_ hdb)
  refine PySem.W.callWith_K (h₀ := X.base) I.ok.mod.kin T.kC (thn (ha.run pos pins s σ H _ I h) fun us s1 ⟨vs, H1, I1, r1, hz, q1⟩ => ⟨I1.kIn, ?_⟩) he hpl
  show wpAny _ _ (call (.ref C) us) _ _ _
  obtain ⟨hp, g, dr, tk, os⟩ := s1
  generalize ez : hp.objs.size + 1 = z
  have hsz : hp.objs.size ≤ z := by omega
  have hq := q1 z (I1.hok.fresh hsz)
  have kk : ∀ b o, hp.get? b = some o → ((hp.push (PySem.W.kdv_tup us)).push (PySem.HandSPX.excO C hp.objs.size)).get? b = some o := fun b o e => Heap.get?_push_of_some _ (Heap.get?_push_of_some _ e)
  have hget : ((hp.push (PySem.W.kdv_tup us)).push (PySem.HandSPX.excO C hp.objs.size)).get? z = some (PySem.HandSPX.excO C hp.objs.size) := by rw [← ez]; heap_get
  have I2 : Inv X pins σ (upd H1 z (exo z C none)) ⟨(hp.push (PySem.W.kdv_tup us)).push (PySem.HandSPX.excO C hp.objs.size), g, dr, tk, os⟩ := I1.laid (t' := tk) (a := z) (o := exo z C none) (h' := (hp.push (PySem.W.kdv_tup us)).push (PySem.HandSPX.excO C hp.objs.size)) kk hsz (exo_ok hget)
  have r2 : Vals (V.ref z :: (vs ++ dvs)) (Value.ref z :: (us ++ ds)) := .cons rfl (r1.append hd)
  have hl : (Value.ref z :: us ++ ds).length = ps.length := (r2.length.symm.trans (F1.len _ _ _ _ hq))
  have hus : us.length ≤ sizeLine := by
    rw [← Paired.length r1, sizeLine_eq]
    omega
  subst ez
  refine wpAny_call (PySem.HandSPX.call_own F.excBase_ValueError (fun Y => PySem.HandSPX.refsVE_contains Y bm hbm) (I1.kIn _ _ hC) (PySem.W.looks_findIn I1.kIn iC) (fun self => PySem.W.bind_fn I1.kIn self tI) hus
    (codeAny_mono (F1.run _ X.stack _ _ ⟨Value.ref (hp.objs.size + 1) :: us, []⟩ (Value.ref (hp.objs.size + 1) :: (us ++ ds)) _ _ (fun _ _ _ => False) (hr.make C us []) (I2.env0.make C us []) (hb _ (Value.ref (hp.objs.size + 1) :: us) I2.kIn hl) r2 hq) fun r s' hq' => ?_))
  match r, hq' with
  | .error er, hq' => exact hx pins σ _ _ er s' I2 hq'
  | .ok .next, hq' => exact False.elim hq'
  | .ok .brk, hq' => exact False.elim hq'
  | .ok .cont, hq' => exact False.elim hq'
  | .ok (.ret u), hq' =>
    obtain ⟨v, H2, os2, bare2, un2, hok2, rv, ev, d, fs, ea, ed, hd1, q2⟩ := hq'
    subst ev
    obtain ⟨h2, g2, d2, t2, os'⟩ := s'
    obtain ⟨t0, G, J, kG, ge, hoe, na⟩ := mk_end0 (d2 := d2) (t2 := t2) I1 hsz kk un2 hok2 os2 bare2 ea ed hd1
    exact ⟨rv, hp.objs.size + 1, _, _, ⟨G, g2, d2, t2, os'⟩, _, .ref C, some d, rfl, J, kG, ge, hoe, ⟨rfl, rfl, fun vs hv => by cases hv; rfl⟩, rfl, rfl, na, rfl, bare2, raises_own T.exC T.tyC, q2⟩
end
section
variable {X : Cx} {x f : Str} {C : Addr} {k : Nat} {W : WX} {e : Expr} {ta : TA} {p pos pos2 : Pos}
theorem ps_err1N (T : Err1 X.prog X.w X.K X.mg X.base x f C) (calm : X.calm = true) (room : Room (k + 2) X.A) (tk : L2N.Takes X W) (args : PA X [e] ta) (gl : Gl X x)
    (nd : (x == ("__debug__" : Str)) = false := by decide) (plain : starEach (e :: []) X.env = (false, eval e X.env) :: starEach [] X.env := by rfl) (bare : (backTo pos (starEach [] X.env)).any (·.1) = false := by rfl) :
    PS X (.Raise (some (.Call (.Name x p) [e] [] pos)) none pos2) (tErr1 C f W ta) := by
  obtain ⟨fI, fd, iC, tI, F, bd⟩ := T.ini
  exact L2N.ps_raise calm tk (pmk_oexN T.oex iC tI F (room.mono (by omega)) bd .nil (fun _ _ _ _ _ _ _ h => False.elim h) gl T.gC args nd plain bare)
end
section
variable {W : WX} {X : Cx} {K : PySem.W.Frag} {x f : Str} {C : Addr} {k : Nat} {e : Expr} {te : DTE} {p pos pos2 : Pos}
theorem ds_err1N (T : Err1 X.prog X.w X.K X.mg X.base x f C) (calm : X.calm = true) (room : Room (k + 2) X.A) (tk : L2N.Takes X W) (he : DE W X K e te) (gl : Gl X x)
    (nd : (x == ("__debug__" : Str)) = false := by decide) (plain : starEach (e :: []) X.env = (false, eval e X.env) :: starEach [] X.env := by rfl) (bare : (backTo pos (starEach [] X.env)).any (·.1) = false := by rfl) :
    DSt W X K (.Raise (some (.Call (.Name x p) [e] [] pos)) none pos2) (dErr1 C f te) := by
  obtain ⟨re, pe, ke⟩ := he
  refine ⟨_, ps_err1N T calm room tk (pa_cons pe pa_nil plain) gl nd plain bare, fun D DD σ H J ω ρ w s cs z => ke σ H J ω ρ _ _ _ w s (fun r ω1 v J1 H1 z1 g1 w1 rp => ?_) (cs.x s) z⟩
  refine err1 (C := C) (f := f) (v := v) (Q := fun cl d H => W cl d σ H) fun d hd => cs.xc _ _ _ _ (some d) _ J1 _ z1 (g1.trans (Grow.junk hd _)) (w1.junk hd _) (s.mono g1.jj) ⟨?_, w1.jh.free hd, w1.free hd, [(f, v)], upd_same, .cons ⟨rfl, rp⟩ .nil⟩
  cases q : H d with
  | none => rfl
  | some o => exact absurd hd (g1.dom d (by rw [q]; simp))
end
section
variable {W : WX} {X : Cx} {K : PySem.W.Frag} {x n : Str} {c : Value} {i : Nat} {body suite : List Stmt} {b₀ : Stmt} {np pos pos' : Pos} {tb : DTS} {ts : Addr → Value → Option Addr → DTS}
theorem ds_try_asN (hK : X.K = K) (hs : X.stack = X.env :: X.outer) (hf : X.env.frame = some X.env.locals) (hN : X.N.Nodup) (hi : X.N[i]? = some n) (hln : X.env.kindOf n = some .local) (hc : Names X x c) (tk : L2N.Takes X W)
    (hb : ∀ (W' : WX) (pn : List (Addr × Obj)) (xe : Value → Shared → Prop), L2N.Takes (X.tr pn xe) W' → PassesOwn (model X.prog X.w) X.A X.env xe → DSs W' (X.tr pn xe) K body tb)
    (hsu : ∀ (a : Addr) (oe : Obj) (cls : Value) (d : Option Addr) (pn : List (Addr × Obj)), L2N.Zn cls d oe → (∃ vs, oe.data = .fields vs) → DSs W0 (X.suite a ((a, oe) :: pn)) K (b₀ :: suite) (ts a cls d)) :
    DSt W X K (.Try body [.ExceptHandler (some (.Name x np)) (some n) (b₀ :: suite) pos'] [] [] pos) (dTryAs K c i tb ts) := by
  subst hK
  refine ⟨_, L2N.ps_try_as (Wout := W) hs hf hN hi hln hc tk (fun W' pn xe t po => (hb W' pn xe t po).pss) (fun a oe cls d pn z f => (hsu a oe cls d pn z f).pss), fun D DD σ H J ω ρ w s cs z => ?_⟩
  refine ⟨J, ω, ρ, { DD with xc := fun C fs ρ' ω' => ∃ b, PySem.W.exmOne X.K (.ref C) c = some b ∧ (b = true → ∀ a d ω'', XdIn d fs ω' ω'' → ts a (.ref C) d
      { nx := fun ρ2 ω2 => DD.nx (ρ2.set i none) (dropX d ω2), rt := fun r ω2 => DD.rt r (dropX d ω2), bk := fun ρ2 ω2 => DD.bk (ρ2.set i none) (dropX d ω2), ct := fun ρ2 ω2 => DD.ct (ρ2.set i none) (dropX d ω2), xc := fun _ _ _ _ => False }
      (ρ'.set i (some (refD a))) ω'') ∧ (b = false → DD.xc C fs ρ' ω') }, w, s, ⟨cs.nx, cs.bk, cs.ct, cs.rt, fun C fs ρ' ω' d σ' J' H' z' g' w' s' xd => ?_⟩, z⟩
  obtain ⟨b, hb, h1, h2⟩ := z'
  refine ⟨b, hb, fun eb a ha => ?_, fun eb => cs.xc _ _ _ _ _ _ _ _ (h2 eb) g' w' s' xd⟩
  have main : ∀ ω'', Rw X.K J' H' ω'' → XdIn d fs ω' ω'' → (∀ {J2 H2 ω2}, Grow J' H' ω'' J2 H2 ω2 → Grow J H ω J2 H2 (dropX d ω2)) → liftS X.K W0 (ts a (.ref C) d) { nx := fun σ2 H2 => D.nx (σ2.set i none) H2, rt := D.rt, bk := fun σ2 H2 => D.bk (σ2.set i none) H2, ct := fun σ2 H2 => D.ct (σ2.set i none) H2 } (σ'.set i (some (.ref a))) H' := by
    intro ω'' w'' xin tr
    exact ⟨J', ω'', _, { nx := fun ρ2 ω2 => DD.nx (ρ2.set i none) (dropX d ω2), rt := fun r ω2 => DD.rt r (dropX d ω2), bk := fun ρ2 ω2 => DD.bk (ρ2.set i none) (dropX d ω2), ct := fun ρ2 ω2 => DD.ct (ρ2.set i none) (dropX d ω2), xc := fun _ _ _ _ => False }, w'', s'.set i (.ref a), ⟨fun ρ2 ω2 σ2 J2 H2 z2 g2 w2 s2 => cs.nx _ _ _ _ _ z2 (tr g2) (w2.dropX d) (s2.clear i none), fun ρ2 ω2 σ2 J2 H2 z2 g2 w2 s2 => cs.bk _ _ _ _ _ z2 (tr g2) (w2.dropX d) (s2.clear i none),
      fun ρ2 ω2 σ2 J2 H2 z2 g2 w2 s2 => cs.ct _ _ _ _ _ z2 (tr g2) (w2.dropX d) (s2.clear i none), fun r ω2 v J2 H2 z2 g2 w2 rp => cs.rt _ _ _ _ _ z2 (tr g2) (w2.dropX d) rp, (fun _ _ _ _ _ _ _ _ z _ _ _ _ => False.elim z)⟩, h1 eb a d ω'' xin⟩
  cases d with
  | none => exact main ω' w' (.inl ⟨rfl, xd, rfl⟩) fun g2 => g'.trans g2
  | some dd =>
    obtain ⟨n0, jD, oD, gs, hg, rf⟩ := xd
    refine main (updW ω' dd (.xd fs)) (w'.step (Same.refl _) w'.jh (fun _ _ j => j) fun b m e => ?_) (.inr ⟨dd, rfl, oD.1, rfl⟩) fun g2 => ?_
    · by_cases eb : b = dd
      · subst eb
        rw [updW_same] at e
        cases e
        refine .inr ⟨jD, ⟨gs, hg, rf⟩, fun b' pb => False.elim pb, fun c m' nc e => ?_⟩
        rw [updW_ne nc] at e
        exact ⟨oD.2 c m' e, fun b' pb => False.elim pb⟩
      · rw [updW_ne eb] at e; exact .inl ⟨e, fun _ _ _ z => z⟩
    · have ne : ∀ b, H b ≠ none → b ≠ dd := fun b h e => h (by rw [e]; exact n0)
      refine ⟨g'.jj.trans g2.jj, fun b h => g2.dom b (g'.dom b h), fun b o h y => ?_, fun b h y j => ?_, fun b h y => ?_⟩
      · have hb := ne b (by rw [h]; simp)
        exact g2.keep b o (g'.keep b o h y) (fr_upd rfl (g'.frw b (by rw [h]; simp) y) hb)
      · exact g2.frj b (g'.dom b h) (fr_upd rfl (g'.frw b h y) (ne b h)) (g'.frj b h y j)
      · exact fr_del (g2.frw b (g'.dom b h) (fr_upd rfl (g'.frw b h y) (ne b h)))
end
/-! ### a comprehension over a list, in a suite -/
def diList (te : DTE) (ρ : DS) (ω : Wd) (k : List PyData → Wd → Prop) (x : DXK) : Prop := te ρ ω (fun r ω1 => ∃ xs, r = .list xs ∧ k xs ω1) x
theorem de_lcH {W : WX} {X : Cx} {K : PySem.W.Frag} {elt tg iter : Expr} {ifs : List Expr} {scope : Scope} {own : List (Str × Nat)} {pos : Pos} {is : List Nat} {gd : DTG} {tt : DTT} {te ti : DTE} (hK : X.K = K) (hot : HotC X) (hN : X.N.Nodup) (hi : DE W X K iter ti) (ok : BlkOk X.N X.env.scope scope own)
    (hg : ∀ (s : Shared) (H : Hp) (C : Addr) (cl : List (Str × Addr)) (fp : List Addr), DG (X.blk s H scope (compEnvC scope cl C X.env) fp) K tg is gd)
    (ht : ∀ (s : Shared) (H : Hp) (C : Addr) (cl : List (Str × Addr)) (fp : List Addr), DTs W0 (X.blk s H scope (compEnvC scope cl C X.env) fp) K ifs tt)
    (he : ∀ (s : Shared) (H : Hp) (C : Addr) (cl : List (Str × Addr)) (fp : List Addr), DE W0 (X.blk s H scope (compEnvC scope cl C X.env) fp) K elt te)
    (his : ∀ i ∈ is, i ∈ own.map (·.2) := by decide) (hs : ∀ x, foldedSetIterable iter X.env x = pure x := by intro _; rfl) :
    DE W X K (.ListComp elt [⟨tg, iter, ifs, 0⟩] scope pos) (dLc (diList ti) gd tt te (own.map (·.2))) := by
  subst hK
  obtain ⟨wi, p, k⟩ := hi
  refine ⟨_, pe_lcH hot hN p ok hg (fun s H C cl fp => (ht s H C cl fp).ps) (fun s H C cl fp => (he s H C cl fp).pe) hs, fun σ H J ω ρ q x Q w s cq cx z => lc_run (wi := iList X.K wi) (fun σ H J ω ρ kk x R w s c cx z => k σ H J ω ρ _ x _ w s (fun r ω1 v J1 H1 z1 g1 w1 rp => ?_) cx z) his w s cq cx z⟩
  obtain ⟨xs, rfl, z2⟩ := z1
  cases rp with
  | lst hs ha => exact ⟨_, rfl, ⟨_, SqL.of (w1.jh _ _ hs)⟩, c _ _ _ _ _ z2 g1 w1 (walkD_list hs ha)⟩
end Tx

namespace Tx
open PySem PySem.Spec PyProof.Rows L2
/-! ## for over lists of one's own; things that are read for one expression; new lists as lists of one's own -/
def dForP (di : DTIo) (gd : DTG) (tb : DTS) (D : DEnds) (ρ : DS) (ω : Wd) : Prop := di ρ ω (fun xs P ω1 => ∃ Inv : Nat → DS → Wd → Prop, Inv 0 ρ ω1 ∧ (∀ i ρ' ω', Inv i ρ' ω' → P ω') ∧
  (∀ i x ρ' ω', xs[i]? = some x → Inv i ρ' ω' → gd x ρ' fun ρ'' => tb { D with nx := Inv (i + 1), ct := Inv (i + 1), bk := D.nx } ρ'' ω') ∧ ∀ ρ' ω', Inv xs.length ρ' ω' → D.nx ρ' ω') (xcOf D ρ)
theorem ds_forP {W : WX} {X : Cx} {K : PySem.W.Frag} {tg iter : Expr} {body : List Stmt} {pos : Pos} {di : DTIo} {gd : DTG} {is : List Nat} {t : DTS} (hp : PassesOwn (model X.prog X.w) X.A X.env X.xe) (hc : X.calm = true) (hi : DIo W X K tg iter di) (hg : DG X K tg is gd) (hb : DSs W X K body t) (hs : ∀ x, foldedSetIterable iter X.env x = pure x := by intro _; rfl) :
    DSt W X K (.For tg iter body [] pos) (dForP di gd t) := by
  obtain ⟨wi, pi, ki⟩ := hi
  obtain ⟨rb, pb, kb⟩ := hb
  refine ⟨_, ps_for hp hc pi hg pb hs, fun D DD σ H J ω ρ w s cs z => ki σ H J ω ρ _ _ _ w s (fun xs P ω1 J1 H1 I z1 g1 w1 wd => ?_) (cs.x s) z⟩
  obtain ⟨Inv, i0, hP, step, fin⟩ := z1
  obtain ⟨G, Y, wk, hG, hY⟩ := wd
  have cs1 := cs.step g1
  refine for_it wk (fun i σ' H' => ∃ J' ρ' ω', Grow J1 H1 ω1 J' H' ω' ∧ Rw K J' H' ω' ∧ Sl K J' σ' ρ' ∧ Inv i ρ' ω') ⟨J1, ρ, ω1, Grow.refl, w1, s.mono g1.jj, i0⟩ ?_ ?_ ?_
  · rintro i σ' H' _ ⟨J', ρ', ω', g, w', _, inv⟩
    exact hG J' H' ω' g.jj w' (hP i ρ' ω' inv)
  · rintro i v σ2 H2 H2' hi ⟨J2, ρ2, ω2, g2, w2, s2, inv⟩ y
    have go : ∀ (d : PyData) (J3 H3 : Hp), xs[i]? = some d → Grow J2 H2 ω2 J3 H3 ω2 → Rw K J3 H3 ω2 → Rp K J3 v d → liftG K is gd v σ2 H3 fun σ2 H2 => rb { D with nx := fun σ' H' => ∃ J' ρ' ω', Grow J1 H1 ω1 J' H' ω' ∧ Rw K J' H' ω' ∧ Sl K J' σ' ρ' ∧ Inv (i + 1) ρ' ω', ct := fun σ' H' => ∃ J' ρ' ω', Grow J1 H1 ω1 J' H' ω' ∧ Rw K J' H' ω' ∧ Sl K J' σ' ρ' ∧ Inv (i + 1) ρ' ω', bk := D.nx } σ2 H2 := by
      intro d J3 H3 e3 g3 w3 r3
      refine ⟨J3, ω2, ρ2, d, _, w3, s2.mono g3.jj, r3, fun ρ' σ' z4 s4 _ => ?_, step i d ρ2 ω2 e3 inv⟩
      have g := g2.trans g3
      have cs3 := cs1.step g
      exact kb _ { DD with nx := Inv (i + 1), ct := Inv (i + 1), bk := DD.nx } σ' H3 J3 ω2 ρ' w3 s4 ⟨fun ρ5 ω5 σ5 J5 H5 z5 g5 w5 s5 => ⟨J5, ρ5, ω5, g.trans g5, w5, s5, z5⟩, cs3.nx, fun ρ5 ω5 σ5 J5 H5 z5 g5 w5 s5 => ⟨J5, ρ5, ω5, g.trans g5, w5, s5, z5⟩, cs3.rt, cs3.xc⟩ z4
    rcases hY i H2 v H2' J2 ω2 hi g2.jj w2 (hP i ρ2 ω2 inv) y with ⟨rfl, d, e1, e2⟩ | ⟨T, us2, ds, rfl, hT, rfl, e1, e2⟩
    · exact go d J2 _ e1 Grow.refl w2 e2
    · exact go (.tuple ds) _ _ e2 (Grow.frz w2 hT _) (w2.frz hT _) (.tup (SqT.of upd_same) (rpAll_mono (same_new (w2.jh.free hT) _) _ _ e1))
  · rintro σ2 H2 ⟨J2, ρ2, ω2, g2, w2, s2, inv⟩
    exact cs1.nx _ _ _ _ _ (fin ρ2 ω2 inv) g2 w2 s2
/-- zip of two lists of one's own -/
def zipO (xs ys : List PyData) : List PyData := List.zipWith (fun x y => .tuple [x, y]) xs ys
def dioZipO (ta : DTA) (ρ : DS) (ω : Wd) (k : List PyData → (Wd → Prop) → Wd → Prop) (x : DXK) : Prop := ta ρ ω (fun rs ω1 => ∃ a b xs ys, rs = [refD a, refD b] ∧ ω1 a = some (.lst xs) ∧ ω1 b = some (.lst ys) ∧ xs.length = ys.length ∧ k (zipO xs ys) (fun ω' => ω' a = some (.lst xs) ∧ ω' b = some (.lst ys)) ω1) x
theorem walk_zipO {K : PySem.W.Frag} {a b : Addr} {n : Nat} : Walk (Itz K a b) n (fun H => ∃ vs us, H a = some (.lst vs) ∧ H b = some (.lst us) ∧ vs.length = n ∧ us.length = n) (fun i H v H' => ∃ T x y, v = .ref T ∧ H T = none ∧ H' = upd H T (.tup [x, y]) ∧ (∀ vs, H a = some (.lst vs) → vs[i]? = some x) ∧ ∀ us, H b = some (.lst us) → us[i]? = some y) := by
  refine ⟨fun i H hi ⟨vs, us, e, e2, l, l2⟩ => ?_, fun H ⟨vs, us, e, e2, l, l2⟩ => ⟨vs, us, SqL.of e, SqL.of e2, by omega⟩, fun i H v H' hi _ y => ?_⟩
  · have h1 : i < vs.length := by omega
    have h2 : i < us.length := by omega
    exact ⟨vs, us, vs[i], us[i], SqL.of e, SqL.of e2, List.getElem?_eq_getElem h1, List.getElem?_eq_getElem h2⟩
  · obtain ⟨T, x, y, h1, h2, h3, h4, h5⟩ := y
    exact ⟨T, x, y, h1, h2, h3, fun vs e => h4 vs (SqL.of e), fun us e => h5 us (SqL.of e)⟩
theorem walkP_zipO {K : PySem.W.Frag} {J : Hp} {a b : Addr} {xs ys : List PyData} (hl : xs.length = ys.length) : WalkP K J (Itz K a b) (zipO xs ys) (fun ω => ω a = some (.lst xs) ∧ ω b = some (.lst ys)) := by
  have el : (zipO xs ys).length = xs.length := by unfold zipO; rw [List.length_zipWith]; omega
  refine ⟨_, _, walk_zipO, fun J' H' ω' _ r p => ?_, fun i H v H' J' ω' hi _ r p y => .inr ?_⟩
  · obtain ⟨vs, e, ra⟩ := r.cell a _ p.1
    obtain ⟨us, e2, ra2⟩ := r.cell b _ p.2
    exact ⟨vs, us, e, e2, by rw [el]; exact ra.length, by rw [el, hl]; exact ra2.length⟩
  · obtain ⟨T, x, y, e1, e2, e3, e4, e5⟩ := y
    obtain ⟨vs, e, ra⟩ := r.cell a _ p.1
    obtain ⟨us, f, rb⟩ := r.cell b _ p.2
    obtain ⟨d, e6, e7⟩ := ra.get (e4 vs e)
    obtain ⟨d2, f6, f7⟩ := rb.get (e5 us f)
    exact ⟨T, _, [d, d2], e1, e2, e3, .cons e7 (.cons f7 .nil), by unfold zipO; rw [List.getElem?_zipWith, e6, f6]⟩
theorem dio_zipO {W : WX} {X : Cx} {K : PySem.W.Frag} {tA : DTA} {e e2 : Expr} {p pos tpos : Pos} {elts : List Expr} {kk : Nat} (hK : X.K = K) (hg : Gl X "zip") (hm : X.mg "zip" = none) (ha : DAs W X K [e, e2] tA)
    (hs : starEach [e, e2] X.env = (false, eval e X.env) :: starEach [e2] X.env := by rfl) (hpl : (backTo pos (starEach [e2] X.env)).any (·.1) = false := by rfl) :
    DIo W X K (.Tuple elts kk tpos) (.Call (.Name "zip" p) [e, e2] [] pos) (dioZipO tA) := by
  subst hK
  obtain ⟨t, pp, k⟩ := ha
  refine ⟨_, pi_zip hg hm pp hs hpl, fun σ H J ω ρ kk x R w s c cx z => k σ H J ω ρ _ x _ w s (fun rs ω1 vs J1 H1 z1 g1 w1 rps => ?_) cx z⟩
  obtain ⟨a, b, xs, ys, rfl, e1, e2, hl, z1⟩ := z1
  cases rps with
  | cons r1 r2 =>
  cases r2 with
  | cons r2 r3 =>
  cases r3
  obtain rfl := rp_ref r1
  obtain rfl := rp_ref r2
  obtain ⟨vs, f1, _⟩ := w1.cell a _ e1
  obtain ⟨us, f2, _⟩ := w1.cell b _ e2
  exact ⟨a, b, _, _, rfl, SqL.of f1, SqL.of f2, c _ _ _ _ _ _ z1 g1 w1 (walkP_zipO hl)⟩
/-- a new list becomes a list of one's own -/
theorem Gh.own {ω : Wd} {p : Addr} {N : Hp} {ds : List PyData} (hp : ω p = some (.tmp N (.list ds))) (val : isValAll ds = true) : Gh ω (updW ω p (.lst ds)) := fun K J H w => by
  obtain ⟨sN, rN, nN⟩ := w.cell p _ hp
  obtain ⟨vs, e2, ra⟩ : ∃ vs, N p = some (.lst vs) ∧ RpAll K N vs ds := by
    cases rN with
    | lst h1 h2 => exact ⟨_, h1, h2⟩
  have hH := sN _ _ e2
  let N' : Hp := fun b => if b = p then none else N b
  have n1 : ∀ b o, N' b = some o → N b = some o ∧ b ≠ p := fun b o e => by
    by_cases z : b = p
    · simp only [N', if_pos z] at e; cases e
    · simp only [N', if_neg z] at e; exact ⟨e, z⟩
  have n2 : ∀ b, N b = none → N' b = none := fun b e => by
    cases q : N' b with
    | none => rfl
    | some o => rw [(n1 b o q).1] at e; cases e
  have n3 : ∀ b, N' b ≠ none → N b ≠ none := fun b e z => e (n2 b z)
  have np : N' p = none := if_pos rfl
  have ra' : RpAll K N' vs ds := by
    refine nwAll_rp ds (fun x => x = p) vs (rpAll_nw (Same.refl N) ds _ vs val ra fun x hx => .inr ⟨.list ds, by simpa only [isVal] using val, by rw [hx]; exact rN, by simp only [PyData.depth]; omega⟩) fun b o nb e => ?_
    simp only [N', if_neg nb]
    exact e
  have tp := w.tmp p _ hp
  have sj : Same J (join J N') := same_join fun b nb => (tp b (n3 b nb)).1
  have jp : join J N' p = none := by rw [join_none np]; exact w.out p _ hp
  have jh : Same (join J N') H := fun b u e => by
    cases q : N' b with
    | none => rw [join_none q] at e; exact w.jh b u e
    | some o => rw [join_some q] at e; cases e; exact sN b _ (n1 b _ q).1
  have out : ∀ b m, b ≠ p → ω b = some m → join J N' b = none := fun b m nb e => by
    rw [join_none]
    · exact w.out b m e
    · refine n2 b ?_
      cases q : N b with
      | none => rfl
      | some o => have := (tp b (show N b ≠ none by rw [q]; simp)).2.1 nb; rw [this] at e; cases e
  have prv : ∀ b m b', b ≠ p → ω b = some m → m.priv b' → join J N' b' = none := fun b m b' nb e pb => by
    obtain ⟨t1, _, t3⟩ := w.tmp b m e b' pb
    rw [join_none (n2 b' (priv_none (t3 p _ (Ne.symm nb) hp)))]
    exact t1
  refine ⟨join J N', ⟨jh, fun b m e => ?_, fun b m e => ?_, fun b m e b' pb => ?_⟩, sj, fun _ z => z, fun _ _ z _ => z, fun b _ z j => ?_, fun b _ z => ?_⟩
  · by_cases e4 : b = p
    · rw [e4]; exact jp
    · rw [updW_ne e4] at e
      exact out b m e4 e
  · by_cases e4 : b = p
    · subst e4
      rw [updW_same] at e
      cases e
      exact ⟨vs, hH, rpAll_mono same_joinN _ _ ra'⟩
    · rw [updW_ne e4] at e
      exact (w.cell b m e).mono sj fun _ _ _ z => z
  · by_cases e4 : b = p
    · subst e4
      rw [updW_same] at e
      cases e
      exact False.elim pb
    · rw [updW_ne e4] at e
      obtain ⟨t1, t2, t3⟩ := w.tmp b m e b' pb
      refine ⟨prv b m b' e4 e pb, fun nb => ?_, fun c m' nc ec => ?_⟩
      · by_cases z : b' = p
        · rw [z] at nb t2; rw [t2 nb] at hp; cases hp
        · rw [updW_ne z]; exact t2 nb
      · by_cases z : c = p
        · rw [z, updW_same] at ec
          cases ec
          exact id
        · rw [updW_ne z] at ec
          exact t3 c m' nc ec
  · rw [join_none (n2 b (priv_none (z.2 p _ hp)))]; exact j
  · have n1' : b ≠ p := fr_ne0 hp z
    refine ⟨by rw [updW_ne n1']; exact z.1, fun c m' ec => ?_⟩
    by_cases e4 : c = p
    · rw [e4, updW_same] at ec
      cases ec
      exact id
    · rw [updW_ne e4] at ec
      exact z.2 c m' ec
section
variable {K : PySem.W.Frag} {J H H' : Hp} {ω : Wd} {q : DQ} {Q : VK} {v : V} {d : PyData} {ds : List PyData}
theorem cov_own (cq : CovQ K J H ω q Q) (val : isValAll ds = true) (z : NewL ω ds q) : CovQ K J H ω (fun u ω' => Tm ω u (.list ds) ω') Q := fun r ω' v J' H' tm g w' rp => by
  rcases tm with ⟨nl, _⟩ | ⟨a, N, rfl, ha, rfl, _⟩
  · cases nl
  obtain ⟨J2, w2, g2⟩ := Gh.own updW_same val K J' H' w'
  rw [updW_updW] at w2 g2
  obtain rfl := rp_ref rp
  exact cq _ _ _ _ _ (z a ha) (g.trans g2) w2 (.ref a)
/-- what comes of a copy: as the caller wishes -/
def CpQ (ω : Wd) (q : DQ) (d : PyData) : Prop := (∀ u ω', Tm ω u d ω' → q u ω') ∨ ∃ ds, d = .list ds ∧ NewL ω ds q
theorem cpq_run (w : Rw K J H ω) (s : Same H H') (cq : CovQ K J H ω q Q) (h : Nw 0 H' d (fun a => H a ≠ none) v) (val : isVal d = true) (z : CpQ ω q d) : Q v H' := by
  rcases z with z | ⟨ds, rfl, z⟩
  · exact nw_tm w s cq h val z
  · exact nw_tm w s (cov_own cq (by simpa only [isVal] using val) z) h val (fun _ _ t => t)
end
/-! ### an expression over things that are read as they stand -/
def ReadS (ω : Wd) (ρ ρ' : DS) : Prop := ρ'.length = ρ.length ∧ ∀ (i : Nat) (d' : PyData), ρ'[i]? = some (some d') → ∃ d, ρ[i]? = some (some d) ∧ As ω d d'
theorem sl_read {K : PySem.W.Frag} {J H : Hp} {ω : Wd} {σ : L2.St} {ρ ρ' : DS} (w : Rw K J H ω) (s : Sl K J σ ρ) (r : ReadS ω ρ ρ') : Sl K H σ ρ' := ⟨by rw [r.1]; exact s.1, fun i d' e => by
  obtain ⟨d, e1, a⟩ := r.2 i d' e
  obtain ⟨v, h1, h2⟩ := s.2 i d e1
  refine ⟨v, h1, ?_⟩
  rcases a with rfl | ⟨rfl, lay⟩
  · exact rp_mono w.jh _ _ h2
  · exact full_rp w h2 lay⟩
theorem frm_run {W : WX} {K : PySem.W.Frag} {te : DTE} {t : TE} (kk : ∀ σ H J ω ρ q x Q, Rw K J H ω → Sl K J σ ρ → CovQ K J H ω q Q → CovX K J H ω x (fun c d H => W c d σ H) → te ρ ω q x → t σ H Q)
    {σ : L2.St} {H J : Hp} {ω : Wd} {ρ ρ' : DS} (w : Rw K J H ω) (s : Sl K J σ ρ) (hr : ReadS ω ρ ρ') {k : PyData → Prop} {R : VK} (z : te ρ' (fun _ => none) (fun r ω' => ∃ d, Ful ω' r d ∧ d.canLay0 = true ∧ k d) X0)
    (c : ∀ d v H', k d → Same H H' → Dp K H' v d → R v H') : t σ H R :=
  kk σ H H (fun _ => none) ρ' _ X0 R ⟨Same.refl _, (fun _ _ e => nomatch e), (fun _ _ e => nomatch e), (fun _ _ e => nomatch e)⟩ (sl_read w s hr)
    (fun r ω' v J' H' ⟨d, fu, lay, zz⟩ g w' rp => c d v H' zz (fun a o e => w'.jh _ _ (g.jj _ _ e)) (fu.dp w' rp lay)) (fun _ _ _ _ _ _ z => z.elim) z
def dCpR (n : Nat) (te : DTE) (ρ : DS) (ω : Wd) (q : DQ) (_ : DXK) : Prop := ∃ ρ', ReadS ω ρ ρ' ∧ te ρ' (fun _ => none) (fun r ω' => ∃ d, Ful ω' r d ∧ d.canLay0 = true ∧ isVal d = true ∧ d.depth < n ∧ szD d ≤ 1000000 ∧ CpQ ω q d) X0
theorem de_cpR {W : WX} {X : Cx} {K : PySem.W.Frag} {j k n : Nat} {x : Str} {ps : List Str} {e : Expr} {te : DTE} {p pos : Pos} (hK : X.K = K) (D : Dfn X.prog X.w X.K X.mg X.base CX0 j x ps (spCopied X.K n)) (c : Ct X.mg X.A k) (h : j ≤ k) (gl : Gl X x) (he : DE W X K e te)
    (nd : (x == ("__debug__" : Str)) = false := by decide) (plain : starEach [e] X.env = (false, eval e X.env) :: starEach [] X.env := by rfl) (bare : (backTo pos (starEach [] X.env)).any (·.1) = false := by rfl) :
    DE W X K (.Call (.Name x p) [e] [] pos) (dCpR n te) := by
  subst hK
  obtain ⟨t, pp, kk⟩ := he
  refine ⟨_, pe_d D c h gl (pa_cons pp pa_nil plain) nd plain bare, fun σ H J ω ρ q xx Q w s cq cx z => ?_⟩
  obtain ⟨ρ', hr, z⟩ := z
  refine frm_run kk w s hr z (fun d v H1 zz sm dp => ?_)
  obtain ⟨val, dn, sz, z⟩ := zz
  exact ⟨v, d, rfl, dp, val, dn, sz, fun u H2 sm2 hu => cpq_run w (sm.trans sm2) cq (Nw.to (Nat.le_refl _) d _ _ u (fun a n => same_there sm n) (fun _ _ _ e => e) hu) val z⟩
def dsLCopy (n : Nat) : DSp := fun ts ω q _ => ∃ t d, ts = [t] ∧ Ful ω t d ∧ isVal d = true ∧ d.depth < n ∧ szD d ≤ 1000000 ∧ CpQ ω q d
theorem dd_lcopy {P : Program} {w : World} {K : PySem.W.Frag} {mg : Str → Option Value} {base : Heap} {n : Nat} {x : Str} {ps : List Str} (D : Dfn P w K mg base CX0 n x ps (spCopied K n)) : Dfn P w K mg base CX0 n x ps (spD K (dsLCopy n)) := by
  refine D.toD fun vs H Q E z => ?_
  obtain ⟨J, ω, ts, q, x, w, r, cq, cx, t, d, rfl, th, val, dn, sz, z⟩ := z
  cases r with
  | cons r1 r2 =>
  cases r2
  exact ⟨_, d, rfl, th.dp w r1 (val_lay val), val, dn, sz, fun u H' sm hu => cpq_run w sm cq hu val z⟩
end Tx

namespace Tx
open PySem PySem.Spec PyProof.Rows L2
/-! ## k14: Entries of what is read -/
/-- 0 value, 1 one -/
abbrev sMeantF : Stmt := top 13
theorem scMeantF : FnScope ["value", "one"] ["value"] (defScope sMeantF) := ⟨rfl, rfl, rfl, by decide +kernel, rfl, by decide +kernel, by decide +kernel⟩
/-- 0 self, 1 other -/
abbrev sRadd : Stmt := inClass (top 14) 9
theorem scRadd : FnScope ["self", "other"] ["self", "other"] (defScope sRadd) := ⟨rfl, rfl, rfl, by decide +kernel, rfl, by decide +kernel, by decide +kernel⟩
/-- 0 cls, 1 values, 2 place -/
abbrev sOf : Stmt := inClass (top 14) 1
theorem scOf : FnScope ["cls", "values", "place"] ["cls", "values"] (defScope sOf) := ⟨rfl, rfl, rfl, by decide +kernel, rfl, by decide +kernel, by decide +kernel⟩
theorem pss_or {X : Cx} {st : List Stmt} {t1 t2 : TS} (h1 : PSs X st t1) (h2 : PSs X st t2) : PSs X st (fun D σ H => t1 D σ H ∨ t2 D σ H) := ⟨fun pins s σ H D I z => z.elim (h1.run pins s σ H D I) (h2.run pins s σ H D I)⟩
theorem dss_or {W : WX} {X : Cx} {K : PySem.W.Frag} {st : List Stmt} {t1 t2 : DTS} (h1 : DSs W X K st t1) (h2 : DSs W X K st t2) : DSs W X K st (fun D ρ ω => t1 D ρ ω ∨ t2 D ρ ω) := by
  obtain ⟨r1, p1, k1⟩ := h1
  obtain ⟨r2, p2, k2⟩ := h2
  exact ⟨_, pss_or p1 p2, fun D DD σ H J ω ρ w s cs z => z.elim (fun z => .inl (k1 D DD σ H J ω ρ w s cs z)) fun z => .inr (k2 D DD σ H J ω ρ w s cs z)⟩
/-- Entries, or a value that is read -/
def SrcX (C : Addr) (ω : Wd) (t : PyData) (ds : List PyData) : Prop := (∃ a dx p, t = refD a ∧ ω a = some (.ent C dx p "rows" ds)) ∨ ∃ d, Vf ω t d ∧ Val 19 900000 d ∧ ds = meantD d
def dsWrongU : DSp := fun ts ω q _ => ∃ t d, ts = [t] ∧ Ful ω t d ∧ Val 20 1000000 d ∧ q .none ω
def dsMeantV (C : Addr) : DSp := fun ts ω q _ => ∃ t d, ts = [t] ∧ Vf ω t d ∧ Val 19 900000 d ∧ Lot (meantD d) ∧ ∀ u ω', Tm ω u (.list (meantD d)) ω' → q u ω'
def dsMeantX (C : Addr) : DSp := fun ts ω q _ => ∃ t ds, ts = [t] ∧ SrcX C ω t ds ∧ Lot ds ∧ NewL ω ds q
def dsInitU (C : Addr) : DSp := fun ts ω q _ => ∃ a dx t d, ts = [refD a, t] ∧ ω a = some (.ins C dx []) ∧ Vf ω t d ∧ Val 19 900000 d ∧ ∀ p, ω p = none → q .none (updW ω a (.ent C dx p "rows" (meantD d)))
def dsAddU (C : Addr) : DSp := fun ts ω q _ => ∃ a t ds es, ts = [refD a, t] ∧ Ent C ω a ds ∧ SrcX C ω t es ∧ Lot ds ∧ Lot es ∧ Val 19 900000 (.list (ds ++ es)) ∧ ∀ b dx p, ω b = none → q (refD b) (updW ω b (.ent C dx p "rows" (ds ++ es)))
def dsRaddU (C : Addr) : DSp := fun ts ω q _ => ∃ a t ds es, ts = [refD a, t] ∧ Ent C ω a ds ∧ SrcX C ω t es ∧ Lot ds ∧ Lot es ∧ Val 19 900000 (.list (es ++ ds)) ∧ ∀ b dx p, ω b = none → q (refD b) (updW ω b (.ent C dx p "rows" (es ++ ds)))
def dsIaddU (C : Addr) : DSp := fun ts ω q _ => ∃ a dx p t ds es, ts = [refD a, t] ∧ ω a = some (.ent C dx p "rows" ds) ∧ SrcX C ω t es ∧ Lot ds ∧ Lot es ∧ ∀ p', q (refD a) (updW ω a (.ent C dx p' "rows" (ds ++ es)))
def dsOfU (C : Addr) : DSp := fun ts ω q _ => ∃ us ds, ts = [refD C, .tuple us] ∧ Full ω (.list us) (.list ds) ∧ Val 19 900000 (.list ds) ∧ ∀ n dx p, ω n = none → q (refD n) (updW ω n (.ent C dx p "rows" ds))
theorem kit_ofU {K : PySem.W.Frag} {mg : Str → Option Value} {C : Addr} (xc : OC K mg "Entries" "rows" C) {d : PyData} (h : isVal d = true) : PySem.W.kitOne K (.type (tyN d)) (.ref C) = some false := by
  cases d with
  | none => exact xc.kn
  | str _ => exact xc.ks
  | list _ => exact xc.kl
  | _ => simp [isVal] at h
section
variable {P : Program} {w : World} {K : PySem.W.Frag} {mg : Str → Option Value} {base : Heap} {C : Addr}
theorem dd_wrongU (D : Dfn P w K mg base CX0 31 "wrong_place" ["thing"] (spWrongPlace K 30)) : Dfn P w K mg base CX0 31 "wrong_place" ["thing"] (spD K dsWrongU) := by
  refine D.toD fun vs H Q E z => ?_
  obtain ⟨J, ω, ts, q, x, w, r, cq, cx, t, d, rfl, f, v, z⟩ := z
  cases r with
  | cons r1 r2 =>
  cases r2
  refine ⟨_, d, rfl, f.dp w r1 (val_lay v.val), (v.thing.mono (by omega) (by omega)), by omega, fun u H' sm h1 _ => ?_⟩
  rw [h1 (val_wrong d v.val)]
  exact cq _ _ _ _ _ z (same_grow w sm).1 (same_grow w sm).2 .non
theorem dd_checkU (h : Has K mg "check_value" sCheckV) (B : Bi mg) (D_wrong_place : Dfn P w K mg base CX0 31 "wrong_place" ["thing"] (spD K dsWrongU)) : Dfn P w K mg base CX0 32 "check_value" ["thing"] (spD K dsWrongU) := by
  refine dfnD (k := 31) h B scCheckV (fun _ _ _ _ _ _ us hl => match us, hl with | [_], _ => rfl) (fun ts ω q xx h => ?_) (fun f cv A out s H E c => ⟨_, (dss_cons (ds_set (i := 1) scCheckV.nd rfl (Or.inl rfl) (de_d D_wrong_place c (by omega) (by rfl) (da_cons (de_var (pv 0)) da_nil)))
    (dss_one (ds_if (dt_cmp (do_isnot rfl) (de_var (pv 1)) de_non (nomark _)) (dss_one ds_never) dss_nil))), fun ts ω q xx z => ?_⟩)
  · obtain ⟨t, d, rfl, _⟩ := h
    rfl
  obtain ⟨t, d, rfl, f, v, z⟩ := z
  simp only [dAnd, dAndV, dAsg, dC, dCB, dCall, dCallX, dChain, dCons, dDrop, dErr1, dIf, dIfS, dIsi, dLst, dNext, dNil, dNot, dNotV, dOp, dOr, dOrV, dPar, dRet, dRetN, dRetS, dSeq, dSet, dSl, dTest, dTup, dVar, dgCons, dgName, dgNil, dgTup, dNeg, endsD, xcOf, dFz, startD, wipeD, List.getElem?_cons_zero, List.getElem?_cons_succ, List.set_cons_zero, List.set_cons_succ, List.map_cons, List.map_nil, List.cons_append, List.nil_append, List.length_cons, List.length_nil, List.replicate]
  refine ⟨t, d, rfl, f, v, ?_⟩
  simp only [dAnd, dAndV, dAsg, dC, dCB, dCall, dCallX, dChain, dCons, dDrop, dErr1, dIf, dIfS, dIsi, dLst, dNext, dNil, dNot, dNotV, dOp, dOr, dOrV, dPar, dRet, dRetN, dRetS, dSeq, dSet, dSl, dTest, dTup, dVar, dgCons, dgName, dgNil, dgTup, dNeg, endsD, xcOf, dFz, startD, wipeD, List.getElem?_cons_zero, List.getElem?_cons_succ, List.set_cons_zero, List.set_cons_succ, List.map_cons, List.map_nil, List.cons_append, List.nil_append, List.length_cons, List.length_nil, List.replicate]
  refine ⟨rfl, ?_⟩
  exact z
theorem meantF_run (xc : OC K mg "Entries" "rows" C) {ω : Wd} {t d : PyData} {q : DQ} (vf : Vf ω t d) (vd : Val 19 900000 d) (lot : Lot (meantD d)) (z : ∀ u ω', Tm ω u (.list (meantD d)) ω' → q u ω') :
    (dSeq (dIfS (dTest (dIsCF K C (dVar 0))) (dRet (dCopyF 1 (dFld K (dVar 0) "rows"))) dNext) (dSeq (dIfS (dTest (dOp isND (dVar 0) (dC .none))) (dRet (dLstT dNil)) dNext) (dSeq (dIfS (dTest (dIsiF isS (dVar 0))) (dRet (dLstT (dCons (dVar 0) dNil))) dNext) (dRet (dCopyF 1 (dVar 0)))))) (endsD q X0) [some t, none] ω := by
  simp only [dAnd, dAndV, dAsg, dC, dCB, dCall, dCallX, dChain, dCons, dDrop, dErr1, dIf, dIfS, dIsi, dLst, dNext, dNil, dNot, dNotV, dOp, dOr, dOrV, dPar, dRet, dRetN, dRetS, dSeq, dSet, dSl, dTest, dTup, dVar, dgCons, dgName, dgNil, dgTup, dNeg, endsD, xcOf, dFz, startD, wipeD, List.getElem?_cons_zero, List.getElem?_cons_succ, List.set_cons_zero, List.set_cons_succ, List.map_cons, List.map_nil, List.cons_append, List.nil_append, List.length_cons, List.length_nil, List.replicate]
  unfold dIsCF
  simp only [dAnd, dAndV, dAsg, dC, dCB, dCall, dCallX, dChain, dCons, dDrop, dErr1, dIf, dIfS, dIsi, dLst, dNext, dNil, dNot, dNotV, dOp, dOr, dOrV, dPar, dRet, dRetN, dRetS, dSeq, dSet, dSl, dTest, dTup, dVar, dgCons, dgName, dgNil, dgTup, dNeg, endsD, xcOf, dFz, startD, wipeD, List.getElem?_cons_zero, List.getElem?_cons_succ, List.set_cons_zero, List.set_cons_succ, List.map_cons, List.map_nil, List.cons_append, List.nil_append, List.length_cons, List.length_nil, List.replicate]
  have val := vd.val
  refine ⟨_, false, .inr ⟨d, vf.ful, val_lay val, rfl⟩, kit_ofU xc val, iteF ?_⟩
  cases d with
  | none =>
    obtain rfl := vf.flat rfl
    exact ⟨rfl, iteT ⟨by decide, rfl, rfl, z⟩⟩
  | str x =>
    obtain rfl := vf.flat rfl
    exact ⟨rfl, iteF ⟨.str x, Ful.rfl', val_lay val, iteT ⟨by show 1 ≤ 1000; decide, by simpa [isValAll] using val, rfl, z⟩⟩⟩
  | list ds =>
    have fin : ∀ t : PyData, isNn t = false → Ful ω t (.list ds) → isND t .none ω fun r => match r with
        | .bool b => if b = true then (dRet (dLstT dNil)) (endsD q X0) [some t, none] ω else (dSeq (dIfS (dTest (dIsiF isS (dVar 0))) (dRet (dLstT (dCons (dVar 0) dNil))) dNext) (dRet (dCopyF 1 (dVar 0)))) (endsD q X0) [some t, none] ω
        | _ => False := fun t nn fu => by
      refine ⟨rfl, ?_⟩
      rw [nn]
      exact iteF ⟨.list ds, fu, val_lay val, iteF ⟨by show 1 < 2; decide, ds, fu, lot, z⟩⟩
    rcases vf with rfl | ⟨_, nn, fu⟩
    · exact fin _ rfl Ful.rfl'
    · exact fin _ nn fu
  | _ => simp [isVal] at val
theorem dd_meantV (xc : OC K mg "Entries" "rows" C) (h : Has K mg "meant_by" sMeantF) (B : Bi mg) (D_copied : Dfn P w K mg base CX0 30 "copied" ["value"] (spCopied K 30)) : Dfn P w K mg base CX0 31 "meant_by" ["value"] (spD K (dsMeantV C)) := by
  refine dfnD (k := 30) h B scMeantF (fun _ _ _ _ _ _ us hl => match us, hl with | [_], _ => rfl) (fun ts ω q xx h => ?_) (fun f cv A out s H E c => ⟨_, (dss_cons (ds_if (dt_val (de_isCF rfl (by rfl) c.b.isinstance (de_var (pv 0)) (pe_gcl xc.cd.gC (by rfl)))) (dss_one (ds_ret (de_pe (td := dCopyF 1 _) (pe_lc (own := [("one", 1)]) (g := (gName 1)) (tt := tYes) rfl scMeantF.nd (pi_list (DE.pe (de_fld rfl (de_var (pv 0))))) (blkOk_by (own := [("one", 1)]) (N := ["value", "one"]) (sc := defScope sMeantF) (by decide +kernel)) (fun _ _ _ _ _ => (pg_name (i := 1) scMeantF.nd rfl (Or.inl rfl))) (fun _ _ _ _ _ => pts_nil) (fun _ _ _ _ _ => (pe_d D_copied c (by omega) (by rfl) (pa_cons (pv 1) pa_nil)))) (fun σ H J ω ρ q x Q w s cq cx z => copyF_run w s cq cx z)))) dss_nil)
    (dss_cons (ds_if (dt_cmp (do_is rfl) (de_var (pv 0)) de_non (nomark _)) (dss_one (ds_ret (de_lstT da_nil))) dss_nil)
    (dss_cons (ds_if (dt_val (de_isiF (T := "str") rfl kit_str (by rfl) c.b.isinstance (de_var (pv 0)) (pe_bltn (v := .ty "str") (by rfl) c.b.str (by decide +kernel) rfl))) (dss_one (ds_ret (de_lstT (da_cons (de_var (pv 0)) da_nil)))) dss_nil)
    (dss_one (ds_ret (de_pe (td := dCopyF 1 _) (pe_lc (own := [("one", 1)]) (g := (gName 1)) (tt := tYes) rfl scMeantF.nd (pi_list (DE.pe (de_var (pv 0)))) (blkOk_by (own := [("one", 1)]) (N := ["value", "one"]) (sc := defScope sMeantF) (by decide +kernel)) (fun _ _ _ _ _ => (pg_name (i := 1) scMeantF.nd rfl (Or.inl rfl))) (fun _ _ _ _ _ => pts_nil) (fun _ _ _ _ _ => (pe_d D_copied c (by omega) (by rfl) (pa_cons (pv 1) pa_nil)))) (fun σ H J ω ρ q x Q w s cq cx z => copyF_run w s cq cx z))))))), fun ts ω q xx z => ?_⟩)
  · obtain ⟨t, d, rfl, _⟩ := h
    rfl
  obtain ⟨t, d, rfl, vf, vd, lot, z⟩ := z
  have r := meantF_run (K := K) (mg := mg) xc vf vd lot z
  exact r
end
end Tx

namespace Tx
open PySem PySem.Spec PyProof.Rows L2
/-! ## k14: __init__, __add__, __radd__, __iadd__, of, whose things are read -/
section
variable {P : Program} {w : World} {K : PySem.W.Frag} {mg : Str → Option Value} {base : Heap} {C : Addr}
def dsMeantW (C : Addr) : DSp := fun ts ω q x => (∃ a dx p ds, ts = [refD a] ∧ ω a = some (.ent C dx p "rows" ds) ∧ Lot ds ∧ NewL ω ds q) ∨ dsMeantV C ts ω q x
theorem dd_meantW (xc : OC K mg "Entries" "rows" C) (h : Has K mg "meant_by" sMeantF) (B : Bi mg) (D1 : Dfn P w K mg base CX0 30 "copied" ["value"] (spD K (dsCopied 30))) (D2 : Dfn P w K mg base CX0 30 "copied" ["value"] (spCopied K 30)) : Dfn P w K mg base CX0 31 "meant_by" ["value"] (spD K (dsMeantW C)) := by
  refine dfnD (k := 30) h B scMeantF (fun _ _ _ _ _ _ us hl => match us, hl with | [_], _ => rfl) (fun ts ω q xx h => ?_) (fun f cv A out s H E c => ⟨_, dss_or (have D_copied := D1; dss_gh (dss_cons (ds_if (dt_val (de_isC rfl (by rfl) c.b.isinstance (de_var (pv 0)) (pe_gcl xc.cd.gC (by rfl)))) (dss_one (ds_ret (de_lcO (own := [("one", 1)]) (gd := (dgName 1)) (is := [1]) (tt := dYes) rfl scMeant.nd (dio_o rfl (de_fld rfl (de_var (pv 0)))) (blkOk_by (own := [("one", 1)]) (N := ["value", "one"]) (sc := defScope sMeant) (by decide +kernel)) (fun _ _ _ _ _ => (dg_name (pg_name (i := 1) scMeant.nd rfl (Or.inl rfl)))) (fun _ _ _ _ _ => dts_nil) (fun _ _ _ _ _ => (de_fz (de_d D_copied c (by omega) (by rfl) (da_cons (de_var (pv 1)) da_nil))))))) dss_nil)
    (dss_cons (ds_if (dt_cmp (do_is rfl) (de_var (pv 0)) de_non (nomark _)) (dss_one (ds_ret (de_lstO da_nil))) dss_nil)
    (dss_cons (ds_if (dt_val (de_isi (T := "str") rfl kit_str (by rfl) c.b.isinstance (de_var (pv 0)) (pe_bltn (v := .ty "str") (by rfl) c.b.str (by decide +kernel) rfl))) (dss_one (ds_ret (de_lstO (da_cons (de_var (pv 0)) da_nil)))) dss_nil)
    (dss_one (ds_ret (de_lcO (own := [("one", 1)]) (gd := (dgName 1)) (is := [1]) (tt := dYes) rfl scMeant.nd (dio_d (di_data rfl (de_var (pv 0)))) (blkOk_by (own := [("one", 1)]) (N := ["value", "one"]) (sc := defScope sMeant) (by decide +kernel)) (fun _ _ _ _ _ => (dg_name (pg_name (i := 1) scMeant.nd rfl (Or.inl rfl)))) (fun _ _ _ _ _ => dts_nil) (fun _ _ _ _ _ => (de_fz (de_d D_copied c (by omega) (by rfl) (da_cons (de_var (pv 1)) da_nil))))))))))) (have D_copied := D2; (dss_cons (ds_if (dt_val (de_isCF rfl (by rfl) c.b.isinstance (de_var (pv 0)) (pe_gcl xc.cd.gC (by rfl)))) (dss_one (ds_ret (de_pe (td := dCopyF 1 _) (pe_lc (own := [("one", 1)]) (g := (gName 1)) (tt := tYes) rfl scMeantF.nd (pi_list (DE.pe (de_fld rfl (de_var (pv 0))))) (blkOk_by (own := [("one", 1)]) (N := ["value", "one"]) (sc := defScope sMeantF) (by decide +kernel)) (fun _ _ _ _ _ => (pg_name (i := 1) scMeantF.nd rfl (Or.inl rfl))) (fun _ _ _ _ _ => pts_nil) (fun _ _ _ _ _ => (pe_d D_copied c (by omega) (by rfl) (pa_cons (pv 1) pa_nil)))) (fun σ H J ω ρ q x Q w s cq cx z => copyF_run w s cq cx z)))) dss_nil)
    (dss_cons (ds_if (dt_cmp (do_is rfl) (de_var (pv 0)) de_non (nomark _)) (dss_one (ds_ret (de_lstT da_nil))) dss_nil)
    (dss_cons (ds_if (dt_val (de_isiF (T := "str") rfl kit_str (by rfl) c.b.isinstance (de_var (pv 0)) (pe_bltn (v := .ty "str") (by rfl) c.b.str (by decide +kernel) rfl))) (dss_one (ds_ret (de_lstT (da_cons (de_var (pv 0)) da_nil)))) dss_nil)
    (dss_one (ds_ret (de_pe (td := dCopyF 1 _) (pe_lc (own := [("one", 1)]) (g := (gName 1)) (tt := tYes) rfl scMeantF.nd (pi_list (DE.pe (de_var (pv 0)))) (blkOk_by (own := [("one", 1)]) (N := ["value", "one"]) (sc := defScope sMeantF) (by decide +kernel)) (fun _ _ _ _ _ => (pg_name (i := 1) scMeantF.nd rfl (Or.inl rfl))) (fun _ _ _ _ _ => pts_nil) (fun _ _ _ _ _ => (pe_d D_copied c (by omega) (by rfl) (pa_cons (pv 1) pa_nil)))) (fun σ H J ω ρ q x Q w s cq cx z => copyF_run w s cq cx z)))))))), fun ts ω q xx z => ?_⟩)
  · rcases h with ⟨a, dx, p, ds, rfl, _⟩ | ⟨t, d, rfl, _⟩
    · rfl
    · rfl
  rcases z with ⟨a, dx, p, ds, rfl, ea, lot, z⟩ | ⟨t, d, rfl, vf, vd, lot, z⟩
  · left
    intro lw
    obtain ⟨ne, hp⟩ := lw.ent ea
    refine ⟨_, Gh.open ea, ?_⟩
    simp only [dAnd, dAndV, dAsg, dC, dCB, dCall, dCallX, dChain, dCons, dDrop, dErr1, dIf, dIfS, dIsi, dLst, dNext, dNil, dNot, dNotV, dOp, dOr, dOrV, dPar, dRet, dRetN, dRetS, dSeq, dSet, dSl, dTest, dTup, dVar, dgCons, dgName, dgNil, dgTup, dNeg, endsD, xcOf, dFz, startD, wipeD, List.getElem?_cons_zero, List.getElem?_cons_succ, List.set_cons_zero, List.set_cons_succ, List.map_cons, List.map_nil, List.cons_append, List.nil_append, List.length_cons, List.length_nil, List.replicate]
    unfold dIsC
    simp only [dAnd, dAndV, dAsg, dC, dCB, dCall, dCallX, dChain, dCons, dDrop, dErr1, dIf, dIfS, dIsi, dLst, dNext, dNil, dNot, dNotV, dOp, dOr, dOrV, dPar, dRet, dRetN, dRetS, dSeq, dSet, dSl, dTest, dTup, dVar, dgCons, dgName, dgNil, dgTup, dNeg, endsD, xcOf, dFz, startD, wipeD, List.getElem?_cons_zero, List.getElem?_cons_succ, List.set_cons_zero, List.set_cons_succ, List.map_cons, List.map_nil, List.cons_append, List.nil_append, List.length_cons, List.length_nil, List.replicate]
    refine ⟨.ref C, true, .ins (m := "") ⟨a, _, rfl, opn_a ne, rfl, rfl⟩ xc.cd.cl xc.ha xc.hn xc.htk xc.hm, xc.kc, ?_⟩
    refine iteT ?_
    unfold dLcO dioO dFld
    simp only [dAnd, dAndV, dAsg, dC, dCB, dCall, dCallX, dChain, dCons, dDrop, dErr1, dIf, dIfS, dIsi, dLst, dNext, dNil, dNot, dNotV, dOp, dOr, dOrV, dPar, dRet, dRetN, dRetS, dSeq, dSet, dSl, dTest, dTup, dVar, dgCons, dgName, dgNil, dgTup, dNeg, endsD, xcOf, dFz, startD, wipeD, List.getElem?_cons_zero, List.getElem?_cons_succ, List.set_cons_zero, List.set_cons_succ, List.map_cons, List.map_nil, List.cons_append, List.nil_append, List.length_cons, List.length_nil, List.replicate]
    refine ⟨a, C, dx, _, _, rfl, opn_a ne, xc.cd.cl, xc.na, rfl, p, ds, rfl, opn_p, ?_⟩
    refine copy_all (ρ := []) lot opn_p fun r hr _ => ⟨_, Gh.close (by rw [updW_ne]; exact opn_a ne; exact Ne.symm (opn_none hr ne).2.1) (by rw [updW_ne]; exact opn_p; exact Ne.symm (opn_none hr ne).2.2), ?_⟩
    rw [cls_opn_new ea hp ne hr]
    exact z r (opn_none hr ne).1
  · right
    exact meantF_run (K := K) (mg := mg) xc vf vd lot z
theorem dd_meantX (xc : OC K mg "Entries" "rows" C) (h : Has K mg "meant_by" sMeantF) (B : Bi mg) (D1 : Dfn P w K mg base CX0 30 "copied" ["value"] (spD K (dsCopied 30))) (D2 : Dfn P w K mg base CX0 30 "copied" ["value"] (spCopied K 30)) : Dfn P w K mg base CX0 31 "meant_by" ["value"] (spD K (dsMeantX C)) := by
  refine (dd_meantW xc h B D1 D2).toD fun vs H Q E z => ?_
  obtain ⟨J, ω, ts, q, x, w, r, cq, cx, t, ds, rfl, src, lot, z⟩ := z
  rcases src with ⟨a, dx, p, rfl, ea⟩ | ⟨d, vf, vd, rfl⟩
  · exact ⟨J, ω, _, q, x, w, r, cq, cx, .inl ⟨a, dx, p, ds, rfl, ea, lot, z⟩⟩
  · exact ⟨J, ω, _, _, x, w, r, cov_own cq (by have := lot.val; simpa only [isVal] using this) z, cx, .inr ⟨t, d, rfl, vf, vd, lot, fun _ _ t => t⟩⟩
theorem m_initU (xc : OC K mg "Entries" "rows" C) (h : HasM K C "__init__" "Entries.__init__" sInit) (B : Bi mg) (D_check_value : Dfn P w K mg base CX0 32 "check_value" ["thing"] (spD K dsWrongU)) (D_meant_by : Dfn P w K mg base CX0 31 "meant_by" ["value"] (spD K (dsMeantX C))) :
    Mfn P w K mg base CX0 33 C "__init__" ["self", "value"] (spD K (dsInitU C)) := by
  refine mfnD (k := 32) h B scInit (fun _ _ _ _ _ _ us hl => match us, hl with | [_, _], _ => rfl) (fun ts ω q xx h => ?_) (fun f cv A out s H E c => ⟨_, dss_gh (dss_cons (ds_expr (de_d D_check_value c (by omega) (by rfl) (da_cons (de_var (pv 1)) da_nil)))
    (dss_one (ds_fld rfl (de_var (pv 0)) (de_d D_meant_by c (by omega) (by rfl) (da_cons (de_var (pv 1)) da_nil))))), fun ts ω q xx z => ?_⟩)
  · obtain ⟨a, dx, t, d, rfl, _⟩ := h
    rfl
  obtain ⟨a, dx, t, d, rfl, ea, vf, v, z⟩ := z
  intro lw
  refine ⟨ω, Gh.refl, ?_⟩
  unfold dSetF
  simp only [dAnd, dAndV, dAsg, dC, dCB, dCall, dCallX, dChain, dCons, dDrop, dErr1, dIf, dIfS, dIsi, dLst, dNext, dNil, dNot, dNotV, dOp, dOr, dOrV, dPar, dRet, dRetN, dRetS, dSeq, dSet, dSl, dTest, dTup, dVar, dgCons, dgName, dgNil, dgTup, dNeg, endsD, xcOf, dFz, startD, wipeD, List.getElem?_cons_zero, List.getElem?_cons_succ, List.set_cons_zero, List.set_cons_succ, List.map_cons, List.map_nil, List.cons_append, List.nil_append, List.length_cons, List.length_nil, List.replicate]
  refine ⟨t, d, rfl, vf.ful, v.mono (by decide) (by decide), t, _, rfl, .inr ⟨d, vf, v, rfl⟩, v.meant, fun r hr => ?_⟩
  have ne : r ≠ a := fun e => by rw [e, ea] at hr; cases hr
  refine ⟨a, C, dx, [], rfl, by rw [updW_ne (Ne.symm ne)]; exact ea, xc.cd.cl, xc.na, by decide, fun _ => ⟨_, Gh.close (C := C) (dx := dx) (f := "rows") (p := r) (ds := meantD d) updW_same (by rw [updW_ne ne]; exact updW_same), ?_⟩⟩
  have e : cls (updW (updW ω r (.lst (meantD d))) a (.ins C dx [("rows", refD r)])) a C dx r "rows" (meantD d) = updW ω a (.ent C dx r "rows" (meantD d)) := by
    funext b
    by_cases e1 : b = a
    · rw [e1, cls_a, updW_same]
    · by_cases e2 : b = r
      · rw [e2, cls_p ne, updW_ne ne, hr]
      · rw [cls_ne e1 e2, updW_ne e1, updW_ne e2, updW_ne e1]
  exact e ▸ z r hr
/-- Entries(t) -/
theorem mk_inU {ω : Wd} {t d : PyData} {q : Addr → Wd → Prop} {x : Addr → Addr → DXK} (vf : Vf ω t d) (hz : Val 19 900000 d) (k : ∀ n dx p, ω n = none → q n (updW ω n (.ent C dx p "rows" (meantD d)))) :
    ∀ m dx, ω m = none → dsInitU C [refD m, t] (updW ω m (.ins C dx [])) (fun r ω2 => r = .none ∧ q m ω2) (x m dx) := by
  intro n dx hn
  refine ⟨n, dx, t, d, rfl, updW_same, vf.keep (Keep.new hn) hz.val, hz, fun p hp => ⟨rfl, ?_⟩⟩
  rw [updW_updW]
  exact k n dx p hn
theorem m_addU (xc : OC K mg "Entries" "rows" C) (h : HasM K C "__add__" "Entries.__add__" sAdd) (B : Bi mg) (D_meant_by : Dfn P w K mg base CX0 31 "meant_by" ["value"] (spD K (dsMeantX C))) (M_init : Mfn P w K mg base CX0 33 C "__init__" ["self", "value"] (spD K (dsInitU C))) :
    Mfn P w K mg base CX0 35 C "__add__" ["self", "other"] (spD K (dsAddU C)) := by
  refine mfnD (k := 34) h B scAdd (fun _ _ _ _ _ _ us hl => match us, hl with | [_, _], _ => rfl) (fun ts ω q xx h => ?_) (fun f cv A out s H E c => ⟨_, (dss_one (ds_ret (de_make rfl xc.cd M_init c (by omega) (by rfl) px0 (da_cons (de_op (do_add rfl) (de_frzE (de_d D_meant_by c (by omega) (by rfl) (da_cons (de_var (pv 0)) da_nil))) (de_frzE (de_d D_meant_by c (by omega) (by rfl) (da_cons (de_var (pv 1)) da_nil)))) da_nil)))), fun ts ω q xx z => ?_⟩)
  · obtain ⟨a, t, ds, es, rfl, _⟩ := h
    rfl
  obtain ⟨a, t, ds, es, rfl, ⟨dx, p, ea⟩, src, l1, l2, v, z⟩ := z
  unfold dRet dMake dFrzE
  simp only [dAnd, dAndV, dAsg, dC, dCB, dCall, dCallX, dChain, dCons, dDrop, dErr1, dIf, dIfS, dIsi, dLst, dNext, dNil, dNot, dNotV, dOp, dOr, dOrV, dPar, dRet, dRetN, dRetS, dSeq, dSet, dSl, dTest, dTup, dVar, dgCons, dgName, dgNil, dgTup, dNeg, endsD, xcOf, dFz, startD, wipeD, List.getElem?_cons_zero, List.getElem?_cons_succ, List.set_cons_zero, List.set_cons_succ, List.map_cons, List.map_nil, List.cons_append, List.nil_append, List.length_cons, List.length_nil, List.replicate]
  refine ⟨_, ds, rfl, .inl ⟨a, dx, p, rfl, ea⟩, l1, fun r hr => ⟨r, ds, rfl, updW_same, ?_⟩⟩
  rw [delW_updW hr]
  refine ⟨_, es, rfl, src, l2, fun r2 hr2 => ⟨r2, es, rfl, updW_same, ?_⟩⟩
  rw [delW_updW hr2]
  refine ⟨?_, ?_⟩
  · have := l1.len
    have := l2.len
    rw [sizeLine_eq]
    omega
  exact mk_inU (.inl rfl) v fun n dx p hn => z n dx p hn
theorem m_raddU (xc : OC K mg "Entries" "rows" C) (h : HasM K C "__radd__" "Entries.__radd__" sRadd) (B : Bi mg) (D_meant_by : Dfn P w K mg base CX0 31 "meant_by" ["value"] (spD K (dsMeantX C))) (M_init : Mfn P w K mg base CX0 33 C "__init__" ["self", "value"] (spD K (dsInitU C))) :
    Mfn P w K mg base CX0 35 C "__radd__" ["self", "other"] (spD K (dsRaddU C)) := by
  refine mfnD (k := 34) h B scRadd (fun _ _ _ _ _ _ us hl => match us, hl with | [_, _], _ => rfl) (fun ts ω q xx h => ?_) (fun f cv A out s H E c => ⟨_, (dss_one (ds_ret (de_make rfl xc.cd M_init c (by omega) (by rfl) px0 (da_cons (de_op (do_add rfl) (de_frzE (de_d D_meant_by c (by omega) (by rfl) (da_cons (de_var (pv 1)) da_nil))) (de_frzE (de_d D_meant_by c (by omega) (by rfl) (da_cons (de_var (pv 0)) da_nil)))) da_nil)))), fun ts ω q xx z => ?_⟩)
  · obtain ⟨a, t, ds, es, rfl, _⟩ := h
    rfl
  obtain ⟨a, t, ds, es, rfl, ⟨dx, p, ea⟩, src, l1, l2, v, z⟩ := z
  unfold dRet dMake dFrzE
  simp only [dAnd, dAndV, dAsg, dC, dCB, dCall, dCallX, dChain, dCons, dDrop, dErr1, dIf, dIfS, dIsi, dLst, dNext, dNil, dNot, dNotV, dOp, dOr, dOrV, dPar, dRet, dRetN, dRetS, dSeq, dSet, dSl, dTest, dTup, dVar, dgCons, dgName, dgNil, dgTup, dNeg, endsD, xcOf, dFz, startD, wipeD, List.getElem?_cons_zero, List.getElem?_cons_succ, List.set_cons_zero, List.set_cons_succ, List.map_cons, List.map_nil, List.cons_append, List.nil_append, List.length_cons, List.length_nil, List.replicate]
  refine ⟨_, es, rfl, src, l2, fun r2 hr2 => ⟨r2, es, rfl, updW_same, ?_⟩⟩
  rw [delW_updW hr2]
  refine ⟨_, ds, rfl, .inl ⟨a, dx, p, rfl, ea⟩, l1, fun r hr => ⟨r, ds, rfl, updW_same, ?_⟩⟩
  rw [delW_updW hr]
  refine ⟨?_, ?_⟩
  · have := l1.len
    have := l2.len
    rw [sizeLine_eq]
    omega
  exact mk_inU (.inl rfl) v fun n dx p hn => z n dx p hn
theorem m_iaddU (xc : OC K mg "Entries" "rows" C) (h : HasM K C "__iadd__" "Entries.__iadd__" sIadd) (B : Bi mg) (D_meant_by : Dfn P w K mg base CX0 31 "meant_by" ["value"] (spD K (dsMeantX C))) :
    Mfn P w K mg base CX0 32 C "__iadd__" ["self", "other"] (spD K (dsIaddU C)) := by
  refine mfnD (k := 31) h B scIadd (fun _ _ _ _ _ _ us hl => match us, hl with | [_, _], _ => rfl) (fun ts ω q xx h => ?_) (fun f cv A out s H E c => ⟨_, dss_gh (dss_cons (ds_fld rfl (de_var (pv 0)) (de_opM (dm_cat rfl) (de_fld rfl (de_var (pv 0))) (de_gh (de_frzE (de_d D_meant_by c (by omega) (by rfl) (da_cons (de_var (pv 1)) da_nil))))))
    (dss_one (ds_ret (de_var (pv 0))))), fun ts ω q xx z => ?_⟩)
  · obtain ⟨a, dx, p, t, ds, es, rfl, _⟩ := h
    rfl
  obtain ⟨a, dx, p, t, ds, es, rfl, ea, src, l1, l2, z⟩ := z
  intro lw
  obtain ⟨ne, hp⟩ := lw.ent ea
  refine ⟨_, Gh.open ea, ?_⟩
  unfold dSeq dSetF dOpM dGhE dFrzE dFld
  simp only [dAnd, dAndV, dAsg, dC, dCB, dCall, dCallX, dChain, dCons, dDrop, dErr1, dIf, dIfS, dIsi, dLst, dNext, dNil, dNot, dNotV, dOp, dOr, dOrV, dPar, dRet, dRetN, dRetS, dSeq, dSet, dSl, dTest, dTup, dVar, dgCons, dgName, dgNil, dgTup, dNeg, endsD, xcOf, dFz, startD, wipeD, List.getElem?_cons_zero, List.getElem?_cons_succ, List.set_cons_zero, List.set_cons_succ, List.map_cons, List.map_nil, List.cons_append, List.nil_append, List.length_cons, List.length_nil, List.replicate]
  refine ⟨a, C, dx, _, _, rfl, opn_a ne, xc.cd.cl, xc.na, rfl, fun _ => ⟨_, Gh.close (opn_a ne) opn_p, ?_⟩⟩
  rw [cls_opn0 ea hp ne]
  refine ⟨_, es, rfl, src, l2, fun r2 hr2 => ⟨r2, es, rfl, updW_same, fun _ => ⟨_, Gh.trans (ω1 := ω) (by rw [delW_updW hr2]; exact Gh.refl) (Gh.open ea), ?_⟩⟩⟩
  refine ⟨ds, es, rsv_cell opn_p, by simp only [rsv], ?_, fun p2 hp2 => ⟨a, C, dx, [("rows", refD p)], rfl, ?_, xc.cd.cl, xc.na, (by show 1 < 1000; decide), fun _ => ⟨_, Gh.trans (Gh.close (C := C) (dx := dx) (f := "rows") (p := p2) (ds := ds ++ es) updW_same (by rw [updW_ne (opn_none hp2 ne).2.1]; exact updW_same)) (Gh.sub ?_), z p2⟩⟩⟩
  · have := l1.len
    have := l2.len
    rw [sizeLine_eq]
    omega
  · rw [updW_ne (Ne.symm (opn_none hp2 ne).2.1)]
    exact opn_a ne
  · intro b m e
    by_cases e1 : b = a
    · rw [e1, updW_same] at e
      rw [e1, cls_a]
      exact e
    · rw [updW_ne e1] at e
      have e2 : b ≠ p2 := fun y => by rw [y, (opn_none hp2 ne).1] at e; cases e
      have e3 : b ≠ p := fun y => by rw [y, hp] at e; cases e
      rw [cls_ne e1 e2, updW_ne e1, updW_ne e2, opn_ne e1 e3]
      exact e
theorem m_ofU (xc : OC K mg "Entries" "rows" C) (h : HasV K C "of" "Entries.of" sOf) (B : Bi mg) (D_wrong_place : Dfn P w K mg base CX0 31 "wrong_place" ["thing"] (spD K dsWrongU)) (M_init : Mfn P w K mg base CX0 33 C "__init__" ["self", "value"] (spD K (dsInitU C))) :
    Vfn P w K mg base (L2.CX P w) 36 C "of" (dsOfU C) := by
  refine vfnDX (k := 35) h B scOf (fun _ _ _ _ _ _ u rest hl => match rest, hl with
    | [], _ => rfl
    | [_], _ => rfl
    | [_, _], _ => rfl
    | [_, _, _], _ => rfl
    | [_, _, _, _], _ => rfl
    | [_, _, _, _, _], _ => rfl) (fun f cv A out s H E c => ⟨_, (dss_cons (ds_set (i := 2) scOf.nd rfl (Or.inl rfl) (de_d D_wrong_place c (by omega) (by rfl) (da_cons (de_callTy (dc_list rfl rfl) (by rfl) c.b.list (by decide +kernel) (da_cons (de_var (pv 1)) da_nil)) da_nil)))
    (dss_cons (ds_if (dt_cmp (do_isnot rfl) (de_var (pv 2)) de_non (nomark _)) (dss_one ds_never) dss_nil)
    (dss_one (ds_ret (de_makeL (i := 0) rfl xc.cd M_init c (by omega) rfl (Or.inl rfl) px0 (da_cons (de_callTy (dc_list rfl rfl) (by rfl) c.b.list (by decide +kernel) (da_cons (de_var (pv 1)) da_nil)) da_nil)))))), fun ts ω q xx z => ?_⟩)
  obtain ⟨us, ds, rfl, fu, v, z⟩ := z
  refine ⟨_, _, rfl, .inl fu, v.mono (by decide) (by decide), rfl, ?_⟩
  refine ⟨rfl, ?_⟩
  refine mk_inU (d := .list ds) (.inr ⟨rfl, rfl, .inl fu⟩) v fun n dx p hn => z n dx p hn
end
end Tx

namespace Tx
open PySem PySem.Spec PyProof.Rows L2
theorem de_ixF {W : WX} {X : Cx} {K : PySem.W.Frag} {a b : Expr} {ta tb : DTE} {pos : Pos} (hK : X.K = K) (ha : DE W X K a ta) (hb : DE W X K b tb) (hs : PlainIx b) : DE W X K (.Subscript a b pos) (dOp ixFD ta tb) := by
  obtain ⟨ra, pa, ka⟩ := ha
  obtain ⟨rb, pb, kb⟩ := hb
  exact ⟨_, pe_ix (do_ixF hK) pa pb hs, fun σ H J ω ρ q x Q w s cq cx z => dOp_run ka kb w s cq cx z⟩
end Tx

namespace Tx
open PySem PySem.Spec PyProof.Rows L2
/-! ## k14: __repr__, packed -/
/-- 0 self -/
abbrev sReprU : Stmt := inClass (top 14) 7
theorem scReprU : FnScope ["self"] ["self"] (defScope sReprU) := ⟨rfl, rfl, rfl, by decide +kernel, rfl, by decide +kernel, by decide +kernel⟩
/-- 0 self -/
abbrev sPackedU : Stmt := inClass (top 14) 18
theorem scPackedU : FnScope ["self"] ["self"] (defScope sPackedU) := ⟨rfl, rfl, rfl, by decide +kernel, rfl, by decide +kernel, by decide +kernel⟩
def entU (ds : List PyData) : Str := (("Entries(" : Str) ++ PyData.shown (.list ds)) ++ (")" : Str)
def packU : List PyData → PyData
  | [] => .none
  | [.str z] => .str z
  | ds => .list ds
def oddAt (ds : List PyData) : Option Nat := ds.findIdx? fun d => !isS d
def dsReprU (C : Addr) : DSp := fun ts ω q _ => ∃ a ds, ts = [refD a] ∧ Ent C ω a ds ∧ Val 20 100000 (.list ds) ∧ q (.str (entU ds)) ω
def dsPackedU (C : Addr) : DSp := fun ts ω q _ => ∃ a ds, ts = [refD a] ∧ Ent C ω a ds ∧ Lot ds ∧ ∀ u ω', Keep ω ω' → Vf ω' u (packU ds) → q u ω'
def dsJoinedU (C N : Addr) : DSp := fun ts ω q xx => ∃ a ds z, ts = [refD a, .str z] ∧ Ent C ω a ds ∧ Lot ds ∧ (match oddAt ds with
  | none => ∃ ys : List Str, ds = ys.map PyData.str ∧ (ys.map (·.length)).sum + ys.length * z.length ≤ 16777216 ∧ q (.str (Txt.join z ys)) ω
  | some i => xx N [("at", .int ((i : Nat) : Int))] ω)
theorem rpAll_txts {K : PySem.W.Frag} {J : Hp} : ∀ {ns : List Str} {vs : List V}, RpAll K J vs (ns.map PyData.str) → vs = ns.map V.str
  | [], _, h => by cases h; rfl
  | n :: ns, _, h => by
    cases h with
    | cons h1 h2 =>
      cases h1
      rw [rpAll_txts h2]
      rfl
def dJoinR (to te : DTE) (ρ : DS) (ω : Wd) (q : DQ) (x : DXK) : Prop := to ρ ω (fun o ω1 => ∃ a : Str, o = .str a ∧ te ρ ω1 (fun r ω2 => ∃ ys : List Str, rsv ω2 r = .list (ys.map PyData.str) ∧ (ys.map (·.length)).sum + ys.length * a.length ≤ 16777216 ∧ q (.str (Txt.join a ys)) ω2) x) x
theorem de_joinR {W : WX} {X : Cx} {K : PySem.W.Frag} {o e : Expr} {to te : DTE} {apos pos : Pos} (hK : X.K = K) (ho : DE W X K o to) (he : DE W X K e te) (hs : starEach [e] X.env = [(false, eval e X.env)] := by rfl) (hbase : attributeBase o "join" X.env (eval o X.env) = eval o X.env := by rfl) (hline : (apos.endLine == pos.line) = true := by rfl) :
    DE W X K (.Call (.Attribute o "join" apos) [e] [] pos) (dJoinR to te) := by
  subst hK
  obtain ⟨t, pp, k⟩ := ho
  obtain ⟨u, qq, l⟩ := he
  refine ⟨_, pe_join pp qq hs hbase hline, fun σ H J ω ρ q x Q w s cq cx z => k σ H J ω ρ _ x _ w s (fun r ω1 v J1 H1 z1 g1 w1 rp => ?_) cx z⟩
  obtain ⟨a, rfl, z1⟩ := z1
  cases rp
  refine ⟨⟨a, rfl⟩, l σ H1 J1 ω1 ρ _ x _ w1 (s.mono g1.jj) (fun r2 ω2 v2 J2 H2 z2 g2 w2 rp2 => ?_) (cx.step g1) z1⟩
  obtain ⟨ys, e1, hl, z3⟩ := z2
  obtain ⟨b, vs, rfl, hb, ra⟩ := rp_list w2 rp2 e1
  rw [rpAll_txts ra] at hb
  exact ⟨a, _, ys, rfl, rfl, .inl (SqL.of hb), hl, cq _ _ _ _ _ z3 (g1.trans g2) w2 (.str _)⟩
theorem Lot.lay {ds : List PyData} (h : Lot ds) : (PyData.list ds).canLay0 = true := val_lay h.val
theorem eqv_nilU (W : List PyData) : PyData.eqv (.list W) (.list []) = W.isEmpty := by
  cases W with
  | nil => simp [PyData.eqv, PyData.eqvAll]
  | cons n p => simp [PyData.eqv, PyData.eqvAll]
theorem str_emptyU (s : Str) : Str.empty ++ s = s := by
  obtain ⟨a⟩ := s
  show (⟨#[] ++ a⟩ : Str) = ⟨a⟩
  simp
theorem odd_none {ds : List PyData} (h : ∀ (j : Nat) (d : PyData), ds[j]? = some d → isS d = true) : oddAt ds = none := by
  unfold oddAt
  rw [List.findIdx?_eq_none_iff]
  intro d hd
  obtain ⟨j, hj⟩ := List.getElem?_of_mem hd
  rw [h j d hj]
  rfl
theorem odd_some {ds : List PyData} {i : Nat} {d : PyData} (h : ∀ (j : Nat) (d : PyData), j < i → ds[j]? = some d → isS d = true) (e : ds[i]? = some d) (n : isS d = false) : oddAt ds = some i := by
  unfold oddAt
  rw [List.findIdx?_eq_some_iff_getElem]
  obtain ⟨lt, e1⟩ := List.getElem?_eq_some_iff.mp e
  refine ⟨lt, by rw [e1, n]; rfl, fun j hj => ?_⟩
  have : j < ds.length := by omega
  rw [h j _ hj (List.getElem?_eq_getElem this)]
  decide
theorem all_strs {ds : List PyData} (h : ∀ d ∈ ds, isS d = true) : ∃ ys : List Str, ds = ys.map PyData.str := by
  induction ds with
  | nil => exact ⟨[], rfl⟩
  | cons d ds ih =>
    obtain ⟨ys, rfl⟩ := ih fun e he => h e (List.mem_cons_of_mem _ he)
    have := h d List.mem_cons_self
    cases d with
    | str x => exact ⟨x :: ys, rfl⟩
    | _ => cases this
section
variable {P : Program} {w : World} {K : PySem.W.Frag} {mg : Str → Option Value} {base : Heap} {C CN : Addr}
theorem m_reprU (xc : OC K mg "Entries" "rows" C) (h : HasM K C "__repr__" "Entries.__repr__" sReprU) (B : Bi mg) : Mfn P w K mg base CX0 1 C "__repr__" ["self"] (spD K (dsReprU C)) := by
  refine mfnD (k := 0) h B scReprU (fun _ _ _ _ _ _ us hl => match us, hl with | [_], _ => rfl) (fun ts ω q xx h => ?_) (fun f cv A out s H E c => ⟨_, dss_gh (dss_one (ds_ret (de_joined (dj_cons de_str (dj_cons (de_fmtR rfl c.g c.r.units (de_fld rfl (de_var (pv 0)))) (dj_cons de_str dj_nil)))))), fun ts ω q xx z => ?_⟩)
  · obtain ⟨a, ds, rfl, _⟩ := h
    rfl
  obtain ⟨a, ds, rfl, ⟨dx, p, ea⟩, lot, z⟩ := z
  intro lw
  obtain ⟨ne, hp⟩ := lw.ent ea
  refine ⟨_, Gh.open ea, ?_⟩
  have ok := lot.ok (by decide) (by decide)
  have hw := shown_wt _ ok.1
  have hz := val_wt _ lot.val
  have hs := lot.size
  have l1 : (Str.length "Entries(") = 8 := by decide
  have l2 : (Str.length ")") = 1 := by decide
  have la : ∀ x y : Str, (x ++ y).length = x.length + y.length := fun x y => by
    show (x.cps ++ y.cps).size = _
    rw [Array.size_append]
    rfl
  have sz : 2000000 ≤ sizeLine := by decide
  unfold dRet dFld dFmtR dJoined dJs dJs dJs dJs
  simp only [dAnd, dAndV, dAsg, dC, dCB, dCall, dCallX, dChain, dCons, dDrop, dErr1, dIf, dIfS, dIsi, dLst, dNext, dNil, dNot, dNotV, dOp, dOr, dOrV, dPar, dRet, dRetN, dRetS, dSeq, dSet, dSl, dTest, dTup, dVar, dgCons, dgName, dgNil, dgTup, dNeg, endsD, xcOf, dFz, startD, wipeD, List.getElem?_cons_zero, List.getElem?_cons_succ, List.set_cons_zero, List.set_cons_succ, List.map_cons, List.map_nil, List.cons_append, List.nil_append, List.length_cons, List.length_nil, List.replicate]
  refine ⟨_, rfl, by rw [str_emptyU, l1]; omega, a, C, dx, _, _, rfl, opn_a ne, xc.cd.cl, xc.na, rfl, ds, .inl (Full.cell opn_p), ok, _, rfl, ?_, _, rfl, ?_, fun _ => ⟨_, Gh.close (opn_a ne) opn_p, ?_⟩⟩
  · rw [str_emptyU, la, l1]; omega
  · rw [str_emptyU, la, la, l1, l2]; omega
  · rw [str_emptyU, cls_opn0 ea hp ne]; exact z
theorem m_packedU (xc : OC K mg "Entries" "rows" C) (h : HasM K C "packed" "Entries.packed" sPackedU) (B : Bi mg) (D_meant_by : Dfn P w K mg base CX0 31 "meant_by" ["value"] (spD K (dsMeantX C))) : Mfn P w K mg base CX0 32 C "packed" ["self"] (spD K (dsPackedU C)) := by
  refine mfnD (k := 31) h B scPackedU (fun _ _ _ _ _ _ us hl => match us, hl with | [_], _ => rfl) (fun ts ω q xx h => ?_) (fun f cv A out s H E c => ⟨_, dss_gh (dss_cons (ds_if (dt_cmp (do_eqF rfl c.r.units) (de_fld rfl (de_var (pv 0))) (de_lst da_nil) (nomark _)) (dss_one (ds_ret de_non)) dss_nil)
    (dss_cons (ds_if (DW.dt (dw_and (dt_cmp (do_eqF rfl c.r.units) (de_callB (dc_lenF rfl) (by rfl) c.b.len (by decide +kernel) (da_cons (de_fld rfl (de_var (pv 0))) da_nil)) de_int (nomark _)) (dw_and1 (dt_val (de_isIxF (T := "str") rfl kit_str (by rfl) c.b.isinstance (de_fld rfl (de_var (pv 0))) de_int (pe_bltn (v := .ty "str") (by rfl) c.b.str (by decide +kernel) rfl) (fun _ _ => rfl)))))) (dss_one (ds_ret (de_ixF rfl (de_fld rfl (de_var (pv 0))) de_int (fun _ _ => rfl)))) dss_nil)
    (dss_one (ds_ret (de_gh (de_d D_meant_by c (by omega) (by rfl) (da_cons (de_var (pv 0)) da_nil))))))), fun ts ω q xx z => ?_⟩)
  · obtain ⟨a, ds, rfl, _⟩ := h
    rfl
  obtain ⟨a, ds, rfl, ⟨dx, p, ea⟩, lot, z⟩ := z
  intro lw
  obtain ⟨ne, hp⟩ := lw.ent ea
  refine ⟨_, Gh.open ea, ?_⟩
  have val := lot.val
  simp only [isVal] at val
  have fr : Ful (opn ω a C dx p "rows" ds) (refD p) (.list ds) := .inl (Full.cell opn_p)
  have ie : ∀ n : Nat, SeqAt.shaped (.int (n : Int)) = true := fun n => by simp [SeqAt.shaped, PyData.canLay0, PyData.depth]
  unfold dSeq dFld dIsIxF
  simp only [dAnd, dAndV, dAsg, dC, dCB, dCall, dCallX, dChain, dCons, dDrop, dErr1, dIf, dIfS, dIsi, dLst, dNext, dNil, dNot, dNotV, dOp, dOr, dOrV, dPar, dRet, dRetN, dRetS, dSeq, dSet, dSl, dTest, dTup, dVar, dgCons, dgName, dgNil, dgTup, dNeg, endsD, xcOf, dFz, startD, wipeD, List.getElem?_cons_zero, List.getElem?_cons_succ, List.set_cons_zero, List.set_cons_succ, List.map_cons, List.map_nil, List.cons_append, List.nil_append, List.length_cons, List.length_nil, List.replicate]
  refine ⟨a, C, dx, _, _, rfl, opn_a ne, xc.cd.cl, xc.na, rfl, Nat.zero_le _, _, _, fr, Ful.rfl', lot.shaped, by decide +kernel, ?_⟩
  rw [eqv_nilU]
  have last : packU ds = .list ds → (dRet (dGhE (dCall (dsMeantX C) (dCons (dVar 0) dNil)))) (endsD (fun r ω1 => Lw ω1 → ∃ ω2, Gh ω1 ω2 ∧ q r ω2) (fun C fs ω1 => Lw ω1 → ∃ ω2, Gh ω1 ω2 ∧ xx C fs ω2)) [some (refD a)] (opn ω a C dx p "rows" ds) := fun e => by
    unfold dRet dGhE
    simp only [dAnd, dAndV, dAsg, dC, dCB, dCall, dCallX, dChain, dCons, dDrop, dErr1, dIf, dIfS, dIsi, dLst, dNext, dNil, dNot, dNotV, dOp, dOr, dOrV, dPar, dRet, dRetN, dRetS, dSeq, dSet, dSl, dTest, dTup, dVar, dgCons, dgName, dgNil, dgTup, dNeg, endsD, xcOf, dFz, startD, wipeD, List.getElem?_cons_zero, List.getElem?_cons_succ, List.set_cons_zero, List.set_cons_succ, List.map_cons, List.map_nil, List.cons_append, List.nil_append, List.length_cons, List.length_nil, List.replicate]
    intro _
    refine ⟨_, Gh.close (opn_a ne) opn_p, ?_⟩
    rw [cls_opn0 ea hp ne]
    refine ⟨_, ds, rfl, .inl ⟨a, dx, p, rfl, ea⟩, lot, fun r hr _ => ⟨_, Gh.refl, fun _ => ⟨_, Gh.refl, z _ _ (Keep.new hr) ?_⟩⟩⟩
    rw [e]
    exact .inr ⟨rfl, rfl, .inl (Full.cell updW_same)⟩
  have cl : ∀ u, Vf ω u (packU ds) → Lw (opn ω a C dx p "rows" ds) → ∃ ω2, Gh (opn ω a C dx p "rows" ds) ω2 ∧ q u ω2 := fun u hu _ => ⟨_, Gh.close (opn_a ne) opn_p, by rw [cls_opn0 ea hp ne]; exact z _ _ Keep.refl hu⟩
  cases ds with
  | nil => exact iteT (cl _ (.inl rfl))
  | cons d rest =>
    refine iteF ⟨a, C, dx, _, _, rfl, opn_a ne, xc.cd.cl, xc.na, rfl, _, _, rfl, fr, lot.lay, .int _, .int 1, Ful.rfl', Ful.rfl', ie _, by decide, ?_⟩
    rw [eqv_int]
    cases rest with
    | cons e rest =>
      have e1 : decide (((d :: e :: rest).length : Int) = 1) = false := decide_eq_false (by simp only [List.length_cons]; omega)
      rw [e1]
      refine iteF (iteF (last ?_))
      cases d <;> rfl
    | nil =>
      refine iteT ⟨a, C, dx, _, _, rfl, opn_a ne, xc.cd.cl, xc.na, rfl, [d], 0, d, rfl, fr, lot.lay, rfl, ?_⟩
      cases d with
      | str x => exact iteT ⟨a, C, dx, _, _, rfl, opn_a ne, xc.cd.cl, xc.na, rfl, [.str x], 0, .str x, rfl, fr, lot.lay, rfl, rfl, by simpa [isValAll] using val, cl _ (.inl rfl)⟩
      | none => exact iteF (last rfl)
      | list _ => exact iteF (last rfl)
      | _ => simp [isValAll, isVal] at val
end
end Tx

namespace Tx
open PySem PySem.Spec PyProof.Rows L2
/-! ## k14: joined -/
/-- 0 self, 1 between, 2 at, 3 one -/
abbrev sJoinedU : Stmt := inClass (top 14) 19
theorem scJoinedU : FnScope ["self", "between", "at", "one"] ["self", "between"] (defScope sJoinedU) := ⟨rfl, rfl, rfl, by decide +kernel, rfl, by decide +kernel, by decide +kernel⟩
section
variable {P : Program} {w : World} {K : PySem.W.Frag} {mg : Str → Option Value} {base : Heap} {C CN : Addr}
theorem m_joinedU (xc : OC K mg "Entries" "rows" C) (X_NotText : Err1 P w K mg base "NotText" "at" CN) (h : HasM K C "joined" "Entries.joined" sJoinedU) (B : Bi mg) : Mfn P w K mg base (L2N.CX P w) 3 C "joined" ["self", "between"] (spD K (dsJoinedU C CN)) := by
  refine mfnDXN (k := 2) h B scJoinedU (fun _ _ _ _ _ _ us hl => match us, hl with | [_, _], _ => rfl) (fun ts ω q xx h => ?_) (fun f cv A out s H E c => ⟨_, dss_gh (dss_cons (ds_forP (passes_of rfl) rfl (dio_enumO rfl (by rfl) c.b.enumerate (da_cons (de_fld rfl (de_var (pv 0))) da_nil)) (dg_tup rfl rfl (dgs_cons (dg_name (pg_name (i := 2) scJoinedU.nd rfl (Or.inl rfl))) (dgs_cons (dg_name (pg_name (i := 3) scJoinedU.nd rfl (Or.inl rfl))) dgs_nil)))
    (dss_one (ds_if (dt_not (dt_val (de_isiF (T := "str") rfl kit_str (by rfl) c.b.isinstance (de_var (pv 3)) (pe_bltn (v := .ty "str") (by rfl) c.b.str (by decide +kernel) rfl)))) (dss_one (ds_err1N (k := 0) X_NotText rfl (c.r.mono (by omega)) (L2N.takes_of rfl rfl rfl rfl) (de_var (pv 2)) (by rfl))) dss_nil)))
    (dss_one (ds_ret (de_joinR rfl (de_var (pv 1)) (de_fld rfl (de_var (pv 0))))))), fun ts ω q xx z => ?_⟩)
  · obtain ⟨a, ds, y, rfl, _⟩ := h
    rfl
  obtain ⟨a, ds, y, rfl, ⟨dx, p, ea⟩, lot, z⟩ := z
  intro lw
  obtain ⟨ne, hp⟩ := lw.ent ea
  refine ⟨_, Gh.open ea, ?_⟩
  unfold dForP dioEnumO dFld dIsiF dJoinR
  simp only [dAnd, dAndV, dAsg, dC, dCB, dCall, dCallX, dChain, dCons, dDrop, dErr1, dIf, dIfS, dIsi, dLst, dNext, dNil, dNot, dNotV, dOp, dOr, dOrV, dPar, dRet, dRetN, dRetS, dSeq, dSet, dSl, dTest, dTup, dVar, dgCons, dgName, dgNil, dgTup, dNeg, endsD, xcOf, dFz, startD, wipeD, List.getElem?_cons_zero, List.getElem?_cons_succ, List.set_cons_zero, List.set_cons_succ, List.map_cons, List.map_nil, List.cons_append, List.nil_append, List.length_cons, List.length_nil, List.replicate]
  have el : (enumD ds).length = ds.length := by unfold enumD; rw [List.length_mapIdx]
  refine ⟨a, C, dx, _, _, rfl, opn_a ne, xc.cd.cl, xc.na, rfl, p, ds, rfl, opn_p, fun i ρ ω' => (∃ u2 u3, ρ = [some (refD a), some (.str y), u2, u3]) ∧ ω' = opn ω a C dx p "rows" ds ∧ ∀ j d, j < i → ds[j]? = some d → isS d = true, ⟨⟨_, _, rfl⟩, rfl, fun j d h => absurd h (Nat.not_lt_zero j)⟩, ?_, ?_, ?_⟩
  · rintro i ρ ω' ⟨_, rfl, _⟩
    exact opn_p
  · rintro i x ρ ω' hx ⟨⟨u2, u3, rfl⟩, rfl, ah⟩
    unfold enumD at hx
    rw [List.getElem?_mapIdx] at hx
    obtain ⟨d, hd, rfl⟩ := Option.map_eq_some_iff.mp hx
    simp only [dAnd, dAndV, dAsg, dC, dCB, dCall, dCallX, dChain, dCons, dDrop, dErr1, dIf, dIfS, dIsi, dLst, dNext, dNil, dNot, dNotV, dOp, dOr, dOrV, dPar, dRet, dRetN, dRetS, dSeq, dSet, dSl, dTest, dTup, dVar, dgCons, dgName, dgNil, dgTup, dNeg, endsD, xcOf, dFz, startD, wipeD, List.getElem?_cons_zero, List.getElem?_cons_succ, List.set_cons_zero, List.set_cons_succ, List.map_cons, List.map_nil, List.cons_append, List.nil_append, List.length_cons, List.length_nil, List.replicate]
    refine ⟨rfl, trivial, d, Ful.rfl', ?_, ?_⟩
    · obtain ⟨h1, _, _⟩ := lot.get hd
      exact val_lay h1
    cases e : isS d with
    | true =>
      simp only [Bool.not_true, Bool.false_eq_true, if_false]
      refine ⟨⟨_, _, rfl⟩, trivial, fun j d' hj hd' => ?_⟩
      by_cases q : j = i
      · rw [q, hd] at hd'; cases hd'; exact e
      · exact ah j d' (by omega) hd'
    | false =>
      simp only [Bool.not_false, if_true]
      rw [odd_some ah hd e] at z
      refine fun _ => ⟨_, Gh.close (opn_a ne) opn_p, ?_⟩
      rw [cls_opn0 ea hp ne]
      exact z
  · rintro ρ ω' ⟨⟨u2, u3, rfl⟩, rfl, ah⟩
    rw [el] at ah
    rw [odd_none fun j d h => ah j d (List.getElem?_eq_some_iff.mp h).1 h] at z
    obtain ⟨ys, rfl, hl, z⟩ := z
    simp only [dAnd, dAndV, dAsg, dC, dCB, dCall, dCallX, dChain, dCons, dDrop, dErr1, dIf, dIfS, dIsi, dLst, dNext, dNil, dNot, dNotV, dOp, dOr, dOrV, dPar, dRet, dRetN, dRetS, dSeq, dSet, dSl, dTest, dTup, dVar, dgCons, dgName, dgNil, dgTup, dNeg, endsD, xcOf, dFz, startD, wipeD, List.getElem?_cons_zero, List.getElem?_cons_succ, List.set_cons_zero, List.set_cons_succ, List.map_cons, List.map_nil, List.cons_append, List.nil_append, List.length_cons, List.length_nil, List.replicate]
    refine ⟨y, rfl, a, C, dx, _, _, rfl, opn_a ne, xc.cd.cl, xc.na, rfl, ys, rsv_cell opn_p, hl, fun _ => ⟨_, Gh.close (opn_a ne) opn_p, ?_⟩⟩
    rw [cls_opn0 ea hp ne]
    exact z
end
end Tx

namespace Tx
open PySem PySem.Spec PyProof.Rows L2
/-! ## int(..) and str(..) over data; enumerate's rows -/
def intOD : RD1 := fun xs _ Q => match xs with
  | [.int i] => Q (.int i)
  | [.bool b] => Q (.int (if b then 1 else 0))
  | _ => False
def strOD : RD1 := fun xs _ Q => match xs with
  | [.int i] => i.natAbs.log2 < 1920 ∧ Q (.str (toString i))
  | _ => False
section
variable {X : Cx} {K : PySem.W.Frag}
theorem dc_int (hK : X.K = K) : CallR X (.type "int") (liftA K intOD) := by
  subst hK
  intro pins s σ H xs us Q I rv ⟨J, ω, ds, q, w, rs, c, z⟩
  unfold intOD at z
  split at z
  · cases rs with
    | cons r1 r2 =>
    cases r1
    cases r2
    exact call_int1 pins s σ H _ us Q I rv (.inl ⟨_, rfl, c.now w z (.int _)⟩)
  · cases rs with
    | cons r1 r2 =>
    cases r1
    cases r2
    exact call_int1 pins s σ H _ us Q I rv (.inr ⟨_, rfl, c.now w z (.int _)⟩)
  · exact False.elim z
theorem dc_str (hK : X.K = K) : CallR X (.type "str") (liftA K strOD) := by
  subst hK
  intro pins s σ H xs us Q I rv ⟨J, ω, ds, q, w, rs, c, z⟩
  unfold strOD at z
  split at z
  · cases rs with
    | cons r1 r2 =>
    cases r1
    cases r2
    exact call_str_int pins s σ H _ us Q I rv ⟨_, rfl, z.1, c.now w z.2 (.str _)⟩
  · exact False.elim z
end
theorem enumD_get {xs : List PyData} {i : Nat} {y : PyData} (h : (enumD xs)[i]? = some y) : ∃ d, xs[i]? = some d ∧ y = .tuple [.int ((i : Nat) : Int), d] := by
  unfold enumD at h
  rw [List.getElem?_mapIdx] at h
  obtain ⟨d, h1, h2⟩ := Option.map_eq_some_iff.mp h
  exact ⟨d, h1, h2.symm⟩
theorem enumD_len (xs : List PyData) : (enumD xs).length = xs.length := by unfold enumD; rw [List.length_mapIdx]
end Tx

namespace Tx
open PySem PySem.Spec PyProof.Rows L2
/-! ## k14: rows; an index that is refused -/
/-- 0 _law_one, 1 _law_at, 2 _law_told, 3 e -/
abbrev sRefused : Stmt := top 24
theorem scRefused : FnScope ["_law_one", "_law_at", "_law_told", "e"] ["_law_one", "_law_at"] (defScope sRefused) := ⟨rfl, rfl, rfl, by decide +kernel, rfl, by decide +kernel, by decide +kernel⟩
structure OkE (ds : List PyData) : Prop where
  len : ds.length ≤ 60
  all : ∀ d ∈ ds, Val 3 10 d
theorem OkE.v {ds : List PyData} (h : OkE ds) : Val 4 700 (.list ds) := by
  refine ⟨?_, ?_, ?_⟩
  · simp only [isVal]
    exact isValAll_iff.mpr fun d hd => (h.all d hd).val
  · have := depthAll_le (n := 3) (xs := ds) fun d hd => (h.all d hd).deep
    simp only [PyData.depth]
    omega
  · have h1 := szAll_le (B := 10) (xs := ds) fun d hd => (h.all d hd).size
    have h2 := h.len
    simp only [szD]
    omega
theorem OkE.lot {ds : List PyData} (h : OkE ds) : Lot ds := h.v.mono (by decide) (by decide)
theorem OkE.ok {ds : List PyData} (h : OkE ds) : Ok (.list ds) := h.v.ok (by decide) (by decide)
theorem OkE.val {ds : List PyData} (h : OkE ds) : Val 19 900000 (.list ds) := h.v.mono (by decide) (by decide)
theorem OkE.cat {ds es : List PyData} (h : OkE ds) (g : OkE es) (l : ds.length + es.length ≤ 60) : OkE (ds ++ es) := ⟨by rw [List.length_append]; exact l, fun d hd => (List.mem_append.mp hd).elim (h.all d) (g.all d)⟩
theorem OkE.set {ds : List PyData} {d : PyData} (h : OkE ds) (j : Nat) (v : Val 3 10 d) : OkE (ds.set j d) := by
  refine ⟨by rw [List.length_set]; exact h.len, fun e he => ?_⟩
  rcases List.mem_or_eq_of_mem_set he with he | rfl
  · exact h.all e he
  · exact v
theorem OkE.eqv {ds : List PyData} (h : OkE ds) : PyData.eqv (.list ds) (.list ds) = true := SeqAt.eqv_refl _ (fine_lay _ (val_fine _ h.v.val))
def dsRefused (C : Addr) : DSp := fun ts ω q _ => ∃ m ds k, ts = [refD m, k] ∧ Ent C ω m ds ∧ Lot ds ∧ Plain k ∧ SeqAt.shaped k = true ∧ PyData.eqv k k = true ∧ ixOf ds.length k = none ∧ q (.bool true) ω
section
variable {P : Program} {w : World} {K : PySem.W.Frag} {mg : Str → Option Value} {base : Heap} {C CN CX' : Addr}
theorem dd_refused (xc : OC K mg "Entries" "rows" C) (gi : GI K C) (h : Has K mg "_law_is_refused" sRefused) (B : Bi mg) (M_getitem : Mfn P w K mg base (L2.CX P w) 31 C "__getitem__" ["self", "at"] (spD K (dsGetX C CN)))
    (M_set_entry : Mfn P w K mg base (L2.CX P w) 32 C "set_entry" ["self", "at", "value"] (spD K (dsSetX C CN))) (X_NoEntry : Err1 P w K mg base "NoEntry" "at" CN) : Dfn P w K mg base CX0 33 "_law_is_refused" ["_law_one", "_law_at"] (spD K (dsRefused C)) := by
  refine dfnD (k := 32) h B scRefused (fun _ _ _ _ _ _ us hl => match us, hl with | [_, _], _ => rfl) (fun ts ω q x h => ?_) (fun f cv A out s H E c => ⟨_, (dss_cons (ds_set (i := 2) scRefused.nd rfl (Or.inl rfl) de_int)
    (dss_cons (ds_try_as (i := 3) rfl rfl rfl scRefused.nd rfl rfl ⟨rfl, by decide, Or.inl X_NoEntry.gC⟩ takes0
    (fun W pn xe tk po => (dss_one (ds_expr (de_ixO rfl M_getitem gi c (by omega) (pxX tk) (de_var (pv 0)) (de_var (pv 1)) (fun _ _ => rfl)))))
    (fun a oe cls d pn hz hf => (dss_one (ds_set (i := 2) scRefused.nd rfl (Or.inl rfl) (de_op (do_add rfl) (de_var (pv 2)) (de_callTy (dc_int rfl) (by rfl) c.b.int (by decide +kernel) (da_cons (de_cmp (do_eq rfl c.r.units) (de_xf rfl X_NoEntry.xf X_NoEntry.noF hz hf (de_var (pv 3))) (de_var (pv 1)) (nomark _)) da_nil)))))))
    (dss_cons (ds_try_as (i := 3) rfl rfl rfl scRefused.nd rfl rfl ⟨rfl, by decide, Or.inl X_NoEntry.gC⟩ takes0
    (fun W pn xe tk po => (dss_one (ds_expr (de_meth rfl M_set_entry xc.cd.cl c (by omega) (pxX tk) (de_var (pv 0)) (da_cons (de_var (pv 1)) (da_cons de_str da_nil))))))
    (fun a oe cls d pn hz hf => (dss_one (ds_set (i := 2) scRefused.nd rfl (Or.inl rfl) (de_op (do_add rfl) (de_var (pv 2)) (de_callTy (dc_int rfl) (by rfl) c.b.int (by decide +kernel) (da_cons (de_cmp (do_eq rfl c.r.units) (de_xf rfl X_NoEntry.xf X_NoEntry.noF hz hf (de_var (pv 3))) (de_var (pv 1)) (nomark _)) da_nil)))))))
    (dss_one (ds_ret (de_cmp (do_eq rfl c.r.units) (de_var (pv 2)) de_int (nomark _))))))), fun ts ω q x h => ?_⟩)
  · obtain ⟨m, ds, k, rfl, _⟩ := h; rfl
  obtain ⟨m, ds, k, rfl, ⟨dx, p, hM⟩, lot, pl, sh, ev, hk, z⟩ := h
  have xd : ∀ {ω ω2 : Wd} {dd : Option Addr}, XdIn dd [("at", k)] ω ω2 → ∃ d, dd = some d ∧ ω2 d = some (.xd [("at", k)]) ∧ dropX dd ω2 = ω := fun {ω ω2 dd} xi => by
    rcases xi with ⟨_, y, _⟩ | ⟨d, rfl, n0, rfl⟩
    · cases y
    · exact ⟨d, rfl, updW_same, delW_updW n0⟩
  refine ⟨⟨m, _, rfl, hM, rfl, rfl⟩, m, dx, p, ds, k, rfl, hM, lot, pl, ?_⟩
  rw [hk]
  refine ⟨true, X_NoEntry.self, fun _ a dd ω2 xi => ?_, fun y => Bool.noConfusion y⟩
  obtain ⟨d, rfl, e1, e2⟩ := xd xi
  refine ⟨rfl, rfl, d, _, k, rfl, e1, by simp [List.lookup], ?_⟩
  simp only [dAnd, dAndV, dAsg, dC, dCB, dCall, dCallX, dChain, dCons, dDrop, dErr1, dIf, dIfS, dIsi, dLst, dNext, dNil, dNot, dNotV, dOp, dOr, dOrV, dPar, dRet, dRetN, dRetS, dSeq, dSet, dSl, dTest, dTup, dVar, dgCons, dgName, dgNil, dgTup, dNeg, endsD, xcOf, dFz, startD, wipeD, List.getElem?_cons_zero, List.getElem?_cons_succ, List.set_cons_zero, List.set_cons_succ, List.map_cons, List.map_nil, List.cons_append, List.nil_append, List.length_cons, List.length_nil, List.replicate]
  refine eqD_of (.inl rfl) (.inl rfl) sh sh ?_
  rw [ev]
  rw [e2]
  refine ⟨m, _, rfl, hM, ⟨rfl, rfl⟩, m, dx, p, ds, k, .str "never", .str "never", rfl, hM, lot.len, pl, .inl rfl, ⟨by decide +kernel, by decide +kernel, by decide +kernel⟩, ?_⟩
  rw [hk]
  refine ⟨true, X_NoEntry.self, fun _ a dd ω2 xi => ?_, fun y => Bool.noConfusion y⟩
  obtain ⟨d, rfl, e1, e2⟩ := xd xi
  refine ⟨rfl, rfl, d, _, k, rfl, e1, by simp [List.lookup], ?_⟩
  simp only [dAnd, dAndV, dAsg, dC, dCB, dCall, dCallX, dChain, dCons, dDrop, dErr1, dIf, dIfS, dIsi, dLst, dNext, dNil, dNot, dNotV, dOp, dOr, dOrV, dPar, dRet, dRetN, dRetS, dSeq, dSet, dSl, dTest, dTup, dVar, dgCons, dgName, dgNil, dgTup, dNeg, endsD, xcOf, dFz, startD, wipeD, List.getElem?_cons_zero, List.getElem?_cons_succ, List.set_cons_zero, List.set_cons_succ, List.map_cons, List.map_nil, List.cons_append, List.nil_append, List.length_cons, List.length_nil, List.replicate]
  refine eqD_of (.inl rfl) (.inl rfl) sh sh ?_
  rw [ev]
  show q _ (dropX (some d) ω2)
  rw [e2]
  exact z
end
end Tx

namespace Tx
open PySem PySem.Spec PyProof.Rows L2
/-! ## k14: _law_is_right -/
/-- 0 _law_one, 1 _law_due, 2 e, 3 _law_text_here, 4 _law_each -/
abbrev sRightU : Stmt := top 25
theorem scRightU : FnScope ["_law_one", "_law_due", "e", "_law_text_here", "_law_each"] ["_law_one", "_law_due"] (defScope sRightU) := ⟨rfl, rfl, rfl, by decide +kernel, rfl, by decide +kernel, by decide +kernel⟩
def dsRightU (C : Addr) : DSp := fun ts ω q _ => ∃ m r ds, ts = [refD m, refD r] ∧ Ent C ω m ds ∧ ω r = some (.lst ds) ∧ OkE ds ∧ ∀ ω', Keep ω ω' → q (.bool true) ω'
def ra14 (C : Addr) : DTS := dIfS (dOr (dTest (dOp neD (dCBM (rmRepr C (dsReprU C)) (dCons (dVar 0) dNil)) (dOp addD (dOp addD (dC (.str "Entries(")) (dCB reprD (dCons (dVar 1) dNil))) (dC (.str ")")))))
  (dOr (dTest (dOp neD (dCBM (rmLen C (dsLen C)) (dCons (dVar 0) dNil)) (dCB lenD (dCons (dVar 1) dNil)))) (dTest (dOp neD (dCBM (rmBool C (dsBool C)) (dCons (dVar 0) dNil)) (dOp neD (dVar 1) (dLst dNil)))))) (dRet (dC (.bool false))) dNext
def rb14 (K : PySem.W.Frag) (C : Addr) : DTS := dIfS (dOr (dTest (dOpM (rmNe C (dsEq C)) (dMake C (dsInitU C) (dCons (dMeth C "packed" (dsPackedU C) (dVar 0) dNil) dNil)) (dVar 0)))
  (dOr (dTest (dOpM (rmNe C (dsEq C)) (dVar 0) (dMake C (dsInitU C) (dCons (dVar 1) dNil)))) (dTest (dOpM (rmEq C (dsEq C)) (dOpM (rmOwn C "__add__" (RgtOk K C Operator.Add.info.snd) (dsAddU C)) (dVar 0) (dC (.str "z"))) (dVar 0))))) (dRet (dC (.bool false))) dNext
def rc14 (C CN : Addr) : DTS := dIfS (dTest (dOp neD (dVar 1) (dLst dNil))) (dIfS (dOr (dTest (dOp neD (dCB reprD (dCons (dIxX C (dsGetX C CN) (dVar 0) (dNeg (dC (.int 1)))) dNil)) (dCB reprD (dCons (dOp ixD (dVar 1) (dNeg (dC (.int 1)))) dNil))))
  (dOr (dTest (dOpM (rmNotIn C (dsContains C)) (dOp ixD (dVar 1) (dC (.int 0))) (dVar 0))) (dTest (dOp neD (dIxX C (dsGetX C CN) (dVar 0) (dC (.int 0))) (dOp ixD (dVar 1) (dC (.int 0))))))) (dRet (dC (.bool false))) dNext) dNext
def rd14 (K : PySem.W.Frag) (C CX' : Addr) : DTS := dSeq (dTryAs K (.ref CX') 2 (dSet 3 (dMeth C "joined" (dsJoinedU C CX') (dVar 0) (dCons (dC (.str "-")) dNil))) fun a cls d =>
  dRet (dOp eqD (dLc (diList (dSl (dVar 1) none (some (dOp addD (dXf a cls d CX' "at" (dVar 2)) (dC (.int 1)))))) (dgName 4) (dNot (dTest (dIsi isS (dVar 4)))) (dVar 4) [4]) (dLst (dCons (dOp ixD (dVar 1) (dXf a cls d CX' "at" (dVar 2))) dNil))))
  (dRet (dOp eqD (dVar 3) (dJoinR (dC (.str "-")) (dVar 1))))
theorem ne_int {a : Int} {A B : Prop} (h : B) : if (!decide (a = a)) = true then A else B := by rw [decide_eq_true rfl]; exact iteF h
theorem neBU {ω : Wd} {a b : Bool} {Q : PyData → Prop} (e : a = b) (z : Q (.bool false)) : neD (.bool a) (.bool b) ω Q := by
  subst e
  refine neD_of .rfl' .rfl' rfl rfl ?_
  rw [show PyData.eqv (.bool a) (.bool a) = true by cases a <;> rfl]
  exact z
theorem meant_pack (ds : List PyData) : meantD (packU ds) = ds := by
  unfold packU
  split <;> rfl
theorem Val.pack {ds : List PyData} (h : Val 19 900000 (.list ds)) : Val 19 900000 (packU ds) := by
  have h1 := h.val
  have h2 := h.deep
  have h3 := h.size
  unfold packU
  split
  · exact ⟨rfl, by simp [PyData.depth], by simp [szD]⟩
  · exact ⟨by simpa [isVal, isValAll] using h1, by simp [PyData.depth], by simp only [szD, szAll] at *; omega⟩
  · exact h
theorem eqvAll_len : ∀ {xs ys : List PyData}, PyData.eqvAll xs ys = true → xs.length = ys.length
  | [], [], _ => rfl
  | x :: xs, y :: ys, h => by
    simp only [PyData.eqvAll, Bool.and_eq_true] at h
    rw [List.length_cons, List.length_cons, eqvAll_len h.2]
  | [], _ :: _, h => by simp [PyData.eqvAll] at h
  | _ :: _, [], h => by simp [PyData.eqvAll] at h
theorem eqv_ne {xs ys : List PyData} (h : xs.length ≠ ys.length) : PyData.eqv (.list xs) (.list ys) = false := by
  cases e : PyData.eqv (.list xs) (.list ys) with
  | false => rfl
  | true =>
    simp only [PyData.eqv] at e
    exact absurd (eqvAll_len e) h
theorem cut_take {xs : List PyData} {k : Nat} (h : k ≤ xs.length) : cutD xs none (some ((k : Nat) : Int)) = xs.take k := by
  unfold cutD
  rw [HT.sIx_none, HT.sIx_nat, List.drop_zero, Nat.min_eq_left h, Nat.sub_zero]
theorem take_flt {ds : List PyData} {i : Nat} {d : PyData} (h : ∀ (j : Nat) (d : PyData), j < i → ds[j]? = some d → isS d = true) (e : ds[i]? = some d) (n : isS d = false) : (ds.take (i + 1)).filter (fun d => !isS d) = [d] := by
  rw [List.take_add_one, e, List.filter_append, List.filter_eq_nil_iff.mpr fun x hx => ?_]
  · simp [List.filter, n]
  · obtain ⟨j, hj⟩ := List.getElem?_of_mem hx
    rw [List.getElem?_take] at hj
    split at hj
    · rename_i hl
      rw [h j x hl hj]
      decide
    · cases hj
theorem odd_at {ds : List PyData} {i : Nat} (h : oddAt ds = some i) : ∃ d, ds[i]? = some d ∧ isS d = false ∧ ∀ (j : Nat) (d : PyData), j < i → ds[j]? = some d → isS d = true := by
  unfold oddAt at h
  rw [List.findIdx?_eq_some_iff_getElem] at h
  obtain ⟨lt, h1, h2⟩ := h
  refine ⟨ds[i], List.getElem?_eq_getElem lt, by simpa using h1, fun j d hj hd => ?_⟩
  obtain ⟨lt2, e⟩ := List.getElem?_eq_some_iff.mp hd
  have := h2 j hj
  rw [e] at this
  simpa using this
theorem odd_no {ds : List PyData} (h : oddAt ds = none) : ∀ d ∈ ds, isS d = true := by
  unfold oddAt at h
  rw [List.findIdx?_eq_none_iff] at h
  intro d hd
  simpa using h d hd
section
variable {K : PySem.W.Frag} {mg : Str → Option Value} {C CN CX' m r : Addr} {ω : Wd} {ds : List PyData} {D : DEnds} {s2 s3 s4 : Option PyData}
theorem ra_ok (hM : Ent C ω m ds) (hR : ω r = some (.lst ds)) (ok : OkE ds) (nx : D.nx [some (refD m), some (refD r), s2, s3, s4] ω) : ra14 C D [some (refD m), some (refD r), s2, s3, s4] ω := by
  obtain ⟨dx, p, eM⟩ := hM
  have okk := ok.ok
  have hw := shown_wt _ okk.1
  have hz := val_wt _ ok.v.val
  have hs := ok.v.size
  have l1 : (Str.length "Entries(") = 8 := by decide
  have l2 : (Str.length ")") = 1 := by decide
  have la : ∀ x y : Str, (x ++ y).length = x.length + y.length := fun x y => by
    show (x.cps ++ y.cps).size = _
    rw [Array.size_append]
    rfl
  have sz : 2000000 ≤ sizeLine := by decide
  have hl := ok.len
  unfold ra14 dCBM
  simp only [dAnd, dAndV, dAsg, dC, dCB, dCall, dCallX, dChain, dCons, dDrop, dErr1, dIf, dIfS, dIsi, dLst, dNext, dNil, dNot, dNotV, dOp, dOr, dOrV, dPar, dRet, dRetN, dRetS, dSeq, dSet, dSl, dTest, dTup, dVar, dgCons, dgName, dgNil, dgTup, dNeg, endsD, xcOf, dFz, startD, wipeD, List.getElem?_cons_zero, List.getElem?_cons_succ, List.set_cons_zero, List.set_cons_succ, List.map_cons, List.map_nil, List.cons_append, List.nil_append, List.length_cons, List.length_nil, List.replicate]
  refine ⟨_, rfl, ⟨m, _, rfl, eM, rfl, rfl⟩, m, ds, rfl, ⟨dx, p, eM⟩, ok.v.mono (by decide) (by decide), entU ds, rfl, _, Full.cell hR, okk, ?_, ?_, ne_same ?_⟩
  · rw [l1]; omega
  · rw [la, l1, l2]; omega
  refine ⟨_, rfl, ⟨m, _, rfl, eM, rfl, rfl⟩, m, ds, rfl, ⟨dx, p, eM⟩, _, rfl, by omega, by omega, lenD_cell hR (ne_int ?_)⟩
  refine ⟨_, rfl, ⟨m, _, rfl, eM, rfl, rfl⟩, m, ds, rfl, ⟨dx, p, eM⟩, _, rfl, by decide, neD_of (Full.cell hR) (.inl rfl) ok.lot.shaped (by decide +kernel) (neBU ?_ (iteF nx))⟩
  rw [eqv_nilU]
  cases ds with
  | nil => rfl
  | cons _ _ => rfl
theorem rb_ok (xc : OC K mg "Entries" "rows" C) (hM : Ent C ω m ds) (hR : ω r = some (.lst ds)) (ok : OkE ds) (nx : ∀ ω', Keep ω ω' → D.nx [some (refD m), some (refD r), s2, s3, s4] ω') : rb14 K C D [some (refD m), some (refD r), s2, s3, s4] ω := by
  obtain ⟨dx, p, eM⟩ := hM
  have lot := ok.lot
  have okz : OkE [.str "z"] := ⟨by decide, fun d hd => by rw [List.mem_singleton.mp hd]; exact ⟨by decide +kernel, by decide +kernel, by decide +kernel⟩⟩
  have hz : Val 19 900000 (.list (ds ++ [.str "z"])) := by
    have h1 := ok.v.val
    have h2 := ok.v.deep
    have h3 := ok.v.size
    simp only [isVal] at h1
    refine ⟨?_, ?_, ?_⟩
    · simp only [isVal]
      exact isValAll_iff.mpr fun d hd => (List.mem_append.mp hd).elim (fun h => (ok.all d h).val) fun h => (okz.all d h).val
    · have := depthAll_le (n := 3) (xs := ds ++ [.str "z"]) fun d hd => (List.mem_append.mp hd).elim (fun h => (ok.all d h).deep) fun h => (okz.all d h).deep
      simp only [PyData.depth]
      omega
    · have g1 := szAll_le (B := 10) (xs := ds ++ [.str "z"]) fun d hd => (List.mem_append.mp hd).elim (fun h => (ok.all d h).size) fun h => (okz.all d h).size
      have g2 := ok.len
      rw [List.length_append] at g1
      simp only [szD, List.length_singleton] at *
      omega
  unfold rb14 dOpM dMake dMeth
  simp only [dAnd, dAndV, dAsg, dC, dCB, dCall, dCallX, dChain, dCons, dDrop, dErr1, dIf, dIfS, dIsi, dLst, dNext, dNil, dNot, dNotV, dOp, dOr, dOrV, dPar, dRet, dRetN, dRetS, dSeq, dSet, dSl, dTest, dTup, dVar, dgCons, dgName, dgNil, dgTup, dNeg, endsD, xcOf, dFz, startD, wipeD, List.getElem?_cons_zero, List.getElem?_cons_succ, List.set_cons_zero, List.set_cons_succ, List.map_cons, List.map_nil, List.cons_append, List.nil_append, List.length_cons, List.length_nil, List.replicate]
  refine ⟨m, _, rfl, eM, ⟨rfl, rfl⟩, m, ds, rfl, ⟨dx, p, eM⟩, lot, fun u ω1 k1 vf => mk_inU vf ok.val.pack fun n1 d1 p1 hn1 => ?_⟩
  have k2 := k1.trans (Keep.new (m := .ent C d1 p1 "rows" (meantD (packU ds))) hn1)
  have eN : updW ω1 n1 (.ent C d1 p1 "rows" (meantD (packU ds))) n1 = some (.ent C d1 p1 "rows" ds) := by rw [updW_same, meant_pack]
  generalize updW ω1 n1 (.ent C d1 p1 "rows" (meantD (packU ds))) = ω2 at k2 eN
  refine ⟨⟨n1, _, rfl, eN, rfl, rfl⟩, ⟨"x", m, _, rfl, k2 _ _ eM, rfl, rfl⟩, n1, m, ds, ds, rfl, ⟨d1, p1, eN⟩, ⟨dx, p, k2 _ _ eM⟩, lot, lot, _, rfl, ?_⟩
  rw [ok.eqv]
  refine iteF ?_
  refine mk_inU (d := .list ds) (.inr ⟨rfl, rfl, .inl (Full.cell (k2 _ _ hR))⟩) ok.val fun n3 d3 p3 hn3 => ?_
  have k3 := k2.trans (Keep.new (m := .ent C d3 p3 "rows" (meantD (.list ds))) hn3)
  have eN3 : updW ω2 n3 (.ent C d3 p3 "rows" (meantD (.list ds))) n3 = some (.ent C d3 p3 "rows" ds) := updW_same
  generalize updW ω2 n3 (.ent C d3 p3 "rows" (meantD (.list ds))) = ω3 at k3 eN3
  refine ⟨⟨m, _, rfl, k3 _ _ eM, rfl, rfl⟩, ⟨"x", n3, _, rfl, eN3, rfl, rfl⟩, m, n3, ds, ds, rfl, ⟨dx, p, k3 _ _ eM⟩, ⟨d3, p3, eN3⟩, lot, lot, _, rfl, ?_⟩
  rw [ok.eqv]
  refine iteF ?_
  refine ⟨⟨m, _, rfl, k3 _ _ eM, rfl, rfl⟩, .inl ⟨"str", rfl, xc.rs⟩, m, .str "z", ds, [.str "z"], rfl, ⟨dx, p, k3 _ _ eM⟩, .inr ⟨.str "z", .inl rfl, ⟨by decide +kernel, by decide +kernel, by decide +kernel⟩, rfl⟩, lot, okz.lot, hz, fun n4 d4 p4 hn4 => ?_⟩
  have k4 := k3.trans (Keep.new (m := .ent C d4 p4 "rows" (ds ++ [.str "z"])) hn4)
  have eN4 : updW ω3 n4 (.ent C d4 p4 "rows" (ds ++ [.str "z"])) n4 = some (.ent C d4 p4 "rows" (ds ++ [.str "z"])) := updW_same
  generalize updW ω3 n4 (.ent C d4 p4 "rows" (ds ++ [.str "z"])) = ω4 at k4 eN4
  refine ⟨⟨n4, _, rfl, eN4, rfl, rfl⟩, ⟨"x", m, _, rfl, k4 _ _ eM, rfl, rfl⟩, n4, m, ds ++ [.str "z"], ds, rfl, ⟨d4, p4, eN4⟩, ⟨dx, p, k4 _ _ eM⟩, hz.mono (by decide) (by decide), lot, ?_⟩
  rw [eqv_ne (by rw [List.length_append, List.length_singleton]; omega)]
  exact iteF (nx _ k4)
theorem rc_ok (hM : Ent C ω m ds) (hR : ω r = some (.lst ds)) (ok : OkE ds) (nx : ∀ ω', Keep ω ω' → D.nx [some (refD m), some (refD r), s2, s3, s4] ω') : rc14 C CN D [some (refD m), some (refD r), s2, s3, s4] ω := by
  obtain ⟨dx, p, eM⟩ := hM
  have lot := ok.lot
  unfold rc14 dOpM dIxX
  simp only [dAnd, dAndV, dAsg, dC, dCB, dCall, dCallX, dChain, dCons, dDrop, dErr1, dIf, dIfS, dIsi, dLst, dNext, dNil, dNot, dNotV, dOp, dOr, dOrV, dPar, dRet, dRetN, dRetS, dSeq, dSet, dSl, dTest, dTup, dVar, dgCons, dgName, dgNil, dgTup, dNeg, endsD, xcOf, dFz, startD, wipeD, List.getElem?_cons_zero, List.getElem?_cons_succ, List.set_cons_zero, List.set_cons_succ, List.map_cons, List.map_nil, List.cons_append, List.nil_append, List.length_cons, List.length_nil, List.replicate]
  refine ⟨Nat.zero_le _, neD_of (e := .list []) (Full.cell hR) (.inl rfl) lot.shaped (by decide +kernel) ?_⟩
  rw [eqv_nilU]
  cases ds with
  | nil => exact iteF (nx _ Keep.refl)
  | cons d0 rest =>
    refine iteT ?_
    obtain ⟨dl, el⟩ : ∃ dl, (d0 :: rest).getLast? = some dl := ⟨_, List.getLast?_eq_getLast (by simp)⟩
    have al : atI (d0 :: rest) (-1) = some dl := by
      unfold atI ixN
      rw [if_neg (by decide), if_pos (by simp only [List.length_cons]; omega)]
      rw [List.getLast?_eq_getElem?] at el
      rw [← el]
      show (d0 :: rest)[((-1 : Int) + ((d0 :: rest).length : Nat)).toNat]? = _
      rw [show ((-1 : Int) + ((d0 :: rest).length : Nat)).toNat = (d0 :: rest).length - 1 by simp only [List.length_cons]; omega]
    have x0 : ixN (d0 :: rest).length 0 = some 0 := by
      unfold ixN
      rw [if_pos (by decide), if_pos (by simp only [List.length_cons]; omega)]
      rfl
    have a0 : atI (d0 :: rest) 0 = some d0 := by
      unfold atI
      rw [x0]
      rfl
    have ix1 : ∃ j, ixN (d0 :: rest).length (-1) = some j ∧ (d0 :: rest)[j]? = some dl := by
      unfold atI at al
      cases q : ixN (d0 :: rest).length (-1) with
      | none => rw [q] at al; cases al
      | some j => rw [q] at al; exact ⟨j, rfl, al⟩
    obtain ⟨j1, e1, e2⟩ := ix1
    have ml : dl ∈ d0 :: rest := List.mem_of_getElem? e2
    have okl : Ok dl := (ok.all dl ml).ok (by decide) (by decide)
    have v0 := ok.all d0 List.mem_cons_self
    have ok0 : Ok d0 := v0.ok (by decide) (by decide)
    refine ⟨⟨m, _, rfl, eM, rfl, rfl⟩, m, dx, p, d0 :: rest, _, rfl, eM, lot, trivial, ?_⟩
    show match ixN (d0 :: rest).length (-1) with | some j => _ | none => _
    rw [e1]
    refine ⟨dl, e2, fun u ω1 tm => ?_⟩
    have k1 := Keep.tm tm
    refine ⟨dl, tm.full, okl, ixD_cell (k1 _ _ hR) al ⟨dl, .inl rfl, okl, ?_⟩⟩
    generalize PyData.shown dl = T
    refine ne_same ?_
    refine ixD_cell (k1 _ _ hR) (d := d0) a0 ⟨⟨m, _, rfl, k1 _ _ eM, rfl, rfl⟩, m, d0 :: rest, d0, rfl, ⟨dx, p, k1 _ _ eM⟩, lot, ok0.shaped, true, ?_, iteF ?_⟩
    · rw [List.any_cons, SeqAt.eqv_refl _ (fine_lay _ ok0.1)]
      rfl
    refine ⟨⟨m, _, rfl, k1 _ _ eM, rfl, rfl⟩, m, dx, p, d0 :: rest, _, rfl, k1 _ _ eM, lot, trivial, ?_⟩
    show match ixN (d0 :: rest).length 0 with | some j => _ | none => _
    rw [x0]
    refine ⟨d0, rfl, fun u2 ω2 tm2 => ?_⟩
    have k2 := Keep.tm tm2
    refine ixD_cell (k2 _ _ (k1 _ _ hR)) (d := d0) a0 (neD_of tm2.full (.inl rfl) ok0.shaped ok0.shaped ?_)
    rw [SeqAt.eqv_refl _ (fine_lay _ ok0.1)]
    exact iteF (nx _ (k1.trans k2))
end
end Tx

namespace Tx
open PySem PySem.Spec PyProof.Rows L2
/-! ## k14: _law_is_right, the end -/
theorem slD_cell {ω : Wd} {a : Addr} {xs : List PyData} {lo hi : Option Int} {Q : PyData → Prop} (h : ω a = some (.lst xs)) (z : Q (.list (cutD xs lo hi))) : slD (refD a) lo hi ω Q := by
  unfold slD
  rw [rsv_cell h]
  exact z
theorem sum_len {B : Nat} : ∀ {ys : List Str}, (∀ y ∈ ys, y.length ≤ B) → (ys.map (·.length)).sum ≤ B * ys.length
  | [], _ => Nat.zero_le _
  | y :: ys, h => by
    have h1 := h y List.mem_cons_self
    have h2 := sum_len (B := B) (ys := ys) fun z hz => h z (List.mem_cons_of_mem _ hz)
    rw [List.map_cons, List.sum_cons, List.length_cons, Nat.mul_succ]
    omega
theorem OkE.txt {ys : List Str} (ok : OkE (ys.map PyData.str)) : (ys.map (·.length)).sum + ys.length * ("-" : Str).length ≤ 16777216 := by
  have h1 := sum_len (B := 9) (ys := ys) fun y hy => by
    have := (ok.all _ (List.mem_map_of_mem (f := PyData.str) hy)).size
    simp only [szD] at this
    omega
  have h2 := ok.len
  rw [List.length_map] at h2
  have h3 : ("-" : Str).length = 1 := by decide
  rw [h3]
  omega
theorem add_int {ω : Wd} {i j : Int} {Q : PyData → Prop} (z : Q (.int (i + j))) : addD (.int i) (.int j) ω Q := z
theorem rsv_val {ω : Wd} {d : PyData} (h : isVal d = true) : rsv ω d = d := by
  cases d with
  | dict _ => simp [isVal] at h
  | _ => rfl
theorem atI_nn {xs : List PyData} {j : Nat} {d : PyData} (h : xs[j]? = some d) : atI xs ((j : Nat) : Int) = some d := by
  unfold atI
  rw [ixN_at (List.getElem?_eq_some_iff.mp h).1]
  exact h
section
variable {K : PySem.W.Frag} {mg : Str → Option Value} {C CN CX' m r : Addr} {ω : Wd} {ds : List PyData} {D : DEnds} {s2 s3 s4 : Option PyData}
theorem rd_ok (self : PySem.W.exmOne K (.ref CX') (.ref CX') = some true) (hM : Ent C ω m ds) (hR : ω r = some (.lst ds)) (ok : OkE ds) (hz : D.rt (.bool true) ω) : rd14 K C CX' D [some (refD m), some (refD r), s2, s3, s4] ω := by
  obtain ⟨dx, p, eM⟩ := hM
  have lot := ok.lot
  unfold rd14 dTryAs dMeth
  simp only [dAnd, dAndV, dAsg, dC, dCB, dCall, dCallX, dChain, dCons, dDrop, dErr1, dIf, dIfS, dIsi, dLst, dNext, dNil, dNot, dNotV, dOp, dOr, dOrV, dPar, dRet, dRetN, dRetS, dSeq, dSet, dSl, dTest, dTup, dVar, dgCons, dgName, dgNil, dgTup, dNeg, endsD, xcOf, dFz, startD, wipeD, List.getElem?_cons_zero, List.getElem?_cons_succ, List.set_cons_zero, List.set_cons_succ, List.map_cons, List.map_nil, List.cons_append, List.nil_append, List.length_cons, List.length_nil, List.replicate]
  refine ⟨m, _, rfl, eM, ⟨rfl, rfl⟩, m, ds, "-", rfl, ⟨dx, p, eM⟩, lot, ?_⟩
  cases e : oddAt ds with
  | none =>
    obtain ⟨ys, rfl⟩ := all_strs (odd_no e)
    refine ⟨ys, rfl, ok.txt, ?_⟩
    unfold dJoinR
    simp only [dAnd, dAndV, dAsg, dC, dCB, dCall, dCallX, dChain, dCons, dDrop, dErr1, dIf, dIfS, dIsi, dLst, dNext, dNil, dNot, dNotV, dOp, dOr, dOrV, dPar, dRet, dRetN, dRetS, dSeq, dSet, dSl, dTest, dTup, dVar, dgCons, dgName, dgNil, dgTup, dNeg, endsD, xcOf, dFz, startD, wipeD, List.getElem?_cons_zero, List.getElem?_cons_succ, List.set_cons_zero, List.set_cons_succ, List.map_cons, List.map_nil, List.cons_append, List.nil_append, List.length_cons, List.length_nil, List.replicate]
    refine ⟨_, rfl, ys, rsv_cell hR, ok.txt, ?_⟩
    show D.rt (.bool (decide (Txt.join "-" ys = Txt.join "-" ys))) ω
    rw [decide_eq_true rfl]
    exact hz
  | some i =>
    obtain ⟨d, ed, nd, ah⟩ := odd_at e
    have hi := (List.getElem?_eq_some_iff.mp ed).1
    refine ⟨true, self, fun _ a dd ω2 xi => ?_, fun y => Bool.noConfusion y⟩
    rcases xi with ⟨_, y, _⟩ | ⟨d2, rfl, n0, rfl⟩
    · cases y
    have hR2 : updW ω d2 (.xd [("at", .int ((i : Nat) : Int))]) r = some (.lst ds) := by rw [updW_ne fun z => by rw [z, n0] at hR; cases hR]; exact hR
    have hX : updW ω d2 (.xd [("at", .int ((i : Nat) : Int))]) d2 = some (.xd [("at", .int ((i : Nat) : Int))]) := updW_same
    have hB : dropX (some d2) (updW ω d2 (.xd [("at", .int ((i : Nat) : Int))])) = ω := delW_updW n0
    generalize updW ω d2 (.xd [("at", .int ((i : Nat) : Int))]) = ω2 at hR2 hX hB
    unfold dLc diList dXf
    simp only [dAnd, dAndV, dAsg, dC, dCB, dCall, dCallX, dChain, dCons, dDrop, dErr1, dIf, dIfS, dIsi, dLst, dNext, dNil, dNot, dNotV, dOp, dOr, dOrV, dPar, dRet, dRetN, dRetS, dSeq, dSet, dSl, dTest, dTup, dVar, dgCons, dgName, dgNil, dgTup, dNeg, endsD, xcOf, dFz, startD, wipeD, List.getElem?_cons_zero, List.getElem?_cons_succ, List.set_cons_zero, List.set_cons_succ, List.map_cons, List.map_nil, List.cons_append, List.nil_append, List.length_cons, List.length_nil, List.replicate]
    have cut : cutD ds none (some (((i : Nat) : Int) + 1)) = ds.take (i + 1) := cut_take (k := i + 1) hi
    have md := List.mem_of_getElem? ed
    have vd := ok.all d md
    have okd : Ok d := vd.ok (by decide) (by decide)
    refine ⟨trivial, trivial, d2, _, _, rfl, hX, rfl, ?_⟩
    refine add_int ?_
    dsimp only
    refine slD_cell hR2 ?_
    rw [cut]
    have ln := ok.len
    have sl : 1000 ≤ sizeLine := by decide
    refine ⟨_, rfl, by rw [List.length_take]; omega, fun j acc ω' => ω' = ω2 ∧ acc = ((ds.take (i + 1)).take j).filter (fun d => !isS d), ⟨rfl, rfl⟩, ?_, ?_⟩
    · rintro j y acc ω' hy ⟨rfl, rfl⟩ _
      have my : y ∈ ds := List.mem_of_mem_take (List.mem_of_getElem? hy)
      rw [rsv_val (ok.all y my).val]
      have vy := (ok.all y my).val
      refine ⟨?_, ?_⟩
      · cases y with
        | dict _ => simp [isVal] at vy
        | _ => trivial
      have st := take_snoc hy
      cases q : isS y with
      | true => exact iteF ⟨rfl, by rw [← st, List.filter_append, List.filter_cons_of_neg (by simp [q]), List.filter_nil, List.append_nil]⟩
      | false => exact iteT ⟨rfl, by rw [← st, List.filter_append, List.filter_cons_of_pos (by simp [q]), List.filter_nil]⟩
    · rintro acc ω' _ ⟨rfl, rfl⟩
      rw [List.take_length, take_flt ah ed nd]
      refine ⟨trivial, trivial, d2, _, _, rfl, hX, rfl, ixD_cell hR2 (atI_nn ed) ⟨by decide, ?_⟩⟩
      have sh : SeqAt.shaped (.list [d]) = true := (OkE.lot ⟨by show 1 ≤ 60; decide, fun x hx => by rw [List.mem_singleton.mp hx]; exact vd⟩).shaped
      refine eqD_of (.inl rfl) (.inl rfl) sh sh ?_
      rw [SeqAt.eqv_refl _ (shaped_lay sh), hB]
      exact hz
end
section
variable {P : Program} {w : World} {K : PySem.W.Frag} {mg : Str → Option Value} {base : Heap} {C CN CX' : Addr}
theorem dd_rightU (xc : OC K mg "Entries" "rows" C) (gi : GI K C) (h : Has K mg "_law_is_right" sRightU) (B : Bi mg) (M_getitem : Mfn P w K mg base (L2.CX P w) 31 C "__getitem__" ["self", "at"] (spD K (dsGetX C CN)))
    (M_init : Mfn P w K mg base CX0 33 C "__init__" ["self", "value"] (spD K (dsInitU C))) (M_add : Mfn P w K mg base CX0 35 C "__add__" ["self", "other"] (spD K (dsAddU C))) (M_repr : Mfn P w K mg base CX0 1 C "__repr__" ["self"] (spD K (dsReprU C))) (M_len : Mfn P w K mg base CX0 1 C "__len__" ["self"] (spD K (dsLen C))) (M_bool : Mfn P w K mg base CX0 1 C "__bool__" ["self"] (spD K (dsBool C)))
    (M_packed : Mfn P w K mg base CX0 32 C "packed" ["self"] (spD K (dsPackedU C))) (M_eq : Mfn P w K mg base CX0 1 C "__eq__" ["self", "other"] (spD K (dsEq C))) (M_contains : Mfn P w K mg base CX0 1 C "__contains__" ["self", "thing"] (spD K (dsContains C)))
    (M_joined : Mfn P w K mg base (L2N.CX P w) 3 C "joined" ["self", "between"] (spD K (dsJoinedU C CX'))) (X_NotText : Err1 P w K mg base "NotText" "at" CX') : Dfn P w K mg base CX0 36 "_law_is_right" ["_law_one", "_law_due"] (spD K (dsRightU C)) := by
  refine dfnD (k := 35) h B scRightU (fun _ _ _ _ _ _ us hl => match us, hl with | [_, _], _ => rfl) (fun ts ω q x h => ?_) (fun f cv A out s H E c => ⟨_, (dss_cons (ds_if (DW.dt (dw_or (dt_cmp (do_ne rfl c.r.units) (de_callBM (dc_reprO rfl M_repr c (by omega)) (by rfl) c.b.repr (by decide +kernel) (da_cons (de_var (pv 0)) da_nil)) (de_op (do_add rfl) (de_op (do_add rfl) de_str (de_callB (dc_repr rfl c.g c.r.units) (by rfl) c.b.repr (by decide +kernel) (da_cons (de_var (pv 1)) da_nil))) de_str) (nomark _)) (dw_or (dt_cmp (do_ne rfl c.r.units) (de_callBM (dc_lenO rfl M_len c (by omega)) (by rfl) c.b.len (by decide +kernel) (da_cons (de_var (pv 0)) da_nil)) (de_callB (dc_len rfl) (by rfl) c.b.len (by decide +kernel) (da_cons (de_var (pv 1)) da_nil)) (nomark _)) (dw_or1 (dt_cmp (do_ne rfl c.r.units) (de_callTyM (dc_boolO rfl M_bool c (by omega)) (by rfl) c.b.bool (by decide +kernel) (da_cons (de_var (pv 0)) da_nil)) (de_cmp (do_ne rfl c.r.units) (de_var (pv 1)) (de_lst da_nil) (nomark _)) (nomark _)))))) (dss_one (ds_ret de_bl)) dss_nil)
    (dss_cons (ds_if (DW.dt (dw_or (dt_cmpM (dm_ne rfl M_eq c (by omega) xc.ne xc.sub) (de_make rfl xc.cd M_init c (by omega) (by rfl) px0 (da_cons (de_meth0 rfl M_packed xc.cd.cl c (by omega) px0 (de_var (pv 0))) da_nil)) (de_var (pv 0)) (nomark _)) (dw_or (dt_cmpM (dm_ne rfl M_eq c (by omega) xc.ne xc.sub) (de_var (pv 0)) (de_make rfl xc.cd M_init c (by omega) (by rfl) px0 (da_cons (de_var (pv 1)) da_nil)) (nomark _)) (dw_or1 (dt_cmpM (dm_eq rfl M_eq c (by omega)) (de_opM (dm_bin rfl M_add c (by omega) xc.badd) (de_var (pv 0)) de_str) (de_var (pv 0)) (nomark _)))))) (dss_one (ds_ret de_bl)) dss_nil)
    (dss_cons (ds_if (dt_cmp (do_ne rfl c.r.units) (de_var (pv 1)) (de_lst da_nil) (nomark _)) (dss_one (ds_if (DW.dt (dw_or (dt_cmp (do_ne rfl c.r.units) (de_callB (dc_repr rfl c.g c.r.units) (by rfl) c.b.repr (by decide +kernel) (da_cons (de_ixO rfl M_getitem gi c (by omega) (pxX takes0) (de_var (pv 0)) (de_neg de_int) (fun _ _ => rfl)) da_nil)) (de_callB (dc_repr rfl c.g c.r.units) (by rfl) c.b.repr (by decide +kernel) (da_cons (de_ix rfl (de_var (pv 1)) (de_neg de_int) (fun _ _ => rfl)) da_nil)) (nomark _)) (dw_or (dt_cmpM (dm_notin rfl M_contains c (by omega)) (de_ix rfl (de_var (pv 1)) de_int (fun _ _ => rfl)) (de_var (pv 0)) (by rfl)) (dw_or1 (dt_cmp (do_ne rfl c.r.units) (de_ixO rfl M_getitem gi c (by omega) (pxX takes0) (de_var (pv 0)) de_int (fun _ _ => rfl)) (de_ix rfl (de_var (pv 1)) de_int (fun _ _ => rfl)) (nomark _)))))) (dss_one (ds_ret de_bl)) dss_nil)) dss_nil)
    (dss_cons (ds_try_asN (i := 2) rfl rfl rfl scRightU.nd rfl rfl ⟨rfl, by decide, Or.inl X_NotText.gC⟩ takes0N
    (fun W pn xe tk po => (dss_one (ds_set (i := 3) scRightU.nd rfl (Or.inl rfl) (de_meth rfl M_joined xc.cd.cl c (by omega) (pxXN tk) (de_var (pv 0)) (da_cons de_str da_nil)))))
    (fun a oe cls d pn hzN hf => have hz := hzN.zc; have hot := hotC_of hzN hf; (dss_one (ds_ret (de_cmp (do_eq rfl c.r.units) (de_lcH (own := [("_law_each", 4)]) (gd := (dgName 4)) (is := [4]) rfl hot scRightU.nd (de_sl rfl (de_var (pv 1)) do_none (do_some (de_op (do_add rfl) (de_xf rfl X_NotText.xf X_NotText.noF hz hf (de_var (pv 2))) de_int))) (blkOk_by (own := [("_law_each", 4)]) (N := ["_law_one", "_law_due", "e", "_law_text_here", "_law_each"]) (sc := defScope sRightU) (by decide +kernel)) (fun _ _ _ _ _ => (dg_name (pg_name (i := 4) scRightU.nd rfl (Or.inl rfl)))) (fun _ _ _ _ _ => dts_one (dt_not (dt_val (de_isi (T := "str") rfl kit_str (by rfl) c.b.isinstance (de_var (pv 4)) (pe_bltn (v := .ty "str") (by rfl) c.b.str (by decide +kernel) rfl))))) (fun _ _ _ _ _ => (de_var (pv 4)))) (de_lst (da_cons (de_ix rfl (de_var (pv 1)) (de_xf rfl X_NotText.xf X_NotText.noF hz hf (de_var (pv 2))) (fun _ _ => rfl)) da_nil)) (nomark _))))))
    (dss_one (ds_ret (de_cmp (do_eq rfl c.r.units) (de_var (pv 3)) (de_joinR rfl de_str (de_var (pv 1))) (nomark _)))))))), fun ts ω q x h => ?_⟩)
  · obtain ⟨m, r, ds, rfl, _⟩ := h; rfl
  obtain ⟨m, r, ds, rfl, ⟨dx, p, hM⟩, hR, ok, z⟩ := h
  refine ra_ok (ds := ds) ⟨dx, p, hM⟩ hR ok ?_
  refine rb_ok xc ⟨dx, p, hM⟩ hR ok fun ω1 k1 => ?_
  refine rc_ok ⟨dx, p, k1 _ _ hM⟩ (k1 _ _ hR) ok fun ω2 k2 => ?_
  have k3 := k1.trans k2
  exact rd_ok X_NotText.self ⟨dx, p, k3 _ _ hM⟩ (k3 _ _ hR) ok (z _ k3)
end
end Tx

namespace Tx
open PySem PySem.Spec PyProof.Rows L2
/-! ## k14: the state -/
structure Row (C : Addr) (ω : Wd) (b p n : Addr) (ms al : List Addr) (S : Addr → List PyData) (N : Addr → Addr) : Prop where
  bag : ω b = some .bag
  hp : ω p = some (.lst (ms.map refD))
  hn : ω n = some (.lst ((ms.map N).map refD))
  len : ms.length = 4
  sub : ∀ m ∈ ms, m ∈ al
  ent : ∀ m ∈ al, Ent C ω m (S m)
  ok : ∀ m ∈ al, OkE (S m)
  due : ∀ m ∈ ms, ω (N m) = some (.lst (S m))
  inj : ∀ m ∈ ms, ∀ m' ∈ ms, N m = N m' → m = m'
  apart : p ≠ n ∧ ∀ m ∈ ms, N m ≠ p ∧ N m ≠ n
section
variable {C b p n m m' n' : Addr} {ω ω' : Wd} {ms al : List Addr} {S : Addr → List PyData} {N : Addr → Addr} {ds : List PyData} {k : Nat}
theorem Ent.keep (h : Ent C ω m ds) (k : Keep ω ω') : Ent C ω' m ds := by
  obtain ⟨dx, p, e⟩ := h
  exact ⟨dx, p, k _ _ e⟩
theorem Ent.ne {x : MO} (h : Ent C ω m ds) (e : ω m' = some x) (l : (match x with | .ent _ _ _ _ _ => false | _ => true) = true) : m ≠ m' := fun z => by
  obtain ⟨dx, p, e2⟩ := h
  rw [z, e] at e2
  cases e2
  cases l
theorem Ent.no (h : Ent C ω m ds) (e : ω m' = none) : m ≠ m' := fun z => by
  obtain ⟨dx, p, e2⟩ := h
  rw [z, e] at e2
  cases e2
theorem Row.keep (h : Row C ω b p n ms al S N) (k : Keep ω ω') : Row C ω' b p n ms al S N :=
  ⟨k _ _ h.bag, k _ _ h.hp, k _ _ h.hn, h.len, h.sub, fun m hm => (h.ent m hm).keep k, h.ok, fun m hm => k _ _ (h.due m hm), h.inj, h.apart⟩
/-- a second name -/
theorem Row.alias (h : Row C ω b p n ms al S N) (hm : m ∈ ms) : Row C (updW (updW ω p (.lst ((ms.map refD).set k (refD m)))) n (.lst (((ms.map N).map refD).set k (refD (N m))))) b p n (ms.set k m) al S N := by
  have sub : ∀ x ∈ ms.set k m, x ∈ ms := fun x hx => by
    rcases List.mem_or_eq_of_mem_set hx with hx | rfl
    · exact hx
    · exact hm
  have up : ∀ a x, a ≠ p → a ≠ n → ω a = some x → updW (updW ω p (.lst ((ms.map refD).set k (refD m)))) n (.lst (((ms.map N).map refD).set k (refD (N m)))) a = some x := fun a x h1 h2 e => by rw [updW_ne h2, updW_ne h1]; exact e
  refine ⟨up _ _ (fun z => by have := h.bag; rw [z, h.hp] at this; cases this) (fun z => by have := h.bag; rw [z, h.hn] at this; cases this) h.bag, by rw [updW_ne h.apart.1, updW_same, List.map_set], by rw [updW_same, List.map_set, List.map_set], by rw [List.length_set]; exact h.len, fun x hx => h.sub x (sub x hx), fun x hx => ?_, h.ok, fun x hx => ?_, fun x hx y hy => h.inj x (sub x hx) y (sub y hy), h.apart.1, fun x hx => h.apart.2 x (sub x hx)⟩
  · have g := h.ent x hx
    obtain ⟨dx, q, e⟩ := g
    exact ⟨dx, q, up _ _ ((h.ent x hx).ne h.hp rfl) ((h.ent x hx).ne h.hn rfl) e⟩
  · exact up _ _ (h.apart.2 x (sub x hx)).1 (h.apart.2 x (sub x hx)).2 (h.due x (sub x hx))
/-- an object is changed -/
theorem Row.put (h : Row C ω b p n ms al S N) (hm : m ∈ ms) (ok : OkE ds) (kp : ∀ a x, a ≠ m → a ≠ N m → ω a = some x → ω' a = some x) (e1 : Ent C ω' m ds) (e2 : ω' (N m) = some (.lst ds)) : Row C ω' b p n ms al (fun a => if a = m then ds else S a) N := by
  have hM := h.ent m (h.sub m hm)
  have mix : ∀ x ∈ al, x ≠ N m := fun x hx => (h.ent x hx).ne (h.due m hm) rfl
  obtain ⟨np, nn⟩ := h.apart.2 m hm
  refine ⟨kp _ _ (Ne.symm (hM.ne h.bag rfl)) (fun z => by have := h.bag; rw [z, h.due m hm] at this; cases this) h.bag, kp _ _ (Ne.symm (hM.ne h.hp rfl)) (Ne.symm np) h.hp, kp _ _ (Ne.symm (hM.ne h.hn rfl)) (Ne.symm nn) h.hn, h.len, h.sub, fun x hx => ?_, fun x hx => ?_, fun x hx => ?_, h.inj, h.apart⟩
  · by_cases e : x = m
    · rw [e, if_pos rfl]
      exact e1
    · rw [if_neg e]
      obtain ⟨dx, q, g⟩ := h.ent x hx
      exact ⟨dx, q, kp _ _ e (mix x hx) g⟩
  · show OkE (if x = m then ds else S x)
    split
    · exact ok
    · exact h.ok x hx
  · by_cases e : x = m
    · rw [e, if_pos rfl]
      exact e2
    · rw [if_neg e]
      exact kp _ _ (Ne.symm (hM.ne (h.due x hx) rfl)) (fun z => e (h.inj x hx m hm z)) (h.due x hx)
/-- a new object under a name -/
theorem Row.new (h : Row C ω b p n ms al S N) (kp : ∀ a x, a ≠ p → a ≠ n → ω a = some x → ω' a = some x) (e1 : Ent C ω' m ds) (e2 : ω' n' = some (.lst ds)) (c1 : ω m = none) (c2 : ω n' = none) (ok : OkE ds)
    (ep : ω' p = some (.lst ((ms.map refD).set k (refD m)))) (en : ω' n = some (.lst (((ms.map N).map refD).set k (refD n')))) :
    Row C ω' b p n (ms.set k m) (m :: al) (fun a => if a = m then ds else S a) (fun a => if a = m then n' else N a) := by
  have f1 : ∀ x ∈ al, x ≠ m := fun x hx => (h.ent x hx).no c1
  have f2 : ∀ x ∈ ms, N x ≠ n' := fun x hx z => by
    have e := h.due x hx
    rw [z, c2] at e
    cases e
  have f3 : n' ≠ p ∧ n' ≠ n := ⟨fun z => (by rw [z, h.hp] at c2; cases c2), fun z => (by rw [z, h.hn] at c2; cases c2)⟩
  have sub : ∀ x ∈ ms.set k m, x = m ∨ (x ∈ ms ∧ x ≠ m) := fun x hx => by
    rcases List.mem_or_eq_of_mem_set hx with hx | rfl
    · exact .inr ⟨hx, f1 x (h.sub x hx)⟩
    · exact .inl rfl
  have eN : (ms.set k m).map (fun a => if a = m then n' else N a) = (ms.map N).set k n' := by
    rw [List.map_set, if_pos rfl]
    congr 1
    exact List.map_congr_left fun x hx => if_neg (f1 x (h.sub x hx))
  refine ⟨kp _ _ (fun z => by have := h.bag; rw [z, h.hp] at this; cases this) (fun z => by have := h.bag; rw [z, h.hn] at this; cases this) h.bag, by rw [ep, List.map_set], by rw [en, eN, List.map_set], by rw [List.length_set]; exact h.len, fun x hx => ?_, fun x hx => ?_, fun x hx => ?_, fun x hx => ?_, fun x hx y hy z => ?_, h.apart.1, fun x hx => ?_⟩
  · rcases sub x hx with rfl | ⟨g1, _⟩
    · exact List.mem_cons_self
    · exact List.mem_cons_of_mem _ (h.sub x g1)
  · by_cases e : x = m
    · rw [e, if_pos rfl]
      exact e1
    · rw [if_neg e]
      have hx : x ∈ al := (List.mem_cons.mp hx).resolve_left e
      obtain ⟨dx, q, g⟩ := h.ent x hx
      exact ⟨dx, q, kp _ _ ((h.ent x hx).ne h.hp rfl) ((h.ent x hx).ne h.hn rfl) g⟩
  · show OkE (if x = m then ds else S x)
    split
    · exact ok
    · rename_i e
      exact h.ok x ((List.mem_cons.mp hx).resolve_left e)
  · rcases sub x hx with rfl | ⟨g1, g2⟩
    · simp only [if_true]
      exact e2
    · simp only [if_neg g2]
      exact kp _ _ (h.apart.2 x g1).1 (h.apart.2 x g1).2 (h.due x g1)
  · rcases sub x hx with rfl | ⟨g1, g2⟩
    · rcases sub y hy with rfl | ⟨g3, g4⟩
      · rfl
      · simp only [if_true, if_neg g4] at z
        exact absurd z.symm (f2 y g3)
    · rcases sub y hy with rfl | ⟨g3, g4⟩
      · simp only [if_true, if_neg g2] at z
        exact absurd z (f2 x g1)
      · simp only [if_neg g2, if_neg g4] at z
        exact h.inj x g1 y g3 z
  · rcases sub x hx with rfl | ⟨g1, g2⟩
    · simp only [if_true]
      exact f3
    · simp only [if_neg g2]
      exact h.apart.2 x g1
end
end Tx

namespace Tx
open PySem PySem.Spec PyProof.Rows L2
/-! ## k14: a value that is spoiled later; the branches of a step -/
def rmRadF (C : Addr) (sp : DSp) : RM2 := fun dx dy ω q => (∃ d, Ful ω dx d ∧ isVal d = true) ∧ InsD C "__radd__" ω dy ∧ sp [dy, dx] ω q X0
theorem dm_raddF {X : Cx} {K : PySem.W.Frag} {C : Addr} {j k : Nat} {ps : List Str} {sp : DSp} (hK : X.K = K) (M : Mfn X.prog X.w X.K X.mg X.base CX0 j C "__radd__" ps (spD K sp)) (c : Ct X.mg X.A k) (h : j ≤ k) (L : OR K C) (hn : dunderR "add" = "__radd__" := by rfl) : OpR X (binaryOp .Add) (lift2M K (rmRadF C sp)) := by
  subst hK
  obtain ⟨f, fd, F, hm, hb⟩ := M
  intro pins s σ H x y v u Q I rx ry ⟨J, ω, dx, dy, q, w, r1, r2, cq, ⟨d, fu, val⟩, i2, z⟩
  obtain ⟨b, d2, od2, rfl, rfl, J2⟩ := insD_at w I r2 ry i2
  have run := own_run F hb (c.r.mono h) c.g I.env0 I (.cons ry (.cons rx .nil)) w (.cons r2 (.cons r1 .nil)) cq z
  obtain ⟨g, h3⟩ := L.has
  have back : wpAny (model X.prog X.w) X.A (call (.ref f) [.ref b, v]) (PySem.W.CmpBack (EP X pins σ Q)) X.xe s := thn run fun v' s' ⟨z', H', I', rz, qz⟩ => SlX.cmpback rz ⟨z', H', I', rz, qz⟩
  obtain ⟨as, rd⟩ := Dp.reads I _ _ _ (fu.dp w r1 (val_lay val)) rx
  have lk := PySem.W.looks_reads (M := model X.prog X.w) rd
  cases d with
  | none => exact ref_own (op := .Add) I.kIn J2 lk L.first L.ln h3 (by rw [show (Operator.Add).info.2 = "add" from rfl, hn]; exact hm.at_) hm.fn back
  | str _ => exact ref_own (op := .Add) I.kIn J2 lk L.first L.ls h3 (by rw [show (Operator.Add).info.2 = "add" from rfl, hn]; exact hm.at_) hm.fn back
  | list _ => exact ref_own (op := .Add) I.kIn J2 lk L.first L.ll h3 (by rw [show (Operator.Add).info.2 = "add" from rfl, hn]; exact hm.at_) hm.fn back
  | _ => simp [isVal] at val
def Vt (ω : Wd) (v d : PyData) : Prop := (isL d = false ∧ v = d) ∨ ∃ a N, v = refD a ∧ ω a = some (.tmp N d) ∧ isL d = true
def notTmp : MO → Bool
  | .tmp _ _ => false
  | _ => true
section
variable {ω ω' : Wd} {v d : PyData}
theorem Tm.vt (h : Tm ω v d ω') : Vt ω' v d := by
  rcases h with ⟨h1, h2, _⟩ | ⟨a, N, h1, _, h3, h4⟩
  · exact .inl ⟨h1, h2⟩
  · exact .inr ⟨a, N, h1, by rw [h3, updW_same], h4⟩
theorem Vt.keep (h : Vt ω v d) (k : ∀ c N, ω c = some (.tmp N d) → ω' c = some (.tmp N d)) : Vt ω' v d := by
  rcases h with h | ⟨a, N, h1, h2, h3⟩
  · exact .inl h
  · exact .inr ⟨a, N, h1, k _ _ h2, h3⟩
theorem Vt.full (h : Vt ω v d) : Full ω v d := by
  rcases h with ⟨_, h⟩ | ⟨a, N, h1, h2, h3⟩
  · exact .inl h
  · rw [h1]; exact Full.tmp h2
theorem Vt.vf (h : Vt ω v d) : Vf ω v d := by
  have f := h.full
  rcases h with ⟨_, h⟩ | ⟨a, N, h1, h2, h3⟩
  · exact .inl h
  · exact .inr ⟨h3, by rw [h1]; rfl, .inl f⟩
theorem Vt.thg (h : Vt ω v d) : Thg ω v d := by
  rcases h with ⟨_, h⟩ | ⟨a, N, h1, h2, h3⟩
  · exact .inl h
  · exact .inr ⟨a, N, h1, h2⟩
theorem Vt.as (h : Vt ω v d) (val : isVal d = true) : As ω v d := by
  rcases h with ⟨_, h⟩ | ⟨a, N, h1, h2, h3⟩
  · exact .inl h.symm
  · refine .inr ⟨?_, val_lay val⟩
    rw [h1, full_ref]
    unfold cellD
    rw [h2]
theorem Vt.spoil (h : Vt ω v d) : ∃ ω0, Tm ω0 v d ω ∧ ∀ c x, ω c = some x → notTmp x = true → ω0 c = some x := by
  rcases h with ⟨h1, h2⟩ | ⟨a, N, h1, h2, h3⟩
  · exact ⟨ω, .inl ⟨h1, h2, rfl⟩, fun _ _ e _ => e⟩
  · refine ⟨delW ω a, .inr ⟨a, N, h1, delW_same, ?_, h3⟩, fun c x e n => ?_⟩
    · funext c
      by_cases e : c = a
      · rw [e, updW_same, h2]
      · rw [updW_ne e, delW_ne e]
    · rw [delW_ne]
      · exact e
      · rintro rfl
        rw [h2] at e
        cases e
        cases n
end
theorem Row.weak {C b p n : Addr} {ω ω' : Wd} {ms al : List Addr} {S : Addr → List PyData} {N : Addr → Addr} (h : Row C ω b p n ms al S N) (k : ∀ c x, ω c = some x → notTmp x = true → ω' c = some x) : Row C ω' b p n ms al S N :=
  ⟨k _ _ h.bag rfl, k _ _ h.hp rfl, k _ _ h.hn rfl, h.len, h.sub, fun m hm => by
    obtain ⟨dx, q, e⟩ := h.ent m hm
    exact ⟨dx, q, k _ _ e rfl⟩, h.ok, fun m hm => k _ _ (h.due m hm) rfl, h.inj, h.apart⟩
theorem meant_ok {d : PyData} (v : Val 2 8 d) : OkE (meantD d) := by
  have h1 := v.val
  have h2 := v.deep
  have h3 := v.size
  cases d with
  | str x => exact ⟨by simp [meantD], fun e he => by rw [List.mem_singleton.mp he]; exact v.mono (by decide) (by decide)⟩
  | list ds => exact ⟨by have := len_le_szAll ds; simp only [szD] at h3; simp only [meantD]; omega, fun e he => (v.item he).mono (by decide) (by decide)⟩
  | _ => exact ⟨by simp [meantD], fun e he => by simp [meantD] at he⟩
theorem meant_len {d : PyData} (v : Val 2 8 d) : (meantD d).length ≤ 8 := by
  have h3 := v.size
  cases d with
  | list ds => have := len_le_szAll ds; simp only [szD] at h3; simp only [meantD]; omega
  | _ => simp [meantD]
/-- the nth thing alone -/
def readAt (n i : Nat) (d : PyData) : DS := (List.replicate n none).set i (some d)
theorem read_at {ω : Wd} {ρ : DS} {i : Nat} {t d : PyData} (h : ρ[i]? = some (some t)) (a : As ω t d) : ReadS ω ρ (readAt ρ.length i d) := by
  unfold readAt
  refine ⟨by rw [List.length_set, List.length_replicate], fun j d' e => ?_⟩
  by_cases y : i = j
  · subst y
    rw [List.getElem?_set_self (by rw [List.length_replicate]; exact (List.getElem?_eq_some_iff.mp h).1)] at e
    cases e
    exact ⟨t, h, a⟩
  · rw [List.getElem?_set_ne y, List.getElem?_replicate] at e
    split at e <;> cases e
theorem read_at2 {ω : Wd} {ρ : DS} {i k : Nat} {t d t2 d2 : PyData} (h : ρ[i]? = some (some t)) (a : As ω t d) (h2 : ρ[k]? = some (some t2)) (a2 : As ω t2 d2) : ReadS ω ρ ((readAt ρ.length i d).set k (some d2)) := by
  obtain ⟨r1, r2⟩ := read_at h a
  refine ⟨by rw [List.length_set]; exact r1, fun j d' e => ?_⟩
  by_cases y : k = j
  · subst y
    rw [List.getElem?_set_self (by rw [r1]; exact (List.getElem?_eq_some_iff.mp h2).1)] at e
    cases e
    exact ⟨t2, h2, a2⟩
  · rw [List.getElem?_set_ne y] at e
    exact r2 j d' e
theorem as_cell {ω : Wd} {a : Addr} {ds : List PyData} (h : ω a = some (.lst ds)) (val : isValAll ds = true) : As ω (refD a) (.list ds) := by
  refine .inr ⟨?_, val_lay (by simpa only [isVal] using val)⟩
  rw [full_ref]
  unfold cellD
  rw [h]
end Tx

namespace Tx
open PySem PySem.Spec PyProof.Rows L2
/-! ## k14: the branches of a step -/
abbrev cpE : DTE := dCpR 30 (dCall dsEntriesO (dCons (dVar 6) dNil))
abbrev cpED : DTE := dCpR 30 (dOp addD (dCall dsEntriesO (dCons (dVar 6) dNil)) (dVar 8))
theorem add_cells {ω : Wd} {a b : Addr} {xs ys : List PyData} {Q : PyData → Prop} (h1 : ω a = some (.lst xs)) (h2 : ω b = some (.lst ys)) (l : xs.length + ys.length ≤ sizeLine) (z : Q (.list (xs ++ ys))) : addD (refD a) (refD b) ω Q := by
  unfold addD
  rw [rsv_cell h1, rsv_cell h2]
  exact ⟨l, z⟩
theorem add_cellD {ω : Wd} {a : Addr} {xs ys : List PyData} {Q : PyData → Prop} (h1 : ω a = some (.lst xs)) (l : xs.length + ys.length ≤ sizeLine) (z : Q (.list (xs ++ ys))) : addD (refD a) (.list ys) ω Q := by
  unfold addD
  rw [rsv_cell h1]
  exact ⟨l, z⟩
theorem mul_cell {ω : Wd} {a : Addr} {xs : List PyData} {k : Int} {Q : PyData → Prop} (h1 : ω a = some (.lst xs)) (k1 : -(2 ^ 63) ≤ k) (k2 : k < 2 ^ 63) (l : xs.length * k.toNat ≤ sizeLine) (z : Q (.list (List.replicate k.toNat xs).flatten)) : mulAD (refD a) (.int k) ω Q := by
  unfold mulAD
  rw [rsv_cell h1]
  exact ⟨k1, k2, l, z⟩
theorem OkE.dep {ds : List PyData} (h : OkE ds) : (PyData.list ds).depth < 30 := by have := h.v.deep; omega
theorem OkE.siz {ds : List PyData} (h : OkE ds) : szD (.list ds) ≤ 1000000 := by have := h.v.size; omega
theorem OkE.all' {ds : List PyData} (h : OkE ds) : isValAll ds = true := by have := h.v.val; simpa only [isVal] using this
section
variable {ω : Wd} {v d : PyData} {q : DQ} {x : DXK} {s0 s1 s2 s3 s4 s5 s7 s8 s9 s10 s11 : Option PyData} {r : Addr} {ds : List PyData}
theorem cpE_ok (vt : Vt ω v d) (hv : Val 2 8 d) (z : CpQ ω q (.list (meantD d))) : cpE [s0, s1, s2, s3, s4, s5, some v, s7, s8, s9, s10, s11] ω q x := by
  have om := meant_ok hv
  refine ⟨readAt 12 6 d, read_at (ρ := [s0, s1, s2, s3, s4, s5, some v, s7, s8, s9, s10, s11]) rfl (vt.as hv.val), ?_⟩
  exact ⟨d, rfl, hv.val, fun r hr => ⟨.list (meantD d), .inl (Full.cell updW_same), om.lot.lay, om.v.val, om.dep, om.siz, z⟩⟩
theorem cpED_ok (vt : Vt ω v d) (hv : Val 2 8 d) (hr : ω r = some (.lst ds)) (ok : OkE ds) (l : (meantD d).length + ds.length ≤ 60) (z : CpQ ω q (.list (meantD d ++ ds))) : cpED [s0, s1, s2, s3, s4, s5, some v, s7, some (refD r), s9, s10, s11] ω q x := by
  have om := meant_ok hv
  have oc := om.cat ok l
  have sl : 1000 ≤ sizeLine := by decide
  refine ⟨(readAt 12 6 d).set 8 (some (.list ds)), read_at2 (ρ := [s0, s1, s2, s3, s4, s5, some v, s7, some (refD r), s9, s10, s11]) rfl (vt.as hv.val) rfl (as_cell hr ok.all'), ?_⟩
  refine ⟨d, rfl, hv.val, fun r' hr' => ?_⟩
  unfold readAt
  simp only [dAnd, dAndV, dAsg, dC, dCB, dCall, dCallX, dChain, dCons, dDrop, dErr1, dIf, dIfS, dIsi, dLst, dNext, dNil, dNot, dNotV, dOp, dOr, dOrV, dPar, dRet, dRetN, dRetS, dSeq, dSet, dSl, dTest, dTup, dVar, dgCons, dgName, dgNil, dgTup, dNeg, endsD, xcOf, dFz, startD, wipeD, List.getElem?_cons_zero, List.getElem?_cons_succ, List.set_cons_zero, List.set_cons_succ, List.map_cons, List.map_nil, List.cons_append, List.nil_append, List.length_cons, List.length_nil, List.replicate]
  refine add_cellD (xs := meantD d) (ys := ds) updW_same (by omega) ?_
  exact ⟨.list (meantD d ++ ds), Ful.rfl', oc.lot.lay, oc.v.val, oc.dep, oc.siz, z⟩
end
/-- what the branches stand on -/
structure Ctx (C : Addr) (ω : Wd) (b p n : Addr) (ms al : List Addr) (S : Addr → List PyData) (N : Addr → Addr) (v d : PyData) (i j : Nat) (m m2 : Addr) : Prop where
  st : Row C ω b p n ms al S N
  vt : Vt ω v d
  hv : Val 2 8 d
  hi : ms[i]? = some m
  hj : ms[j]? = some m2
def Nx (C : Addr) (D : DEnds) (b p n : Addr) (al : List Addr) (v d : PyData) (s3 s4 s5 : Option PyData) : Prop := ∀ ω' ms' al' S' N' y7 y8 y9 y10 y11, Row C ω' b p n ms' al' S' N' → (∀ m ∈ al, m ∈ al') → Vt ω' v d →
  D.nx [some (refD b), some (refD p), some (refD n), s3, s4, s5, some v, y7, y8, y9, y10, y11] ω'
section
variable {C b p n m m2 m' n' : Addr} {ω ω' : Wd} {ms al : List Addr} {S : Addr → List PyData} {N : Addr → Addr} {v d : PyData} {i j : Nat} {ds : List PyData} {D : DEnds} {s3 s4 s5 y7 y8 y9 y10 y11 : Option PyData}
theorem Ctx.mi (h : Ctx C ω b p n ms al S N v d i j m m2) : m ∈ ms := List.mem_of_getElem? h.hi
theorem Ctx.mj (h : Ctx C ω b p n ms al S N v d i j m m2) : m2 ∈ ms := List.mem_of_getElem? h.hj
theorem Ctx.eM (h : Ctx C ω b p n ms al S N v d i j m m2) : Ent C ω m (S m) := h.st.ent m (h.st.sub m h.mi)
theorem Ctx.eM2 (h : Ctx C ω b p n ms al S N v d i j m m2) : Ent C ω m2 (S m2) := h.st.ent m2 (h.st.sub m2 h.mj)
theorem Ctx.okM (h : Ctx C ω b p n ms al S N v d i j m m2) : OkE (S m) := h.st.ok m (h.st.sub m h.mi)
theorem Ctx.okM2 (h : Ctx C ω b p n ms al S N v d i j m m2) : OkE (S m2) := h.st.ok m2 (h.st.sub m2 h.mj)
theorem Ctx.pj (h : Ctx C ω b p n ms al S N v d i j m m2) : atI (ms.map refD) ((j : Nat) : Int) = some (refD m2) := atI_nn (by rw [List.getElem?_map, h.hj]; rfl)
theorem Ctx.nj (h : Ctx C ω b p n ms al S N v d i j m m2) : atI ((ms.map N).map refD) ((j : Nat) : Int) = some (refD (N m2)) := atI_nn (by rw [List.map_map, List.getElem?_map, h.hj]; rfl)
theorem Ctx.pi' (h : Ctx C ω b p n ms al S N v d i j m m2) : ixN (ms.map refD).length ((i : Nat) : Int) = some i := ixN_at (by rw [List.length_map]; exact (List.getElem?_eq_some_iff.mp h.hi).1)
theorem Ctx.ni (h : Ctx C ω b p n ms al S N v d i j m m2) : ixN ((ms.map N).map refD).length ((i : Nat) : Int) = some i := ixN_at (by rw [List.length_map, List.length_map]; exact (List.getElem?_eq_some_iff.mp h.hi).1)
theorem nx_new (h : Ctx C ω b p n ms al S N v d i j m m2) (nx : Nx C D b p n al v d s3 s4 s5) (kp : ∀ a x, a ≠ p → a ≠ n → ω a = some x → ω' a = some x) (e1 : Ent C ω' m' ds) (e2 : ω' n' = some (.lst ds)) (c1 : ω m' = none) (c2 : ω n' = none) (ok : OkE ds)
    (ep : ω' p = some (.lst ((ms.map refD).set i (refD m')))) (en : ω' n = some (.lst (((ms.map N).map refD).set i (refD n')))) :
    D.nx [some (refD b), some (refD p), some (refD n), s3, s4, s5, some v, y7, y8, y9, y10, y11] ω' := by
  refine nx _ _ _ _ _ _ _ _ _ _ (h.st.new kp e1 e2 c1 c2 ok ep en) (fun x hx => List.mem_cons_of_mem _ hx) (h.vt.keep fun c M e => kp _ _ ?_ ?_ e)
  · rintro rfl
    rw [h.st.hp] at e
    cases e
  · rintro rfl
    rw [h.st.hn] at e
    cases e
theorem nx_put (h : Ctx C ω b p n ms al S N v d i j m m2) (nx : Nx C D b p n al v d s3 s4 s5) (ok : OkE ds) (kp : ∀ a x, a ≠ m → a ≠ N m → ω a = some x → ω' a = some x) (e1 : Ent C ω' m ds) (e2 : ω' (N m) = some (.lst ds)) :
    D.nx [some (refD b), some (refD p), some (refD n), s3, s4, s5, some v, y7, y8, y9, y10, y11] ω' := by
  refine nx _ _ _ _ _ _ _ _ _ _ (h.st.put h.mi ok kp e1 e2) (fun x hx => hx) (h.vt.keep fun c M e => kp _ _ ?_ ?_ e)
  · rintro rfl
    obtain ⟨dx, q, e2⟩ := h.eM
    rw [e2] at e
    cases e
  · rintro rfl
    rw [h.st.due m h.mi] at e
    cases e
end
def bA (C : Addr) : DTS := dSubs2 (dVar 1) (dVar 3) (dVar 2) (dVar 3) (dTup (dCons (dMake C (dsInitU C) (dCons (dVar 6) dNil)) (dCons (dFz cpE) dNil))) rsList
def bB (K : PySem.W.Frag) (C : Addr) : DTS := dSubs2 (dVar 1) (dVar 3) (dVar 2) (dVar 3) (dTup (dCons (dOpM (rmOwn C "__add__" (RgtOk K C Operator.Add.info.snd) (dsAddU C)) (dVar 7) (dOp ixD (dVar 1) (dVar 4)))
  (dCons (dFz (dCall (dsLCopy 30) (dCons (dOp addD (dVar 8) (dOp ixD (dVar 2) (dVar 4))) dNil))) dNil))) rsList
def bC (C : Addr) : DTS := dSeq (dSet 9 (dOp ixD (dVar 1) (dVar 4))) (dSeq (dAug 7 (dVar 9) (rmOwn C "__iadd__" (fun _ _ => True) (dsIaddU C))) (dDrop (dExtend (dVar 8) (dFz (dCall (dsLCopy 30) (dCons (dOp ixD (dVar 2) (dVar 4)) dNil))))))
def bD (C : Addr) : DTS := dSeq (dSetS (dVar 1) (dVar 3) (dOpM (rmRadF C (dsRaddU C)) (dVar 6) (dVar 7)) rsList) (dSetS (dVar 2) (dVar 3) (dFz cpED) rsList)
def bE (C : Addr) : DTS := dSeq (dAug 7 (dVar 6) (rmOwn C "__iadd__" (fun _ _ => True) (dsIaddU C))) (dDrop (dExtend (dVar 8) (dFz cpE)))
def bF (K : PySem.W.Frag) (C : Addr) : DTS := dSeq (dSet 10 (dOp (intD (fun _ _ => True) fun i j => .int (i - j)) (dCall dsTake (dCons (dVar 0) (dCons (dC (.int 5)) dNil))) (dC (.int 1))))
  (dSeq (dSetS (dVar 1) (dVar 3) (dOpM (rmOwn C "__mul__" (RgtOk K C Operator.Mult.info.snd) (dsMul C)) (dVar 7) (dVar 10)) rsList) (dSetS (dVar 2) (dVar 3) (dFz (dCall (dsLCopy 30) (dCons (dOp mulAD (dVar 8) (dCB max2D (dCons (dC (.int 0)) (dCons (dVar 10) dNil)))) dNil))) rsList))
def bG : DTS := dSubs2 (dVar 1) (dVar 3) (dVar 2) (dVar 3) (dTup (dCons (dOp ixD (dVar 1) (dVar 4)) (dCons (dOp ixD (dVar 2) (dVar 4)) dNil))) rsList
def bH (C CN : Addr) : DTS := dSeq (dSet 11 (dOp (intD (fun _ _ => True) fun i j => .int (i - j)) (dCall dsTake (dCons (dVar 0) (dCons (dOp mulAD (dC (.int 2)) (dCB lenD (dCons (dVar 8) dNil))) dNil))) (dCB lenD (dCons (dVar 8) dNil))))
  (dSeq (dDrop (dMeth C "set_entry" (dsSetX C CN) (dVar 7) (dCons (dVar 11) (dCons (dVar 6) dNil)))) (dSetS (dVar 8) (dVar 11) (dFz (dCall (dsLCopy 30) (dCons (dVar 6) dNil))) rsList))
def bI (C : Addr) : DTS := dRet (dCall (dsRefused C) (dCons (dVar 7) (dCons (dOp ixD (dLst (dCons (dCB lenD (dCons (dVar 8) dNil)) (dCons (dOp (intD (fun _ _ => True) fun i j => .int (i - j)) (dNeg (dCB lenD (dCons (dVar 8) dNil))) (dC (.int 1))) (dCons (dC .none) (dCons (dC (.str "0")) dNil)))))
  (dCall dsTake (dCons (dVar 0) (dCons (dC (.int 4)) dNil)))) dNil)))
section
variable {K : PySem.W.Frag} {mg : Str → Option Value} {C CN b p n m m2 : Addr} {ω : Wd} {ms al : List Addr} {S : Addr → List PyData} {N : Addr → Addr} {v d : PyData} {i j : Nat} {D : DEnds} {s5 s9 s10 s11 : Option PyData}
theorem bA_ok (h : Ctx C ω b p n ms al S N v d i j m m2) (nx : Nx C D b p n al v d (some (.int (i : Nat))) (some (.int (j : Nat))) s5) : bA C D [some (refD b), some (refD p), some (refD n), some (.int (i : Nat)), some (.int (j : Nat)), s5, some v, some (refD m), some (refD (N m)), s9, s10, s11] ω := by
  have two : 2 ≤ sizeLine := by decide
  unfold bA dSubs2 dMake
  simp only [dAnd, dAndV, dAsg, dC, dCB, dCall, dCallX, dChain, dCons, dDrop, dErr1, dIf, dIfS, dIsi, dLst, dNext, dNil, dNot, dNotV, dOp, dOr, dOrV, dPar, dRet, dRetN, dRetS, dSeq, dSet, dSl, dTest, dTup, dVar, dgCons, dgName, dgNil, dgTup, dNeg, endsD, xcOf, dFz, startD, wipeD, List.getElem?_cons_zero, List.getElem?_cons_succ, List.set_cons_zero, List.set_cons_succ, List.map_cons, List.map_nil, List.cons_append, List.nil_append, List.length_cons, List.length_nil, List.replicate]
  refine mk_inU h.vt.vf (h.hv.mono (by decide) (by decide)) fun m' dx q hm' => ?_
  have k1 : Keep ω (updW ω m' (.ent C dx q "rows" (meantD d))) := Keep.new hm'
  have e1 : updW ω m' (.ent C dx q "rows" (meantD d)) m' = some (.ent C dx q "rows" (meantD d)) := updW_same
  generalize updW ω m' (.ent C dx q "rows" (meantD d)) = ω1 at k1 e1
  refine cpE_ok (h.vt.keep fun _ _ e => k1 _ _ e) h.hv (.inr ⟨_, rfl, fun n' hn' => ⟨_, _, .inl ⟨rfl, rfl⟩, two, ?_⟩⟩)
  have k2 := k1.trans (Keep.new (m := .lst (meantD d)) hn')
  have e2 : updW ω1 n' (.lst (meantD d)) n' = some (.lst (meantD d)) := updW_same
  have e3 := Keep.new (m := .lst (meantD d)) hn' _ _ e1
  have c2 := k1.no hn'
  generalize updW ω1 n' (.lst (meantD d)) = ω2 at k2 e2 e3
  have np : m' ≠ p := fun z => by rw [z, h.st.hp] at hm'; cases hm'
  have nn : m' ≠ n := fun z => by rw [z, h.st.hn] at hm'; cases hm'
  have np2 : n' ≠ p := fun z => by rw [z, h.st.hp] at c2; cases c2
  have nn2 : n' ≠ n := fun z => by rw [z, h.st.hn] at c2; cases c2
  refine ⟨_, _, rfl, p, _, _, i, rfl, rfl, k2 _ _ h.st.hp, h.pi', n, _, _, i, rfl, rfl, by rw [updW_ne (Ne.symm h.st.apart.1)]; exact k2 _ _ h.st.hn, h.ni, ?_⟩
  exact nx_new h nx (fun a x h1 h2 e => by rw [updW_ne h2, updW_ne h1]; exact k2 _ _ e) ⟨dx, q, by rw [updW_ne nn, updW_ne np]; exact e3⟩ (by rw [updW_ne nn2, updW_ne np2]; exact e2) hm' c2 (meant_ok h.hv) (by rw [updW_ne h.st.apart.1, updW_same]) updW_same
theorem bB_ok (h : Ctx C ω b p n ms al S N v d i j m m2) (l : (S m).length + (S m2).length < 45) (nx : Nx C D b p n al v d (some (.int (i : Nat))) (some (.int (j : Nat))) s5) : bB K C D [some (refD b), some (refD p), some (refD n), some (.int (i : Nat)), some (.int (j : Nat)), s5, some v, some (refD m), some (refD (N m)), s9, s10, s11] ω := by
  have two : 2 ≤ sizeLine := by decide
  have sl : 1000 ≤ sizeLine := by decide
  obtain ⟨dx1, q1, eM⟩ := h.eM
  obtain ⟨dx2, q2, eM2⟩ := h.eM2
  have oc := h.okM.cat h.okM2 (by omega)
  unfold bB dSubs2 dOpM
  simp only [dAnd, dAndV, dAsg, dC, dCB, dCall, dCallX, dChain, dCons, dDrop, dErr1, dIf, dIfS, dIsi, dLst, dNext, dNil, dNot, dNotV, dOp, dOr, dOrV, dPar, dRet, dRetN, dRetS, dSeq, dSet, dSl, dTest, dTup, dVar, dgCons, dgName, dgNil, dgTup, dNeg, endsD, xcOf, dFz, startD, wipeD, List.getElem?_cons_zero, List.getElem?_cons_succ, List.set_cons_zero, List.set_cons_succ, List.map_cons, List.map_nil, List.cons_append, List.nil_append, List.length_cons, List.length_nil, List.replicate]
  refine ixD_cell h.st.hp h.pj ⟨⟨m, _, rfl, eM, rfl, rfl⟩, .inr ⟨"x", m2, _, rfl, eM2, rfl, rfl⟩, m, refD m2, S m, S m2, rfl, ⟨dx1, q1, eM⟩, .inl ⟨m2, dx2, q2, rfl, eM2⟩, h.okM.lot, h.okM2.lot, oc.val, fun m' dx q hm' => ?_⟩
  have k1 : Keep ω (updW ω m' (.ent C dx q "rows" (S m ++ S m2))) := Keep.new hm'
  have e1 : updW ω m' (.ent C dx q "rows" (S m ++ S m2)) m' = some (.ent C dx q "rows" (S m ++ S m2)) := updW_same
  generalize updW ω m' (.ent C dx q "rows" (S m ++ S m2)) = ω1 at k1 e1
  refine ixD_cell (k1 _ _ h.st.hn) h.nj (add_cells (k1 _ _ (h.st.due m h.mi)) (k1 _ _ (h.st.due m2 h.mj)) (by omega) ?_)
  refine ⟨_, _, rfl, Ful.rfl', oc.v.val, oc.dep, oc.siz, .inr ⟨_, rfl, fun n' hn' => ⟨_, _, .inl ⟨rfl, rfl⟩, two, ?_⟩⟩⟩
  have k2 := k1.trans (Keep.new (m := .lst (S m ++ S m2)) hn')
  have e2 : updW ω1 n' (.lst (S m ++ S m2)) n' = some (.lst (S m ++ S m2)) := updW_same
  have e3 := Keep.new (m := .lst (S m ++ S m2)) hn' _ _ e1
  have c2 := k1.no hn'
  generalize updW ω1 n' (.lst (S m ++ S m2)) = ω2 at k2 e2 e3
  have np : m' ≠ p := fun z => by rw [z, h.st.hp] at hm'; cases hm'
  have nn : m' ≠ n := fun z => by rw [z, h.st.hn] at hm'; cases hm'
  have np2 : n' ≠ p := fun z => by rw [z, h.st.hp] at c2; cases c2
  have nn2 : n' ≠ n := fun z => by rw [z, h.st.hn] at c2; cases c2
  refine ⟨_, _, rfl, p, _, _, i, rfl, rfl, k2 _ _ h.st.hp, h.pi', n, _, _, i, rfl, rfl, by rw [updW_ne (Ne.symm h.st.apart.1)]; exact k2 _ _ h.st.hn, h.ni, ?_⟩
  exact nx_new h nx (fun a x h1 h2 e => by rw [updW_ne h2, updW_ne h1]; exact k2 _ _ e) ⟨dx, q, by rw [updW_ne nn, updW_ne np]; exact e3⟩ (by rw [updW_ne nn2, updW_ne np2]; exact e2) hm' c2 oc (by rw [updW_ne h.st.apart.1, updW_same]) updW_same
theorem bC_ok (h : Ctx C ω b p n ms al S N v d i j m m2) (l : (S m).length + (S m2).length < 45) (nx : Nx C D b p n al v d (some (.int (i : Nat))) (some (.int (j : Nat))) s5) : bC C D [some (refD b), some (refD p), some (refD n), some (.int (i : Nat)), some (.int (j : Nat)), s5, some v, some (refD m), some (refD (N m)), s9, s10, s11] ω := by
  have sl : 1000 ≤ sizeLine := by decide
  obtain ⟨dx1, q1, eM⟩ := h.eM
  obtain ⟨dx2, q2, eM2⟩ := h.eM2
  have oc := h.okM.cat h.okM2 (by omega)
  have nm : N m ≠ m := fun z => (Ent.ne ⟨dx1, q1, eM⟩ (h.st.due m h.mi) rfl) z.symm
  have nm2 : N m2 ≠ m := fun z => (Ent.ne ⟨dx1, q1, eM⟩ (h.st.due m2 h.mj) rfl) z.symm
  have nnm : n ≠ m := fun z => (Ent.ne ⟨dx1, q1, eM⟩ h.st.hn rfl) z.symm
  unfold bC dExtend dAug
  simp only [dAnd, dAndV, dAsg, dC, dCB, dCall, dCallX, dChain, dCons, dDrop, dErr1, dIf, dIfS, dIsi, dLst, dNext, dNil, dNot, dNotV, dOp, dOr, dOrV, dPar, dRet, dRetN, dRetS, dSeq, dSet, dSl, dTest, dTup, dVar, dgCons, dgName, dgNil, dgTup, dNeg, endsD, xcOf, dFz, startD, wipeD, List.getElem?_cons_zero, List.getElem?_cons_succ, List.set_cons_zero, List.set_cons_succ, List.map_cons, List.map_nil, List.cons_append, List.nil_append, List.length_cons, List.length_nil, List.replicate]
  refine ixD_cell h.st.hp h.pj ?_
  refine ⟨⟨m, _, rfl, eM, rfl, rfl⟩, trivial, m, dx1, q1, refD m2, S m, S m2, rfl, eM, .inl ⟨m2, dx2, q2, rfl, eM2⟩, h.okM.lot, h.okM2.lot, fun p' => ?_⟩
  refine ⟨N m, S m, rfl, by rw [updW_ne nm]; exact h.st.due m h.mi, ?_⟩
  refine ixD_cell (by rw [updW_ne nnm]; exact h.st.hn) h.nj ?_
  refine ⟨_, .list (S m2), rfl, .inl (Full.cell (by rw [updW_ne nm2]; exact h.st.due m2 h.mj)), h.okM2.v.val, h.okM2.dep, h.okM2.siz, .inl fun u ω' tm => ⟨_, _, tm.fz, S m, S m2, by rw [updW_ne nm]; exact h.st.due m h.mi, rfl, by omega, ?_⟩⟩
  exact nx_put h nx oc (fun a x h1 h2 e => by rw [updW_ne h2, updW_ne h1]; exact e) ⟨dx1, p', by rw [updW_ne (Ne.symm nm)]; exact updW_same⟩ updW_same
end
end Tx

namespace Tx
open PySem PySem.Spec PyProof.Rows L2
/-! ## k14: further branches -/
theorem max2_ok {ω : Wd} {m n : Int} {Q : PyData → Prop} (z : Q (.int (if n > m then n else m))) : max2D [.int m, .int n] ω Q := z
theorem OkE.rep {ds : List PyData} (h : OkE ds) {n : Nat} (l : n * ds.length ≤ 60) : OkE (List.replicate n ds).flatten := ⟨by rw [rep_len]; exact l, fun e he => by
  obtain ⟨l, h1, h2⟩ := List.mem_flatten.mp he
  rw [List.mem_replicate] at h1
  rw [h1.2] at h2
  exact h.all e h2⟩
section
variable {K : PySem.W.Frag} {mg : Str → Option Value} {C CN b p n m m2 : Addr} {ω : Wd} {ms al : List Addr} {S : Addr → List PyData} {N : Addr → Addr} {v d : PyData} {i j : Nat} {D : DEnds} {s5 s9 s10 s11 : Option PyData}
theorem Ctx.vtp {a : Addr} {y x : MO} (h : Ctx C ω b p n ms al S N v d i j m m2) (e : ω a = some y) (t : notTmp y = true) : Vt (updW ω a x) v d := h.vt.keep fun c M e2 => by
  rw [updW_ne]
  · exact e2
  · rintro rfl
    rw [e] at e2
    cases e2
    cases t
theorem bD_ok (h : Ctx C ω b p n ms al S N v d i j m m2) (l : (S m).length < 40) (nx : Nx C D b p n al v d (some (.int (i : Nat))) (some (.int (j : Nat))) s5) : bD C D [some (refD b), some (refD p), some (refD n), some (.int (i : Nat)), some (.int (j : Nat)), s5, some v, some (refD m), some (refD (N m)), s9, s10, s11] ω := by
  obtain ⟨dx1, q1, eM⟩ := h.eM
  have om := meant_ok h.hv
  have ml := meant_len h.hv
  have oc := om.cat h.okM (by omega)
  unfold bD dSetS dOpM
  simp only [dAnd, dAndV, dAsg, dC, dCB, dCall, dCallX, dChain, dCons, dDrop, dErr1, dIf, dIfS, dIsi, dLst, dNext, dNil, dNot, dNotV, dOp, dOr, dOrV, dPar, dRet, dRetN, dRetS, dSeq, dSet, dSl, dTest, dTup, dVar, dgCons, dgName, dgNil, dgTup, dNeg, endsD, xcOf, dFz, startD, wipeD, List.getElem?_cons_zero, List.getElem?_cons_succ, List.set_cons_zero, List.set_cons_succ, List.map_cons, List.map_nil, List.cons_append, List.nil_append, List.length_cons, List.length_nil, List.replicate]
  refine ⟨⟨d, .inl h.vt.full, h.hv.val⟩, ⟨m, _, rfl, eM, rfl, rfl⟩, m, v, S m, meantD d, rfl, ⟨dx1, q1, eM⟩, .inr ⟨d, h.vt.vf, h.hv.mono (by decide) (by decide), rfl⟩, h.okM.lot, om.lot, oc.val, fun m' dx q hm' => ?_⟩
  have k1 : Keep ω (updW ω m' (.ent C dx q "rows" (meantD d ++ S m))) := Keep.new hm'
  have e1 : updW ω m' (.ent C dx q "rows" (meantD d ++ S m)) m' = some (.ent C dx q "rows" (meantD d ++ S m)) := updW_same
  generalize updW ω m' (.ent C dx q "rows" (meantD d ++ S m)) = ω1 at k1 e1
  have np : m' ≠ p := fun z => by rw [z, h.st.hp] at hm'; cases hm'
  have nn : m' ≠ n := fun z => by rw [z, h.st.hn] at hm'; cases hm'
  refine ⟨p, _, _, i, rfl, rfl, k1 _ _ h.st.hp, h.pi', ?_⟩
  have vt2 : Vt (updW ω1 p (.lst ((ms.map refD).set i (refD m')))) v d := by
    refine h.vt.keep fun c M e2 => ?_
    rw [updW_ne]
    · exact k1 _ _ e2
    · rintro rfl
      rw [h.st.hp] at e2
      cases e2
  have hN : updW ω1 p (.lst ((ms.map refD).set i (refD m'))) (N m) = some (.lst (S m)) := by rw [updW_ne (h.st.apart.2 m h.mi).1]; exact k1 _ _ (h.st.due m h.mi)
  have hn2 : updW ω1 p (.lst ((ms.map refD).set i (refD m'))) n = some (.lst ((ms.map N).map refD)) := by rw [updW_ne (Ne.symm h.st.apart.1)]; exact k1 _ _ h.st.hn
  have kp2 : ∀ a x, a ≠ p → ω1 a = some x → updW ω1 p (.lst ((ms.map refD).set i (refD m'))) a = some x := fun a x h1 e => by rw [updW_ne h1]; exact e
  have hp2 : updW ω1 p (.lst ((ms.map refD).set i (refD m'))) p = some (.lst ((ms.map refD).set i (refD m'))) := updW_same
  have no2 : ∀ a, updW ω1 p (.lst ((ms.map refD).set i (refD m'))) a = none → a ≠ p ∧ ω1 a = none := fun a e => by
    have : a ≠ p := fun z => by rw [z, updW_same] at e; cases e
    rw [updW_ne this] at e
    exact ⟨this, e⟩
  generalize updW ω1 p (.lst ((ms.map refD).set i (refD m'))) = ω2 at vt2 hN hn2 kp2 hp2 no2
  refine cpED_ok vt2 h.hv hN h.okM (by omega) (.inr ⟨_, rfl, fun n' hn' => ⟨_, _, .inl ⟨rfl, rfl⟩, n, _, _, i, rfl, rfl, ?_, h.ni, ?_⟩⟩)
  · exact Keep.new hn' _ _ hn2
  obtain ⟨np2, c1⟩ := no2 n' hn'
  have c2 := k1.no c1
  have nn2 : n' ≠ n := fun z => by rw [z, h.st.hn] at c2; cases c2
  have k3 := Keep.new (m := .lst (meantD d ++ S m)) hn'
  exact nx_new h nx (fun a x h1 h2 e => by rw [updW_ne h2]; exact k3 _ _ (kp2 _ _ h1 (k1 _ _ e))) ⟨dx, q, by rw [updW_ne nn]; exact k3 _ _ (kp2 _ _ np e1)⟩ (by rw [updW_ne nn2]; exact updW_same) hm' c2 oc (by rw [updW_ne h.st.apart.1]; exact k3 _ _ hp2) updW_same
theorem bE_ok (h : Ctx C ω b p n ms al S N v d i j m m2) (l : (S m).length < 40) (nx : Nx C D b p n al v d (some (.int (i : Nat))) (some (.int (j : Nat))) s5) : bE C D [some (refD b), some (refD p), some (refD n), some (.int (i : Nat)), some (.int (j : Nat)), s5, some v, some (refD m), some (refD (N m)), s9, s10, s11] ω := by
  have sl : 1000 ≤ sizeLine := by decide
  obtain ⟨dx1, q1, eM⟩ := h.eM
  have om := meant_ok h.hv
  have ml := meant_len h.hv
  have oc := h.okM.cat om (by omega)
  have nm : N m ≠ m := fun z => (Ent.ne ⟨dx1, q1, eM⟩ (h.st.due m h.mi) rfl) z.symm
  unfold bE dExtend dAug
  simp only [dAnd, dAndV, dAsg, dC, dCB, dCall, dCallX, dChain, dCons, dDrop, dErr1, dIf, dIfS, dIsi, dLst, dNext, dNil, dNot, dNotV, dOp, dOr, dOrV, dPar, dRet, dRetN, dRetS, dSeq, dSet, dSl, dTest, dTup, dVar, dgCons, dgName, dgNil, dgTup, dNeg, endsD, xcOf, dFz, startD, wipeD, List.getElem?_cons_zero, List.getElem?_cons_succ, List.set_cons_zero, List.set_cons_succ, List.map_cons, List.map_nil, List.cons_append, List.nil_append, List.length_cons, List.length_nil, List.replicate]
  refine ⟨⟨m, _, rfl, eM, rfl, rfl⟩, trivial, m, dx1, q1, v, S m, meantD d, rfl, eM, .inr ⟨d, h.vt.vf, h.hv.mono (by decide) (by decide), rfl⟩, h.okM.lot, om.lot, fun p' => ?_⟩
  refine ⟨N m, S m, rfl, by rw [updW_ne nm]; exact h.st.due m h.mi, ?_⟩
  refine cpE_ok (h.vtp eM rfl) h.hv (.inl fun u ω' tm => ⟨_, _, tm.fz, S m, meantD d, by rw [updW_ne nm]; exact h.st.due m h.mi, rfl, by omega, ?_⟩)
  exact nx_put h nx oc (fun a x h1 h2 e => by rw [updW_ne h2, updW_ne h1]; exact e) ⟨dx1, p', by rw [updW_ne (Ne.symm nm)]; exact updW_same⟩ updW_same
theorem bF_ok (xm : OM K C) (h : Ctx C ω b p n ms al S N v d i j m m2) (l : (S m).length < 15) (nx : Nx C D b p n al v d (some (.int (i : Nat))) (some (.int (j : Nat))) s5) : bF K C D [some (refD b), some (refD p), some (refD n), some (.int (i : Nat)), some (.int (j : Nat)), s5, some v, some (refD m), some (refD (N m)), s9, s10, s11] ω := by
  have sl : 1000 ≤ sizeLine := by decide
  obtain ⟨dx1, q1, eM⟩ := h.eM
  unfold bF dSetS dOpM
  simp only [dAnd, dAndV, dAsg, dC, dCB, dCall, dCallX, dChain, dCons, dDrop, dErr1, dIf, dIfS, dIsi, dLst, dNext, dNil, dNot, dNotV, dOp, dOr, dOrV, dPar, dRet, dRetN, dRetS, dSeq, dSet, dSl, dTest, dTup, dVar, dgCons, dgName, dgNil, dgTup, dNeg, endsD, xcOf, dFz, startD, wipeD, List.getElem?_cons_zero, List.getElem?_cons_succ, List.set_cons_zero, List.set_cons_succ, List.map_cons, List.map_nil, List.cons_append, List.nil_append, List.length_cons, List.length_nil, List.replicate]
  refine ⟨b, 5, rfl, h.st.bag, by decide, by decide, fun r r0 r5 => ?_⟩
  refine ⟨trivial, ?_⟩
  dsimp only
  generalize ek : r - 1 = k
  have k0 : -1 ≤ k := by omega
  have k3 : k ≤ 3 := by omega
  have kn : k.toNat ≤ 3 := by omega
  have hl : k.toNat * (S m).length ≤ 60 := Nat.le_trans (Nat.mul_le_mul kn (Nat.le_of_lt l)) (by decide)
  have oc : OkE (repD k (S m)) := h.okM.rep hl
  refine ⟨⟨m, _, rfl, eM, rfl, rfl⟩, .inl ⟨"int", rfl, xm.ri⟩, m, dx1, q1, S m, k, rfl, eM, h.okM.lot, .inl ⟨by omega, by omega⟩, oc.val, fun m' dx q hm' => ?_⟩
  have k1 : Keep ω (updW ω m' (.ent C dx q "rows" (repD k (S m)))) := Keep.new hm'
  have e1 : updW ω m' (.ent C dx q "rows" (repD k (S m))) m' = some (.ent C dx q "rows" (repD k (S m))) := updW_same
  generalize updW ω m' (.ent C dx q "rows" (repD k (S m))) = ω1 at k1 e1
  have np : m' ≠ p := fun z => by rw [z, h.st.hp] at hm'; cases hm'
  have nn : m' ≠ n := fun z => by rw [z, h.st.hn] at hm'; cases hm'
  refine ⟨p, _, _, i, rfl, rfl, k1 _ _ h.st.hp, h.pi', ?_⟩
  have hN : updW ω1 p (.lst ((ms.map refD).set i (refD m'))) (N m) = some (.lst (S m)) := by rw [updW_ne (h.st.apart.2 m h.mi).1]; exact k1 _ _ (h.st.due m h.mi)
  have hn2 : updW ω1 p (.lst ((ms.map refD).set i (refD m'))) n = some (.lst ((ms.map N).map refD)) := by rw [updW_ne (Ne.symm h.st.apart.1)]; exact k1 _ _ h.st.hn
  have kp2 : ∀ a x, a ≠ p → ω1 a = some x → updW ω1 p (.lst ((ms.map refD).set i (refD m'))) a = some x := fun a x h1 e => by rw [updW_ne h1]; exact e
  have hp2 : updW ω1 p (.lst ((ms.map refD).set i (refD m'))) p = some (.lst ((ms.map refD).set i (refD m'))) := updW_same
  have no2 : ∀ a, updW ω1 p (.lst ((ms.map refD).set i (refD m'))) a = none → a ≠ p ∧ ω1 a = none := fun a e => by
    have : a ≠ p := fun z => by rw [z, updW_same] at e; cases e
    rw [updW_ne this] at e
    exact ⟨this, e⟩
  generalize updW ω1 p (.lst ((ms.map refD).set i (refD m'))) = ω2 at hN hn2 kp2 hp2 no2
  have et : (if k > 0 then k else 0).toNat = k.toNat := by split <;> omega
  have lt : (S m).length * (if k > 0 then k else 0).toNat ≤ sizeLine := by rw [et, Nat.mul_comm]; omega
  dsimp only
  refine max2_ok ?_
  refine mul_cell hN (by split <;> omega) (by split <;> omega) lt ?_
  rw [et]
  refine ⟨_, _, rfl, Ful.rfl', oc.v.val, oc.dep, oc.siz, .inr ⟨_, rfl, fun n' hn' => ⟨_, _, .inl ⟨rfl, rfl⟩, n, _, _, i, rfl, rfl, ?_, h.ni, ?_⟩⟩⟩
  · exact Keep.new hn' _ _ hn2
  obtain ⟨np2, c1⟩ := no2 n' hn'
  have c2 := k1.no c1
  have nn2 : n' ≠ n := fun z => by rw [z, h.st.hn] at c2; cases c2
  have k3 := Keep.new (m := .lst (List.replicate k.toNat (S m)).flatten) hn'
  exact nx_new h nx (fun a x h1 h2 e => by rw [updW_ne h2]; exact k3 _ _ (kp2 _ _ h1 (k1 _ _ e))) ⟨dx, q, by rw [updW_ne nn]; exact k3 _ _ (kp2 _ _ np e1)⟩ (by rw [updW_ne nn2]; exact updW_same) hm' c2 oc (by rw [updW_ne h.st.apart.1]; exact k3 _ _ hp2) updW_same
theorem bG_ok (h : Ctx C ω b p n ms al S N v d i j m m2) (nx : Nx C D b p n al v d (some (.int (i : Nat))) (some (.int (j : Nat))) s5) : bG D [some (refD b), some (refD p), some (refD n), some (.int (i : Nat)), some (.int (j : Nat)), s5, some v, some (refD m), some (refD (N m)), s9, s10, s11] ω := by
  have two : 2 ≤ sizeLine := by decide
  unfold bG dSubs2
  simp only [dAnd, dAndV, dAsg, dC, dCB, dCall, dCallX, dChain, dCons, dDrop, dErr1, dIf, dIfS, dIsi, dLst, dNext, dNil, dNot, dNotV, dOp, dOr, dOrV, dPar, dRet, dRetN, dRetS, dSeq, dSet, dSl, dTest, dTup, dVar, dgCons, dgName, dgNil, dgTup, dNeg, endsD, xcOf, dFz, startD, wipeD, List.getElem?_cons_zero, List.getElem?_cons_succ, List.set_cons_zero, List.set_cons_succ, List.map_cons, List.map_nil, List.cons_append, List.nil_append, List.length_cons, List.length_nil, List.replicate]
  refine ixD_cell h.st.hp h.pj (ixD_cell h.st.hn h.nj ⟨two, _, _, rfl, p, _, _, i, rfl, rfl, h.st.hp, h.pi', n, _, _, i, rfl, rfl, by rw [updW_ne (Ne.symm h.st.apart.1)]; exact h.st.hn, h.ni, ?_⟩)
  refine nx _ _ _ _ _ _ _ _ _ _ (h.st.alias h.mj) (fun x hx => hx) (h.vt.keep fun c M e => ?_)
  rw [updW_ne, updW_ne]
  · exact e
  · rintro rfl
    rw [h.st.hp] at e
    cases e
  · rintro rfl
    rw [h.st.hn] at e
    cases e
theorem bH_ok (h : Ctx C ω b p n ms al S N v d i j m m2) (ne : S m ≠ []) (nx : Nx C D b p n al v d (some (.int (i : Nat))) (some (.int (j : Nat))) s5) : bH C CN D [some (refD b), some (refD p), some (refD n), some (.int (i : Nat)), some (.int (j : Nat)), s5, some v, some (refD m), some (refD (N m)), s9, s10, s11] ω := by
  obtain ⟨dx1, q1, eM⟩ := h.eM
  have nm : N m ≠ m := fun z => (Ent.ne ⟨dx1, q1, eM⟩ (h.st.due m h.mi) rfl) z.symm
  have hl := h.okM.len
  have lp : 0 < (S m).length := List.length_pos_iff.mpr ne
  unfold bH dSetS dMeth
  simp only [dAnd, dAndV, dAsg, dC, dCB, dCall, dCallX, dChain, dCons, dDrop, dErr1, dIf, dIfS, dIsi, dLst, dNext, dNil, dNot, dNotV, dOp, dOr, dOrV, dPar, dRet, dRetN, dRetS, dSeq, dSet, dSl, dTest, dTup, dVar, dgCons, dgName, dgNil, dgTup, dNeg, endsD, xcOf, dFz, startD, wipeD, List.getElem?_cons_zero, List.getElem?_cons_succ, List.set_cons_zero, List.set_cons_succ, List.map_cons, List.map_nil, List.cons_append, List.nil_append, List.length_cons, List.length_nil, List.replicate]
  refine lenD_cell (h.st.due m h.mi) ⟨.inl ⟨by decide, by omega⟩, ?_⟩
  refine ⟨b, 2 * ((S m).length : Nat), rfl, h.st.bag, by omega, by omega, fun r r0 r5 => ?_⟩
  refine lenD_cell (h.st.due m h.mi) ⟨trivial, ?_⟩
  dsimp only
  generalize ek : r - ((S m).length : Nat) = k
  obtain ⟨j', ej⟩ : ∃ j', ixN (S m).length k = some j' := by
    unfold ixN
    by_cases k0 : 0 ≤ k
    · exact ⟨_, by rw [if_pos k0, if_pos (by omega)]⟩
    · exact ⟨_, by rw [if_neg k0, if_pos (by omega)]⟩
  have vd : Val 3 10 d := h.hv.mono (by decide) (by decide)
  refine ⟨m, _, rfl, eM, ⟨rfl, rfl⟩, m, dx1, q1, S m, .int k, v, d, rfl, eM, h.okM.lot.len, trivial, h.vt.thg, h.hv.mono (by decide) (by decide), ?_⟩
  show match ixN (S m).length k with | some j => _ | none => _
  rw [ej]
  refine ⟨_, d, rfl, .inl (h.vtp eM rfl).full, h.hv.val, by have := h.hv.deep; omega, by have := h.hv.size; omega, .inl fun u ω' tm => ⟨_, _, tm.fz, N m, S m, k, j', rfl, rfl, by rw [updW_ne nm]; exact h.st.due m h.mi, ej, ?_⟩⟩
  exact nx_put h nx (h.okM.set j' vd) (fun a x h1 h2 e => by rw [updW_ne h2, updW_ne h1]; exact e) ⟨dx1, q1, by rw [updW_ne (Ne.symm nm)]; exact updW_same⟩ updW_same
theorem bI_ok (h : Ctx C ω b p n ms al S N v d i j m m2) (hz : D.rt (.bool true) ω) : bI C D [some (refD b), some (refD p), some (refD n), some (.int (i : Nat)), some (.int (j : Nat)), s5, some v, some (refD m), some (refD (N m)), s9, s10, s11] ω := by
  have four : 4 ≤ sizeLine := by decide
  have hl := h.okM.len
  have si : ∀ k : Int, k.natAbs ≤ 100 → SeqAt.shaped (.int k) = true := fun k hk => by
    have : fine (.int k) = true := by
      simp only [fine, decide_eq_true_eq]
      by_cases z : k.natAbs = 0
      · rw [z]; decide
      · have := (Nat.log2_lt z (k := 7)).mpr (by omega)
        omega
    unfold SeqAt.shaped
    rw [Bool.and_eq_true]
    exact ⟨fine_lay _ this, by simp [PyData.depth]⟩
  unfold bI
  simp only [dAnd, dAndV, dAsg, dC, dCB, dCall, dCallX, dChain, dCons, dDrop, dErr1, dIf, dIfS, dIsi, dLst, dNext, dNil, dNot, dNotV, dOp, dOr, dOrV, dPar, dRet, dRetN, dRetS, dSeq, dSet, dSl, dTest, dTup, dVar, dgCons, dgName, dgNil, dgTup, dNeg, endsD, xcOf, dFz, startD, wipeD, List.getElem?_cons_zero, List.getElem?_cons_succ, List.set_cons_zero, List.set_cons_succ, List.map_cons, List.map_nil, List.cons_append, List.nil_append, List.length_cons, List.length_nil, List.replicate]
  refine lenD_cell (h.st.due m h.mi) (lenD_cell (h.st.due m h.mi) ⟨trivial, ?_⟩)
  dsimp only
  refine ⟨four, b, 4, rfl, h.st.bag, by decide, by decide, fun r r0 r4 => ?_⟩
  have rr : r = 0 ∨ r = 1 ∨ r = 2 ∨ r = 3 := by omega
  rcases rr with rfl | rfl | rfl | rfl
  · refine ⟨_, rfl, m, S m, _, rfl, h.eM, h.okM.lot, trivial, si _ (by omega), by simp [PyData.eqv], ?_, hz⟩
    show ixN _ _ = none
    unfold ixN
    rw [if_pos (by omega), if_neg (by omega)]
  · refine ⟨_, rfl, m, S m, _, rfl, h.eM, h.okM.lot, trivial, si _ (by omega), by simp [PyData.eqv], ?_, hz⟩
    show ixN _ _ = none
    unfold ixN
    rw [if_neg (by omega), if_neg (by omega)]
  · exact ⟨_, rfl, m, S m, _, rfl, h.eM, h.okM.lot, trivial, by decide +kernel, rfl, rfl, hz⟩
  · exact ⟨_, rfl, m, S m, _, rfl, h.eM, h.okM.lot, trivial, by decide +kernel, by decide +kernel, rfl, hz⟩
end
end Tx

namespace Tx
open PySem PySem.Spec PyProof.Rows L2
/-! ## k14: one step -/
/-- 0 _law_bag_here, 1 _law_pool, 2 _law_dues, 3 _law_k, 4 _law_j, 5 _law_pick, 6 _law_value_here, 7 _law_one, 8 _law_due, 9 _law_right, 10 _law_count, 11 _law_at -/
abbrev sStepU : Stmt := top 26
theorem scStepU : FnScope ["_law_bag_here", "_law_pool", "_law_dues", "_law_k", "_law_j", "_law_pick", "_law_value_here", "_law_one", "_law_due", "_law_right", "_law_count", "_law_at"] ["_law_bag_here", "_law_pool", "_law_dues"] (defScope sStepU) := ⟨rfl, rfl, rfl, by decide +kernel, rfl, by decide +kernel, by decide +kernel⟩
def is5 (k : Int) : DTT := dTest (dOp eqD (dVar 5) (dC (.int k)))
def lt8 (k : Int) : DTT := dTest (dOp (intD (fun _ _ => True) fun i j => .bool (decide (i < j))) (dCB lenD (dCons (dVar 8) dNil)) (dC (.int k)))
def lt28 : DTT := dTest (dOp (intD (fun _ _ => True) fun i j => .bool (decide (i < j))) (dOp addD (dCB lenD (dCons (dVar 8) dNil)) (dCB lenD (dCons (dOp ixD (dVar 2) (dVar 4)) dNil))) (dC (.int 45)))
def ch6 (C CN : Addr) : DTS := dIfS (dAnd (is5 6) (dTest (dOp neD (dVar 8) (dLst dNil)))) (bH C CN) (bI C)
def ch5 (C CN : Addr) : DTS := dIfS (is5 5) bG (ch6 C CN)
def ch4 (K : PySem.W.Frag) (C CN : Addr) : DTS := dIfS (dAnd (is5 4) (lt8 15)) (bF K C) (ch5 C CN)
def ch3 (K : PySem.W.Frag) (C CN : Addr) : DTS := dIfS (dAnd (is5 3) (lt8 40)) (dIfS (dTest (dOp eqD (dCall dsTake (dCons (dVar 0) (dCons (dC (.int 2)) dNil))) (dC (.int 0)))) (bD C) (bE C)) (ch4 K C CN)
def ch2 (K : PySem.W.Frag) (C CN : Addr) : DTS := dIfS (dAnd (is5 2) lt28) (bC C) (ch3 K C CN)
def ch1 (K : PySem.W.Frag) (C CN : Addr) : DTS := dIfS (dAnd (is5 1) lt28) (bB K C) (ch2 K C CN)
def ch0 (K : PySem.W.Frag) (C CN : Addr) : DTS := dIfS (is5 0) (bA C) (ch1 K C CN)
section
variable {K : PySem.W.Frag} {mg : Str → Option Value} {C CN b p n m m2 : Addr} {ω : Wd} {ms al : List Addr} {S : Addr → List PyData} {N : Addr → Addr} {v d : PyData} {i j : Nat} {k pk : Int} {D : DEnds} {s9 s10 s11 : Option PyData}
theorem is5_ok {s0 s1 s2 s3 s4 s6 s7 s8 : Option PyData} {T U : DTS} (hT : T D [s0, s1, s2, s3, s4, some (.int pk), s6, s7, s8, s9, s10, s11] ω) (hU : U D [s0, s1, s2, s3, s4, some (.int pk), s6, s7, s8, s9, s10, s11] ω) : dIfS (is5 k) T U D [s0, s1, s2, s3, s4, some (.int pk), s6, s7, s8, s9, s10, s11] ω := by
  show if decide (pk = k) = true then T D [s0, s1, s2, s3, s4, some (.int pk), s6, s7, s8, s9, s10, s11] ω else U D [s0, s1, s2, s3, s4, some (.int pk), s6, s7, s8, s9, s10, s11] ω
  exact ite2 (fun _ => hT) (fun _ => hU)
theorem and5_ok {s0 s1 s2 s3 s4 s6 s7 s8 : Option PyData} {c : DTT} {T U : DTS} (hc : c [s0, s1, s2, s3, s4, some (.int pk), s6, s7, s8, s9, s10, s11] ω (fun b ω1 => if b = true then T D [s0, s1, s2, s3, s4, some (.int pk), s6, s7, s8, s9, s10, s11] ω1 else U D [s0, s1, s2, s3, s4, some (.int pk), s6, s7, s8, s9, s10, s11] ω1) (xcOf D [s0, s1, s2, s3, s4, some (.int pk), s6, s7, s8, s9, s10, s11]))
    (hU : U D [s0, s1, s2, s3, s4, some (.int pk), s6, s7, s8, s9, s10, s11] ω) : dIfS (dAnd (is5 k) c) T U D [s0, s1, s2, s3, s4, some (.int pk), s6, s7, s8, s9, s10, s11] ω := by
  show if decide (pk = k) = true then c [s0, s1, s2, s3, s4, some (.int pk), s6, s7, s8, s9, s10, s11] ω (fun b ω1 => if b = true then T D [s0, s1, s2, s3, s4, some (.int pk), s6, s7, s8, s9, s10, s11] ω1 else U D [s0, s1, s2, s3, s4, some (.int pk), s6, s7, s8, s9, s10, s11] ω1) (xcOf D [s0, s1, s2, s3, s4, some (.int pk), s6, s7, s8, s9, s10, s11]) else (if false = true then T D [s0, s1, s2, s3, s4, some (.int pk), s6, s7, s8, s9, s10, s11] ω else U D [s0, s1, s2, s3, s4, some (.int pk), s6, s7, s8, s9, s10, s11] ω)
  exact ite2 (fun _ => hc) (fun _ => iteF hU)
theorem ch_ok (xm : OM K C) (h : Ctx C ω b p n ms al S N v d i j m m2) (hz : D.rt (.bool true) ω) (nx : Nx C D b p n al v d (some (.int (i : Nat))) (some (.int (j : Nat))) (some (.int pk))) :
    ch0 K C CN D [some (refD b), some (refD p), some (refD n), some (.int (i : Nat)), some (.int (j : Nat)), some (.int pk), some v, some (refD m), some (refD (N m)), s9, s10, s11] ω := by
  have hd := h.st.due m h.mi
  have c6 : ch6 C CN D [some (refD b), some (refD p), some (refD n), some (.int (i : Nat)), some (.int (j : Nat)), some (.int pk), some v, some (refD m), some (refD (N m)), s9, s10, s11] ω := by
    refine and5_ok ?_ (bI_ok h hz)
    unfold dTest
    simp only [dAnd, dAndV, dAsg, dC, dCB, dCall, dCallX, dChain, dCons, dDrop, dErr1, dIf, dIfS, dIsi, dLst, dNext, dNil, dNot, dNotV, dOp, dOr, dOrV, dPar, dRet, dRetN, dRetS, dSeq, dSet, dSl, dTest, dTup, dVar, dgCons, dgName, dgNil, dgTup, dNeg, endsD, xcOf, dFz, startD, wipeD, List.getElem?_cons_zero, List.getElem?_cons_succ, List.set_cons_zero, List.set_cons_succ, List.map_cons, List.map_nil, List.cons_append, List.nil_append, List.length_cons, List.length_nil, List.replicate]
    refine ⟨Nat.zero_le _, neD_of (e := .list []) (Full.cell hd) (.inl rfl) h.okM.lot.shaped (by decide +kernel) ?_⟩
    rw [eqv_nilU]
    cases q : S m with
    | nil => exact iteF (bI_ok h hz)
    | cons x xs => exact iteT (bH_ok h (by rw [q]; simp) nx)
  have c5 := is5_ok (k := 5) (bG_ok h nx) c6
  have c4 : ch4 K C CN D [some (refD b), some (refD p), some (refD n), some (.int (i : Nat)), some (.int (j : Nat)), some (.int pk), some v, some (refD m), some (refD (N m)), s9, s10, s11] ω := by
    refine and5_ok ?_ c5
    unfold lt8
    simp only [dAnd, dAndV, dAsg, dC, dCB, dCall, dCallX, dChain, dCons, dDrop, dErr1, dIf, dIfS, dIsi, dLst, dNext, dNil, dNot, dNotV, dOp, dOr, dOrV, dPar, dRet, dRetN, dRetS, dSeq, dSet, dSl, dTest, dTup, dVar, dgCons, dgName, dgNil, dgTup, dNeg, endsD, xcOf, dFz, startD, wipeD, List.getElem?_cons_zero, List.getElem?_cons_succ, List.set_cons_zero, List.set_cons_succ, List.map_cons, List.map_nil, List.cons_append, List.nil_append, List.length_cons, List.length_nil, List.replicate]
    refine lenD_cell hd ⟨trivial, ite2 (fun l => bF_ok xm h ?_ nx) (fun _ => c5)⟩
    have := of_decide_eq_true l
    omega
  have c3 : ch3 K C CN D [some (refD b), some (refD p), some (refD n), some (.int (i : Nat)), some (.int (j : Nat)), some (.int pk), some v, some (refD m), some (refD (N m)), s9, s10, s11] ω := by
    refine and5_ok ?_ c4
    unfold lt8
    simp only [dAnd, dAndV, dAsg, dC, dCB, dCall, dCallX, dChain, dCons, dDrop, dErr1, dIf, dIfS, dIsi, dLst, dNext, dNil, dNot, dNotV, dOp, dOr, dOrV, dPar, dRet, dRetN, dRetS, dSeq, dSet, dSl, dTest, dTup, dVar, dgCons, dgName, dgNil, dgTup, dNeg, endsD, xcOf, dFz, startD, wipeD, List.getElem?_cons_zero, List.getElem?_cons_succ, List.set_cons_zero, List.set_cons_succ, List.map_cons, List.map_nil, List.cons_append, List.nil_append, List.length_cons, List.length_nil, List.replicate]
    refine lenD_cell hd ⟨trivial, ite2 (fun l => ?_) (fun _ => c4)⟩
    have l := of_decide_eq_true l
    refine ⟨b, 2, rfl, h.st.bag, by decide, by decide, fun r r0 r2 => ?_⟩
    exact ite2 (fun _ => bD_ok h (by omega) nx) (fun _ => bE_ok h (by omega) nx)
  have c2 : ch2 K C CN D [some (refD b), some (refD p), some (refD n), some (.int (i : Nat)), some (.int (j : Nat)), some (.int pk), some v, some (refD m), some (refD (N m)), s9, s10, s11] ω := by
    refine and5_ok ?_ c3
    unfold lt28
    simp only [dAnd, dAndV, dAsg, dC, dCB, dCall, dCallX, dChain, dCons, dDrop, dErr1, dIf, dIfS, dIsi, dLst, dNext, dNil, dNot, dNotV, dOp, dOr, dOrV, dPar, dRet, dRetN, dRetS, dSeq, dSet, dSl, dTest, dTup, dVar, dgCons, dgName, dgNil, dgTup, dNeg, endsD, xcOf, dFz, startD, wipeD, List.getElem?_cons_zero, List.getElem?_cons_succ, List.set_cons_zero, List.set_cons_succ, List.map_cons, List.map_nil, List.cons_append, List.nil_append, List.length_cons, List.length_nil, List.replicate]
    refine lenD_cell hd (ixD_cell h.st.hn h.nj (lenD_cell (h.st.due m2 h.mj) ⟨trivial, ite2 (fun l => bC_ok h ?_ nx) (fun _ => c3)⟩))
    have := of_decide_eq_true l
    omega
  have c1 : ch1 K C CN D [some (refD b), some (refD p), some (refD n), some (.int (i : Nat)), some (.int (j : Nat)), some (.int pk), some v, some (refD m), some (refD (N m)), s9, s10, s11] ω := by
    refine and5_ok ?_ c2
    unfold lt28
    simp only [dAnd, dAndV, dAsg, dC, dCB, dCall, dCallX, dChain, dCons, dDrop, dErr1, dIf, dIfS, dIsi, dLst, dNext, dNil, dNot, dNotV, dOp, dOr, dOrV, dPar, dRet, dRetN, dRetS, dSeq, dSet, dSl, dTest, dTup, dVar, dgCons, dgName, dgNil, dgTup, dNeg, endsD, xcOf, dFz, startD, wipeD, List.getElem?_cons_zero, List.getElem?_cons_succ, List.set_cons_zero, List.set_cons_succ, List.map_cons, List.map_nil, List.cons_append, List.nil_append, List.length_cons, List.length_nil, List.replicate]
    refine lenD_cell hd (ixD_cell h.st.hn h.nj (lenD_cell (h.st.due m2 h.mj) ⟨trivial, ite2 (fun l => bB_ok h ?_ nx) (fun _ => c2)⟩))
    have := of_decide_eq_true l
    omega
  exact is5_ok (k := 0) (bA_ok h nx) c1
end
def dsStepU (C : Addr) : DSp := fun ts ω q _ => ∃ b p n ms al S N, ts = [refD b, refD p, refD n] ∧ Row C ω b p n ms al S N ∧ ∀ ω' ms' al' S' N', Row C ω' b p n ms' al' S' N' → (∀ m ∈ al, m ∈ al') → q (.bool true) ω'
section
variable {P : Program} {w : World} {K : PySem.W.Frag} {mg : Str → Option Value} {base : Heap} {C CN CX' : Addr}
theorem dd_stepU (xc : OC K mg "Entries" "rows" C) (xm : OM K C) (xr : OR K C) (h : Has K mg "_law_step" sStepU) (B : Bi mg) (D_law_take : Dfn P w K mg base CX0 1 "_law_take" ["_law_bag_here", "_law_many"] (spD K dsTake)) (D_law_value : Dfn P w K mg base CX0 26 "_law_value" ["_law_bag_here", "_law_deep", "_law_room"] (spD K (dsValueT 6)))
    (D_law_entries : Dfn P w K mg base CX0 1 "_law_entries" ["_law_value_here"] (spD K dsEntriesO)) (D_law_copy : Dfn P w K mg base CX0 30 "_law_copy" ["_law_value_here"] (spD K (dsLCopy 30))) (D_law_copyR : Dfn P w K mg base CX0 30 "_law_copy" ["_law_value_here"] (spCopied K 30)) (D_law_spoil : Dfn P w K mg base CX0 30 "_law_spoil" ["_law_value_here"] (spD K (dsSpoil 30)))
    (D_law_is_refused : Dfn P w K mg base CX0 33 "_law_is_refused" ["_law_one", "_law_at"] (spD K (dsRefused C))) (M_init : Mfn P w K mg base CX0 33 C "__init__" ["self", "value"] (spD K (dsInitU C))) (M_add : Mfn P w K mg base CX0 35 C "__add__" ["self", "other"] (spD K (dsAddU C))) (M_radd : Mfn P w K mg base CX0 35 C "__radd__" ["self", "other"] (spD K (dsRaddU C)))
    (M_iadd : Mfn P w K mg base CX0 32 C "__iadd__" ["self", "other"] (spD K (dsIaddU C))) (M_mul : Mfn P w K mg base CX0 35 C "__mul__" ["self", "count"] (spD K (dsMul C))) (M_set_entry : Mfn P w K mg base (L2.CX P w) 32 C "set_entry" ["self", "at", "value"] (spD K (dsSetX C CN))) : Dfn P w K mg base CX0 37 "_law_step" ["_law_bag_here", "_law_pool", "_law_dues"] (spD K (dsStepU C)) := by
  refine dfnD (k := 36) h B scStepU (fun _ _ _ _ _ _ us hl => match us, hl with | [_, _, _], _ => rfl) (fun ts ω q x h => ?_) (fun f cv A out s H E c => ⟨_, (dss_cons (ds_par (i := 3) (j := 4) rfl scStepU.nd rfl rfl (by decide) rfl rfl (da_cons (de_d D_law_take c (by omega) (by rfl) (da_cons (de_var (pv 0)) (da_cons de_int da_nil))) (da_cons (de_d D_law_take c (by omega) (by rfl) (da_cons (de_var (pv 0)) (da_cons de_int da_nil))) da_nil)) (by rfl))
    (dss_cons (ds_par (i := 5) (j := 6) rfl scStepU.nd rfl rfl (by decide) rfl rfl (da_cons (de_d D_law_take c (by omega) (by rfl) (da_cons (de_var (pv 0)) (da_cons de_int da_nil))) (da_cons (de_d D_law_value c (by omega) (by rfl) (da_cons (de_var (pv 0)) (da_cons de_int (da_cons de_int da_nil)))) da_nil)) (by rfl))
    (dss_cons (ds_par (i := 7) (j := 8) rfl scStepU.nd rfl rfl (by decide) rfl rfl (da_cons (de_ix rfl (de_var (pv 1)) (de_var (pv 3)) (fun _ _ => rfl)) (da_cons (de_ix rfl (de_var (pv 2)) (de_var (pv 3)) (fun _ _ => rfl)) da_nil)) (by rfl))
    (dss_cons (ds_if (dt_cmp (do_eq rfl c.r.units) (de_var (pv 5)) de_int (nomark _)) (dss_one (ds_subs2 rfl (de_var (pv 1)) (de_var (pv 3)) (de_var (pv 2)) (de_var (pv 3)) (de_tup (da_cons (de_make rfl xc.cd M_init c (by omega) (by rfl) px0 (da_cons (de_var (pv 6)) da_nil)) (da_cons (de_fz (de_cpR rfl D_law_copyR c (by omega) (by rfl) (de_d D_law_entries c (by omega) (by rfl) (da_cons (de_var (pv 6)) da_nil)))) da_nil))) set_listO rfl)) (dss_one (ds_if (DW.dt (dw_and (dt_cmp (do_eq rfl c.r.units) (de_var (pv 5)) de_int (nomark _)) (dw_and1 (dt_cmp (do_lt rfl) (de_op (do_add rfl) (de_callB (dc_len rfl) (by rfl) c.b.len (by decide +kernel) (da_cons (de_var (pv 8)) da_nil)) (de_callB (dc_len rfl) (by rfl) c.b.len (by decide +kernel) (da_cons (de_ix rfl (de_var (pv 2)) (de_var (pv 4)) (fun _ _ => rfl)) da_nil))) de_int (nomark _))))) (dss_one (ds_subs2 rfl (de_var (pv 1)) (de_var (pv 3)) (de_var (pv 2)) (de_var (pv 3)) (de_tup (da_cons (de_opM (dm_bin rfl M_add c (by omega) xc.badd) (de_var (pv 7)) (de_ix rfl (de_var (pv 1)) (de_var (pv 4)) (fun _ _ => rfl))) (da_cons (de_fz (de_d D_law_copy c (by omega) (by rfl) (da_cons (de_op (do_add rfl) (de_var (pv 8)) (de_ix rfl (de_var (pv 2)) (de_var (pv 4)) (fun _ _ => rfl))) da_nil))) da_nil))) set_listO rfl)) (dss_one (ds_if (DW.dt (dw_and (dt_cmp (do_eq rfl c.r.units) (de_var (pv 5)) de_int (nomark _)) (dw_and1 (dt_cmp (do_lt rfl) (de_op (do_add rfl) (de_callB (dc_len rfl) (by rfl) c.b.len (by decide +kernel) (da_cons (de_var (pv 8)) da_nil)) (de_callB (dc_len rfl) (by rfl) c.b.len (by decide +kernel) (da_cons (de_ix rfl (de_var (pv 2)) (de_var (pv 4)) (fun _ _ => rfl)) da_nil))) de_int (nomark _))))) (dss_cons (ds_set (i := 9) scStepU.nd rfl (Or.inl rfl) (de_ix rfl (de_var (pv 1)) (de_var (pv 4)) (fun _ _ => rfl)))
    (dss_cons (ds_aug (n := 7) scStepU.nd rfl (Or.inl rfl) (de_var (pv 9)) (dm_inp rfl M_iadd c (by omega) xc.badd.first))
    (dss_one (ds_expr (de_extend rfl (de_var (pv 8)) (de_fz (de_d D_law_copy c (by omega) (by rfl) (da_cons (de_ix rfl (de_var (pv 2)) (de_var (pv 4)) (fun _ _ => rfl)) da_nil)))))))) (dss_one (ds_if (DW.dt (dw_and (dt_cmp (do_eq rfl c.r.units) (de_var (pv 5)) de_int (nomark _)) (dw_and1 (dt_cmp (do_lt rfl) (de_callB (dc_len rfl) (by rfl) c.b.len (by decide +kernel) (da_cons (de_var (pv 8)) da_nil)) de_int (nomark _))))) (dss_one (ds_if (dt_cmp (do_eq rfl c.r.units) (de_d D_law_take c (by omega) (by rfl) (da_cons (de_var (pv 0)) (da_cons de_int da_nil))) de_int (nomark _)) (dss_cons (ds_setS (de_var (pv 1)) (de_var (pv 3)) (de_opM (dm_raddF rfl M_radd c (by omega) xr) (de_var (pv 6)) (de_var (pv 7))) set_listO)
    (dss_one (ds_setS (de_var (pv 2)) (de_var (pv 3)) (de_fz (de_cpR rfl D_law_copyR c (by omega) (by rfl) (de_op (do_add rfl) (de_d D_law_entries c (by omega) (by rfl) (da_cons (de_var (pv 6)) da_nil)) (de_var (pv 8))))) set_listO))) (dss_cons (ds_aug (n := 7) scStepU.nd rfl (Or.inl rfl) (de_var (pv 6)) (dm_inp rfl M_iadd c (by omega) xc.badd.first))
    (dss_one (ds_expr (de_extend rfl (de_var (pv 8)) (de_fz (de_cpR rfl D_law_copyR c (by omega) (by rfl) (de_d D_law_entries c (by omega) (by rfl) (da_cons (de_var (pv 6)) da_nil)))))))))) (dss_one (ds_if (DW.dt (dw_and (dt_cmp (do_eq rfl c.r.units) (de_var (pv 5)) de_int (nomark _)) (dw_and1 (dt_cmp (do_lt rfl) (de_callB (dc_len rfl) (by rfl) c.b.len (by decide +kernel) (da_cons (de_var (pv 8)) da_nil)) de_int (nomark _))))) (dss_cons (ds_set (i := 10) scStepU.nd rfl (Or.inl rfl) (de_op (do_sub rfl) (de_d D_law_take c (by omega) (by rfl) (da_cons (de_var (pv 0)) (da_cons de_int da_nil))) de_int))
    (dss_cons (ds_setS (de_var (pv 1)) (de_var (pv 3)) (de_opM (dm_bin rfl M_mul c (by omega) xm.bm) (de_var (pv 7)) (de_var (pv 10))) set_listO)
    (dss_one (ds_setS (de_var (pv 2)) (de_var (pv 3)) (de_fz (de_d D_law_copy c (by omega) (by rfl) (da_cons (de_op (do_mulA rfl) (de_var (pv 8)) (de_callB (dc_max2 rfl rfl) (by rfl) c.b.max (by decide +kernel) (da_cons de_int (da_cons (de_var (pv 10)) da_nil)))) da_nil))) set_listO)))) (dss_one (ds_if (dt_cmp (do_eq rfl c.r.units) (de_var (pv 5)) de_int (nomark _)) (dss_one (ds_subs2 rfl (de_var (pv 1)) (de_var (pv 3)) (de_var (pv 2)) (de_var (pv 3)) (de_tup (da_cons (de_ix rfl (de_var (pv 1)) (de_var (pv 4)) (fun _ _ => rfl)) (da_cons (de_ix rfl (de_var (pv 2)) (de_var (pv 4)) (fun _ _ => rfl)) da_nil))) set_listO rfl)) (dss_one (ds_if (DW.dt (dw_and (dt_cmp (do_eq rfl c.r.units) (de_var (pv 5)) de_int (nomark _)) (dw_and1 (dt_cmp (do_ne rfl c.r.units) (de_var (pv 8)) (de_lst da_nil) (nomark _))))) (dss_cons (ds_set (i := 11) scStepU.nd rfl (Or.inl rfl) (de_op (do_sub rfl) (de_d D_law_take c (by omega) (by rfl) (da_cons (de_var (pv 0)) (da_cons (de_op (do_mulA rfl) de_int (de_callB (dc_len rfl) (by rfl) c.b.len (by decide +kernel) (da_cons (de_var (pv 8)) da_nil))) da_nil))) (de_callB (dc_len rfl) (by rfl) c.b.len (by decide +kernel) (da_cons (de_var (pv 8)) da_nil))))
    (dss_cons (ds_expr (de_meth rfl M_set_entry xc.cd.cl c (by omega) (pxX takes0) (de_var (pv 7)) (da_cons (de_var (pv 11)) (da_cons (de_var (pv 6)) da_nil))))
    (dss_one (ds_setS (de_var (pv 8)) (de_var (pv 11)) (de_fz (de_d D_law_copy c (by omega) (by rfl) (da_cons (de_var (pv 6)) da_nil))) set_listO)))) (dss_one (ds_ret (de_d D_law_is_refused c (by omega) (by rfl) (da_cons (de_var (pv 7)) (da_cons (de_ix rfl (de_lst (da_cons (de_callB (dc_len rfl) (by rfl) c.b.len (by decide +kernel) (da_cons (de_var (pv 8)) da_nil)) (da_cons (de_op (do_sub rfl) (de_neg (de_callB (dc_len rfl) (by rfl) c.b.len (by decide +kernel) (da_cons (de_var (pv 8)) da_nil))) de_int) (da_cons de_non (da_cons de_str da_nil))))) (de_d D_law_take c (by omega) (by rfl) (da_cons (de_var (pv 0)) (da_cons de_int da_nil))) (fun _ _ => rfl)) da_nil))))))))))))))))))
    (dss_cons (ds_expr (de_d D_law_spoil c (by omega) (by rfl) (da_cons (de_var (pv 6)) da_nil)))
    (dss_one (ds_ret de_bl))))))), fun ts ω q x h => ?_⟩)
  · obtain ⟨b, p, n, ms, al, S, N, rfl, _⟩ := h; rfl
  obtain ⟨b, p, n, ms, al, S, N, rfl, st, z⟩ := h
  refine ⟨b, 4, rfl, st.bag, by decide, by decide, fun k k0 k4 => ⟨b, 4, rfl, st.bag, by decide, by decide, fun j j0 j4 => ?_⟩⟩
  obtain ⟨i, rfl⟩ : ∃ i : Nat, k = (i : Int) := ⟨k.toNat, (Int.toNat_of_nonneg k0).symm⟩
  obtain ⟨j, rfl⟩ : ∃ i : Nat, j = (i : Int) := ⟨j.toNat, (Int.toNat_of_nonneg j0).symm⟩
  have l4 := st.len
  obtain ⟨m, hm⟩ : ∃ m, ms[i]? = some m := ⟨ms[i]'(by omega), List.getElem?_eq_getElem _⟩
  obtain ⟨m2, hm2⟩ : ∃ m, ms[j]? = some m := ⟨ms[j]'(by omega), List.getElem?_eq_getElem _⟩
  refine ⟨b, 8, rfl, st.bag, by decide, by decide, fun pk p0 p8 => ⟨b, 2, 8, rfl, st.bag, by decide, by decide, by decide, by decide, fun d v ω1 hv tm => ?_⟩⟩
  have st1 := st.keep (Keep.tm tm)
  have cx : Ctx C ω1 b p n ms al S N v d i j m m2 := ⟨st1, tm.vt, hv, hm, hm2⟩
  refine ixD_cell st1.hp (d := refD m) (atI_nn (by rw [List.getElem?_map, hm]; rfl)) ?_
  refine ixD_cell st1.hn (d := refD (N m)) (atI_nn (by rw [List.map_map, List.getElem?_map, hm]; rfl)) ?_
  have hz : ∀ ω' ms' al' S' N', Row C ω' b p n ms' al' S' N' → (∀ m ∈ al, m ∈ al') → q (.bool true) ω' := z
  refine ch_ok (CN := CN) xm cx (hz ω1 ms al S N st1 fun _ hx => hx) ?_
  intro ω' ms' al' S' N' y7 y8 y9 y10 y11 row sub vt
  obtain ⟨ω0, tm0, kw⟩ := vt.spoil
  refine ⟨v, d, ω0, rfl, tm0, hv.val, ?_, ?_, ?_⟩
  · have := hv.deep
    show d.depth < 30
    have e : (2 : Int).toNat = 2 := rfl
    omega
  · have := hv.size
    have e : (8 : Int).toNat = 8 := rfl
    omega
  · exact hz ω0 ms' al' S' N' (row.weak kw) sub
end
end Tx

namespace Tx
open PySem PySem.Spec PyProof.Rows L2
/-! ## k14: the law -/
/-- 0 _law_script, 1 _law_at, 2 _law_bag_here, 3 _law_pool, 4 _law_dues, 5 _law_turn, 6 _law_held, 7 _law_told, 8 _law_text_here, 9 _law_one, 10 _law_due, 11 _law_other, 12 _law_beside -/
abbrev sLaw : Stmt := top 27
theorem scLaw : FnScope ["_law_script", "_law_at", "_law_bag_here", "_law_pool", "_law_dues", "_law_turn", "_law_held", "_law_told", "_law_text_here", "_law_one", "_law_due", "_law_other", "_law_beside"] ["_law_script"] (defScope sLaw) := ⟨rfl, rfl, rfl, by decide +kernel, rfl, by decide +kernel, by decide +kernel⟩
def gQ2 (i j : Nat) : DTG := dgTup 2 (dgCons (dgName i) (dgCons (dgName j) dgNil))
def zpE : DTIo := dioZipO (dCons (dVar 3) (dCons (dVar 4) dNil))
def pools14 (C : Addr) : DTS := dSet 3 (dLstO (dCons (dMake C (dsInitU C) (dCons (dC .none) dNil)) (dCons (dMake C (dsInitU C) (dCons (dC (.str "ab")) dNil)) (dCons (dMake C (dsInitU C) (dCons (dLst (dCons (dC (.str "a")) (dCons (dC .none) dNil))) dNil)) (dCons (dCM C (dsOfU C) (dCons (dLst dNil) dNil)) dNil)))))
def dues14 : DTS := dSet 4 (dLstO (dCons (dLstO dNil) (dCons (dLstO (dCons (dC (.str "ab")) dNil)) (dCons (dLstO (dCons (dC (.str "a")) (dCons (dC .none) dNil))) (dCons (dLstO (dCons (dLst dNil) dNil)) dNil)))))
def told14 (C : Addr) : DTS := dSeq (dSet 6 (dOp ixD (dVar 3) (dCall dsTake (dCons (dVar 2) (dCons (dC (.int 4)) dNil))))) (dSeq (dSet 7 (dFrzE (dMeth C "listed" (dsListed C) (dVar 6) dNil))) (dSet 8 (dCB reprD (dCons (dVar 7) dNil))))
def stp14 (C : Addr) : DTS := dIfS (dNot (dTest (dCall (dsStepU C) (dCons (dVar 2) (dCons (dVar 3) (dCons (dVar 4) dNil)))))) (dRet (dC (.bool false))) dNext
def kept14 (C : Addr) : DTS := dIfS (dOr (dTest (dOp neD (dCB lenD (dCons (dFrzE (dMeth C "listed" (dsListed C) (dVar 6) dNil)) dNil)) (dCBM (rmLen C (dsLen C)) (dCons (dVar 6) dNil)))) (dTest (dOp neD (dCB reprD (dCons (dVar 7) dNil)) (dVar 8)))) (dRet (dC (.bool false))) dNext
def look14 (C : Addr) : DTS := dForP zpE (gQ2 9 10) (dIfS (dNot (dTest (dCall (dsRightU C) (dCons (dVar 9) (dCons (dVar 10) dNil))))) (dRet (dC (.bool false))) dNext)
def pair14 (C : Addr) : DTS := dForP zpE (gQ2 9 10) (dForP zpE (gQ2 11 12) (dIfS (dTest (dOp neD (dOpM (rmEq C (dsEq C)) (dVar 9) (dVar 11)) (dOp eqD (dVar 10) (dVar 12)))) (dRet (dC (.bool false))) dNext))
def turn14 (C : Addr) : DTS := dSeq (dSet 6 (dOp ixD (dVar 3) (dCall dsTake (dCons (dVar 2) (dCons (dC (.int 4)) dNil))))) (dSeq (dSet 7 (dFrzE (dMeth C "listed" (dsListed C) (dVar 6) dNil))) (dSeq (dSet 8 (dCB reprD (dCons (dVar 7) dNil))) (dSeq (stp14 C) (dSeq (kept14 C) (look14 C)))))
section
variable {mg : Str → Option Value} {C b p n m : Addr} {ω : Wd} {ms al : List Addr} {S : Addr → List PyData} {N : Addr → Addr} {D : DEnds} {s0 s1 s3 s4 s5 s6 s7 s8 s9 s10 s11 s12 : Option PyData} {T : Str}
theorem zip_at {j : Nat} {x : PyData} (h : (zipO (ms.map refD) ((ms.map N).map refD))[j]? = some x) : ∃ m ∈ ms, x = .tuple [refD m, refD (N m)] := by
  unfold zipO at h
  rw [List.getElem?_zipWith, List.map_map, List.getElem?_map, List.getElem?_map] at h
  cases e : ms[j]? with
  | none => rw [e] at h; simp at h
  | some m =>
    rw [e] at h
    exact ⟨m, List.mem_of_getElem? e, (Option.some.inj h).symm⟩
theorem Ent.at {ds : List PyData} (h : Ent C ω m ds) {q : DQ} {x : DXK} {s : DS} (lot : Lot ds) (i : Nat) (hi : s[i]? = some (some (refD m))) (z : q (.list ds) ω) : dFrzE (dMeth C "listed" (dsListed C) (dVar i) dNil) s ω q x := by
  obtain ⟨dx, p, eM⟩ := h
  unfold dFrzE dMeth dVar
  simp only [hi]
  refine ⟨m, _, rfl, eM, ⟨rfl, rfl⟩, m, ds, rfl, ⟨dx, p, eM⟩, lot, fun r hr => ⟨r, ds, rfl, updW_same, ?_⟩⟩
  rw [delW_updW hr]
  exact z
theorem look14_ok (row : Row C ω b p n ms al S N) (nx : ∀ ω' y9 y10, Row C ω' b p n ms al S N → D.nx [s0, s1, some (refD b), some (refD p), some (refD n), s5, s6, s7, s8, y9, y10, s11, s12] ω') :
    look14 C D [s0, s1, some (refD b), some (refD p), some (refD n), s5, s6, s7, s8, s9, s10, s11, s12] ω := by
  refine ⟨p, n, _, _, rfl, row.hp, row.hn, by rw [List.length_map, List.length_map, List.length_map], fun _ ρ ω' => ∃ y9 y10, ρ = [s0, s1, some (refD b), some (refD p), some (refD n), s5, s6, s7, s8, y9, y10, s11, s12] ∧ Row C ω' b p n ms al S N, ⟨_, _, rfl, row⟩, ?_, ?_, ?_⟩
  · rintro i ρ ω' ⟨_, _, _, r⟩
    exact ⟨r.hp, r.hn⟩
  · rintro i x ρ ω' hx ⟨y9, y10, rfl, r⟩
    obtain ⟨m, hm, rfl⟩ := zip_at hx
    have ha := r.sub m hm
    refine ⟨rfl, rfl, m, N m, S m, rfl, r.ent m ha, r.due m hm, r.ok m ha, fun ω3 k => iteF ⟨_, _, rfl, r.keep k⟩⟩
  · rintro ρ ω' ⟨y9, y10, rfl, r⟩
    exact nx _ _ _ r
theorem body14_ok {m m2 : Addr} (row : Row C ω b p n ms al S N) (hm : m ∈ ms) (hm2 : m2 ∈ ms) (nx : D.nx [s0, s1, some (refD b), some (refD p), some (refD n), s5, s6, s7, s8, some (refD m), some (refD (N m)), some (refD m2), some (refD (N m2))] ω) :
    dIfS (dTest (dOp neD (dOpM (rmEq C (dsEq C)) (dVar 9) (dVar 11)) (dOp eqD (dVar 10) (dVar 12)))) (dRet (dC (.bool false))) dNext D [s0, s1, some (refD b), some (refD p), some (refD n), s5, s6, s7, s8, some (refD m), some (refD (N m)), some (refD m2), some (refD (N m2))] ω := by
  have h1 := row.sub m hm
  have h2 := row.sub m2 hm2
  obtain ⟨dx1, q1, e1⟩ := row.ent m h1
  obtain ⟨dx2, q2, e2⟩ := row.ent m2 h2
  unfold dOpM
  simp only [dAnd, dAndV, dAsg, dC, dCB, dCall, dCallX, dChain, dCons, dDrop, dErr1, dIf, dIfS, dIsi, dLst, dNext, dNil, dNot, dNotV, dOp, dOr, dOrV, dPar, dRet, dRetN, dRetS, dSeq, dSet, dSl, dTest, dTup, dVar, dgCons, dgName, dgNil, dgTup, dNeg, endsD, xcOf, dFz, startD, wipeD, List.getElem?_cons_zero, List.getElem?_cons_succ, List.set_cons_zero, List.set_cons_succ, List.map_cons, List.map_nil, List.cons_append, List.nil_append, List.length_cons, List.length_nil, List.replicate]
  refine ⟨⟨m, _, rfl, e1, rfl, rfl⟩, ⟨"x", m2, _, rfl, e2, rfl, rfl⟩, m, m2, S m, S m2, rfl, ⟨dx1, q1, e1⟩, ⟨dx2, q2, e2⟩, (row.ok m h1).lot, (row.ok m2 h2).lot, ?_⟩
  refine eqD_of (Full.cell (row.due m hm)) (Full.cell (row.due m2 hm2)) (row.ok m h1).lot.shaped (row.ok m2 h2).lot.shaped ?_
  exact neBU rfl (iteF nx)
theorem pair14_ok (row : Row C ω b p n ms al S N) (nx : ∀ y9 y10 y11 y12, D.nx [s0, s1, some (refD b), some (refD p), some (refD n), s5, s6, s7, s8, y9, y10, y11, y12] ω) :
    pair14 C D [s0, s1, some (refD b), some (refD p), some (refD n), s5, s6, s7, s8, s9, s10, s11, s12] ω := by
  refine ⟨p, n, _, _, rfl, row.hp, row.hn, by rw [List.length_map, List.length_map, List.length_map], fun _ ρ ω' => ∃ y9 y10 y11 y12, ρ = [s0, s1, some (refD b), some (refD p), some (refD n), s5, s6, s7, s8, y9, y10, y11, y12] ∧ ω' = ω, ⟨_, _, _, _, rfl, rfl⟩, ?_, ?_, ?_⟩
  · rintro i ρ ω' ⟨_, _, _, _, _, rfl⟩
    exact ⟨row.hp, row.hn⟩
  · rintro i x ρ ω' hx ⟨y9, y10, y11, y12, rfl, rfl⟩
    obtain ⟨m, hm, rfl⟩ := zip_at hx
    refine ⟨rfl, rfl, ?_⟩
    refine ⟨p, n, _, _, rfl, row.hp, row.hn, by rw [List.length_map, List.length_map, List.length_map], fun _ ρ ω2 => ∃ y11 y12, ρ = [s0, s1, some (refD b), some (refD p), some (refD n), s5, s6, s7, s8, some (refD m), some (refD (N m)), y11, y12] ∧ ω2 = ω', ⟨_, _, rfl, rfl⟩, ?_, ?_, ?_⟩
    · rintro i ρ ω' ⟨_, _, _, rfl⟩
      exact ⟨row.hp, row.hn⟩
    · rintro i x ρ ω2 hx ⟨y11, y12, rfl, rfl⟩
      obtain ⟨m2, hm2, rfl⟩ := zip_at hx
      exact ⟨rfl, rfl, body14_ok row hm hm2 ⟨_, _, rfl, rfl⟩⟩
    · rintro ρ ω2 ⟨y11, y12, rfl, rfl⟩
      exact ⟨_, _, _, _, rfl, rfl⟩
  · rintro ρ ω' ⟨y9, y10, y11, y12, rfl, rfl⟩
    exact nx _ _ _ _
theorem turn14_ok (row : Row C ω b p n ms al S N) (nx : ∀ ω' ms' al' S' N' y6 y7 y8 y9 y10, Row C ω' b p n ms' al' S' N' → D.nx [s0, s1, some (refD b), some (refD p), some (refD n), s5, y6, y7, y8, y9, y10, s11, s12] ω') :
    turn14 C D [s0, s1, some (refD b), some (refD p), some (refD n), s5, s6, s7, s8, s9, s10, s11, s12] ω := by
  have l4 := row.len
  unfold turn14
  simp only [dAnd, dAndV, dAsg, dC, dCB, dCall, dCallX, dChain, dCons, dDrop, dErr1, dIf, dIfS, dIsi, dLst, dNext, dNil, dNot, dNotV, dOp, dOr, dOrV, dPar, dRet, dRetN, dRetS, dSeq, dSet, dSl, dTest, dTup, dVar, dgCons, dgName, dgNil, dgTup, dNeg, endsD, xcOf, dFz, startD, wipeD, List.getElem?_cons_zero, List.getElem?_cons_succ, List.set_cons_zero, List.set_cons_succ, List.map_cons, List.map_nil, List.cons_append, List.nil_append, List.length_cons, List.length_nil, List.replicate]
  refine ⟨b, 4, rfl, row.bag, by decide, by decide, fun r r0 r4 => ?_⟩
  obtain ⟨i, rfl⟩ : ∃ i : Nat, r = (i : Int) := ⟨r.toNat, (Int.toNat_of_nonneg r0).symm⟩
  obtain ⟨m, hm⟩ : ∃ m, ms[i]? = some m := ⟨ms[i]'(by omega), List.getElem?_eq_getElem _⟩
  have ha := row.sub m (List.mem_of_getElem? hm)
  have okm := row.ok m ha
  refine ixD_cell row.hp (d := refD m) (atI_nn (by rw [List.getElem?_map, hm]; rfl)) ?_
  refine Ent.at (s := [s0, s1, some (refD b), some (refD p), some (refD n), s5, some (refD m), s7, s8, s9, s10, s11, s12]) (row.ent m ha) okm.lot 6 rfl ?_
  refine ⟨.list (S m), .inl rfl, okm.ok, ?_⟩
  refine ⟨b, p, n, ms, al, S, N, rfl, row, fun ω' ms' al' S' N' row' sub => iteF ?_⟩
  have hb := sub m ha
  have okb := row'.ok m hb
  unfold kept14 dCBM
  simp only [dAnd, dAndV, dAsg, dC, dCB, dCall, dCallX, dChain, dCons, dDrop, dErr1, dIf, dIfS, dIsi, dLst, dNext, dNil, dNot, dNotV, dOp, dOr, dOrV, dPar, dRet, dRetN, dRetS, dSeq, dSet, dSl, dTest, dTup, dVar, dgCons, dgName, dgNil, dgTup, dNeg, endsD, xcOf, dFz, startD, wipeD, List.getElem?_cons_zero, List.getElem?_cons_succ, List.set_cons_zero, List.set_cons_succ, List.map_cons, List.map_nil, List.cons_append, List.nil_append, List.length_cons, List.length_nil, List.replicate]
  refine Ent.at (s := [s0, s1, some (refD b), some (refD p), some (refD n), s5, some (refD m), some (.list (S m)), some (.str (PyData.shown (.list (S m)))), s9, s10, s11, s12]) (row'.ent m hb) okb.lot 6 rfl ?_
  obtain ⟨dx, q, e⟩ := row'.ent m hb
  have hl := okb.len
  refine ⟨_, rfl, ⟨m, _, rfl, e, rfl, rfl⟩, m, S' m, rfl, ⟨dx, q, e⟩, _, rfl, by omega, by omega, ne_int ?_⟩
  refine ⟨.list (S m), .inl rfl, okm.ok, ne_same ?_⟩
  exact look14_ok row' fun ω2 y9 y10 r2 => nx _ _ _ _ _ _ _ _ _ _ r2
/-- the four names at the beginning -/
theorem begin14 (hb : ω b = some .bag) (nx : ∀ ω' p n ms al S N, Row C ω' b p n ms al S N → D.nx [s0, s1, some (refD b), some (refD p), some (refD n), s5, s6, s7, s8, s9, s10, s11, s12] ω') :
    dSeq (pools14 C) dues14 D [s0, s1, some (refD b), s3, s4, s5, s6, s7, s8, s9, s10, s11, s12] ω := by
  have sl : 1000 ≤ sizeLine := by decide
  have v : ∀ t : PyData, (t = .none ∨ t = .str "ab" ∨ t = .list [.str "a", .none] ∨ t = .list [.list []]) → Val 19 900000 t := fun t ht => by
    rcases ht with rfl | rfl | rfl | rfl <;> exact ⟨by decide +kernel, by decide +kernel, by decide +kernel⟩
  refine mk_inU (.inl rfl) (v _ (.inl rfl)) fun m1 x1 q1 h1 => ?_
  have b1 := Keep.new (m := .ent C x1 q1 "rows" (meantD .none)) h1 _ _ hb
  have e1 : updW ω m1 (.ent C x1 q1 "rows" (meantD .none)) m1 = some (.ent C x1 q1 "rows" []) := updW_same
  generalize updW ω m1 (.ent C x1 q1 "rows" (meantD .none)) = ω1 at b1 e1
  refine mk_inU (.inl rfl) (v _ (.inr (.inl rfl))) fun m2 x2 q2 h2 => ?_
  have k := Keep.new (m := .ent C x2 q2 "rows" (meantD (.str "ab"))) h2
  have b2 := k _ _ b1
  have e12 := k _ _ e1
  have e2 : updW ω1 m2 (.ent C x2 q2 "rows" (meantD (.str "ab"))) m2 = some (.ent C x2 q2 "rows" [.str "ab"]) := updW_same
  have n12 : m1 ≠ m2 := fun z => by rw [z, h2] at e1; cases e1
  generalize updW ω1 m2 (.ent C x2 q2 "rows" (meantD (.str "ab"))) = ω2 at b2 e12 e2
  refine ⟨by show 2 ≤ sizeLine; omega, mk_inU (.inl rfl) (v _ (.inr (.inr (.inl rfl)))) fun m3 x3 q3 h3 => ?_⟩
  have k := Keep.new (m := .ent C x3 q3 "rows" (meantD (.list [.str "a", .none]))) h3
  have b3 := k _ _ b2
  have e13 := k _ _ e12
  have e23 := k _ _ e2
  have e3 : updW ω2 m3 (.ent C x3 q3 "rows" (meantD (.list [.str "a", .none]))) m3 = some (.ent C x3 q3 "rows" [.str "a", .none]) := updW_same
  have n13 : m1 ≠ m3 := fun z => by rw [z, h3] at e12; cases e12
  have n23 : m2 ≠ m3 := fun z => by rw [z, h3] at e2; cases e2
  generalize updW ω2 m3 (.ent C x3 q3 "rows" (meantD (.list [.str "a", .none]))) = ω3 at b3 e13 e23 e3
  refine ⟨Nat.zero_le _, by show 1 ≤ 5; decide, [.list []], [.list []], rfl, .inl rfl, v _ (.inr (.inr (.inr rfl))), fun m4 x4 q4 h4 => ⟨by show 4 ≤ sizeLine; omega, fun p hp => ?_⟩⟩
  have k := Keep.new (m := .ent C x4 q4 "rows" [.list []]) h4
  have e4 : updW ω3 m4 (.ent C x4 q4 "rows" [.list []]) m4 = some (.ent C x4 q4 "rows" [.list []]) := updW_same
  have b4 := k _ _ b3
  have e14 := k _ _ e13
  have e24 := k _ _ e23
  have e34 := k _ _ e3
  have n14 : m1 ≠ m4 := fun z => by rw [z, h4] at e13; cases e13
  have n24 : m2 ≠ m4 := fun z => by rw [z, h4] at e23; cases e23
  have n34 : m3 ≠ m4 := fun z => by rw [z, h4] at e3; cases e3
  generalize updW ω3 m4 (.ent C x4 q4 "rows" [.list []]) = ω4 at b4 e14 e24 e34 e4 hp
  have k := Keep.new (m := .lst [refD m1, refD m2, refD m3, refD m4]) hp
  have ep : updW ω4 p (.lst [refD m1, refD m2, refD m3, refD m4]) p = some (.lst [refD m1, refD m2, refD m3, refD m4]) := updW_same
  have f1 := k _ _ e14
  have f2 := k _ _ e24
  have f3 := k _ _ e34
  have f4 := k _ _ e4
  have fb := k _ _ b4
  show dues14 D [s0, s1, some (refD b), some (refD p), s4, s5, s6, s7, s8, s9, s10, s11, s12] (updW ω4 p (.lst [refD m1, refD m2, refD m3, refD m4]))
  generalize updW ω4 p (.lst [refD m1, refD m2, refD m3, refD m4]) = ω5 at ep f1 f2 f3 f4 fb
  refine ⟨Nat.zero_le _, fun a1 g1 => ⟨by show 1 ≤ sizeLine; omega, fun a2 g2 => ⟨by show 2 ≤ sizeLine; omega, fun a3 g3 => ⟨Nat.zero_le _, by show 1 ≤ sizeLine; omega, fun a4 g4 => ⟨by show 4 ≤ sizeLine; omega, fun n gn => ?_⟩⟩⟩⟩⟩
  have k1 := Keep.new (m := .lst []) g1
  have k2 := Keep.new (m := .lst [.str "ab"]) g2
  have k3 := Keep.new (m := .lst [.str "a", .none]) g3
  have k4 := Keep.new (m := .lst [.list []]) g4
  have kn := Keep.new (m := .lst [refD a1, refD a2, refD a3, refD a4]) gn
  have c1 : updW ω5 a1 (.lst []) a1 = some (.lst []) := updW_same
  have c2 : updW (updW ω5 a1 (.lst [])) a2 (.lst [.str "ab"]) a2 = some (.lst [.str "ab"]) := updW_same
  have c3 : updW (updW (updW ω5 a1 (.lst [])) a2 (.lst [.str "ab"])) a3 (.lst [.str "a", .none]) a3 = some (.lst [.str "a", .none]) := updW_same
  have c4 : updW (updW (updW (updW ω5 a1 (.lst [])) a2 (.lst [.str "ab"])) a3 (.lst [.str "a", .none])) a4 (.lst [.list []]) a4 = some (.lst [.list []]) := updW_same
  have t12 : a1 ≠ a2 := fun z => by rw [← z, c1] at g2; cases g2
  have t13 : a1 ≠ a3 := fun z => by rw [← z, k2 _ _ c1] at g3; cases g3
  have t14 : a1 ≠ a4 := fun z => by rw [← z, k3 _ _ (k2 _ _ c1)] at g4; cases g4
  have t23 : a2 ≠ a3 := fun z => by rw [← z, c2] at g3; cases g3
  have t24 : a2 ≠ a4 := fun z => by rw [← z, k3 _ _ c2] at g4; cases g4
  have t34 : a3 ≠ a4 := fun z => by rw [← z, c3] at g4; cases g4
  have kk : ∀ c x, ω5 c = some x → updW (updW (updW (updW ω5 a1 (.lst [])) a2 (.lst [.str "ab"])) a3 (.lst [.str "a", .none])) a4 (.lst [.list []]) c = some x := fun c x e => k4 _ _ (k3 _ _ (k2 _ _ (k1 _ _ e)))
  have d1 := k4 _ _ (k3 _ _ (k2 _ _ c1))
  have d2 := k4 _ _ (k3 _ _ c2)
  have d3 := k4 _ _ c3
  generalize updW (updW (updW (updW ω5 a1 (.lst [])) a2 (.lst [.str "ab"])) a3 (.lst [.str "a", .none])) a4 (.lst [.list []]) = ω6 at kk d1 d2 d3 c4 gn kn
  have cn : updW ω6 n (.lst [refD a1, refD a2, refD a3, refD a4]) n = some (.lst [refD a1, refD a2, refD a3, refD a4]) := updW_same
  have out : ∀ c x, ω5 c = some x → c ≠ n := fun c x e z => by have := kk _ _ e; rw [z, gn] at this; cases this
  have outp : ∀ c, ω6 c = none → c ≠ p := fun c e z => by rw [z, kk _ _ ep] at e; cases e
  have ap : ∀ c : Addr, ω5 c = none → c ≠ p := fun c e z => by rw [z, ep] at e; cases e
  have z1 : a1 ≠ p := ap _ g1
  have z2 : a2 ≠ p := ap _ (Keep.no k1 g2)
  have z3 : a3 ≠ p := ap _ (Keep.no k1 (Keep.no k2 g3))
  have z4 : a4 ≠ p := ap _ (Keep.no k1 (Keep.no k2 (Keep.no k3 g4)))
  have w1 : a1 ≠ n := fun z => by rw [z, gn] at d1; cases d1
  have w2 : a2 ≠ n := fun z => by rw [z, gn] at d2; cases d2
  have w3 : a3 ≠ n := fun z => by rw [z, gn] at d3; cases d3
  have w4 : a4 ≠ n := fun z => by rw [z, gn] at c4; cases c4
  let S : Addr → List PyData := fun a => if a = m1 then [] else if a = m2 then [.str "ab"] else if a = m3 then [.str "a", .none] else [.list []]
  let N : Addr → Addr := fun a => if a = m1 then a1 else if a = m2 then a2 else if a = m3 then a3 else a4
  have S1 : S m1 = [] := if_pos rfl
  have S2 : S m2 = [.str "ab"] := by simp only [S, if_neg (Ne.symm n12), if_true]
  have S3 : S m3 = [.str "a", .none] := by simp only [S, if_neg (Ne.symm n13), if_neg (Ne.symm n23), if_true]
  have S4 : S m4 = [.list []] := by simp only [S, if_neg (Ne.symm n14), if_neg (Ne.symm n24), if_neg (Ne.symm n34)]
  have N1 : N m1 = a1 := if_pos rfl
  have N2 : N m2 = a2 := by simp only [N, if_neg (Ne.symm n12), if_true]
  have N3 : N m3 = a3 := by simp only [N, if_neg (Ne.symm n13), if_neg (Ne.symm n23), if_true]
  have N4 : N m4 = a4 := by simp only [N, if_neg (Ne.symm n14), if_neg (Ne.symm n24), if_neg (Ne.symm n34)]
  have four : ∀ x ∈ [m1, m2, m3, m4], x = m1 ∨ x = m2 ∨ x = m3 ∨ x = m4 := fun x hx => by simpa using hx
  have ok : ∀ ds : List PyData, (ds = [] ∨ ds = [.str "ab"] ∨ ds = [.str "a", .none] ∨ ds = [.list []]) → OkE ds := fun ds h => by
    have g : ∀ d : PyData, (d = .str "ab" ∨ d = .str "a" ∨ d = .none ∨ d = .list []) → Val 3 10 d := fun d hd => by
      rcases hd with rfl | rfl | rfl | rfl <;> exact ⟨by decide +kernel, by decide +kernel, by decide +kernel⟩
    rcases h with rfl | rfl | rfl | rfl
    · exact ⟨by decide, fun d hd => (nomatch hd)⟩
    · exact ⟨by decide, fun d hd => g d (by simp at hd; simp [hd])⟩
    · exact ⟨by decide, fun d hd => g d (by simp at hd; rcases hd with rfl | rfl <;> simp)⟩
    · exact ⟨by decide, fun d hd => g d (by simp at hd; simp [hd])⟩
  refine nx _ p n [m1, m2, m3, m4] [m1, m2, m3, m4] S N ⟨kn _ _ (kk _ _ fb), kn _ _ (kk _ _ ep), ?_, rfl, fun _ h => h, ?_, ?_, ?_, ?_, (out _ _ ep), ?_⟩
  · rw [cn]
    simp only [List.map_cons, List.map_nil, N1, N2, N3, N4]
  · intro x hx
    rcases four x hx with rfl | rfl | rfl | rfl
    · rw [S1]; exact ⟨x1, q1, kn _ _ (kk _ _ f1)⟩
    · rw [S2]; exact ⟨x2, q2, kn _ _ (kk _ _ f2)⟩
    · rw [S3]; exact ⟨x3, q3, kn _ _ (kk _ _ f3)⟩
    · rw [S4]; exact ⟨x4, q4, kn _ _ (kk _ _ f4)⟩
  · intro x hx
    rcases four x hx with rfl | rfl | rfl | rfl
    · rw [S1]; exact ok _ (.inl rfl)
    · rw [S2]; exact ok _ (.inr (.inl rfl))
    · rw [S3]; exact ok _ (.inr (.inr (.inl rfl)))
    · rw [S4]; exact ok _ (.inr (.inr (.inr rfl)))
  · intro x hx
    rcases four x hx with rfl | rfl | rfl | rfl
    · rw [S1, N1]; exact kn _ _ d1
    · rw [S2, N2]; exact kn _ _ d2
    · rw [S3, N3]; exact kn _ _ d3
    · rw [S4, N4]; exact kn _ _ c4
  · intro x hx y hy e
    rcases four x hx with hx | hx | hx | hx <;> rcases four y hy with hy | hy | hy | hy <;> rw [hx, hy] at e ⊢ <;> simp only [N1, N2, N3, N4] at e
    · exact absurd e t12
    · exact absurd e t13
    · exact absurd e t14
    · exact absurd e.symm t12
    · exact absurd e t23
    · exact absurd e t24
    · exact absurd e.symm t13
    · exact absurd e.symm t23
    · exact absurd e t34
    · exact absurd e.symm t14
    · exact absurd e.symm t24
    · exact absurd e.symm t34
  · intro x hx
    rcases four x hx with rfl | rfl | rfl | rfl
    · rw [N1]; exact ⟨z1, w1⟩
    · rw [N2]; exact ⟨z2, w2⟩
    · rw [N3]; exact ⟨z3, w3⟩
    · rw [N4]; exact ⟨z4, w4⟩
end
section
variable {P : Program} {w : World} {K : PySem.W.Frag} {mg : Str → Option Value} {base : Heap} {C CN CX' : Addr}
theorem dd_law (xc : OC K mg "Entries" "rows" C) (h : Has K mg "law" sLaw) (B : Bi mg) (D_law_take : Dfn P w K mg base CX0 1 "_law_take" ["_law_bag_here", "_law_many"] (spD K dsTake)) (D_law_bag : Dfn P w K mg base CX0 1 "_law_bag" ["_law_script", "_law_at"] (spD K dsBag)) (D_law_step : Dfn P w K mg base CX0 37 "_law_step" ["_law_bag_here", "_law_pool", "_law_dues"] (spD K (dsStepU C)))
    (D_law_is_right : Dfn P w K mg base CX0 36 "_law_is_right" ["_law_one", "_law_due"] (spD K (dsRightU C))) (M_init : Mfn P w K mg base CX0 33 C "__init__" ["self", "value"] (spD K (dsInitU C))) (V_of : Vfn P w K mg base (L2.CX P w) 36 C "of" (dsOfU C)) (M_listed : Mfn P w K mg base CX0 32 C "listed" ["self"] (spD K (dsListed C)))
    (M_len : Mfn P w K mg base CX0 1 C "__len__" ["self"] (spD K (dsLen C))) (M_eq : Mfn P w K mg base CX0 1 C "__eq__" ["self", "other"] (spD K (dsEq C))) : Dfn P w K mg base CX0 41 "law" ["_law_script"] (spD K dsLaw) := by
  refine dfnD (k := 40) h B scLaw (fun _ _ _ _ _ _ us hl => match us, hl with | [_], _ => rfl) (fun ts ω q x h => ?_) (fun f cv A out s H E c => ⟨_, (dss_cons (ds_for PassesOwn.never rfl (di_range1 (by rfl) c.b.range (da_cons (de_callB (dc_max2 rfl rfl) (by rfl) c.b.max (by decide +kernel) (da_cons de_int (da_cons (de_callB (dc_min2 rfl rfl) (by rfl) c.b.min (by decide +kernel) (da_cons de_int (da_cons (de_callB (dc_len rfl) (by rfl) c.b.len (by decide +kernel) (da_cons (de_var (pv 0)) da_nil)) da_nil))) da_nil))) da_nil)) (dg_name (pg_name (i := 1) scLaw.nd rfl (Or.inl rfl)))
    (dss_cons (ds_set (i := 2) scLaw.nd rfl (Or.inl rfl) (de_d D_law_bag c (by omega) (by rfl) (da_cons (de_var (pv 0)) (da_cons (de_var (pv 1)) da_nil))))
    (dss_cons (ds_set (i := 3) scLaw.nd rfl (Or.inl rfl) (de_lstO (da_cons (de_make rfl xc.cd M_init c (by omega) (by rfl) px0 (da_cons de_non da_nil)) (da_cons (de_make rfl xc.cd M_init c (by omega) (by rfl) px0 (da_cons de_str da_nil)) (da_cons (de_make rfl xc.cd M_init c (by omega) (by rfl) px0 (da_cons (de_lst (da_cons de_str (da_cons de_non da_nil))) da_nil)) (da_cons (de_cmeth rfl (pe_gcl xc.cd.gC (by rfl)) V_of c (by omega) (pxX takes0) (da_cons (de_lst da_nil) da_nil)) da_nil))))))
    (dss_cons (ds_set (i := 4) scLaw.nd rfl (Or.inl rfl) (de_lstO (da_cons (de_lstO da_nil) (da_cons (de_lstO (da_cons de_str da_nil)) (da_cons (de_lstO (da_cons de_str (da_cons de_non da_nil))) (da_cons (de_lstO (da_cons (de_lst da_nil) da_nil)) da_nil))))))
    (dss_cons (ds_for PassesOwn.never rfl (di_range1 (by rfl) c.b.range (da_cons (de_op (do_add rfl) de_int (de_d D_law_take c (by omega) (by rfl) (da_cons (de_var (pv 2)) (da_cons de_int da_nil)))) da_nil)) (dg_name (pg_name (i := 5) scLaw.nd rfl (Or.inl rfl)))
    (dss_cons (ds_set (i := 6) scLaw.nd rfl (Or.inl rfl) (de_ix rfl (de_var (pv 3)) (de_d D_law_take c (by omega) (by rfl) (da_cons (de_var (pv 2)) (da_cons de_int da_nil))) (fun _ _ => rfl)))
    (dss_cons (ds_set (i := 7) scLaw.nd rfl (Or.inl rfl) (de_frzE (de_meth0 rfl M_listed xc.cd.cl c (by omega) px0 (de_var (pv 6)))))
    (dss_cons (ds_set (i := 8) scLaw.nd rfl (Or.inl rfl) (de_callB (dc_repr rfl c.g c.r.units) (by rfl) c.b.repr (by decide +kernel) (da_cons (de_var (pv 7)) da_nil)))
    (dss_cons (ds_if (dt_not (dt_val (de_d D_law_step c (by omega) (by rfl) (da_cons (de_var (pv 2)) (da_cons (de_var (pv 3)) (da_cons (de_var (pv 4)) da_nil)))))) (dss_one (ds_ret de_bl)) dss_nil)
    (dss_cons (ds_if (DW.dt (dw_or (dt_cmp (do_ne rfl c.r.units) (de_callB (dc_len rfl) (by rfl) c.b.len (by decide +kernel) (da_cons (de_frzE (de_meth0 rfl M_listed xc.cd.cl c (by omega) px0 (de_var (pv 6)))) da_nil)) (de_callBM (dc_lenO rfl M_len c (by omega)) (by rfl) c.b.len (by decide +kernel) (da_cons (de_var (pv 6)) da_nil)) (nomark _)) (dw_or1 (dt_cmp (do_ne rfl c.r.units) (de_callB (dc_repr rfl c.g c.r.units) (by rfl) c.b.repr (by decide +kernel) (da_cons (de_var (pv 7)) da_nil)) (de_var (pv 8)) (nomark _))))) (dss_one (ds_ret de_bl)) dss_nil)
    (dss_one (ds_forP PassesOwn.never rfl (dio_zipO rfl (by rfl) c.b.zip (da_cons (de_var (pv 3)) (da_cons (de_var (pv 4)) da_nil))) (dg_tup rfl rfl (dgs_cons (dg_name (pg_name (i := 9) scLaw.nd rfl (Or.inl rfl))) (dgs_cons (dg_name (pg_name (i := 10) scLaw.nd rfl (Or.inl rfl))) dgs_nil)))
    (dss_one (ds_if (dt_not (dt_val (de_d D_law_is_right c (by omega) (by rfl) (da_cons (de_var (pv 9)) (da_cons (de_var (pv 10)) da_nil))))) (dss_one (ds_ret de_bl)) dss_nil))))))))))
    (dss_one (ds_forP PassesOwn.never rfl (dio_zipO rfl (by rfl) c.b.zip (da_cons (de_var (pv 3)) (da_cons (de_var (pv 4)) da_nil))) (dg_tup rfl rfl (dgs_cons (dg_name (pg_name (i := 9) scLaw.nd rfl (Or.inl rfl))) (dgs_cons (dg_name (pg_name (i := 10) scLaw.nd rfl (Or.inl rfl))) dgs_nil)))
    (dss_one (ds_forP PassesOwn.never rfl (dio_zipO rfl (by rfl) c.b.zip (da_cons (de_var (pv 3)) (da_cons (de_var (pv 4)) da_nil))) (dg_tup rfl rfl (dgs_cons (dg_name (pg_name (i := 11) scLaw.nd rfl (Or.inl rfl))) (dgs_cons (dg_name (pg_name (i := 12) scLaw.nd rfl (Or.inl rfl))) dgs_nil)))
    (dss_one (ds_if (dt_cmp (do_ne rfl c.r.units) (de_cmpM (dm_eq rfl M_eq c (by omega)) (de_var (pv 9)) (de_var (pv 11)) (nomark _)) (de_cmp (do_eq rfl c.r.units) (de_var (pv 10)) (de_var (pv 12)) (nomark _)) (nomark _)) (dss_one (ds_ret de_bl)) dss_nil)))))))))))
    (dss_one (ds_ret de_bl))), fun ts ω q x h => ?_⟩)
  · obtain ⟨a, ns, rfl, _⟩ := h; rfl
  obtain ⟨a, ns, rfl, h63, rfl, z⟩ := h
  have sz : 1000 ≤ sizeLine := by decide
  refine ⟨?_, ?_, fun i ρ ω => ∃ u1 u2 u3 u4 u5 u6 u7 u8 u9 v0 v1 v2 : Option PyData, ρ = [some (scrD a ns), u1, u2, u3, u4, u5, u6, u7, u8, u9, v0, v1, v2], ⟨none, none, none, none, none, none, none, none, none, none, none, none, rfl⟩, ?_, ?_⟩
  · show -(2 ^ 62) ≤ _
    split <;> (try split) <;> omega
  · show _ < (2 : Int) ^ 62
    rw [List.length_map]
    split <;> (try split) <;> omega
  · rintro i y ρ ω hy ⟨u1, u2, u3, u4, u5, u6, u7, u8, u9, v0, v1, v2, rfl⟩
    have hi : i < 64 := by
      have := (List.getElem?_eq_some_iff.mp hy).1
      rw [List.length_map, List.length_range, List.length_map] at this
      split at this <;> (try split at this) <;> omega
    obtain ⟨i', hi', rfl⟩ : ∃ i' : Nat, i' = i ∧ y = .int (i' : Int) := by
      rw [List.getElem?_map] at hy
      obtain ⟨k, hk, rfl⟩ := Option.map_eq_some_iff.mp hy
      have := List.getElem?_eq_some_iff.mp hk
      exact ⟨k, by simpa using this.2.symm, rfl⟩
    refine ⟨a, ns, (i' : Int), rfl, by omega, by omega, fun b hb => ?_⟩
    have hB : updW ω b .bag b = some .bag := updW_same
    generalize updW ω b .bag = ω1 at hB
    refine begin14 hB fun ω2 p n ms al S N row => ?_
    refine ⟨b, 30, rfl, row.bag, by decide, by decide, fun r r0 r30 => ?_⟩
    refine ⟨by omega, by omega, fun _ ρ ω' => ∃ ms al S N y5 y6 y7 y8 y9 y10 y11 y12, ρ = [some (scrD a ns), some (.int (i' : Int)), some (refD b), some (refD p), some (refD n), y5, y6, y7, y8, y9, y10, y11, y12] ∧ Row C ω' b p n ms al S N, ⟨ms, al, S, N, _, _, _, _, _, _, _, _, rfl, row⟩, ?_, ?_⟩
    · rintro j y ρ ω' hy ⟨ms, al, S, N, y5, y6, y7, y8, y9, y10, y11, y12, rfl, row⟩
      exact turn14_ok row fun ω3 ms' al' S' N' z6 z7 z8 z9 z10 row' => ⟨ms', al', S', N', _, _, _, _, _, _, _, _, rfl, row'⟩
    · rintro ρ ω' ⟨ms, al, S, N, y5, y6, y7, y8, y9, y10, y11, y12, rfl, row⟩
      exact pair14_ok row fun z9 z10 z11 z12 => ⟨_, _, _, _, _, _, _, _, _, _, _, _, rfl⟩
  · rintro ρ ω ⟨u1, u2, u3, u4, u5, u6, u7, u8, u9, v0, v1, v2, rfl⟩
    exact z _
end
end Tx

namespace Tx
open PySem PySem.Spec PyProof.Rows L2
theorem hasV_of {K : PySem.W.Frag} {C p g : Addr} {m qual : Str} {st : Stmt} {oc kV dc pm cd ct : Value} {od an : Option Addr} {sl : Array (Option Value)} {rest : List Value} (rd : PySem.W.readsIn K C (.type "type") = true)
    (a : PySem.W.findCls K (.ref C) (.type "type") m = some (.get (.builtin "classmethod.__get__") (.ref p) .none (.ref C))) (rc : PySem.W.recIn K p "classmethod" = some (.ref g :: rest)) (fi : PySem.W.fnIn K g = true)
    (l : K.lookup g = some ⟨oc, od, .func (PySem.W.fnOf m qual (defArgs st) (defBody st) (defScope st) .none kV dc pm an cd ct), sl⟩)
    (c : PySem.W.codeIn K cd qual = true) (k : PySem.W.keepIn K (.ref g) = true) : HasV K C m qual st := by
  refine ⟨_, p, g, _, ⟨rd, ?_⟩, ⟨a, ⟨rest, rc⟩, fi⟩, fun_mk l c k⟩
  have h := rd
  unfold PySem.W.readsIn at h
  simp only [Bool.and_eq_true] at h
  unfold PySem.W.specialIn
  rw [beq_iff_eq.mp h.1.1.1.2, Option.bind_some]
  exact beq_iff_eq.mp h.1.1.2
abbrev sNoEntry : Stmt := inClass (top 4) 0
theorem scNoEntry : FnScope ["self", "at"] ["self", "at"] (defScope sNoEntry) := ⟨rfl, rfl, rfl, by decide +kernel, rfl, by decide +kernel, by decide +kernel⟩
theorem ini_NoEntry {P : Program} {w : World} {K : PySem.W.Frag} {mg : Str → Option Value} {base : Heap} {C fI : Addr} {oc kV dc pm cd ct : Value} {od an : Option Addr} {sl : Array (Option Value)}
    (l : K.lookup fI = some ⟨oc, od, .func (PySem.W.fnOf "__init__" "NoEntry.__init__" (defArgs sNoEntry) (defBody sNoEntry) (defScope sNoEntry) .none kV dc pm an cd ct), sl⟩) (c : PySem.W.codeIn K cd "NoEntry.__init__" = true) (k : PySem.W.keepIn K (.ref fI) = true)
    (no : PySem.W.findIn K (.ref C) "at" = some none) (T : OexC K C) : FnOk P w K mg base CX0 1 fI (PySem.W.fnOf "__init__" "NoEntry.__init__" (defArgs sNoEntry) (defBody sNoEntry) (defScope sNoEntry) .none kV dc pm an cd ct) ["self", "at"] (spInit1 C "at") ∧ Binds K (PySem.W.fnOf "__init__" "NoEntry.__init__" (defArgs sNoEntry) (defBody sNoEntry) (defScope sNoEntry) .none kV dc pm an cd ct) ["self", "at"] [] := by
  have F := fun_mk (st := sNoEntry) l c k
  refine ⟨F.ok scNoEntry (fun vs H Q E h => ?_) (fun cv A out s H vs Q E hr h => ?_), F.binds fun _ _ _ _ _ _ us hl => match us, hl with | [_, _], _ => rfl⟩
  · obtain ⟨a, v, rfl, _⟩ := h
    rfl
  obtain ⟨a, v, rfl, ha, q⟩ := h
  exact ⟨_, pss_one (ps_ost (pv 0) (pv 1)), _, rfl, _, rfl, a, C, rfl, T, no, .inl ⟨ha, fun dx hx ne => q dx hx ne⟩⟩
abbrev sNotText : Stmt := inClass (top 5) 0
theorem scNotText : FnScope ["self", "at"] ["self", "at"] (defScope sNotText) := ⟨rfl, rfl, rfl, by decide +kernel, rfl, by decide +kernel, by decide +kernel⟩
theorem ini_NotText {P : Program} {w : World} {K : PySem.W.Frag} {mg : Str → Option Value} {base : Heap} {C fI : Addr} {oc kV dc pm cd ct : Value} {od an : Option Addr} {sl : Array (Option Value)}
    (l : K.lookup fI = some ⟨oc, od, .func (PySem.W.fnOf "__init__" "NotText.__init__" (defArgs sNotText) (defBody sNotText) (defScope sNotText) .none kV dc pm an cd ct), sl⟩) (c : PySem.W.codeIn K cd "NotText.__init__" = true) (k : PySem.W.keepIn K (.ref fI) = true)
    (no : PySem.W.findIn K (.ref C) "at" = some none) (T : OexC K C) : FnOk P w K mg base CX0 1 fI (PySem.W.fnOf "__init__" "NotText.__init__" (defArgs sNotText) (defBody sNotText) (defScope sNotText) .none kV dc pm an cd ct) ["self", "at"] (spInit1 C "at") ∧ Binds K (PySem.W.fnOf "__init__" "NotText.__init__" (defArgs sNotText) (defBody sNotText) (defScope sNotText) .none kV dc pm an cd ct) ["self", "at"] [] := by
  have F := fun_mk (st := sNotText) l c k
  refine ⟨F.ok scNotText (fun vs H Q E h => ?_) (fun cv A out s H vs Q E hr h => ?_), F.binds fun _ _ _ _ _ _ us hl => match us, hl with | [_, _], _ => rfl⟩
  · obtain ⟨a, v, rfl, _⟩ := h
    rfl
  obtain ⟨a, v, rfl, ha, q⟩ := h
  exact ⟨_, pss_one (ps_ost (pv 0) (pv 1)), _, rfl, _, rfl, a, C, rfl, T, no, .inl ⟨ha, fun dx hx ne => q dx hx ne⟩⟩
theorem main {P : Program} {w : World} {K : PySem.W.Frag} {mg : Str → Option Value} {base : Heap} {CNoEntry CNotText CEntries : Addr} (B : Bi mg) (hTake : Has K mg "_law_take" sTake) (hBag : Has K mg "_law_bag" sBag) (hText : Has K mg "_law_text" sText) (hSize : Has K mg "_law_size" sSize) (hValue : Has K mg "_law_value" sValue) (hCopied : Has K mg "copied" sCopied) (hIsText : Has K mg "is_text" sIsText) (hWrongPlace : Has K mg "wrong_place" sWrongPlace) (hCheckV : Has K mg "check_value" sCheckV) (hMeantF : Has K mg "meant_by" sMeantF) (hEntriesO : Has K mg "_law_entries" sEntriesO) (hLawCopy : Has K mg "_law_copy" sLawCopy) (hSpoil : Has K mg "_law_spoil" sSpoil) (hRefused : Has K mg "_law_is_refused" sRefused) (hRightU : Has K mg "_law_is_right" sRightU) (hStepU : Has K mg "_law_step" sStepU) (hLaw : Has K mg "law" sLaw) (gLETTERS : ∃ t, mg "LETTERS" = some (.str "abcdefghijklmnopqrstuvwxyz" t)) (XNoEntry : Err1 P w K mg base "NoEntry" "at" CNoEntry) (XNotText : Err1 P w K mg base "NotText" "at" CNotText) (xEntries : OC K mg "Entries" "rows" CEntries) (yEntries : OM K CEntries) (zEntries : OR K CEntries) (hInit : HasM K CEntries "__init__" "Entries.__init__" sInit) (hLen : HasM K CEntries "__len__" "Entries.__len__" sLen) (hBool : HasM K CEntries "__bool__" "Entries.__bool__" sBool) (hContains : HasM K CEntries "__contains__" "Entries.__contains__" sContains) (hEq : HasM K CEntries "__eq__" "Entries.__eq__" sEq) (hReprU : HasM K CEntries "__repr__" "Entries.__repr__" sReprU) (hAdd : HasM K CEntries "__add__" "Entries.__add__" sAdd) (hRadd : HasM K CEntries "__radd__" "Entries.__radd__" sRadd) (hIadd : HasM K CEntries "__iadd__" "Entries.__iadd__" sIadd) (hMul : HasM K CEntries "__mul__" "Entries.__mul__" sMul) (hGetX : HasM K CEntries "__getitem__" "Entries.__getitem__" sGetX) (hSetX : HasM K CEntries "__setitem__" "Entries.__setitem__" sSetX) (hIndexX : HasM K CEntries "index_of" "Entries.index_of" sIndexX) (hSetEX : HasM K CEntries "set_entry" "Entries.set_entry" sSetEX) (hListed : HasM K CEntries "listed" "Entries.listed" sListed) (hPackedU : HasM K CEntries "packed" "Entries.packed" sPackedU) (hJoinedU : HasM K CEntries "joined" "Entries.joined" sJoinedU) (hOf : HasV K CEntries "of" "Entries.of" sOf) :
    Dfn P w K mg base CX0 41 "law" ["_law_script"] (spLaw K) := by
  have DT := d_take (P := P) (w := w) (base := base) hTake B
  have DX := d_text hText B DT
  have DV := d_value hValue B DT DX (d_size hSize B 20) 6 (by decide)
  have tk := dd_take (P := P) (w := w) (base := base) hTake B
  have DC := dd_copied (P := P) (w := w) (base := base) hCopied B 30
  have DO := d_copied (P := P) (w := w) (base := base) hCopied B 30
  have DW := dd_wrongU (d_wrong_place (P := P) (w := w) (base := base) hWrongPlace B (d_is_text hIsText B gLETTERS) 30)
  have DM := dd_meantX xEntries hMeantF B DC DO
  have MI := m_initU xEntries hInit B (dd_checkU hCheckV B DW) DM
  have DM0 := dd_meant xEntries hMeantF B DC
  have MI0 := m_init xEntries hInit B (dd_check hCheckV B (dd_wrongV (d_wrong_place (P := P) (w := w) (base := base) hWrongPlace B (d_is_text hIsText B gLETTERS) 30))) DM0
  have MA := m_addU xEntries hAdd B DM MI
  have MX := m_indexX xEntries XNoEntry hIndexX B
  have MG := m_getX xEntries hGetX B MX DC
  have MS := m_setX xEntries hSetX B MX (dd_copiedF hCopied B 30)
  have ME := m_setEX xEntries hSetEX B MS
  have ML := m_len (P := P) (w := w) (base := base) xEntries hLen B
  have MQ := m_eq (P := P) (w := w) (base := base) xEntries hEq B
  have LC := d_lawcopy (P := P) (w := w) (base := base) hLawCopy B 30
  have MLI := m_listed xEntries hListed B DM0
  exact law_of (dd_law xEntries hLaw B tk (dd_bag hBag B)
    (dd_stepU xEntries yEntries zEntries hStepU B tk (dd_valueT DV) (dd_entriesO hEntriesO B) (dd_lcopy LC) LC (dd_spoil hSpoil B 30)
      (dd_refused xEntries (gi_of hGetX) hRefused B MG ME XNoEntry) MI MA (m_raddU xEntries hRadd B DM MI) (m_iaddU xEntries hIadd B DM) (m_mul xEntries hMul B DC MI0) ME)
    (dd_rightU xEntries (gi_of hGetX) hRightU B MG MI MA (m_reprU xEntries hReprU B) ML (m_bool xEntries hBool B) (m_packedU xEntries hPackedU B DM) MQ (m_contains xEntries hContains B) (m_joinedU xEntries XNotText hJoinedU B) XNotText)
    MI (m_ofU xEntries hOf B DW MI) MLI ML MQ)
end Tx
open PySem PySem.W PyProof.Rows
set_option maxRecDepth 100000 in
set_option maxHeartbeats 0 in
theorem PySem.Challenge.cw_textorlist_k14_whole_entries_by_a_model_holds : PySem.Challenge.rw_textorlist_k14_whole_entries_by_a_model.Holds := by
  w_on; o_law; k_head; (case hw => w_witness2)
  k_fill
  refine Tx.walkG (l := PySem.Challenge.rw_textorlist_k14_whole_entries_by_a_model) (k := 41) (x := "_law_script") (sp := Tx.spLaw) rfl rfl ⟨rfl, by decide, by decide⟩ (fun w h Y => PySem.W.kIn_of Y) ?F (fun K H a ns h1 h2 => ⟨a, ns, rfl, h2, h1, fun _ => rfl⟩)
  case F =>
    intro w mg fa h KX G hmg base b1 b2
    refine' Tx.to_law hmg (Tx.main (base := base) (Tx.bi_of KX G ?b0 ?b1 ?b2 ?b3 ?b4 ?b5 ?b6 ?b7 ?b8 ?b9 ?b10 ?b11 ?b12 ?b13 ?b14 ?b15 ?b16 ?b17 ?b18 ?b19) (Tx.has_of (st := Tx.sTake) KX G ?ha0 ?hl0 ?hc0 ?hk0) (Tx.has_of (st := Tx.sBag) KX G ?ha1 ?hl1 ?hc1 ?hk1) (Tx.has_of (st := Tx.sText) KX G ?ha2 ?hl2 ?hc2 ?hk2) (Tx.has_of (st := Tx.sSize) KX G ?ha3 ?hl3 ?hc3 ?hk3) (Tx.has_of (st := Tx.sValue) KX G ?ha4 ?hl4 ?hc4 ?hk4) (Tx.has_of (st := Tx.sCopied) KX G ?ha5 ?hl5 ?hc5 ?hk5) (Tx.has_of (st := Tx.sIsText) KX G ?ha6 ?hl6 ?hc6 ?hk6) (Tx.has_of (st := Tx.sWrongPlace) KX G ?ha7 ?hl7 ?hc7 ?hk7) (Tx.has_of (st := Tx.sCheckV) KX G ?ha8 ?hl8 ?hc8 ?hk8) (Tx.has_of (st := Tx.sMeantF) KX G ?ha9 ?hl9 ?hc9 ?hk9) (Tx.has_of (st := Tx.sEntriesO) KX G ?ha10 ?hl10 ?hc10 ?hk10) (Tx.has_of (st := Tx.sLawCopy) KX G ?ha11 ?hl11 ?hc11 ?hk11) (Tx.has_of (st := Tx.sSpoil) KX G ?ha12 ?hl12 ?hc12 ?hk12) (Tx.has_of (st := Tx.sRefused) KX G ?ha13 ?hl13 ?hc13 ?hk13) (Tx.has_of (st := Tx.sRightU) KX G ?ha14 ?hl14 ?hc14 ?hk14) (Tx.has_of (st := Tx.sStepU) KX G ?ha15 ?hl15 ?hc15 ?hk15) (Tx.has_of (st := Tx.sLaw) KX G ?ha16 ?hl16 ?hc16 ?hk16) (Tx.const_of KX G ?co0) (Tx.err1_of KX G ?e0aC ?e0xL ?e0vb ?e0sa ?e0ga ?e0gg ?e0nf ?e0ai ?e0ti ?e0kC ?e0eC ?e0tC ?e0hC ?e0cC ?e0gC ?e0uC ?e0oC ?e0sC (Tx.ini_NoEntry ?e0il ?e0ic ?e0ik ?e0nf)) (Tx.err1_of KX G ?e1aC ?e1xL ?e1vb ?e1sa ?e1ga ?e1gg ?e1nf ?e1ai ?e1ti ?e1kC ?e1eC ?e1tC ?e1hC ?e1cC ?e1gC ?e1uC ?e1oC ?e1sC (Tx.ini_NotText ?e1il ?e1ic ?e1ik ?e1nf)) (Tx.oc_of (Tx.clsD_of KX G ?o0aC ?o0pg ?o0hd ?o0po ?o0sa ?o0mk ?o0kp) ?o0na ?o0sf ?o0ra ?o0rb ?o0n1 ?o0n2 ?o0n3 ?o0s1 ?o0s2 ?o0s3 ?o0l1 ?o0l2 ?o0l3 ?o0ne ?o0sb ?o0nq ?o0ha ?o0hn ?o0ht ?o0hm ?o0kc ?o0kn ?o0ks ?o0kl) (Tx.om_of ?u0sf ?u0ra ?u0rb ?u0n1 ?u0n2 ?u0n3 ?u0sb ?u0hs) (Tx.or_of ?v0sf ?v0n1 ?v0n2 ?v0n3 ?v0s1 ?v0s2 ?v0s3 ?v0l1 ?v0l2 ?v0l3 ?v0hs) (Tx.hasM_of (st := Tx.sInit) ?m0a ?m0l ?m0c ?m0k ?m0i) (Tx.hasM_of (st := Tx.sLen) ?m1a ?m1l ?m1c ?m1k ?m1i) (Tx.hasM_of (st := Tx.sBool) ?m2a ?m2l ?m2c ?m2k ?m2i) (Tx.hasM_of (st := Tx.sContains) ?m3a ?m3l ?m3c ?m3k ?m3i) (Tx.hasM_of (st := Tx.sEq) ?m4a ?m4l ?m4c ?m4k ?m4i) (Tx.hasM_of (st := Tx.sReprU) ?m5a ?m5l ?m5c ?m5k ?m5i) (Tx.hasM_of (st := Tx.sAdd) ?m6a ?m6l ?m6c ?m6k ?m6i) (Tx.hasM_of (st := Tx.sRadd) ?m7a ?m7l ?m7c ?m7k ?m7i) (Tx.hasM_of (st := Tx.sIadd) ?m8a ?m8l ?m8c ?m8k ?m8i) (Tx.hasM_of (st := Tx.sMul) ?m9a ?m9l ?m9c ?m9k ?m9i) (Tx.hasM_of (st := Tx.sGetX) ?m10a ?m10l ?m10c ?m10k ?m10i) (Tx.hasM_of (st := Tx.sSetX) ?m11a ?m11l ?m11c ?m11k ?m11i) (Tx.hasM_of (st := Tx.sIndexX) ?m12a ?m12l ?m12c ?m12k ?m12i) (Tx.hasM_of (st := Tx.sSetEX) ?m13a ?m13l ?m13c ?m13k ?m13i) (Tx.hasM_of (st := Tx.sListed) ?m14a ?m14l ?m14c ?m14k ?m14i) (Tx.hasM_of (st := Tx.sPackedU) ?m15a ?m15l ?m15c ?m15k ?m15i) (Tx.hasM_of (st := Tx.sJoinedU) ?m16a ?m16l ?m16c ?m16k ?m16i) (Tx.hasV_of (st := Tx.sOf) ?w0rd ?w0at ?w0rc ?w0fi ?w0l ?w0c ?w0k))
    (case b0 => first | k_is | kit_is | k_exc | decide +kernel | rfl | exact .inl rfl | exact .inr ⟨_, rfl⟩)
    (case b1 => first | k_is | kit_is | k_exc | decide +kernel | rfl | exact .inl rfl | exact .inr ⟨_, rfl⟩)
    (case b2 => first | k_is | kit_is | k_exc | decide +kernel | rfl | exact .inl rfl | exact .inr ⟨_, rfl⟩)
    (case b3 => first | k_is | kit_is | k_exc | decide +kernel | rfl | exact .inl rfl | exact .inr ⟨_, rfl⟩)
    (case b4 => first | k_is | kit_is | k_exc | decide +kernel | rfl | exact .inl rfl | exact .inr ⟨_, rfl⟩)
    (case b5 => first | k_is | kit_is | k_exc | decide +kernel | rfl | exact .inl rfl | exact .inr ⟨_, rfl⟩)
    (case b6 => first | k_is | kit_is | k_exc | decide +kernel | rfl | exact .inl rfl | exact .inr ⟨_, rfl⟩)
    (case b7 => first | k_is | kit_is | k_exc | decide +kernel | rfl | exact .inl rfl | exact .inr ⟨_, rfl⟩)
    (case b8 => first | k_is | kit_is | k_exc | decide +kernel | rfl | exact .inl rfl | exact .inr ⟨_, rfl⟩)
    (case b9 => first | k_is | kit_is | k_exc | decide +kernel | rfl | exact .inl rfl | exact .inr ⟨_, rfl⟩)
    (case b10 => first | k_is | kit_is | k_exc | decide +kernel | rfl | exact .inl rfl | exact .inr ⟨_, rfl⟩)
    (case b11 => first | k_is | kit_is | k_exc | decide +kernel | rfl | exact .inl rfl | exact .inr ⟨_, rfl⟩)
    (case b12 => first | k_is | kit_is | k_exc | decide +kernel | rfl | exact .inl rfl | exact .inr ⟨_, rfl⟩)
    (case b13 => first | k_is | kit_is | k_exc | decide +kernel | rfl | exact .inl rfl | exact .inr ⟨_, rfl⟩)
    (case b14 => first | k_is | kit_is | k_exc | decide +kernel | rfl | exact .inl rfl | exact .inr ⟨_, rfl⟩)
    (case b15 => first | k_is | kit_is | k_exc | decide +kernel | rfl | exact .inl rfl | exact .inr ⟨_, rfl⟩)
    (case b16 => first | k_is | kit_is | k_exc | decide +kernel | rfl | exact .inl rfl | exact .inr ⟨_, rfl⟩)
    (case b17 => first | k_is | kit_is | k_exc | decide +kernel | rfl | exact .inl rfl | exact .inr ⟨_, rfl⟩)
    (case b18 => first | k_is | kit_is | k_exc | decide +kernel | rfl | exact .inl rfl | exact .inr ⟨_, rfl⟩)
    (case b19 => first | k_is | kit_is | k_exc | decide +kernel | rfl | exact .inl rfl | exact .inr ⟨_, rfl⟩)
    (case ha0 => first | k_is | kit_is | k_exc | decide +kernel | rfl | exact .inl rfl | exact .inr ⟨_, rfl⟩)
    (case hl0 => first | k_is | kit_is | k_exc | decide +kernel | rfl | exact .inl rfl | exact .inr ⟨_, rfl⟩)
    (case hc0 => first | k_is | kit_is | k_exc | decide +kernel | rfl | exact .inl rfl | exact .inr ⟨_, rfl⟩)
    (case hk0 => first | k_is | kit_is | k_exc | decide +kernel | rfl | exact .inl rfl | exact .inr ⟨_, rfl⟩)
    (case ha1 => first | k_is | kit_is | k_exc | decide +kernel | rfl | exact .inl rfl | exact .inr ⟨_, rfl⟩)
    (case hl1 => first | k_is | kit_is | k_exc | decide +kernel | rfl | exact .inl rfl | exact .inr ⟨_, rfl⟩)
    (case hc1 => first | k_is | kit_is | k_exc | decide +kernel | rfl | exact .inl rfl | exact .inr ⟨_, rfl⟩)
    (case hk1 => first | k_is | kit_is | k_exc | decide +kernel | rfl | exact .inl rfl | exact .inr ⟨_, rfl⟩)
    (case ha2 => first | k_is | kit_is | k_exc | decide +kernel | rfl | exact .inl rfl | exact .inr ⟨_, rfl⟩)
    (case hl2 => first | k_is | kit_is | k_exc | decide +kernel | rfl | exact .inl rfl | exact .inr ⟨_, rfl⟩)
    (case hc2 => first | k_is | kit_is | k_exc | decide +kernel | rfl | exact .inl rfl | exact .inr ⟨_, rfl⟩)
    (case hk2 => first | k_is | kit_is | k_exc | decide +kernel | rfl | exact .inl rfl | exact .inr ⟨_, rfl⟩)
    (case ha3 => first | k_is | kit_is | k_exc | decide +kernel | rfl | exact .inl rfl | exact .inr ⟨_, rfl⟩)
    (case hl3 => first | k_is | kit_is | k_exc | decide +kernel | rfl | exact .inl rfl | exact .inr ⟨_, rfl⟩)
    (case hc3 => first | k_is | kit_is | k_exc | decide +kernel | rfl | exact .inl rfl | exact .inr ⟨_, rfl⟩)
    (case hk3 => first | k_is | kit_is | k_exc | decide +kernel | rfl | exact .inl rfl | exact .inr ⟨_, rfl⟩)
    (case ha4 => first | k_is | kit_is | k_exc | decide +kernel | rfl | exact .inl rfl | exact .inr ⟨_, rfl⟩)
    (case hl4 => first | k_is | kit_is | k_exc | decide +kernel | rfl | exact .inl rfl | exact .inr ⟨_, rfl⟩)
    (case hc4 => first | k_is | kit_is | k_exc | decide +kernel | rfl | exact .inl rfl | exact .inr ⟨_, rfl⟩)
    (case hk4 => first | k_is | kit_is | k_exc | decide +kernel | rfl | exact .inl rfl | exact .inr ⟨_, rfl⟩)
    (case ha5 => first | k_is | kit_is | k_exc | decide +kernel | rfl | exact .inl rfl | exact .inr ⟨_, rfl⟩)
    (case hl5 => first | k_is | kit_is | k_exc | decide +kernel | rfl | exact .inl rfl | exact .inr ⟨_, rfl⟩)
    (case hc5 => first | k_is | kit_is | k_exc | decide +kernel | rfl | exact .inl rfl | exact .inr ⟨_, rfl⟩)
    (case hk5 => first | k_is | kit_is | k_exc | decide +kernel | rfl | exact .inl rfl | exact .inr ⟨_, rfl⟩)
    (case ha6 => first | k_is | kit_is | k_exc | decide +kernel | rfl | exact .inl rfl | exact .inr ⟨_, rfl⟩)
    (case hl6 => first | k_is | kit_is | k_exc | decide +kernel | rfl | exact .inl rfl | exact .inr ⟨_, rfl⟩)
    (case hc6 => first | k_is | kit_is | k_exc | decide +kernel | rfl | exact .inl rfl | exact .inr ⟨_, rfl⟩)
    (case hk6 => first | k_is | kit_is | k_exc | decide +kernel | rfl | exact .inl rfl | exact .inr ⟨_, rfl⟩)
    (case ha7 => first | k_is | kit_is | k_exc | decide +kernel | rfl | exact .inl rfl | exact .inr ⟨_, rfl⟩)
    (case hl7 => first | k_is | kit_is | k_exc | decide +kernel | rfl | exact .inl rfl | exact .inr ⟨_, rfl⟩)
    (case hc7 => first | k_is | kit_is | k_exc | decide +kernel | rfl | exact .inl rfl | exact .inr ⟨_, rfl⟩)
    (case hk7 => first | k_is | kit_is | k_exc | decide +kernel | rfl | exact .inl rfl | exact .inr ⟨_, rfl⟩)
    (case ha8 => first | k_is | kit_is | k_exc | decide +kernel | rfl | exact .inl rfl | exact .inr ⟨_, rfl⟩)
    (case hl8 => first | k_is | kit_is | k_exc | decide +kernel | rfl | exact .inl rfl | exact .inr ⟨_, rfl⟩)
    (case hc8 => first | k_is | kit_is | k_exc | decide +kernel | rfl | exact .inl rfl | exact .inr ⟨_, rfl⟩)
    (case hk8 => first | k_is | kit_is | k_exc | decide +kernel | rfl | exact .inl rfl | exact .inr ⟨_, rfl⟩)
    (case ha9 => first | k_is | kit_is | k_exc | decide +kernel | rfl | exact .inl rfl | exact .inr ⟨_, rfl⟩)
    (case hl9 => first | k_is | kit_is | k_exc | decide +kernel | rfl | exact .inl rfl | exact .inr ⟨_, rfl⟩)
    (case hc9 => first | k_is | kit_is | k_exc | decide +kernel | rfl | exact .inl rfl | exact .inr ⟨_, rfl⟩)
    (case hk9 => first | k_is | kit_is | k_exc | decide +kernel | rfl | exact .inl rfl | exact .inr ⟨_, rfl⟩)
    (case ha10 => first | k_is | kit_is | k_exc | decide +kernel | rfl | exact .inl rfl | exact .inr ⟨_, rfl⟩)
    (case hl10 => first | k_is | kit_is | k_exc | decide +kernel | rfl | exact .inl rfl | exact .inr ⟨_, rfl⟩)
    (case hc10 => first | k_is | kit_is | k_exc | decide +kernel | rfl | exact .inl rfl | exact .inr ⟨_, rfl⟩)
    (case hk10 => first | k_is | kit_is | k_exc | decide +kernel | rfl | exact .inl rfl | exact .inr ⟨_, rfl⟩)
    (case ha11 => first | k_is | kit_is | k_exc | decide +kernel | rfl | exact .inl rfl | exact .inr ⟨_, rfl⟩)
    (case hl11 => first | k_is | kit_is | k_exc | decide +kernel | rfl | exact .inl rfl | exact .inr ⟨_, rfl⟩)
    (case hc11 => first | k_is | kit_is | k_exc | decide +kernel | rfl | exact .inl rfl | exact .inr ⟨_, rfl⟩)
    (case hk11 => first | k_is | kit_is | k_exc | decide +kernel | rfl | exact .inl rfl | exact .inr ⟨_, rfl⟩)
    (case ha12 => first | k_is | kit_is | k_exc | decide +kernel | rfl | exact .inl rfl | exact .inr ⟨_, rfl⟩)
    (case hl12 => first | k_is | kit_is | k_exc | decide +kernel | rfl | exact .inl rfl | exact .inr ⟨_, rfl⟩)
    (case hc12 => first | k_is | kit_is | k_exc | decide +kernel | rfl | exact .inl rfl | exact .inr ⟨_, rfl⟩)
    (case hk12 => first | k_is | kit_is | k_exc | decide +kernel | rfl | exact .inl rfl | exact .inr ⟨_, rfl⟩)
    (case ha13 => first | k_is | kit_is | k_exc | decide +kernel | rfl | exact .inl rfl | exact .inr ⟨_, rfl⟩)
    (case hl13 => first | k_is | kit_is | k_exc | decide +kernel | rfl | exact .inl rfl | exact .inr ⟨_, rfl⟩)
    (case hc13 => first | k_is | kit_is | k_exc | decide +kernel | rfl | exact .inl rfl | exact .inr ⟨_, rfl⟩)
    (case hk13 => first | k_is | kit_is | k_exc | decide +kernel | rfl | exact .inl rfl | exact .inr ⟨_, rfl⟩)
    (case ha14 => first | k_is | kit_is | k_exc | decide +kernel | rfl | exact .inl rfl | exact .inr ⟨_, rfl⟩)
    (case hl14 => first | k_is | kit_is | k_exc | decide +kernel | rfl | exact .inl rfl | exact .inr ⟨_, rfl⟩)
    (case hc14 => first | k_is | kit_is | k_exc | decide +kernel | rfl | exact .inl rfl | exact .inr ⟨_, rfl⟩)
    (case hk14 => first | k_is | kit_is | k_exc | decide +kernel | rfl | exact .inl rfl | exact .inr ⟨_, rfl⟩)
    (case ha15 => first | k_is | kit_is | k_exc | decide +kernel | rfl | exact .inl rfl | exact .inr ⟨_, rfl⟩)
    (case hl15 => first | k_is | kit_is | k_exc | decide +kernel | rfl | exact .inl rfl | exact .inr ⟨_, rfl⟩)
    (case hc15 => first | k_is | kit_is | k_exc | decide +kernel | rfl | exact .inl rfl | exact .inr ⟨_, rfl⟩)
    (case hk15 => first | k_is | kit_is | k_exc | decide +kernel | rfl | exact .inl rfl | exact .inr ⟨_, rfl⟩)
    (case ha16 => first | k_is | kit_is | k_exc | decide +kernel | rfl | exact .inl rfl | exact .inr ⟨_, rfl⟩)
    (case hl16 => first | k_is | kit_is | k_exc | decide +kernel | rfl | exact .inl rfl | exact .inr ⟨_, rfl⟩)
    (case hc16 => first | k_is | kit_is | k_exc | decide +kernel | rfl | exact .inl rfl | exact .inr ⟨_, rfl⟩)
    (case hk16 => first | k_is | kit_is | k_exc | decide +kernel | rfl | exact .inl rfl | exact .inr ⟨_, rfl⟩)
    (case co0 => first | k_is | kit_is | k_exc | decide +kernel | rfl | exact .inl rfl | exact .inr ⟨_, rfl⟩)
    (case e0aC => first | k_is | kit_is | k_exc | decide +kernel | rfl | exact .inl rfl | exact .inr ⟨_, rfl⟩)
    (case e0xL => first | k_is | kit_is | k_exc | decide +kernel | rfl | exact .inl rfl | exact .inr ⟨_, rfl⟩)
    (case e0vb => first | k_is | kit_is | k_exc | decide +kernel | rfl | exact .inl rfl | exact .inr ⟨_, rfl⟩)
    (case e0sa => first | k_is | kit_is | k_exc | decide +kernel | rfl | exact .inl rfl | exact .inr ⟨_, rfl⟩)
    (case e0ga => first | k_is | kit_is | k_exc | decide +kernel | rfl | exact .inl rfl | exact .inr ⟨_, rfl⟩)
    (case e0gg => first | k_is | kit_is | k_exc | decide +kernel | rfl | exact .inl rfl | exact .inr ⟨_, rfl⟩)
    (case e0nf => first | k_is | kit_is | k_exc | decide +kernel | rfl | exact .inl rfl | exact .inr ⟨_, rfl⟩)
    (case e0ai => first | k_is | kit_is | k_exc | decide +kernel | rfl | exact .inl rfl | exact .inr ⟨_, rfl⟩)
    (case e0ti => first | k_is | kit_is | k_exc | decide +kernel | rfl | exact .inl rfl | exact .inr ⟨_, rfl⟩)
    (case e0kC => first | k_is | kit_is | k_exc | decide +kernel | rfl | exact .inl rfl | exact .inr ⟨_, rfl⟩)
    (case e0eC => first | k_is | kit_is | k_exc | decide +kernel | rfl | exact .inl rfl | exact .inr ⟨_, rfl⟩)
    (case e0tC => first | k_is | kit_is | k_exc | decide +kernel | rfl | exact .inl rfl | exact .inr ⟨_, rfl⟩)
    (case e0hC => first | k_is | kit_is | k_exc | decide +kernel | rfl | exact .inl rfl | exact .inr ⟨_, rfl⟩)
    (case e0cC => first | k_is | kit_is | k_exc | decide +kernel | rfl | exact .inl rfl | exact .inr ⟨_, rfl⟩)
    (case e0gC => first | k_is | kit_is | k_exc | decide +kernel | rfl | exact .inl rfl | exact .inr ⟨_, rfl⟩)
    (case e0uC => first | k_is | kit_is | k_exc | decide +kernel | rfl | exact .inl rfl | exact .inr ⟨_, rfl⟩)
    (case e0oC => first | k_is | kit_is | k_exc | decide +kernel | rfl | exact .inl rfl | exact .inr ⟨_, rfl⟩)
    (case e0sC => first | k_is | kit_is | k_exc | decide +kernel | rfl | exact .inl rfl | exact .inr ⟨_, rfl⟩)
    (case e0il => first | k_is | kit_is | k_exc | decide +kernel | rfl | exact .inl rfl | exact .inr ⟨_, rfl⟩)
    (case e0ic => first | k_is | kit_is | k_exc | decide +kernel | rfl | exact .inl rfl | exact .inr ⟨_, rfl⟩)
    (case e0ik => first | k_is | kit_is | k_exc | decide +kernel | rfl | exact .inl rfl | exact .inr ⟨_, rfl⟩)
    (case e1aC => first | k_is | kit_is | k_exc | decide +kernel | rfl | exact .inl rfl | exact .inr ⟨_, rfl⟩)
    (case e1xL => first | k_is | kit_is | k_exc | decide +kernel | rfl | exact .inl rfl | exact .inr ⟨_, rfl⟩)
    (case e1vb => first | k_is | kit_is | k_exc | decide +kernel | rfl | exact .inl rfl | exact .inr ⟨_, rfl⟩)
    (case e1sa => first | k_is | kit_is | k_exc | decide +kernel | rfl | exact .inl rfl | exact .inr ⟨_, rfl⟩)
    (case e1ga => first | k_is | kit_is | k_exc | decide +kernel | rfl | exact .inl rfl | exact .inr ⟨_, rfl⟩)
    (case e1gg => first | k_is | kit_is | k_exc | decide +kernel | rfl | exact .inl rfl | exact .inr ⟨_, rfl⟩)
    (case e1nf => first | k_is | kit_is | k_exc | decide +kernel | rfl | exact .inl rfl | exact .inr ⟨_, rfl⟩)
    (case e1ai => first | k_is | kit_is | k_exc | decide +kernel | rfl | exact .inl rfl | exact .inr ⟨_, rfl⟩)
    (case e1ti => first | k_is | kit_is | k_exc | decide +kernel | rfl | exact .inl rfl | exact .inr ⟨_, rfl⟩)
    (case e1kC => first | k_is | kit_is | k_exc | decide +kernel | rfl | exact .inl rfl | exact .inr ⟨_, rfl⟩)
    (case e1eC => first | k_is | kit_is | k_exc | decide +kernel | rfl | exact .inl rfl | exact .inr ⟨_, rfl⟩)
    (case e1tC => first | k_is | kit_is | k_exc | decide +kernel | rfl | exact .inl rfl | exact .inr ⟨_, rfl⟩)
    (case e1hC => first | k_is | kit_is | k_exc | decide +kernel | rfl | exact .inl rfl | exact .inr ⟨_, rfl⟩)
    (case e1cC => first | k_is | kit_is | k_exc | decide +kernel | rfl | exact .inl rfl | exact .inr ⟨_, rfl⟩)
    (case e1gC => first | k_is | kit_is | k_exc | decide +kernel | rfl | exact .inl rfl | exact .inr ⟨_, rfl⟩)
    (case e1uC => first | k_is | kit_is | k_exc | decide +kernel | rfl | exact .inl rfl | exact .inr ⟨_, rfl⟩)
    (case e1oC => first | k_is | kit_is | k_exc | decide +kernel | rfl | exact .inl rfl | exact .inr ⟨_, rfl⟩)
    (case e1sC => first | k_is | kit_is | k_exc | decide +kernel | rfl | exact .inl rfl | exact .inr ⟨_, rfl⟩)
    (case e1il => first | k_is | kit_is | k_exc | decide +kernel | rfl | exact .inl rfl | exact .inr ⟨_, rfl⟩)
    (case e1ic => first | k_is | kit_is | k_exc | decide +kernel | rfl | exact .inl rfl | exact .inr ⟨_, rfl⟩)
    (case e1ik => first | k_is | kit_is | k_exc | decide +kernel | rfl | exact .inl rfl | exact .inr ⟨_, rfl⟩)
    (case o0aC => first | k_is | kit_is | k_exc | decide +kernel | rfl | exact .inl rfl | exact .inr ⟨_, rfl⟩)
    (case o0pg => first | k_is | kit_is | k_exc | decide +kernel | rfl | exact .inl rfl | exact .inr ⟨_, rfl⟩)
    (case o0hd => first | k_is | kit_is | k_exc | decide +kernel | rfl | exact .inl rfl | exact .inr ⟨_, rfl⟩)
    (case o0po => first | k_is | kit_is | k_exc | decide +kernel | rfl | exact .inl rfl | exact .inr ⟨_, rfl⟩)
    (case o0sa => first | k_is | kit_is | k_exc | decide +kernel | rfl | exact .inl rfl | exact .inr ⟨_, rfl⟩)
    (case o0mk => first | k_is | kit_is | k_exc | decide +kernel | rfl | exact .inl rfl | exact .inr ⟨_, rfl⟩)
    (case o0kp => first | k_is | kit_is | k_exc | decide +kernel | rfl | exact .inl rfl | exact .inr ⟨_, rfl⟩)
    (case o0na => first | k_is | kit_is | k_exc | decide +kernel | rfl | exact .inl rfl | exact .inr ⟨_, rfl⟩)
    (case o0sf => first | k_is | kit_is | k_exc | decide +kernel | rfl | exact .inl rfl | exact .inr ⟨_, rfl⟩)
    (case o0ra => first | k_is | kit_is | k_exc | decide +kernel | rfl | exact .inl rfl | exact .inr ⟨_, rfl⟩)
    (case o0rb => first | k_is | kit_is | k_exc | decide +kernel | rfl | exact .inl rfl | exact .inr ⟨_, rfl⟩)
    (case o0n1 => first | k_is | kit_is | k_exc | decide +kernel | rfl | exact .inl rfl | exact .inr ⟨_, rfl⟩)
    (case o0n2 => first | k_is | kit_is | k_exc | decide +kernel | rfl | exact .inl rfl | exact .inr ⟨_, rfl⟩)
    (case o0n3 => first | k_is | kit_is | k_exc | decide +kernel | rfl | exact .inl rfl | exact .inr ⟨_, rfl⟩)
    (case o0s1 => first | k_is | kit_is | k_exc | decide +kernel | rfl | exact .inl rfl | exact .inr ⟨_, rfl⟩)
    (case o0s2 => first | k_is | kit_is | k_exc | decide +kernel | rfl | exact .inl rfl | exact .inr ⟨_, rfl⟩)
    (case o0s3 => first | k_is | kit_is | k_exc | decide +kernel | rfl | exact .inl rfl | exact .inr ⟨_, rfl⟩)
    (case o0l1 => first | k_is | kit_is | k_exc | decide +kernel | rfl | exact .inl rfl | exact .inr ⟨_, rfl⟩)
    (case o0l2 => first | k_is | kit_is | k_exc | decide +kernel | rfl | exact .inl rfl | exact .inr ⟨_, rfl⟩)
    (case o0l3 => first | k_is | kit_is | k_exc | decide +kernel | rfl | exact .inl rfl | exact .inr ⟨_, rfl⟩)
    (case o0ne => first | k_is | kit_is | k_exc | decide +kernel | rfl | exact .inl rfl | exact .inr ⟨_, rfl⟩)
    (case o0sb => first | k_is | kit_is | k_exc | decide +kernel | rfl | exact .inl rfl | exact .inr ⟨_, rfl⟩)
    (case o0nq => first | k_is | kit_is | k_exc | decide +kernel | rfl | exact .inl rfl | exact .inr ⟨_, rfl⟩)
    (case o0ha => first | k_is | kit_is | k_exc | decide +kernel | rfl | exact .inl rfl | exact .inr ⟨_, rfl⟩)
    (case o0hn => first | k_is | kit_is | k_exc | decide +kernel | rfl | exact .inl rfl | exact .inr ⟨_, rfl⟩)
    (case o0ht => first | k_is | kit_is | k_exc | decide +kernel | rfl | exact .inl rfl | exact .inr ⟨_, rfl⟩)
    (case o0hm => first | k_is | kit_is | k_exc | decide +kernel | rfl | exact .inl rfl | exact .inr ⟨_, rfl⟩)
    (case o0kc => first | k_is | kit_is | k_exc | decide +kernel | rfl | exact .inl rfl | exact .inr ⟨_, rfl⟩)
    (case o0kn => first | k_is | kit_is | k_exc | decide +kernel | rfl | exact .inl rfl | exact .inr ⟨_, rfl⟩)
    (case o0ks => first | k_is | kit_is | k_exc | decide +kernel | rfl | exact .inl rfl | exact .inr ⟨_, rfl⟩)
    (case o0kl => first | k_is | kit_is | k_exc | decide +kernel | rfl | exact .inl rfl | exact .inr ⟨_, rfl⟩)
    (case u0sf => first | k_is | kit_is | k_exc | decide +kernel | rfl | exact .inl rfl | exact .inr ⟨_, rfl⟩)
    (case u0ra => first | k_is | kit_is | k_exc | decide +kernel | rfl | exact .inl rfl | exact .inr ⟨_, rfl⟩)
    (case u0rb => first | k_is | kit_is | k_exc | decide +kernel | rfl | exact .inl rfl | exact .inr ⟨_, rfl⟩)
    (case u0n1 => first | k_is | kit_is | k_exc | decide +kernel | rfl | exact .inl rfl | exact .inr ⟨_, rfl⟩)
    (case u0n2 => first | k_is | kit_is | k_exc | decide +kernel | rfl | exact .inl rfl | exact .inr ⟨_, rfl⟩)
    (case u0n3 => first | k_is | kit_is | k_exc | decide +kernel | rfl | exact .inl rfl | exact .inr ⟨_, rfl⟩)
    (case u0sb => first | k_is | kit_is | k_exc | decide +kernel | rfl | exact .inl rfl | exact .inr ⟨_, rfl⟩)
    (case u0hs => first | k_is | kit_is | k_exc | decide +kernel | rfl | exact .inl rfl | exact .inr ⟨_, rfl⟩)
    (case v0sf => first | k_is | kit_is | k_exc | decide +kernel | rfl | exact .inl rfl | exact .inr ⟨_, rfl⟩)
    (case v0n1 => first | k_is | kit_is | k_exc | decide +kernel | rfl | exact .inl rfl | exact .inr ⟨_, rfl⟩)
    (case v0n2 => first | k_is | kit_is | k_exc | decide +kernel | rfl | exact .inl rfl | exact .inr ⟨_, rfl⟩)
    (case v0n3 => first | k_is | kit_is | k_exc | decide +kernel | rfl | exact .inl rfl | exact .inr ⟨_, rfl⟩)
    (case v0s1 => first | k_is | kit_is | k_exc | decide +kernel | rfl | exact .inl rfl | exact .inr ⟨_, rfl⟩)
    (case v0s2 => first | k_is | kit_is | k_exc | decide +kernel | rfl | exact .inl rfl | exact .inr ⟨_, rfl⟩)
    (case v0s3 => first | k_is | kit_is | k_exc | decide +kernel | rfl | exact .inl rfl | exact .inr ⟨_, rfl⟩)
    (case v0l1 => first | k_is | kit_is | k_exc | decide +kernel | rfl | exact .inl rfl | exact .inr ⟨_, rfl⟩)
    (case v0l2 => first | k_is | kit_is | k_exc | decide +kernel | rfl | exact .inl rfl | exact .inr ⟨_, rfl⟩)
    (case v0l3 => first | k_is | kit_is | k_exc | decide +kernel | rfl | exact .inl rfl | exact .inr ⟨_, rfl⟩)
    (case v0hs => first | k_is | kit_is | k_exc | decide +kernel | rfl | exact .inl rfl | exact .inr ⟨_, rfl⟩)
    (case m0a => first | k_is | kit_is | k_exc | decide +kernel | rfl | exact .inl rfl | exact .inr ⟨_, rfl⟩)
    (case m0l => first | k_is | kit_is | k_exc | decide +kernel | rfl | exact .inl rfl | exact .inr ⟨_, rfl⟩)
    (case m0c => first | k_is | kit_is | k_exc | decide +kernel | rfl | exact .inl rfl | exact .inr ⟨_, rfl⟩)
    (case m0k => first | k_is | kit_is | k_exc | decide +kernel | rfl | exact .inl rfl | exact .inr ⟨_, rfl⟩)
    (case m0i => first | k_is | kit_is | k_exc | decide +kernel | rfl | exact .inl rfl | exact .inr ⟨_, rfl⟩)
    (case m1a => first | k_is | kit_is | k_exc | decide +kernel | rfl | exact .inl rfl | exact .inr ⟨_, rfl⟩)
    (case m1l => first | k_is | kit_is | k_exc | decide +kernel | rfl | exact .inl rfl | exact .inr ⟨_, rfl⟩)
    (case m1c => first | k_is | kit_is | k_exc | decide +kernel | rfl | exact .inl rfl | exact .inr ⟨_, rfl⟩)
    (case m1k => first | k_is | kit_is | k_exc | decide +kernel | rfl | exact .inl rfl | exact .inr ⟨_, rfl⟩)
    (case m1i => first | k_is | kit_is | k_exc | decide +kernel | rfl | exact .inl rfl | exact .inr ⟨_, rfl⟩)
    (case m2a => first | k_is | kit_is | k_exc | decide +kernel | rfl | exact .inl rfl | exact .inr ⟨_, rfl⟩)
    (case m2l => first | k_is | kit_is | k_exc | decide +kernel | rfl | exact .inl rfl | exact .inr ⟨_, rfl⟩)
    (case m2c => first | k_is | kit_is | k_exc | decide +kernel | rfl | exact .inl rfl | exact .inr ⟨_, rfl⟩)
    (case m2k => first | k_is | kit_is | k_exc | decide +kernel | rfl | exact .inl rfl | exact .inr ⟨_, rfl⟩)
    (case m2i => first | k_is | kit_is | k_exc | decide +kernel | rfl | exact .inl rfl | exact .inr ⟨_, rfl⟩)
    (case m3a => first | k_is | kit_is | k_exc | decide +kernel | rfl | exact .inl rfl | exact .inr ⟨_, rfl⟩)
    (case m3l => first | k_is | kit_is | k_exc | decide +kernel | rfl | exact .inl rfl | exact .inr ⟨_, rfl⟩)
    (case m3c => first | k_is | kit_is | k_exc | decide +kernel | rfl | exact .inl rfl | exact .inr ⟨_, rfl⟩)
    (case m3k => first | k_is | kit_is | k_exc | decide +kernel | rfl | exact .inl rfl | exact .inr ⟨_, rfl⟩)
    (case m3i => first | k_is | kit_is | k_exc | decide +kernel | rfl | exact .inl rfl | exact .inr ⟨_, rfl⟩)
    (case m4a => first | k_is | kit_is | k_exc | decide +kernel | rfl | exact .inl rfl | exact .inr ⟨_, rfl⟩)
    (case m4l => first | k_is | kit_is | k_exc | decide +kernel | rfl | exact .inl rfl | exact .inr ⟨_, rfl⟩)
    (case m4c => first | k_is | kit_is | k_exc | decide +kernel | rfl | exact .inl rfl | exact .inr ⟨_, rfl⟩)
    (case m4k => first | k_is | kit_is | k_exc | decide +kernel | rfl | exact .inl rfl | exact .inr ⟨_, rfl⟩)
    (case m4i => first | k_is | kit_is | k_exc | decide +kernel | rfl | exact .inl rfl | exact .inr ⟨_, rfl⟩)
    (case m5a => first | k_is | kit_is | k_exc | decide +kernel | rfl | exact .inl rfl | exact .inr ⟨_, rfl⟩)
    (case m5l => first | k_is | kit_is | k_exc | decide +kernel | rfl | exact .inl rfl | exact .inr ⟨_, rfl⟩)
    (case m5c => first | k_is | kit_is | k_exc | decide +kernel | rfl | exact .inl rfl | exact .inr ⟨_, rfl⟩)
    (case m5k => first | k_is | kit_is | k_exc | decide +kernel | rfl | exact .inl rfl | exact .inr ⟨_, rfl⟩)
    (case m5i => first | k_is | kit_is | k_exc | decide +kernel | rfl | exact .inl rfl | exact .inr ⟨_, rfl⟩)
    (case m6a => first | k_is | kit_is | k_exc | decide +kernel | rfl | exact .inl rfl | exact .inr ⟨_, rfl⟩)
    (case m6l => first | k_is | kit_is | k_exc | decide +kernel | rfl | exact .inl rfl | exact .inr ⟨_, rfl⟩)
    (case m6c => first | k_is | kit_is | k_exc | decide +kernel | rfl | exact .inl rfl | exact .inr ⟨_, rfl⟩)
    (case m6k => first | k_is | kit_is | k_exc | decide +kernel | rfl | exact .inl rfl | exact .inr ⟨_, rfl⟩)
    (case m6i => first | k_is | kit_is | k_exc | decide +kernel | rfl | exact .inl rfl | exact .inr ⟨_, rfl⟩)
    (case m7a => first | k_is | kit_is | k_exc | decide +kernel | rfl | exact .inl rfl | exact .inr ⟨_, rfl⟩)
    (case m7l => first | k_is | kit_is | k_exc | decide +kernel | rfl | exact .inl rfl | exact .inr ⟨_, rfl⟩)
    (case m7c => first | k_is | kit_is | k_exc | decide +kernel | rfl | exact .inl rfl | exact .inr ⟨_, rfl⟩)
    (case m7k => first | k_is | kit_is | k_exc | decide +kernel | rfl | exact .inl rfl | exact .inr ⟨_, rfl⟩)
    (case m7i => first | k_is | kit_is | k_exc | decide +kernel | rfl | exact .inl rfl | exact .inr ⟨_, rfl⟩)
    (case m8a => first | k_is | kit_is | k_exc | decide +kernel | rfl | exact .inl rfl | exact .inr ⟨_, rfl⟩)
    (case m8l => first | k_is | kit_is | k_exc | decide +kernel | rfl | exact .inl rfl | exact .inr ⟨_, rfl⟩)
    (case m8c => first | k_is | kit_is | k_exc | decide +kernel | rfl | exact .inl rfl | exact .inr ⟨_, rfl⟩)
    (case m8k => first | k_is | kit_is | k_exc | decide +kernel | rfl | exact .inl rfl | exact .inr ⟨_, rfl⟩)
    (case m8i => first | k_is | kit_is | k_exc | decide +kernel | rfl | exact .inl rfl | exact .inr ⟨_, rfl⟩)
    (case m9a => first | k_is | kit_is | k_exc | decide +kernel | rfl | exact .inl rfl | exact .inr ⟨_, rfl⟩)
    (case m9l => first | k_is | kit_is | k_exc | decide +kernel | rfl | exact .inl rfl | exact .inr ⟨_, rfl⟩)
    (case m9c => first | k_is | kit_is | k_exc | decide +kernel | rfl | exact .inl rfl | exact .inr ⟨_, rfl⟩)
    (case m9k => first | k_is | kit_is | k_exc | decide +kernel | rfl | exact .inl rfl | exact .inr ⟨_, rfl⟩)
    (case m9i => first | k_is | kit_is | k_exc | decide +kernel | rfl | exact .inl rfl | exact .inr ⟨_, rfl⟩)
    (case m10a => first | k_is | kit_is | k_exc | decide +kernel | rfl | exact .inl rfl | exact .inr ⟨_, rfl⟩)
    (case m10l => first | k_is | kit_is | k_exc | decide +kernel | rfl | exact .inl rfl | exact .inr ⟨_, rfl⟩)
    (case m10c => first | k_is | kit_is | k_exc | decide +kernel | rfl | exact .inl rfl | exact .inr ⟨_, rfl⟩)
    (case m10k => first | k_is | kit_is | k_exc | decide +kernel | rfl | exact .inl rfl | exact .inr ⟨_, rfl⟩)
    (case m10i => first | k_is | kit_is | k_exc | decide +kernel | rfl | exact .inl rfl | exact .inr ⟨_, rfl⟩)
    (case m11a => first | k_is | kit_is | k_exc | decide +kernel | rfl | exact .inl rfl | exact .inr ⟨_, rfl⟩)
    (case m11l => first | k_is | kit_is | k_exc | decide +kernel | rfl | exact .inl rfl | exact .inr ⟨_, rfl⟩)
    (case m11c => first | k_is | kit_is | k_exc | decide +kernel | rfl | exact .inl rfl | exact .inr ⟨_, rfl⟩)
    (case m11k => first | k_is | kit_is | k_exc | decide +kernel | rfl | exact .inl rfl | exact .inr ⟨_, rfl⟩)
    (case m11i => first | k_is | kit_is | k_exc | decide +kernel | rfl | exact .inl rfl | exact .inr ⟨_, rfl⟩)
    (case m12a => first | k_is | kit_is | k_exc | decide +kernel | rfl | exact .inl rfl | exact .inr ⟨_, rfl⟩)
    (case m12l => first | k_is | kit_is | k_exc | decide +kernel | rfl | exact .inl rfl | exact .inr ⟨_, rfl⟩)
    (case m12c => first | k_is | kit_is | k_exc | decide +kernel | rfl | exact .inl rfl | exact .inr ⟨_, rfl⟩)
    (case m12k => first | k_is | kit_is | k_exc | decide +kernel | rfl | exact .inl rfl | exact .inr ⟨_, rfl⟩)
    (case m12i => first | k_is | kit_is | k_exc | decide +kernel | rfl | exact .inl rfl | exact .inr ⟨_, rfl⟩)
    (case m13a => first | k_is | kit_is | k_exc | decide +kernel | rfl | exact .inl rfl | exact .inr ⟨_, rfl⟩)
    (case m13l => first | k_is | kit_is | k_exc | decide +kernel | rfl | exact .inl rfl | exact .inr ⟨_, rfl⟩)
    (case m13c => first | k_is | kit_is | k_exc | decide +kernel | rfl | exact .inl rfl | exact .inr ⟨_, rfl⟩)
    (case m13k => first | k_is | kit_is | k_exc | decide +kernel | rfl | exact .inl rfl | exact .inr ⟨_, rfl⟩)
    (case m13i => first | k_is | kit_is | k_exc | decide +kernel | rfl | exact .inl rfl | exact .inr ⟨_, rfl⟩)
    (case m14a => first | k_is | kit_is | k_exc | decide +kernel | rfl | exact .inl rfl | exact .inr ⟨_, rfl⟩)
    (case m14l => first | k_is | kit_is | k_exc | decide +kernel | rfl | exact .inl rfl | exact .inr ⟨_, rfl⟩)
    (case m14c => first | k_is | kit_is | k_exc | decide +kernel | rfl | exact .inl rfl | exact .inr ⟨_, rfl⟩)
    (case m14k => first | k_is | kit_is | k_exc | decide +kernel | rfl | exact .inl rfl | exact .inr ⟨_, rfl⟩)
    (case m14i => first | k_is | kit_is | k_exc | decide +kernel | rfl | exact .inl rfl | exact .inr ⟨_, rfl⟩)
    (case m15a => first | k_is | kit_is | k_exc | decide +kernel | rfl | exact .inl rfl | exact .inr ⟨_, rfl⟩)
    (case m15l => first | k_is | kit_is | k_exc | decide +kernel | rfl | exact .inl rfl | exact .inr ⟨_, rfl⟩)
    (case m15c => first | k_is | kit_is | k_exc | decide +kernel | rfl | exact .inl rfl | exact .inr ⟨_, rfl⟩)
    (case m15k => first | k_is | kit_is | k_exc | decide +kernel | rfl | exact .inl rfl | exact .inr ⟨_, rfl⟩)
    (case m15i => first | k_is | kit_is | k_exc | decide +kernel | rfl | exact .inl rfl | exact .inr ⟨_, rfl⟩)
    (case m16a => first | k_is | kit_is | k_exc | decide +kernel | rfl | exact .inl rfl | exact .inr ⟨_, rfl⟩)
    (case m16l => first | k_is | kit_is | k_exc | decide +kernel | rfl | exact .inl rfl | exact .inr ⟨_, rfl⟩)
    (case m16c => first | k_is | kit_is | k_exc | decide +kernel | rfl | exact .inl rfl | exact .inr ⟨_, rfl⟩)
    (case m16k => first | k_is | kit_is | k_exc | decide +kernel | rfl | exact .inl rfl | exact .inr ⟨_, rfl⟩)
    (case m16i => first | k_is | kit_is | k_exc | decide +kernel | rfl | exact .inl rfl | exact .inr ⟨_, rfl⟩)
    (case w0rd => first | k_is | kit_is | k_exc | decide +kernel | rfl | exact .inl rfl | exact .inr ⟨_, rfl⟩)
    (case w0at => first | k_is | kit_is | k_exc | decide +kernel | rfl | exact .inl rfl | exact .inr ⟨_, rfl⟩)
    (case w0rc => first | k_is | kit_is | k_exc | decide +kernel | rfl | exact .inl rfl | exact .inr ⟨_, rfl⟩)
    (case w0fi => first | k_is | kit_is | k_exc | decide +kernel | rfl | exact .inl rfl | exact .inr ⟨_, rfl⟩)
    (case w0l => first | k_is | kit_is | k_exc | decide +kernel | rfl | exact .inl rfl | exact .inr ⟨_, rfl⟩)
    (case w0c => first | k_is | kit_is | k_exc | decide +kernel | rfl | exact .inl rfl | exact .inr ⟨_, rfl⟩)
    (case w0k => first | k_is | kit_is | k_exc | decide +kernel | rfl | exact .inl rfl | exact .inr ⟨_, rfl⟩)
#print axioms PySem.Challenge.cw_textorlist_k14_whole_entries_by_a_model_holds
