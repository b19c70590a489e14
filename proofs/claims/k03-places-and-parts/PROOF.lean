import PyProof.Rows.All
import Wide.All
import OpenK.AllK
import Wide.FinOn
import PyProof.ReprLen
import PyProof.ReprRoads
import PyProof.EqLayable
import HandS.ForMost
import HandS.Exc
import HandS.TryOnly
import HandS.ExcOwn
import HandS.WordsExc
import HandS.IsInst
import HandS.Walk
import HandS.Flow
import HandS.ExcInit
import HandS.ExcIs
import HandS.ExcField
import HandS.TryMany
import PyProof.ListStr
import KE.KExcIs
import PyProof.StrBlock2
import HandS.TupAny
import KE.DataMinMax
import HandS.SortKw
import KE.KOpsOwn
import HandS.SlotsOwn
import PyProof.InstNe
import PyProof.LongRange
import HandS.TupLe
import KE.GoesMore
import PyProof.EnumMake
import KE.SortData
import KE.KSortAsk
import PySem.Challenge.RW_textorlist_k03_places_and_parts
set_option Elab.async false
set_option linter.all false
set_option maxRecDepth 100000
set_option maxHeartbeats 4000000
/-! ## Data: what can be shown, how long it is then -/
namespace Tx
open PySem

mutual
/-- no dict, letters of a text below the last code point, iv of less than 1920 bits -/
def fine : PyData → Bool
  | .none | .bool _ => true
  | .int i => decide (i.natAbs.log2 < 1920)
  | .str x => x.cps.toList.all fun c => decide (c < 0x110000)
  | .list xs | .tuple xs => fineAll xs
  | .dict _ => false
def fineAll : List PyData → Bool
  | [] => true
  | x :: xs => fine x && fineAll xs
end
mutual
/-- a bound for the number of signs of its repr -/
def wt : PyData → Nat
  | .none | .bool _ => 5
  | .int _ => 2000
  | .str x => 10 * x.length + 2
  | .list xs | .tuple xs => wtAll xs + 3
  | .dict _ => 0
def wtAll : List PyData → Nat
  | [] => 0
  | x :: xs => wt x + 2 + wtAll xs
end
theorem fineAll_iff : ∀ {xs : List PyData}, fineAll xs = true ↔ ∀ d ∈ xs, fine d = true
  | [] => by simp [fineAll]
  | x :: xs => by simp [fineAll, fineAll_iff (xs := xs)]
theorem wtAll_append : ∀ (xs ys : List PyData), wtAll (xs ++ ys) = wtAll xs + wtAll ys
  | [], ys => by simp [wtAll]
  | x :: xs, ys => by simp only [List.cons_append, wtAll, wtAll_append xs ys]; omega
theorem wtAll_le {B : Nat} : ∀ {xs : List PyData}, (∀ d ∈ xs, wt d ≤ B) → wtAll xs ≤ (B + 2) * xs.length
  | [], _ => by simp [wtAll]
  | x :: xs, h => by
    have h1 := h x List.mem_cons_self
    have h2 := wtAll_le (B := B) (xs := xs) fun d hd => h d (List.mem_cons_of_mem _ hd)
    simp only [wtAll, List.length_cons, Nat.mul_add, Nat.mul_one]
    omega
theorem depthAll_le {n : Nat} : ∀ {xs : List PyData}, (∀ d ∈ xs, d.depth ≤ n) → PyData.depthAll xs ≤ n
  | [], _ => by simp [PyData.depthAll]
  | x :: xs, h => by
    have h1 := h x List.mem_cons_self
    have h2 := depthAll_le (n := n) (xs := xs) fun d hd => h d (List.mem_cons_of_mem _ hd)
    simp only [PyData.depthAll]
    omega
theorem depth_mem : ∀ {xs : List PyData} {d : PyData}, d ∈ xs → d.depth ≤ PyData.depthAll xs
  | [], d, h => by simp at h
  | x :: xs, d, h => by
    simp only [PyData.depthAll]
    cases h with
    | head => omega
    | tail _ h => have := depth_mem h; omega
theorem wt_mem : ∀ {xs : List PyData} {d : PyData}, d ∈ xs → wt d + 2 ≤ wtAll xs
  | [], d, h => by simp at h
  | x :: xs, d, h => by
    simp only [wtAll]
    cases h with
    | head => omega
    | tail _ h => have := wt_mem h; omega
mutual
theorem fine_showable : ∀ d : PyData, fine d = true → d.showable = true
  | .none, _ => rfl
  | .bool _, _ => rfl
  | .str _, _ => rfl
  | .int i, h => by simpa [fine, PyData.showable] using h
  | .list xs, h => by simp only [fine] at h; simp only [PyData.showable]; exact fineAll_showable xs h
  | .tuple xs, h => by simp only [fine] at h; simp only [PyData.showable]; exact fineAll_showable xs h
  | .dict _, h => by simp [fine] at h
theorem fineAll_showable : ∀ xs : List PyData, fineAll xs = true → PyData.showableAll xs = true
  | [], _ => rfl
  | x :: xs, h => by
    simp only [fineAll, Bool.and_eq_true] at h
    simp only [PyData.showableAll, fine_showable x h.1, fineAll_showable xs h.2, Bool.and_self]
end
mutual
theorem fine_lay : ∀ d : PyData, fine d = true → d.canLay0 = true
  | .none, _ => rfl
  | .bool _, _ => rfl
  | .int _, _ => rfl
  | .str x, h => by
    simp only [fine, List.all_eq_true, decide_eq_true_eq] at h
    simp only [PyData.canLay0]
    show x.cps.all (· < 0x110000) = true
    rw [Array.all_eq_true_iff_forall_mem]
    intro c hc
    exact decide_eq_true (h c (Array.mem_toList_iff.mpr hc))
  | .list xs, h => by simp only [fine] at h; simp only [PyData.canLay0]; exact fineAll_lay xs h
  | .tuple xs, h => by simp only [fine] at h; simp only [PyData.canLay0]; exact fineAll_lay xs h
  | .dict _, h => by simp [fine] at h
theorem fineAll_lay : ∀ xs : List PyData, fineAll xs = true → PyData.canLayAll0 xs = true
  | [], _ => rfl
  | x :: xs, h => by
    simp only [fineAll, Bool.and_eq_true] at h
    simp only [PyData.canLayAll0, fine_lay x h.1, fineAll_lay xs h.2, Bool.and_self]
end
mutual
theorem shown_wt : ∀ d : PyData, fine d = true → d.shown.length ≤ wt d
  | .none, _ => by decide
  | .bool b, _ => by cases b <;> decide
  | .int i, h => by
    have e := int_text_fits (a := i) (by simpa [fine] using h)
    have e2 := PyProof.Rows.int_text_len_1921 (i := i) (by simpa [fine] using h)
    simp only [PyData.shown, wt]
    omega
  | .str x, h => by
    simp only [fine, List.all_eq_true, decide_eq_true_eq] at h
    have e := StrLaws.reprText_len x fun c hc => by
      have := h c hc
      have e8 : (16 : Nat) ^ 8 = 4294967296 := by decide
      omega
    simpa only [PyData.shown, wt] using e
  | .list xs, h => by
    simp only [fine] at h
    have h1 := shownAll_wt xs h
    have h2 := listText_len_le (PyData.shownAll xs)
    simp only [PyData.shown, wt]
    omega
  | .tuple xs, h => by
    simp only [fine] at h
    have h1 := shownAll_wt xs h
    have h2 := tupleText_len_le (PyData.shownAll xs)
    simp only [PyData.shown, wt]
    omega
  | .dict _, h => by simp [fine] at h
theorem shownAll_wt : ∀ xs : List PyData, fineAll xs = true → ((PyData.shownAll xs).map (·.length)).sum + 2 * (PyData.shownAll xs).length ≤ wtAll xs
  | [], _ => by simp [PyData.shownAll, wtAll]
  | x :: xs, h => by
    simp only [fineAll, Bool.and_eq_true] at h
    have h1 := shown_wt x h.1
    have h2 := shownAll_wt xs h.2
    simp only [PyData.shownAll, wtAll, List.map_cons, List.sum_cons, List.length_cons]
    omega
end
/-- may be shown and compared -/
def Ok (d : PyData) : Prop := fine d = true ∧ d.depth ≤ 60 ∧ wt d ≤ 16000000
theorem Ok.fits {d : PyData} (h : Ok d) : d.shown.length ≤ sizeLine := by
  have := shown_wt d h.1
  have := h.2.2
  rw [sizeLine_eq]
  omega
theorem Ok.nodict {d : PyData} (h : Ok d) : d.hasDict = false := PyData.hasDict_of_canLay d (fine_lay d h.1)
theorem Ok.shaped {d : PyData} (h : Ok d) : SeqAt.shaped d = true := by
  unfold SeqAt.shaped
  rw [fine_lay d h.1, Bool.true_and]
  exact decide_eq_true (Nat.le_trans h.2.1 (by decide))
end Tx
/-! ## What the kit's hand layer lacks for these laws: a def that is run where no repr is under way (guards), repr of data of any depth -/
namespace Tx
open PySem PySem.Spec PyProof.Rows L2

/-- a def's promise, asked only where nothing is being shown -/
structure FnG (P : Program) (w : World) (K : PySem.W.Frag) (mg : Str → Option Value) (base : Heap) (CX : CXT) (k : Nat)
    (f : Addr) (fd : FuncData) (ps : List Str) (sp : Sp) : Prop where
  len : ∀ vs H Q E, sp vs H Q E → vs.length = ps.length
  run : ∀ (A : Around) (out : List Env) (s : Shared) (H : Hp) (ar : Args) (us : List Value) (vs : List V) (Q : VK) (E : XK),
    Room k A → A.guards = some [] → Env0 P w K mg base A out s H → BindsTo s fd ar (ps.zip us) → Vals vs us → sp vs H Q E →
      codeAny (model P w) A (.call (.ref f) ar) (CR CX out P w H s Q E) s

section
variable {P : Program} {w : World} {K : PySem.W.Frag} {mg : Str → Option Value} {base : Heap} {CX : CXT} {k : Nat} {f : Addr} {fd : FuncData}
  {ps N : List Str} {sp : Sp} {x qual : Str} {st : Stmt}
theorem FnG.of (F : FnOk P w K mg base CX k f fd ps sp) : FnG P w K mg base CX k f fd ps sp :=
  ⟨F.len, fun A out s H ar us vs Q E r _ e b v h => F.run A out s H ar us vs Q E r e b v h⟩
theorem FnG.mono {j : Nat} (F : FnG P w K mg base CX j f fd ps sp) (h : j ≤ k) : FnG P w K mg base CX k f fd ps sp :=
  ⟨F.len, fun A out s H ar us vs Q E r g e b v q => F.run A out s H ar us vs Q E (r.mono h) g e b v q⟩

/-- from the body's reading to the promise -/
theorem okG (F : Fun K x qual st f fd) (S : FnScope N ps (defScope st)) (len : ∀ vs H Q E, sp vs H Q E → vs.length = ps.length)
    (body : ∀ (cv : Value) (A : Around) (out : List Env) (s : Shared) (H : Hp) (vs : List V) (Q : VK) (E : XK),
      Room k (A.deeper (envOfC qual (defScope st) s.heap.objs.size f cv)) → A.guards = some [] → sp vs H Q E →
      ∃ t, PSs (cxOf CX P w K mg base N qual (defScope st) f cv A out s H E) (defBody st) t ∧
        t { nx := fun _ H' => Q .non H', rt := Q } (start N vs) H) :
    FnG P w K mg base CX (k + 1) f fd ps sp := by
  obtain ⟨_, _, _, _, _, _, cv, _, _, rfl, at_f, code⟩ := F.ex
  refine ⟨len, fun A out s H ar us vs Q E room gd e0 bd rel ask => ?_⟩
  have inH : K.In s.heap := e0.mod.kin.keeps fun b o z => (e0.bs b o z).1
  have free : s.heap.NoLimit := e0.mod.nolimit.keeps fun b o z => (e0.bs b o z).1
  refine codeAny_call_function room.depth (inH _ _ at_f) rfl S.co S.gen rfl (PySem.W.codeRec_of inH code) (bd _ _ _ _ ?_)
  refine wpAny_newFunctionEnv_cells S.kind ?kinds ?entered
  case kinds =>
    rintro ⟨nm, val⟩ hz
    cases S.par nm (List.of_mem_zip hz).1 with
    | inl q => exact .inl q
    | inr q => exact .inr ⟨q, PySem.W.cellsFrom_some _ _ _ (.inl q)⟩
  case entered =>
    rintro env rfl s1 ic
    obtain ⟨t, pss, rd⟩ := body cv A out s H vs Q E (room.deeper _) gd ask
    have I := inv_start (CX := CX) (E := E) S room.hd e0 (len _ _ _ _ ask) rel ic
    refine ⟨free.keeps ic.toInCall.keep, codeAny_func (wpAny_mono (pss.run [] s1 (start N vs) H _ I rd) ?_ fun _ _ z => z)⟩
    intro fl s2 got
    cases fl with
    | next => obtain ⟨_, H2, J, q⟩ := got; exact ⟨.non, H2, J.os, J.bare, J.base, J.hok, rfl, q⟩
    | ret u => obtain ⟨v, _, H2, J, r, q⟩ := got; exact ⟨v, H2, J.os, J.bare, J.base, J.hok, r, q⟩
    | brk => obtain ⟨_, _, _, q⟩ := got; exact False.elim q
    | cont => obtain ⟨_, _, _, q⟩ := got; exact False.elim q

end
section
variable {X : Cx} {CX : CXT} {k : Nat} {f : Addr} {fd : FuncData} {ps : List Str} {sp : Sp} {dvs : List V} {ds : List Value} {E : XK}
  {x : Str} {p pos : Pos} {e : Expr} {es : List Expr} {t : TA}
/-- f(e, ..) of such a def -/
theorem pe_callG (F : FnG X.prog X.w X.K X.mg X.base CX k f fd ps sp) (room : Room k X.A) (gd : X.A.guards = some []) (gl : Gl X x) (at_f : X.mg x = some (.ref f))
    (kp : PySem.W.keepIn X.K (.ref f) = true) (bd : Binds X.K fd ps ds) (dv : Vals dvs ds) (out : Passes CX X E) (args : PA X (e :: es) t)
    (nd : (x == ("__debug__" : Str)) = false := by decide)
    (plain : starEach (e :: es) X.env = (false, eval e X.env) :: starEach es X.env := by rfl)
    (bare : (backTo pos (starEach es X.env)).any (·.1) = false := by rfl) :
    PE X (.Call (.Name x p) (e :: es) [] pos) (tCall sp dvs E t) := by
  constructor
  intro pins s σ H Q I ask
  refine wpAny_Call_Name_kw (ld_glob I gl at_f ?_ nd)
  refine PySem.W.callWith_K (h₀ := X.base) I.ok.mod.kin kp (thn (args.run pos pins s σ H _ I ask) ?_) plain bare
  rintro us s1 ⟨vs, H1, J, rel, q⟩
  refine ⟨J.kIn, ?_⟩
  have both : Vals (vs ++ dvs) (us ++ ds) := rel.append dv
  have full : (us ++ ds).length = ps.length := both.length.symm.trans (F.len _ _ _ _ q)
  refine wpAny_call (codeAny_mono (F.run X.A X.stack s1 H1 ⟨us, []⟩ (us ++ ds) (vs ++ dvs) Q E room gd J.env0 (bd s1 us J.kIn full) both q) ?_)
  intro r s2 got
  match r, got with
  | .ok (.ret u), got => exact J.after got
  | .ok .next, got => exact False.elim got
  | .ok .brk, got => exact False.elim got
  | .ok .cont, got => exact False.elim got
  | .error er, got => exact out pins σ H1 s1 er s2 J got
end

/-! ### the end of a law row -/
section
/-- the abstract heap at the law's entry: the script alone, locked, unless it is an object of the module -/
def entryH (K : PySem.W.Frag) (a : Addr) (o : Obj) (xs : List V) : Hp := fun b => if b = a ∧ K.lookup a = none then some (.frz o (.lst xs)) else none
theorem entryH_some {K : PySem.W.Frag} {a b : Addr} {o : Obj} {xs : List V} {u : HO} (h : entryH K a o xs b = some u) : b = a ∧ K.lookup a = none ∧ u = .frz o (.lst xs) := by
  unfold entryH at h
  split at h
  · rename_i c; exact ⟨c.1, c.2, (Option.some.inj h).symm⟩
  · cases h
theorem lawG {P : Program} {w : World} {K : PySem.W.Frag} {mg mb : Str → Option Value} {k : Nat} {fa a : Addr} {x : Str} {sp : Sp} {s : Shared} {vs : List Value} {ns : List Int}
    (inK : K.In s.heap) (gl : s.heap.Ns mainGlobals mg) (bl : s.heap.Ns builtinsNs mb) (boot : ∀ y : Str, y ≠ "__name__" → mb y = bootBuiltins y) (lim : s.heap.NoLimit) (gens : s.gens = #[])
    (ob : s.heap.get? a = some { cls := .type "list", data := .seq vs.toArray }) (iv : IntsAre vs ns) (small : ns.length ≤ sizeLine) (room : Room k callerA)
    (F : ∀ base : Heap, K.In base → base.Ns mainGlobals mg → ∃ fd : FuncData, FnG P w K mg base CX0 k fa fd [x] sp ∧ Binds K fd [x] [])
    (ask : ∀ H : Hp, SqL K H a (ns.map V.int) → sp [.ref a] H (fun v _ => v = .bl true) fun _ _ _ => False) :
    codeAny (model P w) callerA (.call (.ref fa) ⟨[.ref a], []⟩) (fun r s' => r = .ok (.ret (.bool true)) ∧ OldK s.heap s'.heap ∧ s'.os = s.os ∧ AllBare s'.gens) s := by
  have rel := vals_ints iv
  have same := iv.length
  let o : Obj := { cls := .type "list", data := .seq vs.toArray }
  let H := entryH K a o (ns.map V.int)
  have sq : SqL K H a (ns.map V.int) := by
    cases hk : K.lookup a with
    | none => exact .inl (.inr ⟨o, if_pos ⟨rfl, hk⟩⟩)
    | some u =>
      have z := inK a u hk
      rw [ob] at z
      cases z
      exact .inr ⟨_, vs.toArray, _, hk, rfl, rfl, rfl, (by rw [List.size_toArray, same]; exact small), by simpa using rel⟩
  have hok : HOk P w H s.heap := by
    intro b u z
    obtain ⟨rfl, _, rfl⟩ := entryH_some z
    exact ⟨ob, by rw [List.length_map]; exact small, vs, _, rel, ob⟩
  have shown : ∀ {b : Addr} {u : Obj}, s.heap.get? b = some u → (b = a → K.lookup a ≠ none) → (hidT s.heap H).get? b = some u := by
    intro b u z n
    refine hidT_get z ?_
    show entryH K a o (ns.map V.int) b = none
    unfold entryH
    rw [if_neg]
    exact fun c => n c.1 c.2
  have names : ∀ {b : Addr} {m : Str → Option Value}, s.heap.Ns b m → (hidT s.heap H).Ns b m := by
    rintro b m ⟨u, es, ep, z, dt, more⟩
    refine ⟨u, es, ep, shown z ?_, dt, more⟩
    rintro rfl
    rw [ob] at z
    cases z
    cases dt
  have inB : K.In (hidT s.heap H) := fun b u z => shown (inK b u z) (by rintro rfl n; rw [z] at n; cases n)
  have md : Mod K mg (hidT s.heap H) := ⟨inB, names gl, ⟨mb, names bl, boot⟩, by obtain ⟨mc, z1, z2⟩ := lim; exact ⟨mc, names z1, z2⟩⟩
  have e0 : Env0 P w K mg (hidT s.heap H) callerA [] s H :=
    { frames := rfl, mod := md, bs := fun b u z => of_hidT z, bsz := Nat.le_of_eq (hidT_size _ _), funs := trivial, frf := fun b z => (nomatch z), hok := hok, bare := .of_eq gens }
  obtain ⟨fd, FF, bd⟩ := F _ inB (names gl)
  refine codeAny_mono (FF.run callerA [] s H ⟨[.ref a], []⟩ [.ref a] [.ref a] _ _ room rfl e0 (bd s [.ref a] inK rfl) (.cons rfl .nil) (ask H sq)) ?_
  intro r s' got
  match r, got with
  | .error er, got => exact False.elim got
  | .ok .next, got => exact False.elim got
  | .ok .brk, got => exact False.elim got
  | .ok .cont, got => exact False.elim got
  | .ok (.ret u), ⟨v, H', os, bare, un, hok', r', q⟩ =>
    have q' : v = .bl true := q
    subst q'
    obtain rfl : u = Value.bool true := r'
    refine ⟨rfl, OldK.of_keep fun b ou z => ?_, os, bare⟩
    cases hb : H b with
    | none => exact un.keep b ou z hb (fun y => nomatch y) (by simp)
    | some hu =>
      obtain ⟨rfl, _, rfl⟩ := entryH_some hb
      have z2 := hok' _ _ (un.frzs _ _ _ hb)
      rw [ob] at z
      cases z
      exact z2.1

/-- what k_head leaves, from the law's promise -/
theorem walkG {l : PySem.W.OpenLaw} {k : Nat} {q : Program} {loose : List Str} {XP : (Str → Option Value) → Heap → Prop} {YP : World → Heap → Prop} {d : DefRec} {K : Params → PySem.W.Frag} {sp : PySem.W.Frag → Sp} {x : Str}
    (most : l.most = some 63) (df : d.params.defaults = []) (room : Room k callerA) (inY : ∀ (w : World) (h : Heap), YP w h → (K w.params).In h)
    (F : ∀ (w : World) (mg : Str → Option Value) (fa : Addr) (h : Heap), (K w.params).In h → h.Ns mainGlobals mg → mg d.name = some (.ref fa) →
        ∀ base : Heap, (K w.params).In base → base.Ns mainGlobals mg → ∃ fd : FuncData, FnG l.prog w (K w.params) mg base CX0 k fa fd [x] (sp (K w.params)) ∧ Binds (K w.params) fd [x] [])
    (ask : ∀ (K : PySem.W.Frag) (H : Hp) (a : Addr) (ns : List Int), ns.length ≤ 63 → SqL K H a (ns.map V.int) → sp K [.ref a] H (fun v _ => v = .bl true) fun _ _ _ => False) :
    PySem.W.WalkO q loose XP YP l.row.toRowW d [] (fun f vs => PySem.call f vs) := by
  refine Att.attach_call most df ?_
  intro w s0 s mg mb fa o pm cd doc a vs ns G Y ho hd hcd hmg ob iv hlen gens
  exact lawG (inY w _ Y) G.T.g G.T.b G.T.builtins G.T.nolimit gens ob iv (Nat.le_trans hlen (by decide)) room (F w mg fa _ (inY w _ Y) G.T.g hmg) fun H hS => ask _ H a ns hlen hS
end

/-! ### repr of data, isinstance of data -/
section
variable {K : PySem.W.Frag} {H H' : Hp}
theorem Same.sqT {a : Addr} {xs : List V} (e : Same H H') (h : SqT K H a xs) : SqT K H' a xs := by
  rcases h with (h | ⟨o, h⟩) | h
  · exact .inl (.inl (e _ _ h))
  · exact .inl (.inr ⟨o, e _ _ h⟩)
  · exact .inr h
mutual
theorem dp_mono (e : Same H H') : ∀ (d : PyData) (v : V), Dp K H v d → Dp K H' v d
  | .none, _, h => by cases h; exact .non
  | .bool b, _, h => by cases h; exact .bl b
  | .int i, _, h => by cases h; exact .int i
  | .str x, _, h => by cases h; exact .str x
  | .list ds, _, h => by
    cases h with
    | lst hs ha => exact .lst (e.seq hs) (dpAll_mono e ds _ ha)
  | .tuple ds, _, h => by
    cases h with
    | tup hs ha => exact .tup (Same.sqT e hs) (dpAll_mono e ds _ ha)
  | .dict _, _, h => by cases h
theorem dpAll_mono (e : Same H H') : ∀ (ds : List PyData) (vs : List V), DpAll K H vs ds → DpAll K H' vs ds
  | [], _, h => by cases h; exact .nil
  | d :: ds, _, h => by
    cases h with
    | cons h1 h2 => exact .cons (dp_mono e d _ h1) (dpAll_mono e ds _ h2)
end
theorem DpAll.length : ∀ {ds : List PyData} {vs : List V}, DpAll K H vs ds → vs.length = ds.length
  | _, _, .nil => rfl
  | _, _, .cons _ t => by rw [List.length_cons, List.length_cons, DpAll.length t]
theorem DpAll.get : ∀ {ds : List PyData} {vs : List V} {i : Nat} {v : V}, DpAll K H vs ds → vs[i]? = some v → ∃ d, ds[i]? = some d ∧ Dp K H v d
  | _, _, _, _, .nil, e => by simp at e
  | _, _, 0, _, .cons h _, e => by simp at e; subst e; exact ⟨_, rfl, h⟩
  | _, _, i + 1, v, .cons _ t, e => by
    obtain ⟨d, h1, h2⟩ := DpAll.get (i := i) (v := v) t (by simpa using e)
    exact ⟨d, by simpa using h1, h2⟩
theorem DpAll.append : ∀ {ds es : List PyData} {vs ws : List V}, DpAll K H vs ds → DpAll K H ws es → DpAll K H (vs ++ ws) (ds ++ es)
  | _, _, _, _, .nil, h => h
  | _, _, _, _, .cons h t, g => .cons h (DpAll.append t g)
theorem DpAll.one {v : V} {d : PyData} (h : Dp K H v d) : DpAll K H [v] [d] := .cons h .nil
theorem DpAll.take : ∀ {ds : List PyData} {vs : List V} (n : Nat), DpAll K H vs ds → DpAll K H (vs.take n) (ds.take n)
  | _, _, 0, _ => by simpa using DpAll.nil
  | _, _, _ + 1, .nil => .nil
  | _, _, n + 1, .cons h t => .cons h (DpAll.take n t)
theorem DpAll.drop : ∀ {ds : List PyData} {vs : List V} (n : Nat), DpAll K H vs ds → DpAll K H (vs.drop n) (ds.drop n)
  | _, _, 0, h => by simpa using h
  | _, _, _ + 1, .nil => .nil
  | _, _, n + 1, .cons _ t => DpAll.drop n t
/-- the name of its class -/
def tyN : PyData → String
  | .none => "NoneType"
  | .bool _ => "bool"
  | .int _ => "int"
  | .str _ => "str"
  | .list _ => "list"
  | .tuple _ => "tuple"
  | .dict _ => "dict"
theorem tyx_of {v : V} {d : PyData} (h : Dp K H v d) : TyX K H v (.type (tyN d)) := by
  cases h with
  | non => exact .base .non
  | bl b => exact .base (.bl b)
  | int i => exact .base (.int i)
  | str x => exact .base (.str x)
  | lst hs _ =>
    rcases hs with (h | ⟨o, h⟩) | ⟨o, its, n, h, hc, _⟩
    · exact .base (.lst h)
    · exact .base (.frz h)
    · exact .kList h hc
  | tup hs _ =>
    rcases hs with (h | ⟨o, h⟩) | ⟨o, its, n, h, hc, _⟩
    · exact .base (.tup h)
    · exact .fTuple h
    · exact .kTuple h hc
end
section
variable {X : Cx}
/-- repr(v), v data -/
def rRepr (K : PySem.W.Frag) : List V → Hp → VK → Prop := fun xs H Q => ∃ (v : V) (d : PyData), xs = [v] ∧ Dp K H v d ∧ Ok d ∧ Q (.str d.shown) H
theorem call_repr (gd : X.A.guards = some []) (hu : X.A.units + 64 < cLine) : CallR X (.builtin "repr") (rRepr X.K) := by
  intro pins s σ H xs us Q I rel ask
  obtain ⟨v, d, rfl, hd, ok, q⟩ := ask
  cases rel with
  | @cons _ u _ _ r1 r2 =>
    cases r2
    obtain ⟨as, rd⟩ := Dp.reads I d v u hd r1
    have big : ∀ a, u = Value.ref a → wpAny (model X.prog X.w) X.A (call (.builtin "repr") [u]) (EP X pins σ Q) X.xe s := by
      rintro a rfl
      refine repr_of_reads' rd (fine_showable d ok.1) (PyData.noDict_hsm ok.nodict) gd (by have := ok.2.1; omega) (fun _ _ z => z) (fun h' t tk hk => ?_) ok.fits
      exact ⟨.str d.shown, H, I.kept (t' := tk) hk, ⟨t, rfl⟩, q⟩
    cases hd with
    | non =>
      obtain rfl : u = Value.none := r1
      exact PySem.P.repr_of_none ⟨.str _, H, I.tok _, ⟨_, rfl⟩, q⟩
    | bl b =>
      obtain rfl : u = Value.bool b := r1
      refine PySem.P.repr_of_bool ⟨.str _, H, I.tok _, ⟨s.toks, ?_⟩, q⟩
      cases b <;> rfl
    | int i =>
      obtain ⟨t, rfl⟩ := r1
      exact PySem.P.repr_of_int (by simpa [fine] using ok.1) ⟨.str _, H, I.tok _, ⟨_, rfl⟩, q⟩
    | str x =>
      obtain ⟨t, rfl⟩ := r1
      exact PySem.P.repr_of_str ⟨.str _, H, I.tok _, ⟨_, rfl⟩, q⟩ ok.fits
    | lst _ _ => exact big _ r1
    | tup _ _ => exact big _ r1
end
section
variable {X : Cx}
/-- isinstance(v, T), v data, T a built-in class -/
def rIsD (K : PySem.W.Frag) (T : String) : List V → Hp → VK → Prop := fun xs H Q => ∃ (v : V) (d : PyData) (b : Bool), xs = [v, .ty T] ∧ Dp K H v d ∧ kitB (tyN d) T = some b ∧ Q (.bl b) H
theorem call_isD {T : String} : CallR X (.builtin "isinstance") (rIsD X.K T) := by
  intro pins s σ H xs us Q I rel ask
  obtain ⟨v, d, b, rfl, hd, e, q⟩ := ask
  exact call_isi pins s σ H _ us Q I rel ⟨v, .ty T, .type (tyN d), .type T, b, rfl, .ty T, tyx_of hd, kit_ty e, q⟩
end
def isL : PyData → Bool
  | .list _ => true
  | _ => false
def isS : PyData → Bool
  | .str _ => true
  | _ => false
def isI : PyData → Bool
  | .int _ => true
  | .bool _ => true
  | _ => false
def isB : PyData → Bool
  | .bool _ => true
  | _ => false
def isT : PyData → Bool
  | .tuple _ => true
  | _ => false
theorem kit_list : ∀ d : PyData, kitB (tyN d) "list" = some (isL d)
  | .none => (by decide +kernel : kitB "NoneType" "list" = some false)
  | .bool _ => (by decide +kernel : kitB "bool" "list" = some false)
  | .int _ => (by decide +kernel : kitB "int" "list" = some false)
  | .str _ => (by decide +kernel : kitB "str" "list" = some false)
  | .list _ => (by decide +kernel : kitB "list" "list" = some true)
  | .tuple _ => (by decide +kernel : kitB "tuple" "list" = some false)
  | .dict _ => (by decide +kernel : kitB "dict" "list" = some false)
theorem kit_str : ∀ d : PyData, kitB (tyN d) "str" = some (isS d)
  | .none => (by decide +kernel : kitB "NoneType" "str" = some false)
  | .bool _ => (by decide +kernel : kitB "bool" "str" = some false)
  | .int _ => (by decide +kernel : kitB "int" "str" = some false)
  | .str _ => (by decide +kernel : kitB "str" "str" = some true)
  | .list _ => (by decide +kernel : kitB "list" "str" = some false)
  | .tuple _ => (by decide +kernel : kitB "tuple" "str" = some false)
  | .dict _ => (by decide +kernel : kitB "dict" "str" = some false)
theorem kit_int : ∀ d : PyData, kitB (tyN d) "int" = some (isI d)
  | .none => (by decide +kernel : kitB "NoneType" "int" = some false)
  | .bool _ => (by decide +kernel : kitB "bool" "int" = some true)
  | .int _ => (by decide +kernel : kitB "int" "int" = some true)
  | .str _ => (by decide +kernel : kitB "str" "int" = some false)
  | .list _ => (by decide +kernel : kitB "list" "int" = some false)
  | .tuple _ => (by decide +kernel : kitB "tuple" "int" = some false)
  | .dict _ => (by decide +kernel : kitB "dict" "int" = some false)
theorem kit_bool : ∀ d : PyData, kitB (tyN d) "bool" = some (isB d)
  | .none => (by decide +kernel : kitB "NoneType" "bool" = some false)
  | .bool _ => (by decide +kernel : kitB "bool" "bool" = some true)
  | .int _ => (by decide +kernel : kitB "int" "bool" = some false)
  | .str _ => (by decide +kernel : kitB "str" "bool" = some false)
  | .list _ => (by decide +kernel : kitB "list" "bool" = some false)
  | .tuple _ => (by decide +kernel : kitB "tuple" "bool" = some false)
  | .dict _ => (by decide +kernel : kitB "dict" "bool" = some false)
theorem kit_tuple : ∀ d : PyData, kitB (tyN d) "tuple" = some (isT d)
  | .none => (by decide +kernel : kitB "NoneType" "tuple" = some false)
  | .bool _ => (by decide +kernel : kitB "bool" "tuple" = some false)
  | .int _ => (by decide +kernel : kitB "int" "tuple" = some false)
  | .str _ => (by decide +kernel : kitB "str" "tuple" = some false)
  | .list _ => (by decide +kernel : kitB "list" "tuple" = some false)
  | .tuple _ => (by decide +kernel : kitB "tuple" "tuple" = some true)
  | .dict _ => (by decide +kernel : kitB "dict" "tuple" = some false)
end Tx

/-! ## The text's names; what a call needs -/
namespace Tx
open PySem PySem.Spec PyProof.Rows L2

/-- the built-in names that the texts use are not the module's -/
structure Bi (mg : Str → Option Value) : Prop where
  len : mg "len" = none
  int : mg "int" = none
  abs : mg "abs" = none
  range : mg "range" = none
  enumerate : mg "enumerate" = none
  min : mg "min" = none
  max : mg "max" = none
  isinstance : mg "isinstance" = none
  repr : mg "repr" = none
  sum : mg "sum" = none
  all : mg "all" = none
  any : mg "any" = none
  list : mg "list" = none
  str : mg "str" = none
  tuple : mg "tuple" = none
  bool : mg "bool" = none
  sorted : mg "sorted" = none
  ValueError : mg "ValueError" = none
  zip : mg "zip" = none
  set : mg "set" = none
theorem bi_of {K : PySem.W.Frag} {mg : Str → Option Value} {h : Heap} (X : K.In h) (G : h.Ns mainGlobals mg)
    (z0 : PySem.W.nsIn K mainGlobals "len" = some none)
    (z1 : PySem.W.nsIn K mainGlobals "int" = some none)
    (z2 : PySem.W.nsIn K mainGlobals "abs" = some none)
    (z3 : PySem.W.nsIn K mainGlobals "range" = some none)
    (z4 : PySem.W.nsIn K mainGlobals "enumerate" = some none)
    (z5 : PySem.W.nsIn K mainGlobals "min" = some none)
    (z6 : PySem.W.nsIn K mainGlobals "max" = some none)
    (z7 : PySem.W.nsIn K mainGlobals "isinstance" = some none)
    (z8 : PySem.W.nsIn K mainGlobals "repr" = some none)
    (z9 : PySem.W.nsIn K mainGlobals "sum" = some none)
    (z10 : PySem.W.nsIn K mainGlobals "all" = some none)
    (z11 : PySem.W.nsIn K mainGlobals "any" = some none)
    (z12 : PySem.W.nsIn K mainGlobals "list" = some none)
    (z13 : PySem.W.nsIn K mainGlobals "str" = some none)
    (z14 : PySem.W.nsIn K mainGlobals "tuple" = some none)
    (z15 : PySem.W.nsIn K mainGlobals "bool" = some none)
    (z16 : PySem.W.nsIn K mainGlobals "sorted" = some none)
    (z17 : PySem.W.nsIn K mainGlobals "ValueError" = some none)
    (z18 : PySem.W.nsIn K mainGlobals "zip" = some none)
    (z19 : PySem.W.nsIn K mainGlobals "set" = some none) : Bi mg :=
  ⟨PySem.W.mg_none_of X G z0, PySem.W.mg_none_of X G z1, PySem.W.mg_none_of X G z2, PySem.W.mg_none_of X G z3, PySem.W.mg_none_of X G z4, PySem.W.mg_none_of X G z5, PySem.W.mg_none_of X G z6, PySem.W.mg_none_of X G z7, PySem.W.mg_none_of X G z8, PySem.W.mg_none_of X G z9, PySem.W.mg_none_of X G z10, PySem.W.mg_none_of X G z11, PySem.W.mg_none_of X G z12, PySem.W.mg_none_of X G z13, PySem.W.mg_none_of X G z14, PySem.W.mg_none_of X G z15, PySem.W.mg_none_of X G z16, PySem.W.mg_none_of X G z17, PySem.W.mg_none_of X G z18, PySem.W.mg_none_of X G z19⟩
/-- what a body's context gives to its calls -/
structure Ct (mg : Str → Option Value) (A : Around) (k : Nat) : Prop where
  b : Bi mg
  r : Room k A
  g : A.guards = some []
theorem Ct.mono {mg : Str → Option Value} {A : Around} {j k : Nat} (c : Ct mg A k) (h : j ≤ k) : Ct mg A j := ⟨c.b, c.r.mono h, c.g⟩
/-- a def of the module -/
def Has (K : PySem.W.Frag) (mg : Str → Option Value) (x : Str) (st : Stmt) : Prop := ∃ (f : Addr) (fd : FuncData), Fun K x x st f fd ∧ mg x = some (.ref f)
theorem has_of {K : PySem.W.Frag} {mg : Str → Option Value} {h : Heap} {x : Str} {st : Stmt} {f : Addr} {oc kV dc pm cd ct : Value} {od an : Option Addr} {sl : Array (Option Value)} (X : K.In h) (G : h.Ns mainGlobals mg)
    (a : PySem.W.nsIn K mainGlobals x = some (some (.ref f)))
    (l : K.lookup f = some ⟨oc, od, .func (PySem.W.fnOf x x (defArgs st) (defBody st) (defScope st) .none kV dc pm an cd ct), sl⟩)
    (c : PySem.W.codeIn K cd x = true) (k : PySem.W.keepIn K (.ref f) = true) : Has K mg x st :=
  ⟨f, _, fun_mk l c k, PySem.W.mg_of X G a⟩
/-- a def of the module and its promise -/
def Dfn (P : Program) (w : World) (K : PySem.W.Frag) (mg : Str → Option Value) (base : Heap) (CX : CXT) (k : Nat) (x : Str) (ps : List Str) (sp : Sp) : Prop :=
  ∃ (f : Addr) (fd : FuncData), FnG P w K mg base CX k f fd ps sp ∧ mg x = some (.ref f) ∧ PySem.W.keepIn K (.ref f) = true ∧ Binds K fd ps []
section
variable {P : Program} {w : World} {K : PySem.W.Frag} {mg : Str → Option Value} {base : Heap} {CX : CXT} {k : Nat} {x : Str} {ps N : List Str} {sp : Sp} {st : Stmt}
theorem Dfn.mono {j : Nat} (D : Dfn P w K mg base CX j x ps sp) (h : j ≤ k) : Dfn P w K mg base CX k x ps sp := by
  obtain ⟨f, fd, F, r⟩ := D
  exact ⟨f, fd, F.mono h, r⟩
/-- how the arguments bind: one pattern a number of parameters -/
def BindsBy (x : Str) (st : Stmt) (ps : List Str) : Prop := ∀ (kV doc pm : Value) (an : Option Addr) (cdv ct : Value) (us : List Value), us.length = ps.length →
  bindArgs (PySem.W.fnOf x x (defArgs st) (defBody st) (defScope st) .none kV doc pm an cdv ct) ⟨us, []⟩ = pure (ps.zip us)
/-- a def that lets nothing out, by its body -/
theorem dfn0 (h : Has K mg x st) (B : Bi mg) (S : FnScope N ps (defScope st)) (bd : BindsBy x st ps) (len : ∀ vs H Q E, sp vs H Q E → vs.length = ps.length)
    (body : ∀ (f : Addr) (cv : Value) (A : Around) (out : List Env) (s : Shared) (H : Hp) (vs : List V) (Q : VK) (E : XK),
      Ct mg (A.deeper (envOfC x (defScope st) s.heap.objs.size f cv)) k → sp vs H Q E →
      ∃ t, PSs (cxOf CX0 P w K mg base N x (defScope st) f cv A out s H E).nox (defBody st) t ∧
        t { nx := fun _ H' => Q .non H', rt := Q } (start N vs) H) :
    Dfn P w K mg base CX0 (k + 1) x ps sp := by
  obtain ⟨f, fd, F, m⟩ := h
  refine ⟨f, fd, okG F S len ?_, m, F.kp, F.binds bd⟩
  intro cv A out s H vs Q E room gd ask
  obtain ⟨t, p, q⟩ := body f cv A out s H vs Q E ⟨B, room, gd⟩ ask
  exact ⟨t, p.nox, q⟩
/-- a def that may raise -/
theorem dfnX (h : Has K mg x st) (B : Bi mg) (S : FnScope N ps (defScope st)) (bd : BindsBy x st ps) (len : ∀ vs H Q E, sp vs H Q E → vs.length = ps.length)
    (body : ∀ (f : Addr) (cv : Value) (A : Around) (out : List Env) (s : Shared) (H : Hp) (vs : List V) (Q : VK) (E : XK),
      Ct mg (A.deeper (envOfC x (defScope st) s.heap.objs.size f cv)) k → sp vs H Q E →
      ∃ t, PSs (cxOf (L2.CX P w) P w K mg base N x (defScope st) f cv A out s H E) (defBody st) t ∧
        t { nx := fun _ H' => Q .non H', rt := Q } (start N vs) H) :
    Dfn P w K mg base (L2.CX P w) (k + 1) x ps sp := by
  obtain ⟨f, fd, F, m⟩ := h
  refine ⟨f, fd, okG F S len ?_, m, F.kp, F.binds bd⟩
  intro cv A out s H vs Q E room gd ask
  exact body f cv A out s H vs Q E ⟨B, room, gd⟩ ask
/-- nothing is promised -/
theorem dfn_none (h : Has K mg x st) (bd : BindsBy x st ps) (no : ∀ vs H Q E, ¬ sp vs H Q E) : Dfn P w K mg base CX0 0 x ps sp := by
  obtain ⟨f, fd, F, m⟩ := h
  exact ⟨f, fd, ⟨fun vs H Q E z => absurd z (no vs H Q E), fun A out s H ar us vs Q E _ _ _ _ _ z => absurd z (no vs H Q E)⟩, m, F.kp, F.binds bd⟩
end
section
variable {X : Cx} {CX : CXT} {j k : Nat} {ps : List Str} {sp : Sp} {E : XK} {x : Str} {p pos : Pos} {e : Expr} {es : List Expr} {t : TA}
/-- f(e, ..), f a def of the module -/
theorem pe_d (D : Dfn X.prog X.w X.K X.mg X.base CX0 j x ps sp) (c : Ct X.mg X.A k) (h : j ≤ k) (gl : Gl X x) (args : PA X (e :: es) t)
    (nd : (x == ("__debug__" : Str)) = false := by decide)
    (plain : starEach (e :: es) X.env = (false, eval e X.env) :: starEach es X.env := by rfl)
    (bare : (backTo pos (starEach es X.env)).any (·.1) = false := by rfl) :
    PE X (.Call (.Name x p) (e :: es) [] pos) (tCall sp [] E0 t) := by
  obtain ⟨f, fd, F, m, kp, bd⟩ := D
  exact pe_callG F (c.r.mono h) c.g gl m kp bd .nil pass0 args nd plain bare
end
/-- the law's own def, for the end -/
theorem to_law {P : Program} {w : World} {K : PySem.W.Frag} {mg : Str → Option Value} {base : Heap} {k : Nat} {x y : Str} {sp : Sp} {fa : Addr} (m : mg x = some (.ref fa)) (D : Dfn P w K mg base CX0 k x [y] sp) :
    ∃ fd : FuncData, FnG P w K mg base CX0 k fa fd [y] sp ∧ Binds K fd [y] [] := by
  obtain ⟨f, fd, F, m2, _, bd⟩ := D
  rw [m] at m2
  cases m2
  exact ⟨fd, F, bd⟩
/-! ### heaps -/
/-- of all addresses but b, what stood stands -/
def SameBut (b : Addr) (H H' : Hp) : Prop := ∀ a o, a ≠ b → H a = some o → H' a = some o
theorem SameBut.refl {b : Addr} {H : Hp} : SameBut b H H := fun _ _ _ h => h
theorem SameBut.trans {b : Addr} {H H1 H2 : Hp} (h : SameBut b H H1) (g : SameBut b H1 H2) : SameBut b H H2 := fun a o n e => g a o n (h a o n e)
theorem SameBut.of {b : Addr} {H H' : Hp} (h : Same H H') : SameBut b H H' := fun a o _ e => h a o e
theorem same_new {H : Hp} {p : Addr} (h : H p = none) (o : HO) : Same H (upd H p o) := fun b u q => by rw [upd_ne (ne_of_none q h)]; exact q
theorem sameBut_upd {H : Hp} {b : Addr} {o : HO} : SameBut b H (upd H b o) := fun a u n e => by rw [upd_ne n]; exact e
end Tx

/-! ## The law's draws: any number below the bound; the bag, a list of two numbers at b, changes -/
namespace Tx
open PySem PySem.Spec PyProof.Rows L2
def top (i : Nat) : Stmt := PySem.Challenge.pw_textorlist_k03_places_and_parts.main.body.getD i (.Pass ⟨0, 0, 0, 0⟩)
abbrev sTake : Stmt := top 14
theorem scTake : FnScope ["_law_bag_here", "_law_many", "_law_digit"] ["_law_bag_here", "_law_many"] (defScope sTake) := ⟨rfl, rfl, rfl, by decide +kernel, rfl, by decide +kernel, by decide +kernel⟩
abbrev sBag : Stmt := top 13
theorem scBag : FnScope ["_law_script", "_law_at", "_law_cell", "_law_mixed", "_law_place", "_law_each"] ["_law_script", "_law_at"] (defScope sBag) := ⟨rfl, rfl, rfl, by decide +kernel, rfl, by decide +kernel, by decide +kernel⟩
theorem cutV_get {xs : List V} {lo hi : Option Int} {i : Nat} {v : V} (h : (cutV xs lo hi)[i]? = some v) : ∃ j : Nat, xs[j]? = some v := by
  unfold cutV at h
  rw [List.getElem?_take] at h
  split at h
  · rw [List.getElem?_drop] at h
    exact ⟨_, h⟩
  · cases h
theorem atI_of {α : Type} {xs : List α} {i : Int} (h0 : 0 ≤ i) (h1 : i < (xs.length : Int)) : ∃ v, atI xs i = some v ∧ xs[i.toNat]? = some v := by
  obtain ⟨n, rfl⟩ := Int.eq_ofNat_of_zero_le h0
  have hn : n < xs.length := by omega
  have e : xs[n]? = some xs[n] := List.getElem?_eq_getElem hn
  exact ⟨_, atI_nat e, e⟩
theorem int_of_get {ns : List Int} {j : Nat} {v : V} (h : (ns.map V.int)[j]? = some v) : ∃ z, v = V.int z := by
  rw [List.getElem?_map] at h
  cases e : ns[j]? with
  | none => rw [e] at h; cases h
  | some z => rw [e] at h; exact ⟨z, (Option.some.inj h).symm⟩
/-- the bag stands at b -/
def Bag (H : Hp) (b : Addr) : Prop := ∃ c m : Int, H b = some (.lst [.int c, .int m])
/-- from H to H' the bag at b may have changed, and there may be new things -/
structure Stp (b : Addr) (H H' : Hp) : Prop where
  bag : Bag H' b
  keep : SameBut b H H'
theorem Stp.trans {b : Addr} {H H1 H2 : Hp} (x : Stp b H H1) (y : Stp b H1 H2) : Stp b H H2 := ⟨y.bag, x.keep.trans y.keep⟩
theorem Stp.new {b p : Addr} {H H1 : Hp} (x : Stp b H H1) (h : H1 p = none) (o : HO) : Stp b H (upd H1 p o) := by
  obtain ⟨c, m, e⟩ := x.bag
  exact ⟨⟨c, m, by rw [upd_ne (ne_of_none e h)]; exact e⟩, x.keep.trans (SameBut.of (same_new h o))⟩
theorem Stp.refl {b : Addr} {H : Hp} (h : Bag H b) : Stp b H H := ⟨h, SameBut.refl⟩
theorem Stp.same {b : Addr} {H H1 H2 : Hp} (x : Stp b H H1) (y : Same H1 H2) : Stp b H H2 := by
  obtain ⟨c, m, e⟩ := x.bag
  exact ⟨⟨c, m, y _ _ e⟩, x.keep.trans (SameBut.of y)⟩
/-- take(bag, n): a number from 0 to n - 1 -/
def spTake : Sp := fun vs H Q _ => ∃ (b : Addr) (n : Int), vs = [.ref b, .int n] ∧ Bag H b ∧ 0 < n ∧ n < 1073741824 ∧
  ∀ (r : Int) (H' : Hp), 0 ≤ r → r < n → Stp b H H' → Q (.int r) H'
/-- bag(script, at): a new bag -/
def spBag (K : PySem.W.Frag) : Sp := fun vs H Q _ => ∃ (a : Addr) (ns : List Int) (i : Int), vs = [.ref a, .int i] ∧ SqL K H a (ns.map V.int) ∧ 0 ≤ i ∧ i < 1000 ∧
  ∀ (b : Addr) (H' : Hp), Same H H' → H b = none → Bag H' b → Q (.ref b) H'
section
variable {P : Program} {w : World} {K : PySem.W.Frag} {mg : Str → Option Value} {base : Heap}
theorem d_take (h : Has K mg "_law_take" sTake) (B : Bi mg) : Dfn P w K mg base CX0 1 "_law_take" ["_law_bag_here", "_law_many"] spTake := by
  refine dfn0 h B scTake (fun _ _ _ _ _ _ us hl => match us, hl with | [_, _], _ => rfl) (fun vs H Q E h => ?_) (fun f cv A out s H vs Q E c h => ?_)
  · obtain ⟨b, n, rfl, _⟩ := h
    rfl
  obtain ⟨b, n, rfl, ⟨x, m, hb⟩, n0, n1, q⟩ := h
  refine ⟨_, (pss_cons (ps_if (pt_cmpR op_gt (pe_ix ix_list (pv 0) pe_int (fun _ _ => rfl)) pe_int (nomark _)) (pss_cons (ps_set (i := 2) scTake.nd rfl (Or.inl rfl) (pe_op op_mod (pe_callTy call_int1 (by rfl) c.b.int (by decide +kernel) (pa_cons (pe_ix ix_list (pv 0) pe_int (fun _ _ => rfl)) pa_nil)) (pv 1)))
    (pss_cons (ps_asg (pe_op op_fdiv (pe_ix ix_list (pv 0) pe_int (fun _ _ => rfl)) (pv 1)) (pg_sub (pv 0) pe_int set_list))
    (pss_one (ps_ret (pv 2))))) pss_nil)
    (pss_cons (ps_asg (pe_op op_mod (pe_callTy call_int1 (by rfl) c.b.int (by decide +kernel) (pa_cons (pe_op op_add (pe_op op_mul (pe_ix ix_list (pv 0) pe_int (fun _ _ => rfl)) pe_int) pe_int) pa_nil)) pe_int) (pg_sub (pv 0) pe_int set_list))
    (pss_one (ps_ret (pe_op op_mod (pe_op op_fdiv (pe_op op_mod (pe_callTy call_int1 (by rfl) c.b.int (by decide +kernel) (pa_cons (pe_op op_mul (pe_op op_fdiv (pe_ix ix_list (pv 0) pe_int (fun _ _ => rfl)) pe_int) pe_int) pa_nil)) pe_int) pe_int) (pv 1)))))), ?_⟩
  refine ⟨_, rfl, b, _, _, _, rfl, rfl, SqL.of hb, atI_nat rfl, _, _, rfl, rfl, _, rfl, ?_⟩
  refine ite2 (fun _ => ?_) (fun _ => ?_)
  · refine ⟨_, rfl, b, _, _, _, rfl, rfl, SqL.of hb, atI_nat rfl, .inl ⟨_, rfl, ?_⟩⟩
    refine ⟨_, rfl, _, _, rfl, rfl, n0, ?_⟩
    refine ⟨_, rfl, b, _, _, _, rfl, rfl, SqL.of hb, atI_nat rfl, _, rfl, _, _, rfl, rfl, ⟨n0, n1⟩, ?_⟩
    refine ⟨_, rfl, b, _, _, 0, rfl, rfl, hb, rfl, ?_⟩
    refine ⟨_, rfl, q _ _ (Int.emod_nonneg _ (by omega)) (Int.emod_lt_of_pos _ n0) ⟨⟨_, _, upd_same⟩, sameBut_upd⟩⟩
  · refine ⟨_, rfl, b, _, _, _, rfl, rfl, SqL.of hb, atI_nat rfl, _, _, rfl, rfl, .inr ⟨by decide, by decide⟩, _, _, rfl, rfl, .inl ⟨_, rfl, ?_⟩⟩
    refine ⟨_, _, rfl, rfl, (by show (0 : Int) < 2147483629; decide), ?_⟩
    refine ⟨_, rfl, b, _, _, 1, rfl, rfl, hb, rfl, ?_⟩
    refine ⟨_, rfl, b, _, _, _, rfl, rfl, SqL.of upd_same, atI_nat rfl, _, _, rfl, rfl, ⟨by decide, by decide⟩, _, _, rfl, rfl, .inr ⟨by decide, by decide⟩, .inl ⟨_, rfl, ?_⟩⟩
    refine ⟨_, _, rfl, rfl, (by show (0 : Int) < 2147483587; decide), _, _, rfl, rfl, ⟨by decide, by decide⟩, _, rfl, _, _, rfl, rfl, n0, ?_⟩
    exact q _ _ (Int.emod_nonneg _ (by omega)) (Int.emod_lt_of_pos _ n0) ⟨⟨_, _, upd_same⟩, sameBut_upd⟩
theorem d_bag (h : Has K mg "_law_bag" sBag) (B : Bi mg) : Dfn P w K mg base CX0 1 "_law_bag" ["_law_script", "_law_at"] (spBag K) := by
  refine dfn0 h B scBag (fun _ _ _ _ _ _ us hl => match us, hl with | [_, _], _ => rfl) (fun vs H Q E h => ?_) (fun f cv A out s H vs Q E c h => ?_)
  · obtain ⟨a, ns, i, rfl, _⟩ := h
    rfl
  obtain ⟨a, ns, i, rfl, hS, i0, i1, q⟩ := h
  refine ⟨_, (pss_cons (ps_par (i := 2) (j := 3) rfl scBag.nd rfl rfl (by decide) rfl rfl (pa_cons (pe_ifExp (pt_cmpR op_lt (pv 1) (pe_callB call_len_seq (by rfl) c.b.len PySem.boot_len (pa_cons (pv 0) pa_nil)) (nomark _)) (pe_callB call_abs (by rfl) c.b.abs (by decide +kernel) (pa_cons (pe_ix ix_list (pv 0) (pv 1) (fun _ _ => rfl)) pa_nil)) pe_int) (pa_cons (pe_op op_add (pe_op op_mul pe_int (pv 1)) pe_int) pa_nil)) (by rfl))
    (pss_cons (ps_for PassesOwn.never rfl (pi_enum (by rfl) c.b.enumerate (pa_cons (pe_slice sl_list (pv 0) po_none (po_some pe_int)) pa_nil)) (pg_tup rfl (pgs_cons (pg_name (i := 4) scBag.nd rfl (Or.inl rfl)) (pgs_cons (pg_name (i := 5) scBag.nd rfl (Or.inl rfl)) pgs_nil)))
    (pss_one (ps_set (i := 3) scBag.nd rfl (Or.inl rfl) (pe_op op_mod (pe_callTy call_int1 (by rfl) c.b.int (by decide +kernel) (pa_cons (pe_op op_add (pe_op op_add (pe_op op_mul (pv 3) pe_int) (pe_op op_mod (pe_callTy call_int1 (by rfl) c.b.int (by decide +kernel) (pa_cons (pv 5) pa_nil)) pe_int)) (pe_op op_mul pe_int (pv 4))) pa_nil)) pe_int))))
    (pss_one (ps_ret (pe_lst (pa_cons (pe_ifExp (pt_cmpR op_ge (pv 2) (pe_op op_pow pe_int pe_int) (nomark _)) (pv 2) pe_int) (pa_cons (pv 3) pa_nil))))))), ?_⟩
  have hl : (ns.map V.int).length = ns.length := List.length_map _
  refine ⟨_, rfl, _, rfl, a, _, rfl, .inl hS, _, _, rfl, rfl, _, rfl, ?_⟩
  refine ite2 (fun lt => ?one) (fun _ => ?two)
  case' one =>
    have lt' : i < (((ns.map V.int).length : Nat) : Int) := of_decide_eq_true lt
    obtain ⟨y, at_i, e2⟩ := atI_of i0 lt'
    obtain ⟨z, rfl⟩ := int_of_get e2
    refine ⟨_, rfl, _, rfl, a, _, _, _, rfl, rfl, hS, at_i, _, rfl, ?_⟩
  all_goals
    refine ⟨_, rfl, _, _, rfl, rfl, .inl ⟨by decide, by decide⟩, _, _, rfl, rfl, _, _, rfl, ?_⟩
    refine ⟨_, rfl, _, rfl, a, _, rfl, hS, fun p hp => ?_⟩
    have sp : Same H (upd H p (.lst (cutV (ns.map V.int) none (some 63)))) := same_new hp _
    refine ⟨p, _, rfl, SqL.of upd_same, ?_⟩
    refine for_it (walk_enum (K := K) (a := p) (xs := cutV (ns.map V.int) none (some 63)))
      (fun _ σ H' => ∃ (x m : Int) (u v : Option V), σ = [some (.ref a), some (.int i), some (.int x), some (.int m), u, v] ∧ Same (upd H p (.lst (cutV (ns.map V.int) none (some 63)))) H')
      ⟨_, _, none, none, rfl, Same.refl _⟩ (fun _ σ H' _ ⟨_, _, _, _, _, sm⟩ => sm.seq (SqL.of upd_same)) ?_ ?_
    · rintro t y σ H1 H2 ht ⟨x, m, u, v, rfl, sm⟩ ⟨T, y1, y2, rfl, hT, rfl, e1, e2⟩
      cases e1
      obtain ⟨j, e3⟩ := cutV_get e2
      obtain ⟨z, rfl⟩ := int_of_get e3
      refine ⟨T, _, rfl, SqT.of upd_same, rfl, _, _, rfl, _, _, rfl, rfl, ?_⟩
      refine ⟨_, rfl, _, _, rfl, rfl, .inr ⟨by decide, by decide⟩, _, rfl, .inl ⟨_, rfl, ?_⟩⟩
      refine ⟨_, _, rfl, rfl, (by show (0 : Int) < 2147483629; decide), _, _, rfl, rfl, _, rfl, _, _, rfl, rfl, .inl ⟨by decide, by decide⟩, _, _, rfl, rfl, .inl ⟨_, rfl, ?_⟩⟩
      refine ⟨_, _, rfl, rfl, (by show (0 : Int) < 2147483647; decide), ?_⟩
      exact ⟨_, _, _, _, rfl, sm.trans (same_new hT _)⟩
    · rintro σ H1 ⟨x, m, u, v, rfl, sm⟩
      refine ⟨_, rfl, _, _, rfl, rfl, ⟨by decide, by decide, by decide⟩, _, _, rfl, rfl, _, rfl, ?_⟩
      refine ite2 (fun _ => ?_) (fun _ => ?_)
      · refine ⟨_, rfl, _, rfl, (by show 2 ≤ sizeLine; decide), fun b hb => ?_⟩
        exact q b _ (sp.trans (sm.trans (same_new hb _))) (sp.free (sm.free hb)) ⟨_, _, upd_same⟩
      · refine ⟨_, rfl, (by show 2 ≤ sizeLine; decide), fun b hb => ?_⟩
        exact q b _ (sp.trans (sm.trans (same_new hb _))) (sp.free (sm.free hb)) ⟨_, _, upd_same⟩
end
end Tx

/-! ## Values: nothing, texts, lists; their sizes -/
namespace Tx
open PySem PySem.Spec PyProof.Rows L2
/-- letters a to z alone -/
def ltr (x : Str) : Bool := x.cps.toList.all fun c => decide (97 ≤ c ∧ c ≤ 122)
mutual
def isVal : PyData → Bool
  | .none => true
  | .str x => ltr x
  | .list xs => isValAll xs
  | _ => false
def isValAll : List PyData → Bool
  | [] => true
  | x :: xs => isVal x && isValAll xs
end
mutual
def szD : PyData → Nat
  | .str x => 1 + x.length
  | .list xs => 1 + szAll xs
  | _ => 1
def szAll : List PyData → Nat
  | [] => 0
  | x :: xs => szD x + szAll xs
end
theorem isValAll_iff : ∀ {xs : List PyData}, isValAll xs = true ↔ ∀ d ∈ xs, isVal d = true
  | [] => by simp [isValAll]
  | x :: xs => by simp [isValAll, isValAll_iff (xs := xs)]
theorem szAll_append : ∀ (xs ys : List PyData), szAll (xs ++ ys) = szAll xs + szAll ys
  | [], ys => by simp [szAll]
  | x :: xs, ys => by simp only [List.cons_append, szAll, szAll_append xs ys]; omega
theorem szAll_eq : ∀ xs : List PyData, szAll xs = (xs.map szD).sum
  | [] => rfl
  | x :: xs => by simp only [szAll, List.map_cons, List.sum_cons, szAll_eq xs]
theorem szD_pos : ∀ d : PyData, 1 ≤ szD d
  | .none => by simp [szD]
  | .bool _ => by simp [szD]
  | .int _ => by simp [szD]
  | .str _ => by simp [szD]
  | .list _ => by simp [szD]
  | .tuple _ => by simp [szD]
  | .dict _ => by simp [szD]
theorem len_le_szAll : ∀ xs : List PyData, xs.length ≤ szAll xs
  | [] => by simp [szAll]
  | x :: xs => by
    have := len_le_szAll xs
    have := szD_pos x
    simp only [szAll, List.length_cons]
    omega
theorem szD_mem : ∀ {xs : List PyData} {d : PyData}, d ∈ xs → szD d ≤ szAll xs
  | [], d, h => by simp at h
  | x :: xs, d, h => by
    simp only [szAll]
    cases h with
    | head => omega
    | tail _ h => have := szD_mem h; omega
theorem szAll_le {B : Nat} : ∀ {xs : List PyData}, (∀ d ∈ xs, szD d ≤ B) → szAll xs ≤ B * xs.length
  | [], _ => by simp [szAll]
  | x :: xs, h => by
    have h1 := h x List.mem_cons_self
    have h2 := szAll_le (B := B) (xs := xs) fun d hd => h d (List.mem_cons_of_mem _ hd)
    simp only [szAll, List.length_cons, Nat.mul_add, Nat.mul_one]
    omega
mutual
theorem val_fine : ∀ d : PyData, isVal d = true → fine d = true
  | .none, _ => rfl
  | .str x, h => by
    simp only [isVal, ltr, List.all_eq_true, decide_eq_true_eq] at h
    simp only [fine, List.all_eq_true, decide_eq_true_eq]
    intro c hc
    have := h c hc
    omega
  | .list xs, h => by simp only [isVal] at h; simp only [fine]; exact valAll_fine xs h
  | .bool _, h => by simp [isVal] at h
  | .int _, h => by simp [isVal] at h
  | .tuple _, h => by simp [isVal] at h
  | .dict _, h => by simp [isVal] at h
theorem valAll_fine : ∀ xs : List PyData, isValAll xs = true → fineAll xs = true
  | [], _ => rfl
  | x :: xs, h => by
    simp only [isValAll, Bool.and_eq_true] at h
    simp only [fineAll, val_fine x h.1, valAll_fine xs h.2, Bool.and_self]
end
mutual
theorem val_wt : ∀ d : PyData, isVal d = true → wt d + 2 ≤ 12 * szD d
  | .none, _ => by simp [wt, szD]
  | .str x, _ => by simp only [wt, szD]; omega
  | .list xs, h => by
    simp only [isVal] at h
    have := valAll_wt xs h
    simp only [wt, szD]
    omega
  | .bool _, h => by simp [isVal] at h
  | .int _, h => by simp [isVal] at h
  | .tuple _, h => by simp [isVal] at h
  | .dict _, h => by simp [isVal] at h
theorem valAll_wt : ∀ xs : List PyData, isValAll xs = true → wtAll xs ≤ 12 * szAll xs
  | [], _ => by simp [wtAll, szAll]
  | x :: xs, h => by
    simp only [isValAll, Bool.and_eq_true] at h
    have h1 := val_wt x h.1
    have h2 := valAll_wt xs h.2
    simp only [wtAll, szAll]
    omega
end
/-- a value of at most such a depth and size -/
structure Val (n m : Nat) (d : PyData) : Prop where
  val : isVal d = true
  deep : d.depth ≤ n
  size : szD d ≤ m
theorem Val.mono {n m n' m' : Nat} {d : PyData} (h : Val n m d) (h1 : n ≤ n') (h2 : m ≤ m') : Val n' m' d := ⟨h.val, Nat.le_trans h.deep h1, Nat.le_trans h.size h2⟩
theorem Val.ok {n m : Nat} {d : PyData} (h : Val n m d) (hn : n ≤ 60) (hm : m ≤ 1000000) : Ok d := by
  have h1 := val_wt d h.val
  have h2 := h.size
  exact ⟨val_fine d h.val, Nat.le_trans h.deep hn, by omega⟩
theorem Val.item {n m : Nat} {ds : List PyData} (h : Val n m (.list ds)) {d : PyData} (hd : d ∈ ds) : Val (n - 1) (m - 1) d := by
  have hv := h.val
  have hn := h.deep
  have hm := h.size
  simp only [isVal] at hv
  simp only [PyData.depth] at hn
  simp only [szD] at hm
  have := depth_mem hd
  have := szD_mem hd
  exact ⟨isValAll_iff.mp hv d hd, by omega, by omega⟩
/-- what is at hand can be read in J; the bag at b is none of it; from H to H' the bag may have changed, J has grown to J' by new things -/
structure Gro (b : Addr) (J H J' H' : Hp) : Prop where
  st : Stp b H H'
  jj : Same J J'
  jh : Same J' H'
  fr : ∀ a, H a ≠ none → J a = none → J' a = none
section
variable {b : Addr} {J J1 J2 H H1 H2 : Hp}
theorem Stp.gro (h : Stp b H H1) (hb : J b = none) (s : Same J H) : Gro b J H J H1 :=
  ⟨h, Same.refl _, fun a o e => h.keep a o (fun z => by rw [z, hb] at e; cases e) (s a o e), fun _ _ n => n⟩
theorem Gro.refl (h : Bag H b) (s : Same J H) : Gro b J H J H := ⟨Stp.refl h, Same.refl _, s, fun _ _ n => n⟩
theorem Gro.noBag (g : Gro b J H J1 H1) (hB : Bag H b) (hb : J b = none) : J1 b = none := by
  obtain ⟨c, m, e⟩ := hB
  exact g.fr b (by rw [e]; simp) hb
theorem Stp.there (h : Stp b H H1) (hB : Bag H b) {a : Addr} (n : H a ≠ none) : H1 a ≠ none := by
  by_cases e : a = b
  · subst e
    obtain ⟨c, m, e⟩ := h.bag
    rw [e]; simp
  · cases q : H a with
    | none => exact absurd q n
    | some o => rw [h.keep a o e q]; simp
theorem Gro.trans (g : Gro b J H J1 H1) (k : Gro b J1 H1 J2 H2) (hB : Bag H b) : Gro b J H J2 H2 :=
  ⟨g.st.trans k.st, g.jj.trans k.jj, k.jh, fun a n e => k.fr a (g.st.there hB n) (g.fr a n e)⟩
/-- a further step that leaves what is at hand -/
theorem Gro.step (g : Gro b J H J1 H1) (h : Stp b H1 H2) (hB : Bag H b) (hb : J b = none) : Gro b J H J1 H2 := g.trans (h.gro (g.noBag hB hb) g.jh) hB
/-- a new thing -/
theorem Gro.new (g : Gro b J H J1 H1) {p : Addr} (hp : H1 p = none) (o : HO) : Gro b J H J1 (upd H1 p o) :=
  ⟨g.st.new hp o, g.jj, g.jh.trans (same_new hp o), g.fr⟩
/-- a new thing that is at hand -/
theorem Gro.add (g : Gro b J H J1 H1) (hB : Bag H b) {p : Addr} (hp : H1 p = none) (o : HO) : Gro b J H (upd J1 p o) (upd H1 p o) := by
  have hj : J1 p = none := g.jh.free hp
  refine ⟨g.st.new hp o, g.jj.trans (same_new hj o), fun a u e => ?_, fun a n e => ?_⟩
  · by_cases z : a = p
    · subst z; rw [upd_same] at e ⊢; exact e
    · rw [upd_ne z] at e ⊢; exact g.jh a u e
  · have z : a ≠ p := fun z => g.st.there hB n (by rw [z]; exact hp)
    rw [upd_ne z]
    exact g.fr a n e
/-- a thing of one's own, new since H, comes to hand -/
theorem Gro.own (g : Gro b J H J1 H1) {p : Addr} {o : HO} (hp : H1 p = some o) (hn : H p = none) (hj : J1 p = none) : Gro b J H (upd J1 p o) H1 := by
  refine ⟨g.st, g.jj.trans (same_new hj o), fun a u e => ?_, fun a n e => ?_⟩
  · by_cases z : a = p
    · subst z; rw [upd_same] at e; rw [← e]; exact hp
    · rw [upd_ne z] at e; exact g.jh a u e
  · have z : a ≠ p := fun z => n (by rw [z]; exact hn)
    rw [upd_ne z]
    exact g.fr a n e
theorem Stp.free (h : Stp b H H1) (hB : Bag H b) {r : Addr} (n : H1 r = none) : H r = none := by
  cases q : H r with
  | none => rfl
  | some o => exact absurd n (h.there hB (by rw [q]; simp))
theorem Stp.ne (h : Stp b H H1) {r : Addr} (n : H1 r = none) : r ≠ b := fun z => by
  obtain ⟨_, _, e⟩ := h.bag
  rw [← z, n] at e
  cases e
theorem same_upd {J H : Hp} {r : Addr} {o : HO} (s : Same J H) (n : J r = none) : Same J (upd H r o) := fun a u e => by
  rw [upd_ne (ne_of_none e n)]
  exact s a u e
/-- a thing of one's own is changed -/
theorem Gro.mut (g : Gro b J H J1 H1) {r : Addr} (hr : H r = none) (hj : J1 r = none) (rb : r ≠ b) (o : HO) : Gro b J H J1 (upd H1 r o) := by
  obtain ⟨c, m, e⟩ := g.st.bag
  exact ⟨⟨⟨c, m, by rw [upd_ne (Ne.symm rb)]; exact e⟩, fun a u n z => by rw [upd_ne (ne_of_none z hr)]; exact g.st.keep a u n z⟩, g.jj, same_upd g.jh hj, g.fr⟩
theorem Gro.same (g : Gro b J H J1 H1) (s : Same H1 H2) : Gro b J H J1 H2 := ⟨g.st.same s, g.jj, g.jh.trans s, g.fr⟩
end
end Tx

/-! ## The law's drawn values -/
namespace Tx
open PySem PySem.Spec PyProof.Rows L2
abbrev sText : Stmt := top 15
theorem scText : FnScope ["_law_bag_here", "_law_most", "_law_turn", "_law_word", "_law_signs"] ["_law_bag_here", "_law_most"] (defScope sText) := ⟨rfl, rfl, rfl, by decide +kernel, rfl, by decide +kernel, by decide +kernel⟩
abbrev sSize : Stmt := top 16
theorem scSize : FnScope ["_law_value_here", "_law_one"] ["_law_value_here"] (defScope sSize) := ⟨rfl, rfl, rfl, by decide +kernel, rfl, by decide +kernel, by decide +kernel⟩
/-- text(bag, m): letters, at most m -/
def spText : Sp := fun vs H Q _ => ∃ (b : Addr) (m : Int), vs = [.ref b, .int m] ∧ Bag H b ∧ 0 ≤ m ∧ m < 1000 ∧
  ∀ (x : Str) (H' : Hp), ltr x = true → (x.length : Int) ≤ m → Stp b H H' → Q (.str x) H'
/-- size(v), v less deep than n -/
def spSize (K : PySem.W.Frag) (n : Nat) : Sp := fun vs H Q _ => ∃ (v : V) (d : PyData), vs = [v] ∧ Dp K H v d ∧ isVal d = true ∧ d.depth < n ∧ szD d ≤ 1000000 ∧
  ∀ H', Same H H' → Q (.int (szD d)) H'
theorem sum_int : ∀ ds : List PyData, (ds.map fun d => (szD d : Int)).sum = (((ds.map szD).sum : Nat) : Int)
  | [] => rfl
  | x :: xs => by simp only [List.map_cons, List.sum_cons, sum_int xs]; omega
theorem ltr_append {x y : Str} (hx : ltr x = true) (hy : ltr y = true) : ltr (x ++ y) = true := by
  have e : (x ++ y).cps = x.cps ++ y.cps := rfl
  unfold ltr at *
  rw [e, Array.toList_append, List.all_append, hx, hy]
  rfl
theorem ltr_get {x : Str} (hx : ltr x = true) {i : Nat} {c : Nat} (h : x.cps.toList[i]? = some c) : ltr ⟨#[c]⟩ = true := by
  unfold ltr at *
  have hc := List.all_eq_true.mp hx c (List.mem_of_getElem? h)
  simp only [List.all_cons, List.all_nil, Bool.and_true]
  exact hc
section
variable {P : Program} {w : World} {K : PySem.W.Frag} {mg : Str → Option Value} {base : Heap}
theorem d_text (h : Has K mg "_law_text" sText) (B : Bi mg) (D_law_take : Dfn P w K mg base CX0 1 "_law_take" ["_law_bag_here", "_law_many"] spTake) :
    Dfn P w K mg base CX0 2 "_law_text" ["_law_bag_here", "_law_most"] spText := by
  refine dfn0 h B scText (fun _ _ _ _ _ _ us hl => match us, hl with | [_, _], _ => rfl) (fun vs H Q E h => ?_) (fun f cv A out s H vs Q E c h => ?_)
  · obtain ⟨b, m, rfl, _⟩ := h
    rfl
  obtain ⟨b, m, rfl, hB, m0, m1, q⟩ := h
  refine ⟨_, (pss_cons (ps_par (i := 3) (j := 4) rfl scText.nd rfl rfl (by decide) rfl rfl (pa_cons pe_str (pa_cons (pe_ix ix_list (pe_lst (pa_cons pe_str (pa_cons pe_str (pa_cons pe_str pa_nil)))) (pe_d D_law_take c (by omega) (by rfl) (pa_cons (pv 0) (pa_cons pe_int pa_nil))) (fun _ _ => rfl)) pa_nil)) (by rfl))
    (pss_cons (ps_for PassesOwn.never rfl (pi_range1 (by rfl) c.b.range (pa_cons (pe_d D_law_take c (by omega) (by rfl) (pa_cons (pv 0) (pa_cons (pe_op op_add (pv 1) pe_int) pa_nil))) pa_nil)) (pg_name (i := 2) scText.nd rfl (Or.inl rfl))
    (pss_one (ps_set (i := 3) scText.nd rfl (Or.inl rfl) (pe_op op_add_str (pv 3) (pe_ix ix_str (pv 4) (pe_d D_law_take c (by omega) (by rfl) (pa_cons (pv 0) (pa_cons (pe_callB call_len_str (by rfl) c.b.len PySem.boot_len (pa_cons (pv 4) pa_nil)) pa_nil))) (fun _ _ => rfl))))))
    (pss_one (ps_ret (pv 3))))), ?_⟩
  refine ⟨(by show 3 ≤ sizeLine; decide), fun p hp => ⟨_, rfl, b, 3, rfl, ((Stp.refl hB).new hp _).bag, by decide, by decide, fun r H1 r0 r1 st => ?_⟩⟩
  have nb : p ≠ b := fun z => by obtain ⟨_, _, e⟩ := hB; rw [← z, hp] at e; cases e
  have st1 : Stp b H H1 := ((Stp.refl hB).new hp _).trans st
  obtain ⟨v, e1, e2⟩ := atI_of (xs := [V.str "abcdefghijklmnopqrstuvwxyz", V.str "ab", V.str "za"]) r0 r1
  have sg : ∃ g : Str, v = .str g ∧ ltr g = true ∧ 1 ≤ g.length ∧ g.length ≤ 26 := by
    have h3 : r.toNat = 0 ∨ r.toNat = 1 ∨ r.toNat = 2 := by omega
    rcases h3 with z | z | z <;> rw [z] at e2 <;> cases e2 <;> exact ⟨_, rfl, by decide, by decide, by decide⟩
  obtain ⟨g, rfl, gl, g1, g2⟩ := sg
  refine ⟨p, _, _, _, rfl, rfl, SqL.of (st.keep p _ nb upd_same), e1, _, _, rfl, ?_⟩
  refine ⟨_, rfl, _, rfl, _, _, rfl, rfl, b, m + 1, rfl, st1.bag, by omega, by omega, fun n H2 n0 n1 st2 => ?_⟩
  refine ⟨n, rfl, by omega, by omega, ?_⟩
  refine for_range (lo := 0) (n := n.toNat) (fun i σ H' => ∃ (x : Str) (u : Option V), σ = [some (.ref b), some (.int m), u, some (.str x), some (.str g)] ∧ ltr x = true ∧ x.length ≤ i ∧ Stp b H H')
    ⟨_, none, rfl, rfl, Nat.le_refl _, st1.trans st2⟩ ?_ ?_
  · rintro i σ H3 hi ⟨x, u, rfl, xl, xn, st3⟩
    refine ⟨_, rfl, _, rfl, _, rfl, _, rfl, g, rfl, (by rw [sizeLine_eq]; omega), b, _, rfl, st3.bag, by omega, by omega, fun k H4 k0 k1 st4 => ?_⟩
    obtain ⟨cc, e3, e4⟩ := atI_of (xs := g.cps.toList) k0 (show k < ((g.cps.toList.length : Nat) : Int) by rw [Array.length_toList]; exact k1)
    refine ⟨g, _, cc, rfl, rfl, (by rw [sizeLine_eq]; omega), e3, _, _, rfl, rfl, (by show x.length + 1 ≤ sizeLine; rw [sizeLine_eq]; omega), ?_⟩
    refine ⟨_, _, rfl, ltr_append xl (ltr_get gl e4), ?_, st3.trans st4⟩
    show (x.cps ++ #[cc]).size ≤ i + 1
    have : x.cps.size ≤ i := xn
    simp
    omega
  · rintro σ H3 ⟨x, u, rfl, xl, xn, st3⟩
    exact ⟨_, rfl, q x _ xl (by omega) st3⟩
theorem d_size (h : Has K mg "_law_size" sSize) (B : Bi mg) : ∀ n, Dfn P w K mg base CX0 n "_law_size" ["_law_value_here"] (spSize K n)
  | 0 => dfn_none h (fun _ _ _ _ _ _ us hl => match us, hl with | [_], _ => rfl) fun vs H Q E z => by
    obtain ⟨_, _, _, _, _, z, _⟩ := z
    omega
  | n + 1 => by
    have D_law_size := d_size h B n
    refine dfn0 h B scSize (fun _ _ _ _ _ _ us hl => match us, hl with | [_], _ => rfl) (fun vs H Q E h => ?_) (fun f cv A out s H vs Q E c h => ?_)
    · obtain ⟨v, d, rfl, _⟩ := h
      rfl
    obtain ⟨v, d, rfl, hd, val, dn, sz, q⟩ := h
    cases d with
    | none =>
      cases hd
      refine ⟨_, (pss_cons (ps_if (pt_val (pe_callB (call_isD (T := "list")) (by rfl) c.b.isinstance (by decide +kernel) (pa_cons (pv 0) (pa_cons (pe_bltn (v := .ty "list") (by rfl) c.b.list (by decide +kernel) rfl) pa_nil)))) (pss_one (ps_ret (pe_op op_add pe_int (pe_callB (cr_sum rfl) (by rfl) c.b.sum (by decide +kernel) (pa_cons (pe_lc (own := [("_law_one", 1)]) (g := (gName 1)) (tt := tYes) rfl scSize.nd (pi_list (pv 0)) (blkOk_by (own := [("_law_one", 1)]) (N := ["_law_value_here", "_law_one"]) (sc := defScope sSize) (by decide +kernel)) (fun _ _ _ _ _ => (pg_name (i := 1) scSize.nd rfl (Or.inl rfl))) (fun _ _ _ _ _ => pts_nil) (fun _ _ _ _ _ => (pe_d D_law_size c (by omega) (by rfl) (pa_cons (pv 1) pa_nil)))) pa_nil))))) pss_nil)
    (pss_one (ps_ret (pe_ifExp (pt_cmpR op_isN (pv 0) pe_non (nomark _)) pe_int (pe_op op_add pe_int (pe_callB call_len_str (by rfl) c.b.len PySem.boot_len (pa_cons (pv 0) pa_nil))))))), ?_⟩
      refine ⟨_, rfl, _, .none, _, rfl, .non, kit_list _, _, rfl, iteF ?_⟩
      exact ⟨_, rfl, rfl, _, rfl, iteT (q _ (Same.refl _))⟩
    | str x =>
      cases hd
      refine ⟨_, (pss_cons (ps_if (pt_val (pe_callB (call_isD (T := "list")) (by rfl) c.b.isinstance (by decide +kernel) (pa_cons (pv 0) (pa_cons (pe_bltn (v := .ty "list") (by rfl) c.b.list (by decide +kernel) rfl) pa_nil)))) (pss_one (ps_ret (pe_op op_add pe_int (pe_callB (cr_sum rfl) (by rfl) c.b.sum (by decide +kernel) (pa_cons (pe_lc (own := [("_law_one", 1)]) (g := (gName 1)) (tt := tYes) rfl scSize.nd (pi_list (pv 0)) (blkOk_by (own := [("_law_one", 1)]) (N := ["_law_value_here", "_law_one"]) (sc := defScope sSize) (by decide +kernel)) (fun _ _ _ _ _ => (pg_name (i := 1) scSize.nd rfl (Or.inl rfl))) (fun _ _ _ _ _ => pts_nil) (fun _ _ _ _ _ => (pe_d D_law_size c (by omega) (by rfl) (pa_cons (pv 1) pa_nil)))) pa_nil))))) pss_nil)
    (pss_one (ps_ret (pe_ifExp (pt_cmpR op_isN (pv 0) pe_non (nomark _)) pe_int (pe_op op_add pe_int (pe_callB call_len_str (by rfl) c.b.len PySem.boot_len (pa_cons (pv 0) pa_nil))))))), ?_⟩
      refine ⟨_, rfl, _, .str x, _, rfl, .str x, kit_list _, _, rfl, iteF ?_⟩
      refine ⟨_, rfl, rfl, _, rfl, iteF ?_⟩
      have sx : szD (.str x) = 1 + x.length := by simp [szD]
      refine ⟨_, rfl, x, rfl, (by rw [sizeLine_eq]; omega), _, _, rfl, rfl, ?_⟩
      have := q _ (Same.refl _)
      rw [sx] at this
      simpa using this
    | list ds =>
      cases hd with
      | @lst a xs _ hs ha =>
      refine ⟨_, (pss_cons (ps_if (pt_val (pe_callB (call_isD (T := "list")) (by rfl) c.b.isinstance (by decide +kernel) (pa_cons (pv 0) (pa_cons (pe_bltn (v := .ty "list") (by rfl) c.b.list (by decide +kernel) rfl) pa_nil)))) (pss_one (ps_ret (pe_op op_add pe_int (pe_callB (cr_sum rfl) (by rfl) c.b.sum (by decide +kernel) (pa_cons (pe_lc (own := [("_law_one", 1)]) (g := (gName 1)) (tt := tYes) rfl scSize.nd (pi_list (pv 0)) (blkOk_by (own := [("_law_one", 1)]) (N := ["_law_value_here", "_law_one"]) (sc := defScope sSize) (by decide +kernel)) (fun _ _ _ _ _ => (pg_name (i := 1) scSize.nd rfl (Or.inl rfl))) (fun _ _ _ _ _ => pts_nil) (fun _ _ _ _ _ => (pe_d D_law_size c (by omega) (by rfl) (pa_cons (pv 1) pa_nil)))) pa_nil))))) pss_nil)
    (pss_one (ps_ret (pe_ifExp (pt_cmpR op_isN (pv 0) pe_non (nomark _)) pe_int (pe_op op_add pe_int (pe_callB call_len_str (by rfl) c.b.len PySem.boot_len (pa_cons (pv 0) pa_nil))))))), ?_⟩
      refine ⟨_, rfl, _, .list ds, _, rfl, .lst hs ha, kit_list _, _, rfl, iteT ?_⟩
      have sx : szD (.list ds) = 1 + szAll ds := by simp [szD]
      have hlen := DpAll.length ha
      have hle := len_le_szAll ds
      simp only [PyData.depth] at dn
      simp only [isVal] at val
      refine ⟨_, rfl, a, rfl, ⟨_, hs⟩, fun L hL => ?_⟩
      refine lc_list (K := K) (a := a) (xs := xs) (fun i H' => Same H H' ∧ H' L = some (.lst ((ds.take i).map fun d => V.int (szD d))))
        ⟨same_new hL _, upd_same⟩ (fun i H' _ z => z.1.seq hs) ?_ ?_
      · rintro i x H1 hx ⟨sm, hL1⟩
        obtain ⟨d, e1, e2⟩ := DpAll.get ha hx
        have hm := List.mem_of_getElem? e1
        have hi : i < ds.length := (List.getElem?_eq_some_iff.mp e1).1
        refine ⟨rfl, _, rfl, _, d, rfl, dp_mono sm d _ e2, isValAll_iff.mp val d hm, ?_, ?_, fun H2 sm2 => ?_⟩
        · have := depth_mem hm
          omega
        · have := szD_mem hm
          omega
        refine ⟨_, sm2 _ _ hL1, ?_, (fun b o e => ?_), ?_⟩
        · rw [List.length_map, List.length_take, sizeLine_eq]
          omega
        · rw [upd_ne (ne_of_none e hL)]
          exact sm2 _ _ (sm _ _ e)
        · rw [upd_same, List.take_add_one, e1, List.map_append]
          rfl
      · rintro H1 ⟨sm, hL1⟩
        rw [hlen, List.take_length] at hL1
        refine ⟨L, ds.map fun d => (szD d : Int), rfl, SqL.of ?_, _, _, rfl, rfl, ?_⟩
        · rw [hL1, List.map_map]
          rfl
        · have := q _ sm
          rw [sx, szAll_eq] at this
          have es := sum_int ds
          have e2 : (1 : Int) + (ds.map fun d => (szD d : Int)).sum = ((1 + (ds.map szD).sum : Nat) : Int) := by omega
          show Q (.int (1 + (ds.map fun d => (szD d : Int)).sum)) H1
          rw [e2]
          exact this
    | bool _ => simp [isVal] at val
    | int _ => simp [isVal] at val
    | tuple _ => simp [isVal] at val
    | dict _ => simp [isVal] at val
end
end Tx

namespace Tx
open PySem PySem.Spec PyProof.Rows L2
/-! ## Further rules: list(text); errors with a field of their own -/
theorem vals_of : ∀ (xs : List V) (us : List Value), xs.length = us.length → (∀ (j : Nat) (x : V) (u : Value), xs[j]? = some x → us[j]? = some u → RelV x u) → Vals xs us
  | [], [], _, _ => .nil
  | [], _ :: _, e, _ => by simp at e
  | _ :: _, [], e, _ => by simp at e
  | x :: xs, u :: us, e, h => .cons (h 0 x u rfl rfl) (vals_of xs us (by simpa using e) fun j y w h1 h2 => h (j + 1) y w (by simpa using h1) (by simpa using h2))
/-- the letters of a text, as texts -/
def sgn (z : Str) : List V := z.cps.toList.map fun c => V.str ⟨#[c]⟩
theorem call_listS {X : Cx} (hc : X.calm = true) : CallR X (.type "list") (fun xs H Q => ∃ z : Str, xs = [.str z] ∧ z.length ≤ sizeLine ∧ ∀ l, H l = none → Q (.ref l) (upd H l (.lst (sgn z)))) := by
  intro pins s σ H xs us Q I rel ask
  obtain ⟨z, rfl, hz, q⟩ := ask
  obtain ⟨u, rfl, r1⟩ := vals1 rel
  obtain ⟨t, rfl⟩ := r1
  refine call_list_str (I.ok.hd hc) z t (hn := hz) fun h' tk acc n keep new its => ?_
  have hl : acc.toList.length = z.cps.toList.length := by rw [Array.length_toList, Array.length_toList]; exact its.1
  refine ⟨.ref s.heap.objs.size, _, I.laid (t' := tk) (o := .lst (sgn z)) keep (Nat.le_refl _) ⟨?_, acc.toList, n, vals_of _ _ ?_ ?_, ?_⟩, rfl, q _ (I.hok.fresh (Nat.le_refl _))⟩
  · rw [sgn, List.length_map, Array.length_toList]; exact hz
  · rw [sgn, List.length_map, hl]
  · intro j x u hx hu
    obtain ⟨c, w, hc, rfl⟩ := its.2 j u (by simpa using hu)
    rw [sgn, List.getElem?_map, Array.getElem?_toList, hc] at hx
    cases hx
    exact ⟨w, rfl⟩
  · simpa using new
/-- isinstance(e, c), e the error that the suite holds, with or without fields -/
def rIsX (K : PySem.W.Frag) (D a : Addr) (cls : Value) (d : Option Addr) : List V → Hp → VK → Prop := fun xs H Q => ∃ (c : V) (cv : Value) (b : Bool), xs = [.ref a, c] ∧ cls = .ref D ∧ ClsV c cv ∧
  PySem.W.kitOne K (.ref D) cv = some b ∧ (∀ dd, d = some dd → ∃ fs, H dd = some (.xd fs)) ∧ Q (.bl b) H
def rIsXT (K : PySem.W.Frag) (D a : Addr) (cls : Value) (d : Option Addr) : List V → Hp → VK → Prop := fun xs H Q => ∃ (tp : Addr) (cs : List V) (us : List Value) (b : Bool), xs = [.ref a, .ref tp] ∧ cls = .ref D ∧ H tp = some (.tup cs) ∧
  Paired ClsV cs us ∧ PySem.W.kitAny K (.ref D) us = some b ∧ (∀ dd, d = some dd → ∃ fs, H dd = some (.xd fs)) ∧ Q (.bl b) H
section
variable {X : Cx} {a D : Addr} {oe : Obj} {cls : Value} {d : Option Addr} {pn : List (Addr × Obj)}
theorem inst_of {pins : List (Addr × Obj)} {σ : L2.St} {H : Hp} {s : Shared} (hz : Zc cls d oe) (hf : ∃ vs, oe.data = .fields vs) (I : Inv (X.suite a ((a, oe) :: pn)) pins σ H s) (ec : cls = .ref D)
    (hd : ∀ dd, d = some dd → ∃ fs, H dd = some (.xd fs)) : ∃ od, PySem.W.InstAt s.heap a oe D od := by
  obtain ⟨hg, _⟩ := I.pin (a, oe) (List.mem_append.mpr (.inl List.mem_cons_self))
  obtain ⟨vs, hv⟩ := hf
  have no : PySem.W.notCls oe = true := by unfold PySem.W.notCls; rw [hv] <;> rfl
  cases d with
  | none => exact ⟨none, ⟨hg, hz.1.trans ec, no, by rw [hz.2]; trivial⟩⟩
  | some dd =>
    obtain ⟨fs, e⟩ := hd dd rfl
    have ok : ObjOk X.prog X.w H s.heap dd (.xd fs) := I.hok dd _ e
    obtain ⟨mA, ⟨o, es, ep, ho, _⟩, _⟩ := ok
    exact ⟨some o, ⟨hg, hz.1.trans ec, no, by rw [hz.2]; exact ho⟩⟩
theorem kit_exc (C : ExcC X.K D) {od : Option Obj} : PySem.W.KitX X.K (.ref a) (.ref D) (fun h => PySem.W.InstAt h a oe D od) := by
  have hc : (PySem.W.clsIn X.K D).isSome = true := by
    obtain ⟨cd, e, _⟩ := PySem.W.any_some C.hd
    rw [e]; rfl
  exact PySem.W.kitx_exc hc C.hg C.hk C.hs C.ha C.hn C.ht C.hm
theorem call_isX (C : ExcC X.K D) (hz : Zc cls d oe) (hf : ∃ vs, oe.data = .fields vs) : CallR (X.suite a ((a, oe) :: pn)) (.builtin "isinstance") (rIsX X.K D a cls d) := by
  intro pins s σ H xs us Q I rel ask
  obtain ⟨c, cv, b, rfl, ec, kc, e, hd, q⟩ := ask
  obtain ⟨u1, u2, rfl, r1, r2⟩ := vals2 rel
  cases r1
  have e2 := kc.eq r2
  subst e2
  obtain ⟨od, J⟩ := inst_of hz hf I ec hd
  exact PySem.W.kia_one (kit_exc C) I.kIn J e (fun z => nomatch z) fun tk => ⟨.bl b, H, I.tok tk, rfl, q⟩
theorem call_isXT (C : ExcC X.K D) (hz : Zc cls d oe) (hf : ∃ vs, oe.data = .fields vs) : CallR (X.suite a ((a, oe) :: pn)) (.builtin "isinstance") (rIsXT X.K D a cls d) := by
  intro pins s σ H xs us Q I rel ask
  obtain ⟨tp, cs, ws, b, rfl, ec, hT, kc, e, hd, q⟩ := ask
  obtain ⟨u1, u2, rfl, r1, r2⟩ := vals2 rel
  cases r1
  cases (show u2 = Value.ref tp from r2)
  obtain ⟨_, its, rv, o, h1, h2, n, h3⟩ := (show ObjOk X.prog X.w H s.heap tp (.tup cs) from I.hok tp _ hT)
  have e3 := ClsV.all kc rv
  subst e3
  obtain ⟨oc, od, dt, sl⟩ := o
  simp only at h2 h3
  subst h2 h3
  obtain ⟨od, J⟩ := inst_of hz hf I ec hd
  exact PySem.W.kia_tup (kit_exc C) I.kIn J h1 e (fun z => nomatch z) fun tk => ⟨.bl b, H, I.tok tk, rfl, q⟩
end
/-- self.f = f, of a new error of the class at C -/
def spInit1 (C : Addr) (f : Str) : Sp := fun vs H Q _ => ∃ (a : Addr) (v : V), vs = [.ref a, v] ∧ H a = some (exo a C none) ∧
  ∀ dx, H dx = none → dx ≠ a → Q .non (upd (upd H dx (exd dx [(f, v)])) a (exo a C (some dx)))
/-- an error class with one field f: what the written part says of it -/
structure Err1 (P : Program) (w : World) (K : PySem.W.Frag) (mg : Str → Option Value) (base : Heap) (x f : Str) (C : Addr) : Prop where
  oex : OexC K C
  exc : ExcC K C
  gC : mg x = some (.ref C)
  noF : PySem.W.findIn K (.ref C) f = some none
  self : PySem.W.exmOne K (.ref C) (.ref C) = some true
  ini : ∃ (fI : Addr) (fd : FuncData), PySem.W.findIn K (.ref C) "__init__" = some (some (.ref fI)) ∧ PySem.W.typeIn K (.ref fI) = some (.type "function") ∧
    FnOk P w K mg base CX0 1 fI fd ["self", f] (spInit1 C f) ∧ Binds K fd ["self", f] []
theorem Err1.xf {P : Program} {w : World} {K : PySem.W.Frag} {mg : Str → Option Value} {base : Heap} {x f : Str} {C : Addr} (T : Err1 P w K mg base x f C) : XfC K C := ⟨T.exc.hg, T.exc.hk, T.exc.hs, T.exc.hd⟩
section
variable {X : Cx} {x f : Str} {C : Addr} {k : Nat} {W : WX} {e : Expr} {ta : TA} {p pos pos2 : Pos}
/-- raise x(e) -/
def tErr1 (C : Addr) (f : Str) (W : WX) (ta : TA) : TS := fun _ σ H => tMkO C (spInit1 C f) [] ta σ H fun cls d H' => W cls d σ H'
theorem ps_err1 (T : Err1 X.prog X.w X.K X.mg X.base x f C) (calm : X.calm = true) (room : Room (k + 2) X.A) (tk : Takes X W) (args : PA X [e] ta) (gl : Gl X x)
    (nd : (x == ("__debug__" : Str)) = false := by decide) (plain : starEach (e :: []) X.env = (false, eval e X.env) :: starEach [] X.env := by rfl) (bare : (backTo pos (starEach [] X.env)).any (·.1) = false := by rfl) :
    PS X (.Raise (some (.Call (.Name x p) [e] [] pos)) none pos2) (tErr1 C f W ta) := by
  obtain ⟨fI, fd, iC, tI, F, bd⟩ := T.ini
  exact ps_raise calm tk (pmk_oex T.oex iC tI F (room.mono (by omega)) bd .nil (fun _ _ _ _ _ _ _ h => False.elim h) gl T.gC args nd plain bare)
/-- what is left to show once the field is known -/
theorem err1 {v : V} {H : Hp} {Q : XK} (h : ∀ d, H d = none → Q (.ref C) (some d) (upd H d (.xd [(f, v)]))) : ([v] : List V).length ≤ 1000 ∧ ∀ a, H a = none → spInit1 C f (.ref a :: ([v] ++ [])) (upd H a (exo a C none))
    (fun u H2 => u = .non ∧ ∃ (d : Addr) (fs : List (Str × V)), H2 a = some (exo a C (some d)) ∧ H2 d = some (exd d fs) ∧ H d = none ∧ Q (.ref C) (some d) (upd (del H2 a) d (.xd fs))) (fun _ _ _ => False) := by
  refine ⟨(by show 1 ≤ 1000; decide), fun a ha => ⟨a, v, rfl, upd_same, fun dx hx ne => ⟨rfl, dx, [(f, v)], upd_same, ?_, ?_, ?_⟩⟩⟩
  · rw [upd_ne ne, upd_same]
  · rw [upd_ne ne] at hx
    exact hx
  · rw [upd_ne ne] at hx
    have e : upd (del (upd (upd (upd H a (exo a C none)) dx (exd dx [(f, v)])) a (exo a C (some dx))) a) dx (.xd [(f, v)]) = upd H dx (.xd [(f, v)]) := by
      funext b
      by_cases h1 : b = dx
      · rw [h1, upd_same, upd_same]
      · rw [upd_ne h1, upd_ne h1]
        by_cases h2 : b = a
        · rw [h2, del_same, ha]
        · rw [del_ne h2, upd_ne h2, upd_ne h1, upd_ne h2]
    rw [e]
    exact h dx hx
/-- f(e, ..), f a def of the module that may raise, where W wishes of what is raised -/
theorem pe_dS {j : Nat} {ps : List Str} {sp : Sp} {E : L2.St → XK} {es : List Expr} {t : TA} (D : Dfn X.prog X.w X.K X.mg X.base (L2.CX X.prog X.w) j x ps sp) (c : Ct X.mg X.A k) (h : j ≤ k) (gl : Gl X x)
    (out : ∀ σ, PassesAt (L2.CX X.prog X.w) X σ (E σ)) (args : PA X (e :: es) t) (nd : (x == ("__debug__" : Str)) = false := by decide)
    (plain : starEach (e :: es) X.env = (false, eval e X.env) :: starEach es X.env := by rfl) (bare : (backTo pos (starEach es X.env)).any (·.1) = false := by rfl) :
    PE X (.Call (.Name x p) (e :: es) [] pos) (tCallS sp E t) := by
  obtain ⟨f, fd, F, m, kp, bd⟩ := D
  constructor
  intro pins s σ H Q I ask
  refine wpAny_Call_Name_kw (ld_glob I gl m ?_ nd)
  refine PySem.W.callWith_K (h₀ := X.base) I.ok.mod.kin kp (thn (args.run pos pins s σ H _ I ask) ?_) plain bare
  rintro us s1 ⟨vs, H1, J, rel, q⟩
  refine ⟨J.kIn, ?_⟩
  have full : (us ++ []).length = ps.length := by rw [List.append_nil, ← rel.length]; exact F.len _ _ _ _ q
  have b2 := bd s1 us J.kIn full
  rw [List.append_nil] at b2
  refine wpAny_call (codeAny_mono (F.run X.A X.stack s1 H1 ⟨us, []⟩ us vs Q (E σ) (c.r.mono h) c.g J.env0 b2 rel q) ?_)
  intro r s2 got
  match r, got with
  | .ok (.ret u), got => exact J.after got
  | .ok .next, got => exact False.elim got
  | .ok .brk, got => exact False.elim got
  | .ok .cont, got => exact False.elim got
  | .error er, got => exact out σ pins H1 s1 er s2 J got
end
/-- from what the top has written to an error class with a field -/
theorem err1_of {P : Program} {w : World} {K : PySem.W.Frag} {mg : Str → Option Value} {base h : Heap} {x f : Str} {C fI N : Addr} {fd : FuncData} {nm q : Str} {bs bm sub : List Value} {sn : List Str} {ab : Bool} {col : Option Bool} {dd : Option Addr} {m0 m1 m2 m3 m5 : Option Value}
    (X : K.In h) (G : h.Ns mainGlobals mg) (aC : PySem.W.nsIn K mainGlobals x = some (some (.ref C)))
    (xL : K.lookup C = some (excClassObj nm q C N bs bm true sn sub ab col dd m0 m1 m2 m3 m5 "ValueError.__new__")) (vb : PySem.HandSPX.refsVE bm = true)
    (sa : PySem.W.findIn K (.ref C) "__setattr__" = some (some (.builtin "object.__setattr__"))) (ga : PySem.W.findIn K (.ref C) "__getattribute__" = some (some (.builtin "BaseException.__getattribute__")))
    (gg : PySem.W.findIn K (.ref C) "__getattr__" = some none) (nf : PySem.W.findIn K (.ref C) f = some none) (ai : PySem.W.findIn K (.ref C) "__init__" = some (some (.ref fI))) (ti : PySem.W.typeIn K (.ref fI) = some (.type "function"))
    (kC : PySem.W.keepIn K (.ref C) = true) (eC : PySem.W.subIn K (.ref C) (.type "BaseException") = some true) (tC : PySem.W.typeIn K (.ref C) = some (.type "type")) (hC : PySem.W.hasDictIn K C = true)
    (cC : PySem.W.findIn K (.ref C) "__class__" = some (some (.builtin "object.__class__"))) (gC : PySem.W.specialIn K (.builtin "object.__class__") "__get__" = some (some (.builtin "getset_descriptor.__get__")))
    (uC : PySem.W.takesIn K (.builtin "object.__class__") = some true) (oC : PySem.W.mroIn K C (.type "object") = some true) (sC : PySem.W.subIn K (.ref C) (.ref C) = some true)
    (ini : OexC K C → FnOk P w K mg base CX0 1 fI fd ["self", f] (spInit1 C f) ∧ Binds K fd ["self", f] []) : Err1 P w K mg base x f C := by
  have oex : OexC K C := ⟨⟨nm, q, N, bs, bm, sn, sub, ab, col, dd, m0, m1, m2, m3, m5, xL, vb⟩, sa, eC, tC, kC⟩
  exact ⟨oex, ⟨ga, gg, eC, hC, cC, gC, uC, oC⟩, PySem.W.mg_of X G aC, nf, PySem.W.exm_ref eC hC tC sC, fI, fd, ai, ti, (ini oex).1, (ini oex).2⟩
/-- a class of the module -/
structure Cls0 (mg : Str → Option Value) (x : Str) (C : Addr) : Prop where
  gC : mg x = some (.ref C)
theorem cls0_of {K : PySem.W.Frag} {mg : Str → Option Value} {h : Heap} {x : Str} {C : Addr} (X : K.In h) (G : h.Ns mainGlobals mg) (a : PySem.W.nsIn K mainGlobals x = some (some (.ref C))) : Cls0 mg x C := ⟨PySem.W.mg_of X G a⟩
theorem const_of {K : PySem.W.Frag} {mg : Str → Option Value} {h : Heap} {x z : Str} {t : Tok} (X : K.In h) (G : h.Ns mainGlobals mg) (a : PySem.W.nsIn K mainGlobals x = some (some (.str z t))) : ∃ t, mg x = some (.str z t) := ⟨t, PySem.W.mg_of X G a⟩
theorem pe_gcl {X : Cx} {x : Str} {C : Addr} {pos : Pos} (h : X.mg x = some (.ref C)) (gl : Gl X x) (hd : (x == ("__debug__" : Str)) = false := by decide) : PE X (.Name x pos) (tC (.ref C)) := pe_glob gl h rfl hd
theorem pe_gs {X : Cx} {x z : Str} {pos : Pos} (h : ∃ t, X.mg x = some (.str z t)) (gl : Gl X x) (hd : (x == ("__debug__" : Str)) = false := by decide) : PE X (.Name x pos) (tC (.str z)) := by
  obtain ⟨t, e⟩ := h
  exact pe_glob gl e ⟨t, rfl⟩ hd
end Tx

namespace Tx
open PySem PySem.Spec PyProof.Rows L2
/-! ## The layer of data: lists and tuples that no one changes any more are data; what may still be changed is a cell of ω -/
/-- a cell, as data -/
abbrev refD (a : Addr) : PyData := .dict [(.int ((a : Nat) : Int), .none)]
/-- the script, as data -/
abbrev scrD (a : Addr) (ns : List Int) : PyData := .dict [(.int ((a : Nat) : Int), .list (ns.map PyData.int))]
/-- a list that stands at a and stays for a while, as data -/
abbrev pubD (a : Addr) (d : PyData) : PyData := .dict [(.int ((a : Nat) : Int), .tuple [d])]
mutual
inductive Rp (K : PySem.W.Frag) (J : Hp) : V → PyData → Prop
  | non : Rp K J .non .none
  | bl (b : Bool) : Rp K J (.bl b) (.bool b)
  | int (i : Int) : Rp K J (.int i) (.int i)
  | str (x : Str) : Rp K J (.str x) (.str x)
  | lst {a : Addr} {vs : List V} {ds : List PyData} : J a = some (.lst vs) → RpAll K J vs ds → Rp K J (.ref a) (.list ds)
  | tup {a : Addr} {vs : List V} {ds : List PyData} : SqT K J a vs → RpAll K J vs ds → Rp K J (.ref a) (.tuple ds)
  | ref (a : Addr) : Rp K J (.ref a) (.dict [(.int ((a : Nat) : Int), .none)])
  | scr {a : Addr} {ns : List Int} : SqL K J a (ns.map V.int) → Rp K J (.ref a) (.dict [(.int ((a : Nat) : Int), .list (ns.map PyData.int))])
  | pub {a : Addr} {d : PyData} : Rp K J (.ref a) d → Rp K J (.ref a) (.dict [(.int ((a : Nat) : Int), .tuple [d])])
inductive RpAll (K : PySem.W.Frag) (J : Hp) : List V → List PyData → Prop
  | nil : RpAll K J [] []
  | cons {v : V} {vs : List V} {d : PyData} {ds : List PyData} : Rp K J v d → RpAll K J vs ds → RpAll K J (v :: vs) (d :: ds)
end
section
variable {K : PySem.W.Frag} {J J' : Hp}
mutual
theorem rp_mono' (e : Same J J') : ∀ {v : V} {d : PyData}, Rp K J v d → Rp K J' v d
  | _, _, .non => .non
  | _, _, .bl b => .bl b
  | _, _, .int i => .int i
  | _, _, .str x => .str x
  | _, _, .lst hs ha => .lst (e _ _ hs) (rpAll_mono' e ha)
  | _, _, .tup hs ha => .tup (Same.sqT e hs) (rpAll_mono' e ha)
  | _, _, .ref a => .ref a
  | _, _, .scr hs => .scr (e.seq hs)
  | _, _, .pub h => .pub (rp_mono' e h)
theorem rpAll_mono' (e : Same J J') : ∀ {vs : List V} {ds : List PyData}, RpAll K J vs ds → RpAll K J' vs ds
  | _, _, .nil => .nil
  | _, _, .cons h1 h2 => .cons (rp_mono' e h1) (rpAll_mono' e h2)
end
theorem rp_mono (e : Same J J') (d : PyData) (v : V) (h : Rp K J v d) : Rp K J' v d := rp_mono' e h
theorem rpAll_mono (e : Same J J') (ds : List PyData) (vs : List V) (h : RpAll K J vs ds) : RpAll K J' vs ds := rpAll_mono' e h
mutual
theorem rp_dp : ∀ (d : PyData) (v : V), d.canLay0 = true → Rp K J v d → Dp K J v d
  | .none, _, _, h => by cases h; exact .non
  | .bool b, _, _, h => by cases h; exact .bl b
  | .int i, _, _, h => by cases h; exact .int i
  | .str x, _, _, h => by cases h; exact .str x
  | .list ds, _, z, h => by
    cases h with
    | lst hs ha => exact .lst (SqL.of hs) (rpAll_dp ds _ (by simpa only [PyData.canLay0] using z) ha)
  | .tuple ds, _, z, h => by
    cases h with
    | tup hs ha => exact .tup hs (rpAll_dp ds _ (by simpa only [PyData.canLay0] using z) ha)
  | .dict _, _, z, _ => by simp [PyData.canLay0] at z
theorem rpAll_dp : ∀ (ds : List PyData) (vs : List V), PyData.canLayAll0 ds = true → RpAll K J vs ds → DpAll K J vs ds
  | [], _, _, h => by cases h; exact .nil
  | d :: ds, _, z, h => by
    simp only [PyData.canLayAll0, Bool.and_eq_true] at z
    cases h with
    | cons h1 h2 => exact .cons (rp_dp d _ z.1 h1) (rpAll_dp ds _ z.2 h2)
end
theorem RpAll.length : ∀ {ds : List PyData} {vs : List V}, RpAll K J vs ds → vs.length = ds.length
  | _, _, .nil => rfl
  | _, _, .cons _ t => by rw [List.length_cons, List.length_cons, RpAll.length t]
theorem RpAll.get : ∀ {ds : List PyData} {vs : List V} {i : Nat} {v : V}, RpAll K J vs ds → vs[i]? = some v → ∃ d, ds[i]? = some d ∧ Rp K J v d
  | _, _, _, _, .nil, e => by simp at e
  | _, _, 0, _, .cons h _, e => by simp at e; subst e; exact ⟨_, rfl, h⟩
  | _, _, i + 1, v, .cons _ t, e => by
    obtain ⟨d, h1, h2⟩ := RpAll.get (i := i) (v := v) t (by simpa using e)
    exact ⟨d, by simpa using h1, h2⟩
theorem RpAll.getD : ∀ {ds : List PyData} {vs : List V} {i : Nat} {d : PyData}, RpAll K J vs ds → ds[i]? = some d → ∃ v, vs[i]? = some v ∧ Rp K J v d
  | _, _, _, _, .nil, e => by simp at e
  | _, _, 0, _, .cons h _, e => by simp at e; subst e; exact ⟨_, rfl, h⟩
  | _, _, i + 1, d, .cons _ t, e => by
    obtain ⟨v, h1, h2⟩ := RpAll.getD (i := i) (d := d) t (by simpa using e)
    exact ⟨v, by simpa using h1, h2⟩
theorem RpAll.append : ∀ {ds es : List PyData} {vs ws : List V}, RpAll K J vs ds → RpAll K J ws es → RpAll K J (vs ++ ws) (ds ++ es)
  | _, _, _, _, .nil, h => h
  | _, _, _, _, .cons h t, g => .cons h (RpAll.append t g)
theorem RpAll.one {v : V} {d : PyData} (h : Rp K J v d) : RpAll K J [v] [d] := .cons h .nil
theorem RpAll.take : ∀ {ds : List PyData} {vs : List V} (n : Nat), RpAll K J vs ds → RpAll K J (vs.take n) (ds.take n)
  | _, _, 0, _ => by simpa using RpAll.nil
  | _, _, _ + 1, .nil => .nil
  | _, _, n + 1, .cons h t => .cons h (RpAll.take n t)
theorem RpAll.drop : ∀ {ds : List PyData} {vs : List V} (n : Nat), RpAll K J vs ds → RpAll K J (vs.drop n) (ds.drop n)
  | _, _, 0, h => by simpa using h
  | _, _, _ + 1, .nil => .nil
  | _, _, n + 1, .cons _ t => RpAll.drop n t
theorem RpAll.set : ∀ {ds : List PyData} {vs : List V} {v : V} {d : PyData} (i : Nat), RpAll K J vs ds → Rp K J v d → RpAll K J (vs.set i v) (ds.set i d)
  | _, _, _, _, _, .nil, _ => .nil
  | _, _, _, _, 0, .cons _ t, h => .cons h t
  | _, _, _, _, i + 1, .cons g t, h => .cons g (RpAll.set i t h)
theorem RpAll.rep {vs : List V} {ds : List PyData} (h : RpAll K J vs ds) : ∀ n : Nat, RpAll K J (List.replicate n vs).flatten (List.replicate n ds).flatten
  | 0 => .nil
  | n + 1 => by
    rw [List.replicate_succ, List.replicate_succ, List.flatten_cons, List.flatten_cons]
    exact RpAll.append h (RpAll.rep h n)
theorem rpAll_sgn (z : Str) : RpAll K J (sgn z) (z.cps.toList.map fun c => PyData.str ⟨#[c]⟩) := by
  unfold sgn
  induction z.cps.toList with
  | nil => exact .nil
  | cons c l ih => exact .cons (.str _) ih
end
/-- what may still be changed -/
inductive MO where
  | lst (ds : List PyData)
  | bag
  | ins (C dx : Addr) (fs : List (Str × PyData))
  | xd (fs : List (Str × PyData))
  /-- a list whose lists, at any depth, stand in N and nowhere else -/
  | tmp (N : Hp) (d : PyData)
  /-- an instance whose only field f holds a list of its own, at p -/
  | ent (C dx p : Addr) (f : Str) (ds : List PyData)
abbrev Wd := Addr → Option MO
def updW (ω : Wd) (a : Addr) (m : MO) : Wd := fun b => if b = a then some m else ω b
def delW (ω : Wd) (a : Addr) : Wd := fun b => if b = a then none else ω b
theorem updW_same {ω : Wd} {a : Addr} {m : MO} : updW ω a m a = some m := if_pos rfl
theorem updW_ne {ω : Wd} {a b : Addr} {m : MO} (h : b ≠ a) : updW ω a m b = ω b := if_neg h
theorem delW_same {ω : Wd} {a : Addr} : delW ω a a = none := if_pos rfl
theorem delW_ne {ω : Wd} {a b : Addr} (h : b ≠ a) : delW ω a b = ω b := if_neg h
theorem updW_updW {ω : Wd} {a : Addr} {m n : MO} : updW (updW ω a m) a n = updW ω a n := by
  funext b; unfold updW; split <;> rfl
theorem delW_updW {ω : Wd} {a : Addr} {m : MO} (h : ω a = none) : delW (updW ω a m) a = ω := by
  funext b; unfold delW updW; split
  · rename_i e; rw [e, h]
  · rfl
theorem delW_some {ω : Wd} {a b : Addr} {m : MO} (h : delW ω a b = some m) : ω b = some m ∧ b ≠ a := by
  unfold delW at h
  split at h
  · cases h
  · rename_i n; exact ⟨h, n⟩
/-- what belongs to a cell alone, beside its own address -/
def MO.priv : MO → Addr → Prop
  | .tmp N _, b => N b ≠ none
  | .ent _ _ p _ _, b => b = p
  | _, _ => False
/-- nothing does -/
def MO.bare : MO → Bool
  | .tmp _ _ => false
  | .ent _ _ _ _ _ => false
  | _ => true
theorem MO.bare_priv {m : MO} {b : Addr} (h : m.bare = true) : ¬ m.priv b := by
  cases m <;> first | exact id | cases h
/-- no cell, nor what belongs to one -/
def Fr (ω : Wd) (a : Addr) : Prop := ω a = none ∧ ∀ c m, ω c = some m → ¬ m.priv a
/-- fields -/
def RpF (K : PySem.W.Frag) (J : Hp) : List (Str × V) → List (Str × PyData) → Prop := Paired fun p q => p.1 = q.1 ∧ Rp K J p.2 q.2
def Cell (K : PySem.W.Frag) (J H : Hp) (a : Addr) : MO → Prop
  | .lst ds => ∃ vs, H a = some (.lst vs) ∧ RpAll K J vs ds
  | .bag => Bag H a
  | .ins C dx fs => ∃ gs, H a = some (.ins C dx gs) ∧ RpF K J gs fs
  | .xd fs => ∃ gs, H a = some (.xd gs) ∧ RpF K J gs fs
  | .tmp N d => Same N H ∧ Rp K N (.ref a) d ∧ N a ≠ none
  | .ent C dx p f ds => H a = some (.ins C dx [(f, .ref p)]) ∧ ∃ vs, H p = some (.lst vs) ∧ RpAll K J vs ds
/-- J: what stays as it is; ω: what may be changed -/
structure Rw (K : PySem.W.Frag) (J H : Hp) (ω : Wd) : Prop where
  jh : Same J H
  out : ∀ a m, ω a = some m → J a = none
  cell : ∀ a m, ω a = some m → Cell K J H a m
  tmp : ∀ a m, ω a = some m → ∀ b, m.priv b → J b = none ∧ (b ≠ a → ω b = none) ∧ ∀ c m', c ≠ a → ω c = some m' → ¬ m'.priv b
structure Grow (J H : Hp) (ω : Wd) (J' H' : Hp) (ω' : Wd) : Prop where
  jj : Same J J'
  dom : ∀ a, H a ≠ none → H' a ≠ none
  keep : ∀ a o, H a = some o → Fr ω a → H' a = some o
  frj : ∀ a, H a ≠ none → Fr ω a → J a = none → J' a = none
  frw : ∀ a, H a ≠ none → Fr ω a → Fr ω' a
section
variable {K : PySem.W.Frag} {J J1 J2 H H1 H2 : Hp} {ω ω1 ω2 : Wd} {a p : Addr} {m n : MO} {o : HO} {vs : List V} {ds : List PyData}
theorem RpF.mono (e : Same J J1) {gs : List (Str × V)} {fs : List (Str × PyData)} (h : RpF K J gs fs) : RpF K J1 gs fs := Paired.mapP h fun _ q z => ⟨z.1, rp_mono e q.2 _ z.2⟩
/-- what a cell looks at -/
def Looks (a : Addr) (m : MO) (b : Addr) : Prop := b = a ∨ m.priv b
theorem same_there {N : Hp} {b : Addr} (s : Same N H) (n : N b ≠ none) : H b ≠ none := by
  cases q : N b with
  | none => exact absurd q n
  | some o => rw [s _ _ q]; simp
theorem Cell.looks {b : Addr} (h : Cell K J H a m) (l : Looks a m b) : H b ≠ none := by
  cases m with
  | lst ds => obtain ⟨vs, e, _⟩ := h; rcases l with rfl | l; rw [e]; simp; exact False.elim l
  | bag => obtain ⟨c, n, e⟩ := h; rcases l with rfl | l; rw [e]; simp; exact False.elim l
  | ins C dx fs => obtain ⟨vs, e, _⟩ := h; rcases l with rfl | l; rw [e]; simp; exact False.elim l
  | xd fs => obtain ⟨vs, e, _⟩ := h; rcases l with rfl | l; rw [e]; simp; exact False.elim l
  | tmp N d =>
    obtain ⟨s, _, n⟩ := h
    rcases l with rfl | l
    · exact same_there s n
    · exact same_there s l
  | ent C dx p f ds =>
    obtain ⟨e, vs, e2, _⟩ := h
    rcases l with rfl | l
    · rw [e]; simp
    · rw [show b = p from l, e2]; simp
theorem Cell.mono (h : Cell K J H a m) (e : Same J J1) (k : ∀ b o, Looks a m b → H b = some o → H1 b = some o) : Cell K J1 H1 a m := by
  cases m with
  | lst ds => obtain ⟨vs, z, r⟩ := h; exact ⟨vs, k _ _ (.inl rfl) z, rpAll_mono e _ _ r⟩
  | bag => obtain ⟨c, n, z⟩ := h; exact ⟨c, n, k _ _ (.inl rfl) z⟩
  | ins C dx fs => obtain ⟨vs, z, r⟩ := h; exact ⟨vs, k _ _ (.inl rfl) z, r.mono e⟩
  | xd fs => obtain ⟨vs, z, r⟩ := h; exact ⟨vs, k _ _ (.inl rfl) z, r.mono e⟩
  | tmp N d => obtain ⟨s, r, nn⟩ := h; exact ⟨fun b u q => k b u (.inr (show N b ≠ none by rw [q]; simp)) (s b u q), r, nn⟩
  | ent C dx p f ds => obtain ⟨z, vs, z2, r⟩ := h; exact ⟨k _ _ (.inl rfl) z, vs, k _ _ (.inr rfl) z2, rpAll_mono e _ _ r⟩
theorem Rw.there (w : Rw K J H ω) (h : ω a = some m) : H a ≠ none := (w.cell a m h).looks (.inl rfl)
theorem Rw.looks {b : Addr} (w : Rw K J H ω) (h : ω a = some m) (l : Looks a m b) : H b ≠ none := (w.cell a m h).looks l
theorem Rw.free (w : Rw K J H ω) (h : H p = none) : Fr ω p := by
  constructor
  · cases q : ω p with
    | none => rfl
    | some m => exact absurd h (w.there q)
  · exact fun c m e pr => w.looks e (.inr pr) h
theorem Grow.refl : Grow J H ω J H ω := ⟨Same.refl _, fun _ h => h, fun _ _ h _ => h, fun _ _ _ h => h, fun _ _ h => h⟩
theorem Grow.trans (g : Grow J H ω J1 H1 ω1) (k : Grow J1 H1 ω1 J2 H2 ω2) : Grow J H ω J2 H2 ω2 :=
  ⟨g.jj.trans k.jj, fun a h => k.dom a (g.dom a h), fun a o h z => k.keep a o (g.keep a o h z) (g.frw a (by rw [h]; simp) z),
    fun a h z j => k.frj a (g.dom a h) (g.frw a h z) (g.frj a h z j), fun a h z => k.frw a (g.dom a h) (g.frw a h z)⟩
theorem ne_new (h : H a ≠ none) (hp : H p = none) : a ≠ p := fun e => h (by rw [e]; exact hp)
/-- the next state: J has new things, each cell is as it was or is told anew -/
theorem Rw.step (w : Rw K J H ω) (jj : Same J J1) (jh : Same J1 H1) (fj : ∀ b, H b ≠ none → J b = none → J1 b = none)
    (h : ∀ a m, ω1 a = some m → (ω a = some m ∧ ∀ b o, Looks a m b → H b = some o → H1 b = some o) ∨
      (J1 a = none ∧ Cell K J1 H1 a m ∧ (∀ b, m.priv b → J1 b = none ∧ (b ≠ a → ω1 b = none)) ∧ ∀ c m', c ≠ a → ω1 c = some m' → ¬ m'.priv a ∧ ∀ b, m.priv b → ¬ m'.priv b)) : Rw K J1 H1 ω1 := by
  refine ⟨jh, fun a m e => ?_, fun a m e => ?_, fun a m e b pb => ?_⟩
  · rcases h a m e with z | z
    · exact fj a (w.there z.1) (w.out a m z.1)
    · exact z.1
  · rcases h a m e with z | z
    · exact (w.cell a m z.1).mono jj z.2
    · exact z.2.1
  · rcases h a m e with z | z
    · obtain ⟨t1, t2, t3⟩ := w.tmp a m z.1 b pb
      refine ⟨fj b (w.looks z.1 (.inr pb)) t1, fun ne => ?_, fun c m' nc ec => ?_⟩
      · cases q : ω1 b with
        | none => rfl
        | some m' =>
          rcases h b m' q with y | y
          · rw [t2 ne] at y; cases y.1
          · exact absurd pb (y.2.2.2 a m (Ne.symm ne) e).1
      · rcases h c m' ec with y | y
        · exact t3 c m' nc y.1
        · exact fun pc => (y.2.2.2 a m (Ne.symm nc) e).2 b pc pb
    · exact ⟨(z.2.2.1 b pb).1, (z.2.2.1 b pb).2, fun c m' nc ec => (z.2.2.2 c m' nc ec).2 b pb⟩
/-- a new thing that stays -/
theorem Grow.frz (w : Rw K J H ω) (hp : H p = none) (o : HO) : Grow J H ω (upd J p o) (upd H p o) ω := by
  have hj : J p = none := w.jh.free hp
  refine ⟨same_new hj o, fun a h => ?_, fun a u h _ => ?_, fun a h _ j => ?_, fun _ _ h => h⟩
  · rw [upd_ne (ne_new h hp)]; exact h
  · rw [upd_ne (ne_of_none h hp)]; exact h
  · rw [upd_ne (ne_new h hp)]; exact j
theorem Rw.frz (w : Rw K J H ω) (hp : H p = none) (o : HO) : Rw K (upd J p o) (upd H p o) ω := by
  have hj : J p = none := w.jh.free hp
  refine w.step (same_new hj o) (fun a u e => ?_) (fun b h j => by rw [upd_ne (ne_new h hp)]; exact j) fun a m e => .inl ⟨e, fun b u _ z => by rw [upd_ne (ne_of_none z hp)]; exact z⟩
  by_cases z : a = p
  · rw [z, upd_same] at e ⊢; exact e
  · rw [upd_ne z] at e ⊢; exact w.jh a u e
/-- a new thing that no one looks at -/
theorem Grow.junk (hp : H p = none) (o : HO) : Grow J H ω J (upd H p o) ω :=
  ⟨Same.refl _, fun a h => by rw [upd_ne (ne_new h hp)]; exact h, fun a u h _ => by rw [upd_ne (ne_of_none h hp)]; exact h, fun _ _ _ j => j, fun _ _ h => h⟩
theorem Rw.junk (w : Rw K J H ω) (hp : H p = none) (o : HO) : Rw K J (upd H p o) ω :=
  w.step (Same.refl _) (w.jh.trans (same_new hp o)) (fun _ _ j => j) fun a m e => .inl ⟨e, fun b u _ z => by rw [upd_ne (ne_of_none z hp)]; exact z⟩
theorem fr_updP {b : Addr} (h : Fr ω b) (ne : b ≠ p) (np : ¬ m.priv b) : Fr (updW ω p m) b := by
  refine ⟨by rw [updW_ne ne]; exact h.1, fun c m' e => ?_⟩
  by_cases z : c = p
  · rw [z, updW_same] at e; cases e; exact np
  · rw [updW_ne z] at e; exact h.2 c m' e
theorem fr_upd {b : Addr} (ht : m.bare = true) (h : Fr ω b) (ne : b ≠ p) : Fr (updW ω p m) b := fr_updP h ne (MO.bare_priv ht)
/-- a new cell -/
theorem Grow.own (ht : m.bare = true) (hp : H p = none) (o : HO) : Grow J H ω J (upd H p o) (updW ω p m) :=
  ⟨Same.refl _, fun a h => by rw [upd_ne (ne_new h hp)]; exact h, fun a u h _ => by rw [upd_ne (ne_of_none h hp)]; exact h, fun _ _ _ j => j, fun a h z => fr_upd ht z (ne_new h hp)⟩
theorem Rw.own (w : Rw K J H ω) (ht : m.bare = true) (hp : H p = none) (c : Cell K J (upd H p o) p m) : Rw K J (upd H p o) (updW ω p m) := by
  have fp := w.free hp
  refine w.step (Same.refl _) (w.jh.trans (same_new hp o)) (fun _ _ j => j) fun a n e => ?_
  by_cases z : a = p
  · subst z
    rw [updW_same] at e
    cases e
    refine .inr ⟨w.jh.free hp, c, fun b pb => absurd pb (MO.bare_priv ht), fun c m' nc e => ?_⟩
    rw [updW_ne nc] at e
    exact ⟨fp.2 c m' e, fun b pb => absurd pb (MO.bare_priv ht)⟩
  · rw [updW_ne z] at e
    exact .inl ⟨e, fun b u _ y => by rw [upd_ne (ne_of_none y hp)]; exact y⟩
theorem fr_ne0 {b : Addr} (h : ω a = some m) (z : Fr ω b) : b ≠ a := fun e => by have := z.1; rw [e, h] at this; cases this
/-- a cell is changed -/
theorem Grow.set (h : ω a = some m) (ht : n.bare = true) (o : HO) : Grow J H ω J (upd H a o) (updW ω a n) := by
  refine ⟨Same.refl _, fun b hb => ?_, fun b u hb z => by rw [upd_ne (fr_ne0 h z)]; exact hb, fun _ _ _ j => j, fun b _ z => fr_upd ht z (fr_ne0 h z)⟩
  by_cases z : b = a
  · rw [z, upd_same]; simp
  · rw [upd_ne z]; exact hb
/-- a cell is in no other -/
theorem Rw.apart (w : Rw K J H ω) (h : ω a = some m) {c : Addr} {m' : MO} (nc : c ≠ a) (e : ω c = some m') : ¬ m'.priv a := fun pa => by
  obtain ⟨_, t2, _⟩ := w.tmp c m' e a pa
  rw [t2 (Ne.symm nc)] at h
  cases h
theorem Rw.set (w : Rw K J H ω) (h : ω a = some m) (ht : n.bare = true) (c : Cell K J (upd H a o) a n) : Rw K J (upd H a o) (updW ω a n) := by
  refine w.step (Same.refl _) (fun b u e => ?_) (fun _ _ j => j) fun b k e => ?_
  · rw [upd_ne fun z => by rw [z, w.out a m h] at e; cases e]; exact w.jh b u e
  · by_cases z : b = a
    · subst z
      rw [updW_same] at e
      cases e
      refine .inr ⟨w.out _ m h, c, fun b pb => absurd pb (MO.bare_priv ht), fun c m' nc e => ?_⟩
      rw [updW_ne nc] at e
      exact ⟨w.apart h nc e, fun b pb => absurd pb (MO.bare_priv ht)⟩
    · rw [updW_ne z] at e
      refine .inl ⟨e, fun b' u l y => ?_⟩
      rw [upd_ne]
      · exact y
      · rintro rfl
        rcases l with rfl | pb
        · exact z rfl
        · exact w.apart h z e pb
theorem fr_del {b : Addr} (h : Fr ω b) : Fr (delW ω a) b :=
  ⟨by unfold delW; split; rfl; exact h.1, fun c m e => h.2 c m (delW_some e).1⟩
/-- a list of one's own is not changed any more -/
theorem Grow.fix (w : Rw K J H ω) (h : ω a = some (.lst ds)) (e : H a = some (.lst vs)) : Grow J H ω (upd J a (.lst vs)) H (delW ω a) := by
  refine ⟨same_new (w.out a _ h) _, fun _ z => z, fun _ _ z _ => z, fun b _ z j => by rw [upd_ne (fr_ne0 h z)]; exact j, fun b _ z => fr_del z⟩
theorem Rw.fix (w : Rw K J H ω) (h : ω a = some (.lst ds)) (e : H a = some (.lst vs)) : Rw K (upd J a (.lst vs)) H (delW ω a) := by
  have hj := w.out a _ h
  refine ⟨fun b u z => ?_, fun b k z => ?_, fun b k z => ?_, fun b m' z b' nb => ?_⟩
  · by_cases y : b = a
    · rw [y, upd_same] at z; rw [y, ← z]; exact e
    · rw [upd_ne y] at z; exact w.jh b u z
  · obtain ⟨z, y⟩ := delW_some z
    rw [upd_ne y]; exact w.out b k z
  · obtain ⟨z, y⟩ := delW_some z
    exact (w.cell b k z).mono (same_new hj _) fun _ _ _ q => q
  · obtain ⟨z2, y⟩ := delW_some z
    obtain ⟨t1, t2, t3⟩ := w.tmp b m' z2 b' nb
    refine ⟨?_, fun ne => by unfold delW; split; rfl; exact t2 ne, fun c N' nc ec => t3 c N' nc (delW_some ec).1⟩
    rw [upd_ne]
    · exact t1
    · rintro rfl
      exact w.apart h y z2 nb
/-- cells that no one looks at any more -/
theorem Grow.drop : Grow J H ω J H (delW ω a) :=
  ⟨Same.refl _, fun _ z => z, fun _ _ z _ => z, fun _ _ _ j => j, fun b _ z => fr_del z⟩
theorem Rw.drop (w : Rw K J H ω) : Rw K J H (delW ω a) :=
  w.step (Same.refl _) w.jh (fun _ _ j => j) fun b m e => .inl ⟨(delW_some e).1, fun _ _ _ z => z⟩
/-- a new cell with new things of its own -/
theorem grow_tmp (g : Grow J H ω J H1 ω) (nn : ∀ b, m.priv b → H b = none) (na : H a = none) : Grow J H ω J H1 (updW ω a m) :=
  ⟨g.jj, g.dom, g.keep, g.frj, fun b h z => fr_updP z (ne_new h na) fun pb => h (nn b pb)⟩
theorem rw_new (w : Rw K J H ω) (w1 : Rw K J H1 ω) (nn : ∀ b, m.priv b → H b = none) (na : H a = none) (c : Cell K J H1 a m) : Rw K J H1 (updW ω a m) := by
  refine w1.step (Same.refl _) w1.jh (fun _ _ j => j) fun b k e => ?_
  by_cases y : b = a
  · subst y
    rw [updW_same] at e
    cases e
    refine .inr ⟨w.jh.free na, c, fun b' pb => ⟨w.jh.free (nn b' pb), fun ne => by rw [updW_ne ne]; exact (w.free (nn b' pb)).1⟩, fun c' m' nc e => ?_⟩
    rw [updW_ne nc] at e
    exact ⟨(w.free na).2 c' m' e, fun b' pb => (w.free (nn b' pb)).2 c' m' e⟩
  · rw [updW_ne y] at e
    exact .inl ⟨e, fun _ _ _ z => z⟩
theorem rw_tmp {N : Hp} {d : PyData} (w : Rw K J H ω) (w1 : Rw K J H1 ω) (nn : ∀ b, N b ≠ none → H b = none) (s : Same N H1) (r : Rp K N (.ref a) d) (na : N a ≠ none) : Rw K J H1 (updW ω a (.tmp N d)) :=
  rw_new w w1 nn (nn a na) ⟨s, r, na⟩
/-- J and a further piece -/
def join (J N : Hp) : Hp := fun a => match N a with
  | some o => some o
  | none => J a
theorem join_none {b : Addr} {N : Hp} (h : N b = none) : join J N b = J b := by unfold join; rw [h]
theorem join_some {b : Addr} {N : Hp} {o : HO} (h : N b = some o) : join J N b = some o := by unfold join; rw [h]
theorem same_join {N : Hp} (h : ∀ b, N b ≠ none → J b = none) : Same J (join J N) := fun b o e => by
  rw [join_none]
  · exact e
  · cases q : N b with
    | none => rfl
    | some u => rw [h b (by rw [q]; simp)] at e; cases e
theorem same_joinN {N : Hp} : Same N (join J N) := fun b o e => join_some e
theorem priv_none {N : Hp} {d : PyData} {b : Addr} (h : ¬ (MO.tmp N d).priv b) : N b = none := Classical.byContradiction h
/-- such a cell becomes data -/
theorem grow_thaw {N : Hp} {d : PyData} (w : Rw K J H ω) (h : ω a = some (.tmp N d)) : Grow J H ω (join J N) H (delW ω a) := by
  refine ⟨same_join fun b nb => (w.tmp a _ h b nb).1, fun _ z => z, fun _ _ z _ => z, fun b _ z j => ?_, fun b _ z => fr_del z⟩
  rw [join_none (priv_none (z.2 a _ h))]; exact j
theorem rw_thaw {N : Hp} {d : PyData} (w : Rw K J H ω) (h : ω a = some (.tmp N d)) : Rw K (join J N) H (delW ω a) := by
  have sj : Same J (join J N) := same_join fun b nb => (w.tmp a _ h b nb).1
  obtain ⟨sN, rN, nN⟩ := w.cell a _ h
  refine ⟨fun b u e => ?_, fun b m e => ?_, fun b m e => ?_, fun b m' e b' nb => ?_⟩
  · cases q : N b with
    | none => rw [join_none q] at e; exact w.jh b u e
    | some o => rw [join_some q] at e; cases e; exact sN b _ q
  · obtain ⟨e, y⟩ := delW_some e
    rw [join_none]
    · exact w.out b m e
    · exact priv_none fun pb => by rw [(w.tmp a _ h b pb).2.1 y] at e; cases e
  · obtain ⟨e, y⟩ := delW_some e
    exact (w.cell b m e).mono sj fun _ _ _ z => z
  · obtain ⟨e, y⟩ := delW_some e
    obtain ⟨t1, t2, t3⟩ := w.tmp b m' e b' nb
    refine ⟨by rw [join_none (priv_none (t3 a _ (Ne.symm y) h))]; exact t1, fun ne => by unfold delW; split; rfl; exact t2 ne, fun c m2 nc ec => t3 c m2 nc (delW_some ec).1⟩
end
/-! ### slots -/
abbrev DS := List (Option PyData)
def Sl (K : PySem.W.Frag) (J : Hp) (σ : L2.St) (ρ : DS) : Prop := σ.length = ρ.length ∧ ∀ (i : Nat) (d : PyData), ρ[i]? = some (some d) → ∃ v, σ[i]? = some (some v) ∧ Rp K J v d
section
variable {K : PySem.W.Frag} {J J1 : Hp} {σ : L2.St} {ρ : DS} {i : Nat} {v : V} {d : PyData}
theorem Sl.mono (h : Sl K J σ ρ) (e : Same J J1) : Sl K J1 σ ρ := ⟨h.1, fun i d z => by obtain ⟨v, h1, h2⟩ := h.2 i d z; exact ⟨v, h1, rp_mono e d v h2⟩⟩
theorem Sl.set (h : Sl K J σ ρ) (i : Nat) (r : Rp K J v d) : Sl K J (σ.set i (some v)) (ρ.set i (some d)) := by
  refine ⟨by rw [List.length_set, List.length_set]; exact h.1, fun j e z => ?_⟩
  by_cases y : i = j
  · subst y
    rw [List.getElem?_set] at z
    rw [if_pos rfl] at z
    split at z
    · rename_i hl
      cases z
      exact ⟨v, by rw [List.getElem?_set, if_pos rfl, if_pos (by rw [h.1]; exact hl)], r⟩
    · cases z
  · rw [List.getElem?_set_ne y] at z
    obtain ⟨u, h1, h2⟩ := h.2 j e z
    exact ⟨u, by rw [List.getElem?_set_ne y]; exact h1, h2⟩
theorem Sl.clear (h : Sl K J σ ρ) (i : Nat) (o : Option V) : Sl K J (σ.set i o) (ρ.set i none) := by
  refine ⟨by rw [List.length_set, List.length_set]; exact h.1, fun j e z => ?_⟩
  by_cases y : i = j
  · subst y
    rw [List.getElem?_set, if_pos rfl] at z
    split at z <;> cases z
  · rw [List.getElem?_set_ne y] at z
    obtain ⟨u, h1, h2⟩ := h.2 j e z
    exact ⟨u, by rw [List.getElem?_set_ne y]; exact h1, h2⟩
def wipeD (ρ : DS) : List Nat → DS
  | [] => ρ
  | v :: vs => (wipeD ρ vs).set v none
theorem Sl.wipe (h : Sl K J σ ρ) : ∀ vs : List Nat, Sl K J (wipe σ vs) (wipeD ρ vs)
  | [] => h
  | v :: vs => by unfold L2.wipe wipeD; exact (Sl.wipe h vs).clear v none
theorem wipe_set {o : Option V} : ∀ {vs : List Nat}, i ∈ vs → wipe (σ.set i o) vs = wipe σ vs
  | v :: vs, h => by
    unfold wipe
    by_cases y : i ∈ vs
    · rw [wipe_set y]
    · have e : i = v := by
        cases h with
        | head => rfl
        | tail _ h => exact absurd h y
      subst e
      have cm : ∀ (vs : List Nat) (σ : L2.St), i ∉ vs → wipe (σ.set i o) vs = (wipe σ vs).set i o := by
        intro vs
        induction vs with
        | nil => intro σ _; rfl
        | cons w ws ih =>
          intro σ hn
          unfold wipe
          rw [ih σ fun z => hn (List.mem_cons_of_mem _ z), List.set_comm]
          exact fun z => hn (by rw [z]; exact List.mem_cons_self)
      rw [cm vs σ y, List.set_set]
/-- the slots at a call's entry -/
def startD (N : List Str) (ts : List PyData) : DS := ts.map some ++ List.replicate (N.length - ts.length) none
theorem sl_start {N : List Str} {vs : List V} {ts : List PyData} (h : RpAll K J vs ts) : Sl K J (start N vs) (startD N ts) := by
  have hl := h.length
  refine ⟨by simp [L2.start, startD, hl], fun i d z => ?_⟩
  unfold startD at z
  unfold L2.start
  by_cases hi : i < ts.length
  · rw [List.getElem?_append_left (by simpa using hi), List.getElem?_map] at z
    obtain ⟨e, he, z⟩ := Option.map_eq_some_iff.mp z
    cases z
    obtain ⟨v, h1, h2⟩ := h.getD he
    exact ⟨v, by rw [List.getElem?_append_left (by simpa [hl] using hi), List.getElem?_map, h1]; rfl, h2⟩
  · rw [List.getElem?_append_right (by simpa using hi), List.getElem?_replicate] at z
    split at z <;> cases z
end
end Tx

namespace Tx
open PySem PySem.Spec PyProof.Rows L2
abbrev sValue : Stmt := top 17
theorem scValue : FnScope ["_law_bag_here", "_law_deep", "_law_room", "_law_pick", "_law_turn", "_law_made", "_law_left"] ["_law_bag_here", "_law_deep", "_law_room"] (defScope sValue) := ⟨rfl, rfl, rfl, by decide +kernel, rfl, by decide +kernel, by decide +kernel⟩
/-- value(bag, deep, room), deep below n -/
def spValue (K : PySem.W.Frag) (n : Nat) : Sp := fun vs H Q _ => ∃ (b : Addr) (J : Hp) (deep room : Int), vs = [.ref b, .int deep, .int room] ∧ Bag H b ∧ J b = none ∧ Same J H ∧ 0 ≤ deep ∧ deep < n ∧ 1 ≤ room ∧ room ≤ 1000 ∧
  ∀ (v : V) (d : PyData) (J' H' : Hp), Gro b J H J' H' → Rp K J' v d → Val deep.toNat room.toNat d → Q v H'
section
variable {P : Program} {w : World} {K : PySem.W.Frag} {mg : Str → Option Value} {base : Heap}
theorem d_value (h : Has K mg "_law_value" sValue) (B : Bi mg) (D_law_take : Dfn P w K mg base CX0 1 "_law_take" ["_law_bag_here", "_law_many"] spTake) (D_law_text : Dfn P w K mg base CX0 2 "_law_text" ["_law_bag_here", "_law_most"] spText)
    (D_law_size : Dfn P w K mg base CX0 20 "_law_size" ["_law_value_here"] (spSize K 20)) : ∀ n, n ≤ 19 → Dfn P w K mg base CX0 (n + 20) "_law_value" ["_law_bag_here", "_law_deep", "_law_room"] (spValue K n)
  | 0, _ => (dfn_none h (fun _ _ _ _ _ _ us hl => match us, hl with | [_, _, _], _ => rfl) fun vs H Q E z => by
    obtain ⟨_, _, _, _, _, _, _, _, z1, z2, _⟩ := z
    omega).mono (by omega)
  | n + 1, hn => by
    have D_law_value := d_value h B D_law_take D_law_text D_law_size n (by omega)
    refine dfn0 (k := n + 20) h B scValue (fun _ _ _ _ _ _ us hl => match us, hl with | [_, _, _], _ => rfl) (fun vs H Q E h => ?_) (fun f cv A out s H vs Q E c h => ?_)
    · obtain ⟨b, J, deep, room, rfl, _⟩ := h
      rfl
    obtain ⟨b, J, deep, room, rfl, hB, jb, js, d0, dn, r1, r2, q⟩ := h
    refine ⟨_, (pss_cons (ps_set (i := 3) scValue.nd rfl (Or.inl rfl) (pe_d D_law_take c (by omega) (by rfl) (pa_cons (pv 0) (pa_cons pe_int pa_nil))))
    (pss_cons (ps_if (PW.pt (pw_or (pt_cmpR op_eq (pv 3) pe_int (nomark _)) (pw_or1 (pt_cmpR op_eq (pv 2) pe_int (nomark _))))) (pss_one (ps_ret (pe_ix ix_list (pe_lst (pa_cons pe_non (pa_cons pe_str (pa_cons (pe_lst pa_nil) pa_nil)))) (pe_d D_law_take c (by omega) (by rfl) (pa_cons (pv 0) (pa_cons (pe_ifExp (pt_cmpR op_gt (pv 1) pe_int (nomark _)) pe_int pe_int) pa_nil))) (fun _ _ => rfl)))) pss_nil)
    (pss_cons (ps_if (PW.pt (pw_or (pt_cmpR op_eq (pv 3) pe_int (nomark _)) (pw_or1 (pt_cmpR op_eq (pv 1) pe_int (nomark _))))) (pss_one (ps_ret (pe_d D_law_text c (by omega) (by rfl) (pa_cons (pv 0) (pa_cons (pe_callB (call_min2 rfl) (by rfl) c.b.min (by decide +kernel) (pa_cons pe_int (pa_cons (pe_op op_sub (pv 2) pe_int) pa_nil))) pa_nil))))) pss_nil)
    (pss_cons (ps_par (i := 5) (j := 6) rfl scValue.nd rfl rfl (by decide) rfl rfl (pa_cons (pe_lst pa_nil) (pa_cons (pe_op op_sub (pv 2) pe_int) pa_nil)) (by rfl))
    (pss_cons (ps_for PassesOwn.never rfl (pi_range1 (by rfl) c.b.range (pa_cons (pe_d D_law_take c (by omega) (by rfl) (pa_cons (pv 0) (pa_cons pe_int pa_nil))) pa_nil)) (pg_name (i := 4) scValue.nd rfl (Or.inl rfl))
    (pss_one (ps_if (pt_cmpR op_gt (pv 6) pe_int (nomark _)) (pss_cons (ps_expr (pe_bm PySem.F.plainAttrs_list PySem.F.slot_list_append PySem.F.type_list_append mt_append (pv 5) (pa_cons (pe_d D_law_value c (by omega) (by rfl) (pa_cons (pv 0) (pa_cons (pe_op op_sub (pv 1) pe_int) (pa_cons (pv 6) pa_nil)))) pa_nil)))
    (pss_one (ps_set (i := 6) scValue.nd rfl (Or.inl rfl) (pe_op op_sub (pv 6) (pe_d D_law_size c (by omega) (by rfl) (pa_cons (pe_ix ix_list (pv 5) (pe_un un_neg pe_int) (fun _ _ => rfl)) pa_nil)))))) pss_nil)))
    (pss_one (ps_ret (pv 5)))))))), ?_⟩
    refine ⟨_, rfl, b, 5, rfl, hB, by decide, by decide, fun pick H1 p0 p1 st1 => ?_⟩
    have g1 : Gro b J H J H1 := st1.gro jb js
    refine ⟨_, rfl, rfl, _, rfl, ?_⟩
    refine ite2 (fun _ => ?ret) (fun n0 => ⟨_, rfl, rfl, _, rfl, ite2 (fun _ => ?ret') (fun n1 => ?go)⟩)
    case go =>
      refine ⟨_, rfl, rfl, _, rfl, ite2 (fun _ => ?txt) (fun _ => ⟨_, rfl, rfl, _, rfl, ite2 (fun _ => ?txt') (fun m1 => ?lst)⟩)⟩
      case lst =>
        have deep1 : deep ≠ 0 := fun z => m1 (by rw [z]; rfl)
        refine ⟨(by show 0 ≤ sizeLine; decide), fun r hr => ⟨_, rfl, _, _, rfl, rfl, _, _, rfl, ?_⟩⟩
        have hrH : H r = none := st1.free hB hr
        have rb : r ≠ b := st1.ne hr
        have g2 := g1.new hr (.lst [])
        refine ⟨_, rfl, b, 5, rfl, g2.st.bag, by decide, by decide, fun t H2 t0 t1 st2 => ⟨t, rfl, by omega, by omega, ?_⟩⟩
        have g3 := g2.step st2 hB jb
        have hjr : J r = none := js.free hrH
        refine for_range (lo := 0) (n := t.toNat) (fun i σ H' => ∃ (u : Option V) (left : Int) (Ji : Hp) (vs : List V) (ds : List PyData),
            σ = [some (.ref b), some (.int deep), some (.int room), some (.int pick), u, some (.ref r), some (.int left)] ∧ Gro b J H Ji H' ∧ H' r = some (.lst vs) ∧ Ji r = none ∧
            RpAll K Ji vs ds ∧ isValAll ds = true ∧ PyData.depthAll ds ≤ (deep - 1).toNat ∧ 0 ≤ left ∧ (szAll ds : Int) + left = room - 1 ∧ vs.length ≤ i)
          ⟨none, room - 1, J, [], [], rfl, g3, st2.keep r _ rb upd_same, hjr, .nil, rfl, by simp [PyData.depthAll], by omega, by simp [szAll], Nat.le_refl _⟩ ?_ ?_
        · rintro i σ H3 hi ⟨u, left, Ji, vs, ds, rfl, g, hr3, jr, ha, val, dep, l0, ls, vl⟩
          refine ⟨_, rfl, _, _, rfl, rfl, _, rfl, ite2 (fun lp => ?_) (fun _ => ?_)⟩
          · have lp' : 0 < left := of_decide_eq_true lp
            have jib : Ji b = none := g.noBag hB jb
            refine ⟨_, rfl, .inl ⟨rfl, _, SqL.of hr3⟩, _, rfl, _, rfl, _, _, rfl, rfl, _, rfl, b, Ji, deep - 1, left, rfl, g.st.bag, jib, g.jh, by omega, by omega, by omega, by omega, fun v d J2 H4 g4 hd vd => ?_⟩
            have hr4 : H4 r = some (.lst vs) := g4.st.keep r _ rb hr3
            have jr2 : J2 r = none := g4.fr r (by rw [hr3]; simp) jr
            have vdz := vd.size
            have vdd := vd.deep
            refine ⟨r, vs, v, rfl, rfl, hr4, (by rw [sizeLine_eq]; omega), ?_⟩
            have g5 := (g.trans g4 hB).mut hrH jr2 rb (.lst (vs ++ [v]))
            refine ⟨_, rfl, _, rfl, _, rfl, r, _, _, v, rfl, rfl, SqL.of upd_same, atI_last _ _, v, d, rfl, dp_mono g5.jh d v (rp_dp d v (fine_lay d (val_fine d vd.val)) hd), vd.val, by omega, by omega, fun H5 sm => ?_⟩
            refine ⟨_, _, rfl, rfl, some (.int (0 + i)), left - szD d, J2, vs ++ [v], ds ++ [d], rfl, g5.same sm, sm _ _ upd_same, jr2, RpAll.append (rpAll_mono g4.jj ds vs ha) (RpAll.one hd), ?_, ?_, by omega, ?_, ?_⟩
            · exact isValAll_iff.mpr fun x hx => (List.mem_append.mp hx).elim (isValAll_iff.mp val x) fun hx => by rw [List.mem_singleton.mp hx]; exact vd.val
            · refine depthAll_le fun x hx => (List.mem_append.mp hx).elim (fun hx => Nat.le_trans (depth_mem hx) dep) fun hx => by rw [List.mem_singleton.mp hx]; exact vdd
            · rw [szAll_append]
              simp only [szAll]
              omega
            · rw [List.length_append]
              show vs.length + 1 ≤ i + 1
              omega
          · exact ⟨_, left, Ji, vs, ds, rfl, g, hr3, jr, ha, val, dep, l0, ls, by omega⟩
        · rintro σ H3 ⟨u, left, Ji, vs, ds, rfl, g, hr3, jr, ha, val, dep, l0, ls, vl⟩
          refine ⟨_, rfl, q (.ref r) (.list ds) _ H3 (g.own hr3 hrH jr) (.lst upd_same (rpAll_mono (same_new jr _) ds vs ha)) ⟨?_, ?_, ?_⟩⟩
          · simpa only [isVal] using val
          · simp only [PyData.depth]
            omega
          · simp only [szD]
            omega
      all_goals
        refine ⟨_, rfl, _, rfl, _, _, rfl, rfl, _, _, rfl, b, _, rfl, g1.st.bag, ?_, ?_, fun x H2 xl xn st2 => ?_⟩
        · split <;> omega
        · split <;> omega
        refine q (.str x) (.str x) J H2 (g1.step st2 hB jb) (.str x) ⟨?_, ?_, ?_⟩
        · simpa only [isVal] using xl
        · simp [PyData.depth]
        · simp only [szD]
          split at xn <;> omega
    all_goals
      refine ⟨(by show 0 ≤ sizeLine; decide), fun e he => ⟨(by show 3 ≤ sizeLine; decide), fun p hp => ⟨_, rfl, _, rfl, _, _, rfl, rfl, _, rfl, ?_⟩⟩⟩
      have g2 := (g1.add hB he (.lst [])).new hp (.lst [.non, .str "", .ref e])
      have pb : p ≠ b := (g1.add hB he (.lst [])).st.ne hp
      refine ite2 (fun dp => ?_) (fun dp => ?_)
      · have dp' : 0 < deep := of_decide_eq_true dp
        refine ⟨b, 3, rfl, g2.st.bag, by decide, by decide, fun r H2 r0 r1 st2 => ?_⟩
        obtain ⟨v, e1, e2⟩ := atI_of (xs := [V.non, V.str "", V.ref e]) r0 r1
        refine ⟨p, _, _, _, rfl, rfl, SqL.of (st2.keep p _ pb upd_same), e1, ?_⟩
        have g3 := g2.step st2 hB jb
        have h3 : r.toNat = 0 ∨ r.toNat = 1 ∨ r.toNat = 2 := by omega
        rcases h3 with z | z | z <;> rw [z] at e2 <;> cases e2
        · exact q _ .none _ H2 g3 .non ⟨rfl, by simp [PyData.depth], by simp only [szD]; omega⟩
        · exact q _ (.str "") _ H2 g3 (.str _) ⟨rfl, by simp [PyData.depth], by simp only [szD]; show 1 + 0 ≤ _; omega⟩
        · exact q _ (.list []) _ H2 g3 (.lst upd_same .nil) ⟨rfl, by simp only [PyData.depth, PyData.depthAll]; omega, by simp only [szD, szAll]; omega⟩
      · refine ⟨b, 2, rfl, g2.st.bag, by decide, by decide, fun r H2 r0 r1 st2 => ?_⟩
        obtain ⟨v, e1, e2⟩ := atI_of (xs := [V.non, V.str "", V.ref e]) r0 (by show r < 3; omega)
        refine ⟨p, _, _, _, rfl, rfl, SqL.of (st2.keep p _ pb upd_same), e1, ?_⟩
        have g3 := g2.step st2 hB jb
        have h3 : r.toNat = 0 ∨ r.toNat = 1 := by omega
        rcases h3 with z | z <;> rw [z] at e2 <;> cases e2
        · exact q _ .none _ H2 g3 .non ⟨rfl, by simp [PyData.depth], by simp only [szD]; omega⟩
        · exact q _ (.str "") _ H2 g3 (.str _) ⟨rfl, by simp [PyData.depth], by simp only [szD]; show 1 + 0 ≤ _; omega⟩
end
end Tx

namespace Tx
open PySem PySem.Spec PyProof.Rows L2
/-- a text so often: its letters, and how many at most -/
theorem op_rep_str {X : Cx} : OpR X (binaryOp .Mult) (fun x y H Q => ∃ (z : Str) (n : Int), x = .str z ∧ y = .int n ∧ 1 ≤ n ∧ n ≤ 1000 ∧ z.length ≤ 1000 ∧
    ∀ u : Str, (∀ c ∈ u.cps.toList, c ∈ z.cps.toList) → u.length ≤ z.length * n.toNat → Q (.str u) H) := by
  intro pins s σ H x y v u Q I rx ry ask
  obtain ⟨z, n, rfl, rfl, n0, n1, z1, q⟩ := ask
  obtain ⟨t, rfl⟩ := rx
  obtain ⟨t', rfl⟩ := ry
  have le : z.length * n.toNat ≤ 1000 * 1000 := Nat.mul_le_mul z1 (by omega)
  have hok : MulOk z n := by
    refine ⟨?_, fun _ _ => ?_, fun _ _ => ?_⟩
    · simp only [Bool.or_eq_false_iff, decide_eq_false_iff_not]
      omega
    · have h1 : (9223372036854775 : Int) ≤ (2 ^ 63 - 1) / n := by
        rw [Int.le_ediv_iff_mul_le (by omega)]
        omega
      omega
    · unfold PySem.Builtin.Str.tooLong
      simp only [decide_eq_false_iff_not]
      rw [sizeLine_eq]
      omega
  have mem : ∀ (k : Nat) (acc : Array Nat), (∀ c ∈ acc.toList, c ∈ z.cps.toList) → (∀ c ∈ ((List.replicate k z.cps).foldl (· ++ ·) acc).toList, c ∈ z.cps.toList) ∧ ((List.replicate k z.cps).foldl (· ++ ·) acc).size = acc.size + z.cps.size * k := by
    intro k
    induction k with
    | zero => intro acc h; exact ⟨h, by simp⟩
    | succ k ih =>
      intro acc h
      rw [List.replicate_succ, List.foldl_cons]
      obtain ⟨i1, i2⟩ := ih (acc ++ z.cps) (fun c hc => by
        rw [Array.toList_append] at hc
        exact (List.mem_append.mp hc).elim (h c) id)
      refine ⟨i1, ?_⟩
      rw [i2, Array.size_append, Nat.mul_succ]
      omega
  have key : (∀ c ∈ (Txt.mul z n).cps.toList, c ∈ z.cps.toList) ∧ (Txt.mul z n).length ≤ z.length * n.toNat := by
    unfold Txt.mul
    rw [if_neg (by omega)]
    split
    · exact ⟨fun _ h => h, Nat.le_mul_of_pos_right _ (by omega)⟩
    · obtain ⟨m1, m2⟩ := mem n.toNat #[] (fun c hc => by simp at hc)
      exact ⟨m1, by show ((List.replicate n.toNat z.cps).foldl (· ++ ·) #[]).size ≤ _; rw [m2]; show 0 + z.cps.size * n.toNat ≤ z.cps.size * n.toNat; omega⟩
  refine SB.mul hok fun t2 k => ?_
  exact ⟨.str (Txt.mul z n), H, I.tok k, ⟨t2, rfl⟩, q _ key.1 key.2⟩
theorem cutV_to {xs : List V} {r : Int} (h : 0 ≤ r) : cutV xs none (some r) = xs.take r.toNat := by
  unfold cutV
  obtain ⟨k, rfl⟩ := Int.eq_ofNat_of_zero_le h
  rw [HT.sIx_none, HT.sIx_nat, List.drop_zero, Nat.sub_zero]
  rw [Int.toNat_natCast]
  by_cases hk : k ≤ xs.length
  · rw [Nat.min_eq_left hk]
  · rw [Nat.min_eq_right (by omega), List.take_length, List.take_of_length_le (by omega)]
theorem cutS_to {z : Str} {r : Int} (h : 0 ≤ r) : (∀ c ∈ (cutS z none (some r)).cps.toList, c ∈ z.cps.toList) ∧ ((cutS z none (some r)).length : Int) ≤ r := by
  obtain ⟨k, rfl⟩ := Int.eq_ofNat_of_zero_le h
  unfold cutS
  rw [HT.sIx_none, HT.sIx_nat, List.drop_zero, Nat.sub_zero]
  refine ⟨fun c hc => List.mem_of_mem_take (by simpa using hc), ?_⟩
  show (((z.cps.toList.take (min k z.length)).toArray.size : Nat) : Int) ≤ (k : Int)
  simp
  omega
theorem ltr_sub {x z : Str} (hz : ltr z = true) (h : ∀ c ∈ x.cps.toList, c ∈ z.cps.toList) : ltr x = true := by
  unfold ltr at *
  exact List.all_eq_true.mpr fun c hc => List.all_eq_true.mp hz c (h c hc)
theorem mem_rep {α : Type} {x : α} {l : List α} {n : Nat} (h : x ∈ (List.replicate n l).flatten) : x ∈ l := by
  obtain ⟨m, hm, hx⟩ := List.mem_flatten.mp h
  rw [(List.mem_replicate.mp hm).2] at hx
  exact hx
/-- a list of values -/
theorem Val.list {n m : Nat} {ds : List PyData} (h1 : ∀ d ∈ ds, isVal d = true) (h2 : ∀ d ∈ ds, d.depth ≤ n) (h3 : szAll ds ≤ m) : Val (n + 1) (m + 1) (.list ds) :=
  ⟨by simpa only [isVal] using isValAll_iff.mpr h1, by simp only [PyData.depth]; have := depthAll_le h2; omega, by simp only [szD]; omega⟩
abbrev sGreat : Stmt := top 18
theorem scGreat : FnScope ["_law_bag_here", "_law_pick", "_law_made", "_law_turn", "_law_word", "_law_small", "_law_k"] ["_law_bag_here"] (defScope sGreat) := ⟨rfl, rfl, rfl, by decide +kernel, rfl, by decide +kernel, by decide +kernel⟩
/-- great(bag) -/
def spGreat (K : PySem.W.Frag) : Sp := fun vs H Q _ => ∃ (b : Addr) (J : Hp), vs = [.ref b] ∧ Bag H b ∧ J b = none ∧ Same J H ∧
  ∀ (v : V) (d : PyData) (J' H' : Hp), Gro b J H J' H' → Rp K J' v d → Val 12 400 d → Q v H'
section
variable {P : Program} {w : World} {K : PySem.W.Frag} {mg : Str → Option Value} {base : Heap}
theorem d_great (h : Has K mg "_law_great" sGreat) (B : Bi mg) (D_law_take : Dfn P w K mg base CX0 1 "_law_take" ["_law_bag_here", "_law_many"] spTake) (D_law_text : Dfn P w K mg base CX0 2 "_law_text" ["_law_bag_here", "_law_most"] spText)
    (D_law_value : Dfn P w K mg base CX0 26 "_law_value" ["_law_bag_here", "_law_deep", "_law_room"] (spValue K 6)) : Dfn P w K mg base CX0 27 "_law_great" ["_law_bag_here"] (spGreat K) := by
  refine dfn0 (k := 26) h B scGreat (fun _ _ _ _ _ _ us hl => match us, hl with | [_], _ => rfl) (fun vs H Q E h => ?_) (fun f cv A out s H vs Q E c h => ?_)
  · obtain ⟨b, J, rfl, _⟩ := h
    rfl
  obtain ⟨b, J, rfl, hB, jb, js, q⟩ := h
  refine ⟨_, (pss_cons (ps_set (i := 1) scGreat.nd rfl (Or.inl rfl) (pe_d D_law_take c (by omega) (by rfl) (pa_cons (pv 0) (pa_cons pe_int pa_nil))))
    (pss_cons (ps_if (pt_cmpR op_gt (pv 1) pe_int (nomark _)) (pss_one (ps_ret (pe_d D_law_value c (by omega) (by rfl) (pa_cons (pv 0) (pa_cons pe_int (pa_cons pe_int pa_nil)))))) pss_nil)
    (pss_cons (ps_if (pt_cmpR op_eq (pv 1) pe_int (nomark _)) (pss_cons (ps_set (i := 4) scGreat.nd rfl (Or.inl rfl) (pe_op op_add_str pe_str (pe_d D_law_text c (by omega) (by rfl) (pa_cons (pv 0) (pa_cons pe_int pa_nil)))))
    (pss_one (ps_ret (pe_slice sl_str (pe_op op_rep_str (pv 4) pe_int) po_none (po_some (pe_d D_law_take c (by omega) (by rfl) (pa_cons (pv 0) (pa_cons pe_int pa_nil)))))))) pss_nil)
    (pss_cons (ps_if (pt_cmpR op_eq (pv 1) pe_int (nomark _)) (pss_cons (ps_setLc (i := 5) (own := [("_law_turn", 3)]) (g := (gName 3)) (tt := tYes) rfl scGreat.nd rfl rfl (sw_true rfl rfl rfl (by decide +kernel)) (pi_range1 (by rfl) c.b.range (pa_cons (pe_op op_add pe_int (pe_d D_law_take c (by omega) (by rfl) (pa_cons (pv 0) (pa_cons pe_int pa_nil)))) pa_nil)) (blkOk_by (own := [("_law_turn", 3)]) (N := ["_law_bag_here", "_law_pick", "_law_made", "_law_turn", "_law_word", "_law_small", "_law_k"]) (sc := defScope sGreat) (by decide +kernel)) (fun _ _ _ _ _ => (pg_name (i := 3) scGreat.nd rfl (Or.inl rfl))) (fun _ _ _ _ _ => pts_nil) (fun _ _ _ _ _ => (pe_d D_law_value c (by omega) (by rfl) (pa_cons (pv 0) (pa_cons pe_int (pa_cons pe_int pa_nil))))))
    (pss_one (ps_ret (pe_slice sl_list (pe_op op_rep (pv 5) pe_int) po_none (po_some (pe_d D_law_take c (by omega) (by rfl) (pa_cons (pv 0) (pa_cons pe_int pa_nil)))))))) pss_nil)
    (pss_cons (ps_set (i := 2) scGreat.nd rfl (Or.inl rfl) (pe_d D_law_value c (by omega) (by rfl) (pa_cons (pv 0) (pa_cons pe_int (pa_cons pe_int pa_nil)))))
    (pss_cons (ps_for PassesOwn.never rfl (pi_range1 (by rfl) c.b.range (pa_cons (pe_d D_law_take c (by omega) (by rfl) (pa_cons (pv 0) (pa_cons pe_int pa_nil))) pa_nil)) (pg_name (i := 3) scGreat.nd rfl (Or.inl rfl))
    (pss_cons (ps_setLc (i := 5) (own := [("_law_k", 6)]) (g := (gName 6)) (tt := tYes) rfl scGreat.nd rfl rfl (sw_true rfl rfl rfl (by decide +kernel)) (pi_range1 (by rfl) c.b.range (pa_cons (pe_d D_law_take c (by omega) (by rfl) (pa_cons (pv 0) (pa_cons pe_int pa_nil))) pa_nil)) (blkOk_by (own := [("_law_k", 6)]) (N := ["_law_bag_here", "_law_pick", "_law_made", "_law_turn", "_law_word", "_law_small", "_law_k"]) (sc := defScope sGreat) (by decide +kernel)) (fun _ _ _ _ _ => (pg_name (i := 6) scGreat.nd rfl (Or.inl rfl))) (fun _ _ _ _ _ => pts_nil) (fun _ _ _ _ _ => (pe_d D_law_value c (by omega) (by rfl) (pa_cons (pv 0) (pa_cons pe_int (pa_cons pe_int pa_nil))))))
    (pss_one (ps_set (i := 2) scGreat.nd rfl (Or.inl rfl) (pe_ifExp (pt_cmpR op_eq (pe_d D_law_take c (by omega) (by rfl) (pa_cons (pv 0) (pa_cons pe_int pa_nil))) pe_int (nomark _)) (pe_op op_cat (pv 5) (pe_lst (pa_cons (pv 2) pa_nil))) (pe_op op_cat (pe_lst (pa_cons (pv 2) pa_nil)) (pv 5)))))))
    (pss_one (ps_ret (pv 2))))))))), ?_⟩
  refine ⟨_, rfl, b, 6, rfl, hB, by decide, by decide, fun pick H1 p0 p1 st1 => ?_⟩
  have g1 : Gro b J H J H1 := st1.gro jb js
  refine ⟨_, rfl, _, _, rfl, rfl, _, rfl, ite2 (fun _ => ?_) (fun _ => ?_)⟩
  · refine ⟨_, rfl, b, J, 4, 60, rfl, g1.st.bag, jb, g1.jh, by decide, by decide, by decide, by decide, fun v d J2 H2 g2 hd vd => ?_⟩
    exact q v d J2 H2 (g1.trans g2 hB) hd (vd.mono (by decide) (by decide))
  refine ⟨_, rfl, rfl, _, rfl, ite2 (fun _ => ?_) (fun _ => ?_)⟩
  · refine ⟨_, rfl, b, 5, rfl, g1.st.bag, by decide, by decide, fun x H2 xl xn st2 => ?_⟩
    have g2 := g1.step st2 hB jb
    refine ⟨_, _, rfl, rfl, (by show 1 + x.length ≤ sizeLine; rw [sizeLine_eq]; omega), ?_⟩
    have ql : ltr (("q" : Str) ++ x) = true := ltr_append (by decide) xl
    have qn : (("q" : Str) ++ x).length = 1 + x.length := by
      rw [strLen_append]; rfl
    refine ⟨_, rfl, _, _, rfl, rfl, by decide, by decide, by omega, fun u um un => ?_⟩
    refine ⟨_, rfl, b, 400, rfl, g2.st.bag, by decide, by decide, fun r H3 r0 r1 st3 => ⟨r, rfl, u, rfl, ?_, ?_⟩⟩
    · have : u.length ≤ 1000 * 399 := Nat.le_trans un (Nat.mul_le_mul (by omega) (by decide))
      rw [sizeLine_eq]; omega
    obtain ⟨c1, c2⟩ := cutS_to (z := u) r0
    refine q (.str _) (.str _) J H3 (g2.step st3 hB jb) (.str _) ⟨?_, by simp [PyData.depth], ?_⟩
    · simpa only [isVal] using ltr_sub (ltr_sub ql um) c1
    · simp only [szD]; omega
  refine ⟨_, rfl, rfl, _, rfl, ite2 (fun _ => ?_) (fun _ => ?_)⟩
  · -- many small ones
    refine ⟨_, rfl, b, 3, rfl, g1.st.bag, by decide, by decide, fun r H2 r0 r1 st2 => ?_⟩
    have g2 := g1.step st2 hB jb
    refine ⟨_, _, rfl, rfl, _, rfl, by omega, by omega, fun L hL => ?_⟩
    have hLH : H L = none := g2.st.free hB hL
    have Lb : L ≠ b := g2.st.ne hL
    refine lc_range (lo := 0) (n := (1 + r).toNat) (fun i H' => ∃ (Ji : Hp) (vs : List V) (ds : List PyData), Gro b J H Ji H' ∧ H' L = some (.lst vs) ∧ Ji L = none ∧ RpAll K Ji vs ds ∧ (∀ d ∈ ds, Val 1 2 d) ∧ vs.length = i)
      ⟨J, [], [], g2.new hL _, upd_same, js.free hLH, .nil, (fun _ h => nomatch h), rfl⟩ ?_ ?_
    · rintro i H3 hi ⟨Ji, vs, ds, g, hL3, jL, ha, va, vl⟩
      refine ⟨rfl, _, rfl, b, Ji, 1, 2, rfl, g.st.bag, g.noBag hB jb, g.jh, by decide, by decide, by decide, by decide, fun v d J2 H4 g4 hd vd => ?_⟩
      have jL2 : J2 L = none := g4.fr L (by rw [hL3]; simp) jL
      refine ⟨vs, g4.st.keep L _ Lb hL3, (by rw [sizeLine_eq]; omega), J2, vs ++ [v], ds ++ [d], (g.trans g4 hB).mut hLH jL2 Lb _, upd_same, jL2, RpAll.append (rpAll_mono g4.jj ds vs ha) (RpAll.one hd), ?_, by rw [List.length_append, vl]; rfl⟩
      exact fun x hx => (List.mem_append.mp hx).elim (va x) fun hx => by rw [List.mem_singleton.mp hx]; exact vd
    · rintro H3 ⟨Ji, vs, ds, g, hL3, jL, ha, va, vl⟩
      refine ⟨_, rfl, L, _, vs, rfl, rfl, hL3, by decide, by decide, ?_, fun p hp => ?_⟩
      · have : vs.length * 199 ≤ 4 * 199 := Nat.mul_le_mul_right _ (by omega)
        show vs.length * 199 ≤ sizeLine
        rw [sizeLine_eq]; omega
      have g3 := g.new hp (.lst (List.replicate (199 : Int).toNat vs).flatten)
      refine ⟨_, rfl, b, 200, rfl, g3.st.bag, by decide, by decide, fun k H4 k0 k1 st4 => ⟨k, rfl, p, _, rfl, SqL.of (st4.keep p _ (g.st.ne hp) upd_same), fun p2 hp2 => ?_⟩⟩
      have g4 := g3.step st4 hB jb
      have hj2 : Ji p2 = none := g4.jh.free hp2
      rw [cutV_to k0]
      refine q (.ref p2) (.list (((List.replicate (199 : Int).toNat ds).flatten).take k.toNat)) _ _ (g4.add hB hp2 _) (.lst upd_same (rpAll_mono (same_new hj2 _) _ _ (RpAll.take k.toNat (RpAll.rep ha _)))) ?_
      have mem : ∀ d ∈ ((List.replicate (199 : Int).toNat ds).flatten).take k.toNat, Val 1 2 d := fun d hd => va d (mem_rep (List.mem_of_mem_take hd))
      refine (Val.list (n := 1) (m := 398) (fun d hd => (mem d hd).val) (fun d hd => (mem d hd).deep) ?_).mono (by decide) (by decide)
      have := szAll_le (B := 2) fun d hd => (mem d hd).size
      have h2 : (((List.replicate (199 : Int).toNat ds).flatten).take k.toNat).length ≤ k.toNat := List.length_take_le _ _
      omega
  · -- a deep one
    refine ⟨_, rfl, b, J, 3, 20, rfl, g1.st.bag, jb, g1.jh, by decide, by decide, by decide, by decide, fun v d J2 H2 g2 hd vd => ?_⟩
    have g3 := g1.trans g2 hB
    refine ⟨_, rfl, b, 10, rfl, g3.st.bag, by decide, by decide, fun t H3 t0 t1 st3 => ⟨t, rfl, by omega, by omega, ?_⟩⟩
    have g4 := g3.step st3 hB jb
    refine for_range (lo := 0) (n := t.toNat) (fun i σ H' => ∃ (u m : Option V) (mv : V) (md : PyData) (Ji : Hp), σ = [some (.ref b), some (.int pick), some mv, u, none, m, none] ∧ Gro b J H Ji H' ∧ Rp K Ji mv md ∧ Val (3 + i) (20 + 4 * i) md)
      ⟨none, none, v, d, J2, rfl, g4, hd, vd⟩ ?_ ?_
    · rintro i σ H4 hi ⟨u, m, mv, md, Ji, rfl, g, hmd, vmd⟩
      refine ⟨_, rfl, b, 2, rfl, g.st.bag, by decide, by decide, fun r H5 r0 r1 st5 => ⟨r, rfl, by omega, by omega, fun L hL => ?_⟩⟩
      have g5 := g.step st5 hB jb
      have hLH : H L = none := g5.st.free hB hL
      have Lb : L ≠ b := g5.st.ne hL
      refine lc_range (lo := 0) (n := r.toNat) (fun i H' => ∃ (Jk : Hp) (vs : List V) (ds : List PyData), Gro b J H Jk H' ∧ H' L = some (.lst vs) ∧ Jk L = none ∧ RpAll K Jk vs ds ∧ (∀ d ∈ ds, Val 1 3 d) ∧ vs.length = i ∧ Rp K Jk mv md)
        ⟨Ji, [], [], g5.new hL _, upd_same, g5.jh.free hL, .nil, (fun _ h => nomatch h), rfl, hmd⟩ ?_ ?_
      · rintro i H3 hi ⟨Jk, vs, ds, gk, hL3, jL, ha, va, vl, hm⟩
        refine ⟨rfl, _, rfl, b, Jk, 1, 3, rfl, gk.st.bag, gk.noBag hB jb, gk.jh, by decide, by decide, by decide, by decide, fun v d J3 H6 g6 hd vd => ?_⟩
        have jL2 : J3 L = none := g6.fr L (by rw [hL3]; simp) jL
        refine ⟨vs, g6.st.keep L _ Lb hL3, (by rw [sizeLine_eq]; omega), J3, vs ++ [v], ds ++ [d], (gk.trans g6 hB).mut hLH jL2 Lb _, upd_same, jL2, RpAll.append (rpAll_mono g6.jj ds vs ha) (RpAll.one hd), ?_, by rw [List.length_append, vl]; rfl, rp_mono g6.jj md mv hm⟩
        exact fun x hx => (List.mem_append.mp hx).elim (va x) fun hx => by rw [List.mem_singleton.mp hx]; exact vd
      · rintro H6 ⟨Jk, vs, ds, gk, hL6, jL, ha, va, vl, hm⟩
        have dl : vs.length = ds.length := RpAll.length ha
        have vmv := vmd.val
        have vmn := vmd.deep
        have vms := vmd.size
        have s3 := szAll_le (B := 3) fun d hd => (va d hd).size
        have done : ∀ (es : List PyData), (∀ d ∈ es, d = md ∨ d ∈ ds) → szAll es = szAll ds + szD md → Val (3 + (i + 1)) (20 + 4 * (i + 1)) (.list es) := by
          intro es he hs
          refine (Val.list (n := 3 + i) (m := 23 + 4 * i) (fun d hd => (he d hd).elim (fun z => by rw [z]; exact vmv) fun z => (va d z).val) (fun d hd => (he d hd).elim (fun z => by rw [z]; exact vmn) fun z => Nat.le_trans (va d z).deep (by omega)) (by omega)).mono (by omega) (by omega)
        refine ⟨_, rfl, b, 2, rfl, gk.st.bag, by decide, by decide, fun k H7 k0 k1 st7 => ⟨rfl, _, rfl, ?_⟩⟩
        have g7 := gk.step st7 hB jb
        have hL7 := st7.keep L _ Lb hL6
        refine ite2 (fun _ => ?_) (fun _ => ?_)
        · refine ⟨_, rfl, _, rfl, (by show 1 ≤ sizeLine; decide), fun p hp => ?_⟩
          refine ⟨L, p, vs, _, rfl, rfl, (by rw [upd_ne (ne_of_none hL7 hp)]; exact hL7), upd_same, (by show vs.length + 1 ≤ sizeLine; rw [sizeLine_eq]; omega), fun p2 hp2 => ?_⟩
          have g8 := (g7.new hp (.lst [mv])).add hB hp2 (.lst (vs ++ [mv]))
          have hj : Jk p2 = none := (g7.new hp (.lst [mv])).jh.free hp2
          refine ⟨_, _, _, .list (ds ++ [md]), _, rfl, g8, .lst upd_same (rpAll_mono (same_new hj _) _ _ (RpAll.append ha (RpAll.one hm))), done _ (fun d hd => (List.mem_append.mp hd).elim .inr fun z => .inl (List.mem_singleton.mp z)) ?_⟩
          rw [szAll_append]; simp only [szAll]; omega
        · refine ⟨_, rfl, (by show 1 ≤ sizeLine; decide), fun p hp => ⟨_, rfl, ?_⟩⟩
          refine ⟨p, L, _, vs, rfl, rfl, upd_same, (by rw [upd_ne (ne_of_none hL7 hp)]; exact hL7), (by show 1 + vs.length ≤ sizeLine; rw [sizeLine_eq]; omega), fun p2 hp2 => ?_⟩
          have g8 := (g7.new hp (.lst [mv])).add hB hp2 (.lst ([mv] ++ vs))
          have hj : Jk p2 = none := (g7.new hp (.lst [mv])).jh.free hp2
          refine ⟨_, _, _, .list ([md] ++ ds), _, rfl, g8, .lst upd_same (rpAll_mono (same_new hj _) _ _ (RpAll.append (RpAll.one hm) ha)), done _ (fun d hd => (List.mem_append.mp hd).elim (fun z => .inl (List.mem_singleton.mp z)) .inr) ?_⟩
          rw [szAll_append]; simp only [szAll]; omega
    · rintro σ H4 ⟨u, m, mv, md, Ji, rfl, g, hmd, vmd⟩
      exact ⟨_, rfl, q mv md Ji H4 g hmd (vmd.mono (by omega) (by omega))⟩
end
end Tx

namespace Tx
open PySem PySem.Spec PyProof.Rows L2
/-! ## Readings over data -/
abbrev DQ := PyData → Wd → Prop
abbrev DXK := Addr → List (Str × PyData) → Wd → Prop
abbrev DTE := DS → Wd → DQ → DXK → Prop
abbrev DTT := DS → Wd → (Bool → Wd → Prop) → DXK → Prop
abbrev DTA := DS → Wd → (List PyData → Wd → Prop) → DXK → Prop
structure DEnds where
  nx : DS → Wd → Prop
  rt : DQ
  bk : DS → Wd → Prop
  ct : DS → Wd → Prop
  xc : Addr → List (Str × PyData) → DS → Wd → Prop
abbrev DTS := DEnds → DS → Wd → Prop
/-- an error's own dict -/
def XdOk (K : PySem.W.Frag) (H0 J H : Hp) (ω : Wd) (d : Option Addr) (fs : List (Str × PyData)) : Prop :=
  match d with
  | none => fs = []
  | some dd => H0 dd = none ∧ J dd = none ∧ Fr ω dd ∧ ∃ gs, H dd = some (.xd gs) ∧ RpF K J gs fs
theorem XdOk.back {K : PySem.W.Frag} {H0 H1 J H : Hp} {ω : Wd} {d : Option Addr} {fs : List (Str × PyData)} (h : XdOk K H1 J H ω d fs) (k : ∀ a, H0 a ≠ none → H1 a ≠ none) : XdOk K H0 J H ω d fs := by
  cases d with
  | none => exact h
  | some dd =>
    refine ⟨?_, h.2⟩
    cases q : H0 dd with
    | none => rfl
    | some o => exact absurd h.1 (k dd (by rw [q]; simp))
section
variable (K : PySem.W.Frag) (J H : Hp) (ω : Wd)
def CovQ (q : DQ) (Q : VK) : Prop := ∀ r ω' v J' H', q r ω' → Grow J H ω J' H' ω' → Rw K J' H' ω' → Rp K J' v r → Q v H'
def CovT (q : Bool → Wd → Prop) (Q : Bool → Hp → Prop) : Prop := ∀ b ω' J' H', q b ω' → Grow J H ω J' H' ω' → Rw K J' H' ω' → Q b H'
def CovA (q : List PyData → Wd → Prop) (Q : List V → Hp → Prop) : Prop := ∀ rs ω' vs J' H', q rs ω' → Grow J H ω J' H' ω' → Rw K J' H' ω' → RpAll K J' vs rs → Q vs H'
def CovX (x : DXK) (E : XK) : Prop := ∀ C fs ω' d J' H', x C fs ω' → Grow J H ω J' H' ω' → Rw K J' H' ω' → XdOk K H J' H' ω' d fs → E (.ref C) d H'
structure CovS (W : WX) (DD : DEnds) (D : Ends) : Prop where
  nx : ∀ ρ' ω' σ' J' H', DD.nx ρ' ω' → Grow J H ω J' H' ω' → Rw K J' H' ω' → Sl K J' σ' ρ' → D.nx σ' H'
  bk : ∀ ρ' ω' σ' J' H', DD.bk ρ' ω' → Grow J H ω J' H' ω' → Rw K J' H' ω' → Sl K J' σ' ρ' → D.bk σ' H'
  ct : ∀ ρ' ω' σ' J' H', DD.ct ρ' ω' → Grow J H ω J' H' ω' → Rw K J' H' ω' → Sl K J' σ' ρ' → D.ct σ' H'
  rt : CovQ K J H ω DD.rt D.rt
  xc : ∀ C fs ρ' ω' d σ' J' H', DD.xc C fs ρ' ω' → Grow J H ω J' H' ω' → Rw K J' H' ω' → Sl K J' σ' ρ' → XdOk K H J' H' ω' d fs → W (.ref C) d σ' H'
end
section
variable {K : PySem.W.Frag} {J H J1 H1 : Hp} {ω ω1 : Wd}
theorem CovQ.step {q : DQ} {Q : VK} (c : CovQ K J H ω q Q) (g : Grow J H ω J1 H1 ω1) : CovQ K J1 H1 ω1 q Q := fun r ω' v J' H' z k w rp => c r ω' v J' H' z (g.trans k) w rp
theorem CovT.step {q : Bool → Wd → Prop} {Q : Bool → Hp → Prop} (c : CovT K J H ω q Q) (g : Grow J H ω J1 H1 ω1) : CovT K J1 H1 ω1 q Q := fun r ω' J' H' z k w => c r ω' J' H' z (g.trans k) w
theorem CovA.step {q : List PyData → Wd → Prop} {Q : List V → Hp → Prop} (c : CovA K J H ω q Q) (g : Grow J H ω J1 H1 ω1) : CovA K J1 H1 ω1 q Q := fun r ω' v J' H' z k w rp => c r ω' v J' H' z (g.trans k) w rp
theorem CovX.step {q : DXK} {E : XK} (c : CovX K J H ω q E) (g : Grow J H ω J1 H1 ω1) : CovX K J1 H1 ω1 q E := fun C fs ω' d J' H' z k w x => c C fs ω' d J' H' z (g.trans k) w (x.back g.dom)
theorem CovS.step {W : WX} {DD : DEnds} {D : Ends} (c : CovS K J H ω W DD D) (g : Grow J H ω J1 H1 ω1) : CovS K J1 H1 ω1 W DD D :=
  ⟨fun ρ' ω' σ' J' H' z k w s => c.nx ρ' ω' σ' J' H' z (g.trans k) w s, fun ρ' ω' σ' J' H' z k w s => c.bk ρ' ω' σ' J' H' z (g.trans k) w s, fun ρ' ω' σ' J' H' z k w s => c.ct ρ' ω' σ' J' H' z (g.trans k) w s, c.rt.step g,
    fun C fs ρ' ω' d σ' J' H' z k w s x => c.xc C fs ρ' ω' d σ' J' H' z (g.trans k) w s (x.back g.dom)⟩
theorem CovS.x {W : WX} {DD : DEnds} {D : Ends} (c : CovS K J H ω W DD D) {σ : L2.St} {ρ : DS} (s : Sl K J σ ρ) : CovX K J H ω (fun C fs ω' => DD.xc C fs ρ ω') (fun cl d H => W cl d σ H) :=
  fun C fs ω' d J' H' z k w x => c.xc C fs ρ ω' d σ J' H' z k w (s.mono k.jj) x
end
/-- an expression and its reading over data -/
structure DE (W : WX) (X : Cx) (K : PySem.W.Frag) (e : Expr) (td : DTE) : Prop where
  ex : ∃ t : TE, PE X e t ∧ ∀ σ H J ω ρ q x Q, Rw K J H ω → Sl K J σ ρ → CovQ K J H ω q Q → CovX K J H ω x (fun c d H => W c d σ H) → td ρ ω q x → t σ H Q
structure DT (W : WX) (X : Cx) (K : PySem.W.Frag) (e : Expr) (td : DTT) : Prop where
  ex : ∃ t : TT, PT X e t ∧ ∀ σ H J ω ρ q x Q, Rw K J H ω → Sl K J σ ρ → CovT K J H ω q Q → CovX K J H ω x (fun c d H => W c d σ H) → td ρ ω q x → t σ H Q
structure DW (W : WX) (X : Cx) (K : PySem.W.Frag) (e : Expr) (td : DTT) : Prop where
  ex : ∃ t : TT, PW X e t ∧ ∀ σ H J ω ρ q x Q, Rw K J H ω → Sl K J σ ρ → CovT K J H ω q Q → CovX K J H ω x (fun c d H => W c d σ H) → td ρ ω q x → t σ H Q
structure DAs (W : WX) (X : Cx) (K : PySem.W.Frag) (es : List Expr) (td : DTA) : Prop where
  ex : ∃ t : TA, PA X es t ∧ ∀ σ H J ω ρ q x Q, Rw K J H ω → Sl K J σ ρ → CovA K J H ω q Q → CovX K J H ω x (fun c d H => W c d σ H) → td ρ ω q x → t σ H Q
structure DSt (W : WX) (X : Cx) (K : PySem.W.Frag) (st : Stmt) (td : DTS) : Prop where
  ex : ∃ t : TS, PS X st t ∧ ∀ D DD σ H J ω ρ, Rw K J H ω → Sl K J σ ρ → CovS K J H ω W DD D → td DD ρ ω → t D σ H
structure DSs (W : WX) (X : Cx) (K : PySem.W.Frag) (st : List Stmt) (td : DTS) : Prop where
  ex : ∃ t : TS, PSs X st t ∧ ∀ D DD σ H J ω ρ, Rw K J H ω → Sl K J σ ρ → CovS K J H ω W DD D → td DD ρ ω → t D σ H
/-! ### what an operation does with data -/
/-- a list of one's own, read -/
def rsv (ω : Wd) : PyData → PyData
  | .dict [(.int i, .none)] => match ω i.toNat with
    | some (.lst ds) => .list ds
    | _ => .dict [(.int i, .none)]
  | d => d
/-- what is shown: cells at any depth of data -/
def cellD (ω : Wd) (a : Addr) : PyData := match ω a with
  | some (.lst ds) => .list ds
  | some (.tmp _ d) => d
  | _ => refD a
mutual
def full (ω : Wd) : PyData → PyData
  | .dict [(.int i, .none)] => cellD ω i.toNat
  | .list xs => .list (fullAll ω xs)
  | .tuple xs => .tuple (fullAll ω xs)
  | d => d
def fullAll (ω : Wd) : List PyData → List PyData
  | [] => []
  | x :: xs => full ω x :: fullAll ω xs
end
def Full (ω : Wd) (d e : PyData) : Prop := d = e ∨ full ω d = e
section
variable {K : PySem.W.Frag} {J H : Hp} {ω : Wd} {v : V} {d : PyData}
theorem rsv_cell {a : Addr} {ds : List PyData} (h : ω a = some (.lst ds)) : rsv ω (refD a) = .list ds := by
  show (match ω (((a : Nat) : Int).toNat) with | some (.lst ds) => PyData.list ds | _ => _) = _
  rw [Int.toNat_natCast, h]
/-- the list that is read: it stands in H -/
theorem rp_list {xs : List PyData} (w : Rw K J H ω) (h : Rp K J v d) (e : rsv ω d = .list xs) : ∃ a vs, v = .ref a ∧ H a = some (.lst vs) ∧ RpAll K J vs xs := by
  cases h with
  | non => cases e
  | bl b => cases e
  | int i => cases e
  | str x => cases e
  | lst hs ha => cases e; exact ⟨_, _, rfl, w.jh _ _ hs, ha⟩
  | tup hs ha => cases e
  | scr hs => cases e
  | pub _ => cases e
  | ref a =>
    have e2 : (match ω (((a : Nat) : Int).toNat) with | some (.lst ds) => PyData.list ds | _ => .dict [(.int ((a : Nat) : Int), .none)]) = .list xs := e
    rw [Int.toNat_natCast] at e2
    cases q : ω a with
    | none => rw [q] at e2; cases e2
    | some m =>
      rw [q] at e2
      cases m with
      | lst ds =>
        cases e2
        obtain ⟨vs, h1, h2⟩ := w.cell a _ q
        exact ⟨a, vs, rfl, h1, h2⟩
      | bag => cases e2
      | ins _ _ _ => cases e2
      | xd _ => cases e2
      | tmp _ _ => cases e2
      | ent _ _ _ _ _ => cases e2
theorem rp_tup {xs : List PyData} (w : Rw K J H ω) (h : Rp K J v d) (e : rsv ω d = .tuple xs) : ∃ a vs, v = .ref a ∧ SqT K H a vs ∧ RpAll K J vs xs ∧ Rp K J v (.tuple xs) := by
  cases h with
  | non => cases e
  | bl b => cases e
  | int i => cases e
  | str x => cases e
  | lst hs ha => cases e
  | tup hs ha => cases e; exact ⟨_, _, rfl, Same.sqT w.jh hs, ha, .tup hs ha⟩
  | scr hs => cases e
  | pub _ => cases e
  | ref a =>
    have e2 : (match ω (((a : Nat) : Int).toNat) with | some (.lst ds) => PyData.list ds | _ => .dict [(.int ((a : Nat) : Int), .none)]) = .tuple xs := e
    split at e2 <;> cases e2
theorem rp_flat (h : Rp K J v d) : (∀ z, rsv ω d = .str z → v = .str z) ∧ (∀ i, rsv ω d = .int i → v = .int i) ∧ (∀ b, rsv ω d = .bool b → v = .bl b) ∧ (rsv ω d = .none → v = .non) := by
  cases h with
  | ref a =>
    have e2 : rsv ω (refD a) = (match ω (((a : Nat) : Int).toNat) with | some (.lst ds) => PyData.list ds | _ => .dict [(.int ((a : Nat) : Int), .none)]) := rfl
    refine ⟨fun z e => ?_, fun z e => ?_, fun z e => ?_, fun e => ?_⟩ <;> (rw [e2] at e; split at e <;> cases e)
  | non => refine ⟨fun z e => ?_, fun z e => ?_, fun z e => ?_, fun e => ?_⟩ <;> (cases e <;> rfl)
  | bl b => refine ⟨fun z e => ?_, fun z e => ?_, fun z e => ?_, fun e => ?_⟩ <;> (cases e <;> rfl)
  | int i => refine ⟨fun z e => ?_, fun z e => ?_, fun z e => ?_, fun e => ?_⟩ <;> (cases e <;> rfl)
  | str x => refine ⟨fun z e => ?_, fun z e => ?_, fun z e => ?_, fun e => ?_⟩ <;> (cases e <;> rfl)
  | lst _ _ => refine ⟨fun z e => ?_, fun z e => ?_, fun z e => ?_, fun e => ?_⟩ <;> (cases e <;> rfl)
  | tup _ _ => refine ⟨fun z e => ?_, fun z e => ?_, fun z e => ?_, fun e => ?_⟩ <;> (cases e <;> rfl)
  | scr _ => refine ⟨fun z e => ?_, fun z e => ?_, fun z e => ?_, fun e => ?_⟩ <;> (cases e <;> rfl)
  | pub _ => refine ⟨fun z e => ?_, fun z e => ?_, fun z e => ?_, fun e => ?_⟩ <;> (cases e <;> rfl)
/-- data that is read, for the rules of the kit -/
theorem rp_rsv (w : Rw K J H ω) (h : Rp K J v d) (c : (rsv ω d).canLay0 = true) : Dp K H v (rsv ω d) := by
  cases h with
  | non => exact .non
  | bl b => exact .bl b
  | int i => exact .int i
  | str x => exact .str x
  | lst hs ha => exact dp_mono w.jh _ _ (rp_dp _ _ c (.lst hs ha))
  | tup hs ha => exact dp_mono w.jh _ _ (rp_dp _ _ c (.tup hs ha))
  | scr hs => simp [rsv, PyData.canLay0] at c
  | pub _ => simp [rsv, PyData.canLay0] at c
  | ref a =>
    cases e : rsv ω (refD a) with
    | list xs =>
      obtain ⟨b, vs, e1, e2, e3⟩ := rp_list w (.ref a) e
      rw [e] at c
      cases e1
      exact .lst (SqL.of e2) (dpAll_mono w.jh _ _ (rpAll_dp _ _ (by simpa only [PyData.canLay0] using c) e3))
    | dict _ => rw [e] at c; simp [PyData.canLay0] at c
    | none => have := (rp_flat (ω := ω) (Rp.ref (K := K) (J := J) a)).2.2.2 e; cases this
    | bool b => have := (rp_flat (ω := ω) (Rp.ref (K := K) (J := J) a)).2.2.1 b e; cases this
    | int b => have := (rp_flat (ω := ω) (Rp.ref (K := K) (J := J) a)).2.1 b e; cases this
    | str b => have := (rp_flat (ω := ω) (Rp.ref (K := K) (J := J) a)).1 b e; cases this
    | tuple b =>
      have e2 : rsv ω (refD a) = (match ω (((a : Nat) : Int).toNat) with | some (.lst ds) => PyData.list ds | _ => .dict [(.int ((a : Nat) : Int), .none)]) := rfl
      rw [e2] at e
      split at e <;> cases e
end
section
variable {K : PySem.W.Frag} {J H : Hp} {ω : Wd}
theorem cellD_dp (w : Rw K J H ω) (a : Addr) (c : (cellD ω a).canLay0 = true) : Dp K H (.ref a) (cellD ω a) := by
  unfold cellD at c ⊢
  split at c
  · rename_i ds e
    obtain ⟨vs, h1, h2⟩ := w.cell a _ e
    exact .lst (SqL.of h1) (dpAll_mono w.jh _ _ (rpAll_dp _ _ (by simpa only [PyData.canLay0] using c) h2))
  · rename_i N d e
    obtain ⟨s, r, _⟩ := w.cell a _ e
    exact dp_mono s _ _ (rp_dp _ _ c r)
  · simp [PyData.canLay0] at c
mutual
theorem full_dp (w : Rw K J H ω) : ∀ (d : PyData) (v : V), (full ω d).canLay0 = true → Rp K J v d → Dp K H v (full ω d)
  | .none, _, _, h => by cases h; simp only [full]; exact .non
  | .bool b, _, _, h => by cases h; simp only [full]; exact .bl b
  | .int i, _, _, h => by cases h; simp only [full]; exact .int i
  | .str x, _, _, h => by cases h; simp only [full]; exact .str x
  | .list ds, _, c, h => by
    cases h with
    | lst hs ha =>
      simp only [full] at c ⊢
      exact .lst (SqL.of (w.jh _ _ hs)) (fullAll_dp w ds _ (by simpa only [PyData.canLay0] using c) ha)
  | .tuple ds, _, c, h => by
    cases h with
    | tup hs ha =>
      simp only [full] at c ⊢
      exact .tup (Same.sqT w.jh hs) (fullAll_dp w ds _ (by simpa only [PyData.canLay0] using c) ha)
  | .dict _, _, c, h => by
    cases h with
    | ref a =>
      simp only [full, Int.toNat_natCast] at c ⊢
      exact cellD_dp w _ c
    | scr hs => simp [full, PyData.canLay0] at c
    | pub _ => simp [full, PyData.canLay0] at c
theorem fullAll_dp (w : Rw K J H ω) : ∀ (ds : List PyData) (vs : List V), PyData.canLayAll0 (fullAll ω ds) = true → RpAll K J vs ds → DpAll K H vs (fullAll ω ds)
  | [], _, _, h => by cases h; simp only [fullAll]; exact .nil
  | d :: ds, _, c, h => by
    simp only [fullAll, PyData.canLayAll0, Bool.and_eq_true] at c
    cases h with
    | cons h1 h2 => simp only [fullAll]; exact .cons (full_dp w d _ c.1 h1) (fullAll_dp w ds _ c.2 h2)
end
theorem Full.dp {v : V} {d e : PyData} (h : Full ω d e) (w : Rw K J H ω) (r : Rp K J v d) (c : e.canLay0 = true) : Dp K H v e := by
  rcases h with rfl | rfl
  · exact dp_mono w.jh _ _ (rp_dp _ _ c r)
  · exact full_dp w d v c r
theorem Full.rfl' {d : PyData} : Full ω d d := .inl rfl
theorem Full.cell {a : Addr} {ds : List PyData} (h : ω a = some (.lst ds)) : Full ω (refD a) (.list ds) := .inr (by simp only [full, Int.toNat_natCast, cellD, h])
theorem Full.tmp {a : Addr} {N : Hp} {d : PyData} (h : ω a = some (.tmp N d)) : Full ω (refD a) d := .inr (by simp only [full, Int.toNat_natCast, cellD, h])
end
abbrev RD2 := PyData → PyData → Wd → (PyData → Prop) → Prop
abbrev RD1 := List PyData → Wd → (PyData → Prop) → Prop
def lift2 (K : PySem.W.Frag) (rd : RD2) : R2 := fun x y H Q => ∃ J ω dx dy q, Rw K J H ω ∧ Rp K J x dx ∧ Rp K J y dy ∧ CovQ K J H ω q Q ∧ rd dx dy ω fun r => q r ω
def liftA (K : PySem.W.Frag) (rd : RD1) : List V → Hp → VK → Prop := fun xs H Q => ∃ J ω ds q, Rw K J H ω ∧ RpAll K J xs ds ∧ CovQ K J H ω q Q ∧ rd ds ω fun r => q r ω
def lift3 (K : PySem.W.Frag) (rd : PyData → Option Int → Option Int → Wd → (PyData → Prop) → Prop) : V → Option Int → Option Int → Hp → VK → Prop := fun x lo hi H Q =>
  ∃ J ω dx q, Rw K J H ω ∧ Rp K J x dx ∧ CovQ K J H ω q Q ∧ rd dx lo hi ω fun r => q r ω
section
variable {K : PySem.W.Frag} {J H : Hp} {ω : Wd} {q : DQ} {Q : VK} {v : V} {d : PyData} {vs : List V} {ds : List PyData}
theorem CovQ.now (c : CovQ K J H ω q Q) (w : Rw K J H ω) (z : q d ω) (r : Rp K J v d) : Q v H := c d ω v J H z Grow.refl w r
theorem CovQ.newL (c : CovQ K J H ω q Q) (w : Rw K J H ω) (z : q (.list ds) ω) (r : RpAll K J vs ds) {p : Addr} (hp : H p = none) : Q (.ref p) (upd H p (.lst vs)) :=
  c _ ω _ _ _ z (Grow.frz w hp _) (w.frz hp _) (.lst upd_same (rpAll_mono (same_new (w.jh.free hp) _) _ _ r))
theorem CovQ.newT (c : CovQ K J H ω q Q) (w : Rw K J H ω) (z : q (.tuple ds) ω) (r : RpAll K J vs ds) {p : Addr} (hp : H p = none) : Q (.ref p) (upd H p (.tup vs)) :=
  c _ ω _ _ _ z (Grow.frz w hp _) (w.frz hp _) (.tup (SqT.of upd_same) (rpAll_mono (same_new (w.jh.free hp) _) _ _ r))
end
def addD : RD2 := fun x y ω Q => match rsv ω x, rsv ω y with
  | .int i, .int j => Q (.int (i + j))
  | .str a, .str b => a.length + b.length ≤ sizeLine ∧ Q (.str (a ++ b))
  | .list xs, .list ys => xs.length + ys.length ≤ sizeLine ∧ Q (.list (xs ++ ys))
  | .tuple xs, .tuple ys => xs.length + ys.length ≤ sizeLine ∧ Q (.tuple (xs ++ ys))
  | _, _ => False
def intD (P : Int → Int → Prop) (f : Int → Int → PyData) : RD2 := fun x y _ Q => match x, y with
  | .int i, .int j => P i j ∧ Q (f i j)
  | _, _ => False
def eqD : RD2 := fun x y ω Q => match x, y with
  | .str a, .str b => Q (.bool (decide (a = b)))
  | .int a, .int b => Q (.bool (decide (a = b)))
  | x, y => ∃ d e, Full ω x d ∧ Full ω y e ∧ SeqAt.shaped d = true ∧ SeqAt.shaped e = true ∧ Q (.bool (PyData.eqv d e))
def neD : RD2 := fun x y ω Q => match x, y with
  | .str a, .str b => Q (.bool (!decide (a = b)))
  | .int a, .int b => Q (.bool (!decide (a = b)))
  | x, y => ∃ d e, Full ω x d ∧ Full ω y e ∧ SeqAt.shaped d = true ∧ SeqAt.shaped e = true ∧ Q (.bool (!PyData.eqv d e))
def isNn : PyData → Bool
  | .none => true
  | _ => false
def isND : RD2 := fun x y _ Q => y = .none ∧ Q (.bool (isNn x))
def notND : RD2 := fun x y _ Q => y = .none ∧ Q (.bool (!isNn x))
def ixD : RD2 := fun x y ω Q => match rsv ω x, y with
  | .list xs, .int i => ∃ d, atI xs i = some d ∧ Q d
  | .tuple xs, .int i => ∃ d, atI xs i = some d ∧ Q d
  | .str z, .int i => z.length ≤ sizeLine ∧ ∃ c, atI z.cps.toList i = some c ∧ Q (.str ⟨#[c]⟩)
  | _, _ => False
def cutD {α : Type} (xs : List α) (lo hi : Option Int) : List α := (xs.drop (HT.sIx xs.length 0 lo)).take (HT.sIx xs.length xs.length hi - HT.sIx xs.length 0 lo)
def slD : PyData → Option Int → Option Int → Wd → (PyData → Prop) → Prop := fun x lo hi ω Q => match rsv ω x with
  | .list xs => Q (.list (cutD xs lo hi))
  | .tuple xs => Q (.tuple (cutD xs lo hi))
  | .str z => z.length ≤ sizeLine ∧ Q (.str (cutS z lo hi))
  | _ => False
def lenD : RD1 := fun xs ω Q => match xs with
  | [x] => match rsv ω x with
    | .list ys => Q (.int ys.length)
    | .tuple ys => Q (.int ys.length)
    | .str z => z.length ≤ sizeLine ∧ Q (.int z.length)
    | .dict [(.int _, .list ys)] => Q (.int ys.length)
    | _ => False
  | _ => False
def reprD : RD1 := fun xs ω Q => match xs with
  | [x] => ∃ d, Full ω x d ∧ Ok d ∧ Q (.str d.shown)
  | _ => False
def listD : RD1 := fun xs ω Q => match xs with
  | [x] => match rsv ω x with
    | .list ys => Q (.list ys)
    | .tuple ys => Q (.list ys)
    | .str z => z.length ≤ sizeLine ∧ Q (.list (z.cps.toList.map fun c => .str ⟨#[c]⟩))
    | _ => False
  | _ => False
def tupleD : RD1 := fun xs ω Q => match xs with
  | [x] => match rsv ω x with
    | .list ys => Q (.tuple ys)
    | .tuple ys => Q (.tuple ys)
    | _ => False
  | _ => False
def sumD : RD1 := fun xs ω Q => ∃ (x : PyData) (ns : List Int), xs = [x] ∧ rsv ω x = .list (ns.map PyData.int) ∧ Q (.int ns.sum)
def allD : RD1 := fun xs ω Q => ∃ (x : PyData) (bs : List Bool), xs = [x] ∧ rsv ω x = .list (bs.map PyData.bool) ∧ Q (.bool (bs.all id))
def anyD : RD1 := fun xs ω Q => ∃ (x : PyData) (bs : List Bool), xs = [x] ∧ rsv ω x = .list (bs.map PyData.bool) ∧ Q (.bool (bs.any id))
theorem rpAll_cut {K : PySem.W.Frag} {J : Hp} {vs : List V} {ds : List PyData} (h : RpAll K J vs ds) (lo hi : Option Int) : RpAll K J (cutV vs lo hi) (cutD ds lo hi) := by
  unfold cutV cutD
  rw [h.length]
  exact RpAll.take _ (RpAll.drop _ h)
theorem atI_rp {K : PySem.W.Frag} {J : Hp} {vs : List V} {ds : List PyData} {i : Int} {d : PyData} (h : RpAll K J vs ds) (e : atI ds i = some d) : ∃ v, atI vs i = some v ∧ Rp K J v d := by
  unfold atI at e ⊢
  rw [h.length]
  cases q : ixN ds.length i with
  | none => rw [q] at e; cases e
  | some j =>
    rw [q] at e
    exact h.getD e
theorem rpAll_ints {K : PySem.W.Frag} {J : Hp} : ∀ {ns : List Int} {vs : List V}, RpAll K J vs (ns.map PyData.int) → vs = ns.map V.int
  | [], _, h => by cases h; rfl
  | n :: ns, _, h => by
    cases h with
    | cons h1 h2 => cases h1; rw [rpAll_ints h2]; rfl
theorem rpAll_bls {K : PySem.W.Frag} {J : Hp} : ∀ {ns : List Bool} {vs : List V}, RpAll K J vs (ns.map PyData.bool) → vs = ns.map V.bl
  | [], _, h => by cases h; rfl
  | n :: ns, _, h => by
    cases h with
    | cons h1 h2 => cases h1; rw [rpAll_bls h2]; rfl
section
variable {X : Cx} {K : PySem.W.Frag}
theorem do_add (hK : X.K = K) : OpR X (binaryOp .Add) (lift2 K addD) := by
  subst hK
  intro pins s σ H x y v u Q I rx ry h
  obtain ⟨J, ω, dx, dy, q, w, hx, hy, c, z⟩ := h
  unfold addD at z
  split at z
  · rename_i i j ex ey
    obtain rfl := (rp_flat (ω := ω) hx).2.1 _ ex
    obtain rfl := (rp_flat (ω := ω) hy).2.1 _ ey
    exact op_add pins s σ H _ _ v u Q I rx ry ⟨i, j, rfl, rfl, c.now w z (.int _)⟩
  · rename_i i j ex ey
    obtain rfl := (rp_flat (ω := ω) hx).1 _ ex
    obtain rfl := (rp_flat (ω := ω) hy).1 _ ey
    exact op_add_str pins s σ H _ _ v u Q I rx ry ⟨i, j, rfl, rfl, z.1, c.now w z.2 (.str _)⟩
  · rename_i xs ys ex ey
    obtain ⟨a, vs, rfl, ha, ra⟩ := rp_list w hx ex
    obtain ⟨b, ws, rfl, hb, rb⟩ := rp_list w hy ey
    exact op_cat pins s σ H _ _ v u Q I rx ry ⟨a, b, vs, ws, rfl, rfl, ha, hb, by rw [ra.length, rb.length]; exact z.1, fun p hp => c.newL w z.2 (ra.append rb) hp⟩
  · rename_i xs ys ex ey
    obtain ⟨a, vs, rfl, ha, ra, rx2⟩ := rp_tup w hx ex
    obtain ⟨b, ws, rfl, hb, rb, ry2⟩ := rp_tup w hy ey
    refine op_catA pins s σ H _ _ v u Q I rx ry ⟨a, b, vs, ws, rfl, rfl, ha, hb, by rw [ra.length, rb.length]; exact z.1, fun e => ?_, fun _ e => ?_, fun _ _ p hp => c.newT w z.2 (ra.append rb) hp⟩
    · subst e; cases ra; exact c.now w z.2 ry2
    · subst e; cases rb; rw [List.append_nil] at z; exact c.now w z.2 rx2
  · exact False.elim z
theorem do_int {f : Value → Value → Sem Value} {C : Int → Int → Prop} {g : Int → Int → V} {P : Int → Int → Prop} {r : Int → Int → PyData} (o : OpR X f (rI C g)) (hK : X.K = K) (hc : ∀ i j, P i j → C i j) (hr : ∀ J i j, Rp K J (g i j) (r i j)) : OpR X f (lift2 K (intD P r)) := by
  intro pins s σ H x y v u Q I rx ry h
  obtain ⟨J, ω, dx, dy, q, w, hx, hy, c, z⟩ := h
  unfold intD at z
  split at z
  · cases hx; cases hy
    exact o pins s σ H _ _ v u Q I rx ry ⟨_, _, rfl, rfl, hc _ _ z.1, c.now w z.2 (hr _ _ _)⟩
  · exact False.elim z
theorem do_int0 {f : Value → Value → Sem Value} {g : Int → Int → V} {r : Int → Int → PyData} (o : OpR X f (rI0 g)) (hK : X.K = K) (hr : ∀ J i j, Rp K J (g i j) (r i j)) : OpR X f (lift2 K (intD (fun _ _ => True) r)) := by
  intro pins s σ H x y v u Q I rx ry h
  obtain ⟨J, ω, dx, dy, q, w, hx, hy, c, z⟩ := h
  unfold intD at z
  split at z
  · cases hx; cases hy
    exact o pins s σ H _ _ v u Q I rx ry ⟨_, _, rfl, rfl, c.now w z.2 (hr _ _ _)⟩
  · exact False.elim z
theorem do_sub (hK : X.K = K) : OpR X (binaryOp .Sub) (lift2 K (intD (fun _ _ => True) fun i j => .int (i - j))) := do_int0 op_sub hK fun _ _ _ => .int _
theorem do_mul (hK : X.K = K) : OpR X (binaryOp .Mult) (lift2 K (intD CMul fun i j => .int (i * j))) := do_int op_mul hK (fun _ _ h => h) fun _ _ _ => .int _
theorem do_mod (hK : X.K = K) : OpR X (binaryOp .Mod) (lift2 K (intD (fun _ j => 0 < j) fun i j => .int (i % j))) := do_int op_mod hK (fun _ _ h => h) fun _ _ _ => .int _
theorem do_fdiv (hK : X.K = K) : OpR X (binaryOp .FloorDiv) (lift2 K (intD CDiv fun i j => .int (i / j))) := do_int op_fdiv hK (fun _ _ h => h) fun _ _ _ => .int _
theorem do_lt (hK : X.K = K) : OpR X (compareOp .Lt) (lift2 K (intD (fun _ _ => True) fun i j => .bool (decide (i < j)))) := do_int0 op_lt hK fun _ _ _ => .bl _
theorem do_le (hK : X.K = K) : OpR X (compareOp .LtE) (lift2 K (intD (fun _ _ => True) fun i j => .bool (decide (i ≤ j)))) := do_int0 op_le hK fun _ _ _ => .bl _
theorem do_gt (hK : X.K = K) : OpR X (compareOp .Gt) (lift2 K (intD (fun _ _ => True) fun i j => .bool (decide (j < i)))) := do_int0 op_gt hK fun _ _ _ => .bl _
theorem do_ge (hK : X.K = K) : OpR X (compareOp .GtE) (lift2 K (intD (fun _ _ => True) fun i j => .bool (decide (j ≤ i)))) := do_int0 op_ge hK fun _ _ _ => .bl _
theorem shaped_lay {d : PyData} (h : SeqAt.shaped d = true) : d.canLay0 = true := by
  unfold SeqAt.shaped at h
  exact (Bool.and_eq_true _ _ ▸ h).1
theorem do_eq (hK : X.K = K) (hu : X.A.units + 64 < cLine) : OpR X (compareOp .Eq) (lift2 K eqD) := by
  subst hK
  intro pins s σ H x y v u Q I rx ry h
  obtain ⟨J, ω, dx, dy, q, w, hx, hy, c, z⟩ := h
  unfold eqD at z
  split at z
  · cases hx; cases hy
    refine op_eq pins s σ H _ _ v u Q I rx ry ⟨rfl, ?_⟩
    rename_i a b
    rw [show decide (V.str a = V.str b) = decide (a = b) from decide_eq_decide.mpr ⟨fun h => V.str.inj h, fun h => by rw [h]⟩]
    exact c.now w z (.bl _)
  · cases hx; cases hy
    refine op_eq pins s σ H _ _ v u Q I rx ry ⟨rfl, ?_⟩
    rename_i a b
    rw [show decide (V.int a = V.int b) = decide (a = b) from decide_eq_decide.mpr ⟨fun h => V.int.inj h, fun h => by rw [h]⟩]
    exact c.now w z (.bl _)
  · obtain ⟨d1, d2, f1, f2, z1, z2, z⟩ := z
    exact op_eqD hu pins s σ H _ _ v u Q I rx ry ⟨_, _, f1.dp w hx (shaped_lay z1), f2.dp w hy (shaped_lay z2), z1, z2, c.now w z (.bl _)⟩
theorem do_ne (hK : X.K = K) (hu : X.A.units + 64 < cLine) : OpR X (compareOp .NotEq) (lift2 K neD) := by
  subst hK
  intro pins s σ H x y v u Q I rx ry h
  obtain ⟨J, ω, dx, dy, q, w, hx, hy, c, z⟩ := h
  unfold neD at z
  split at z
  · cases hx; cases hy
    refine op_ne pins s σ H _ _ v u Q I rx ry ⟨rfl, ?_⟩
    rename_i a b
    rw [show decide (V.str a = V.str b) = decide (a = b) from decide_eq_decide.mpr ⟨fun h => V.str.inj h, fun h => by rw [h]⟩]
    exact c.now w z (.bl _)
  · cases hx; cases hy
    refine op_ne pins s σ H _ _ v u Q I rx ry ⟨rfl, ?_⟩
    rename_i a b
    rw [show decide (V.int a = V.int b) = decide (a = b) from decide_eq_decide.mpr ⟨fun h => V.int.inj h, fun h => by rw [h]⟩]
    exact c.now w z (.bl _)
  · obtain ⟨d1, d2, f1, f2, z1, z2, z⟩ := z
    exact op_neD hu pins s σ H _ _ v u Q I rx ry ⟨_, _, f1.dp w hx (shaped_lay z1), f2.dp w hy (shaped_lay z2), z1, z2, c.now w z (.bl _)⟩
theorem isNn_eq {J : Hp} {v : V} {d : PyData} (h : Rp K J v d) : decide (v = .non) = isNn d := by
  cases h <;> first | rfl | exact decide_eq_false (fun e => nomatch e)
theorem do_is (hK : X.K = K) : OpR X (compareOp .Is) (lift2 K isND) := by
  intro pins s σ H x y v u Q I rx ry h
  obtain ⟨J, ω, dx, dy, q, w, hx, hy, c, rfl, z⟩ := h
  cases hy
  exact op_isN pins s σ H _ _ v u Q I rx ry ⟨rfl, by rw [isNn_eq hx]; exact c.now w z (.bl _)⟩
theorem do_isnot (hK : X.K = K) : OpR X (compareOp .IsNot) (lift2 K notND) := by
  intro pins s σ H x y v u Q I rx ry h
  obtain ⟨J, ω, dx, dy, q, w, hx, hy, c, rfl, z⟩ := h
  cases hy
  exact op_notN pins s σ H _ _ v u Q I rx ry ⟨rfl, by rw [isNn_eq hx]; exact c.now w z (.bl _)⟩
theorem do_ix (hK : X.K = K) : IxR X (lift2 K ixD) := by
  subst hK
  intro value slice pins s σ H x y v u Q I rx ry h hs
  obtain ⟨J, ω, dx, dy, q, w, hx, hy, c, z⟩ := h
  unfold ixD at z
  split at z
  · rename_i xs i ex
    cases hy
    obtain ⟨d, z1, z⟩ := z
    obtain ⟨a, vs, rfl, ha, ra⟩ := rp_list w hx ex
    obtain ⟨y, e1, e2⟩ := atI_rp ra z1
    exact ix_list value slice pins s σ H _ _ v u Q I rx ry ⟨a, vs, i, y, rfl, rfl, SqL.of ha, e1, c.now w z e2⟩ hs
  · rename_i xs i ex
    cases hy
    obtain ⟨d, z1, z⟩ := z
    obtain ⟨a, vs, rfl, ha, ra, _⟩ := rp_tup w hx ex
    obtain ⟨y, e1, e2⟩ := atI_rp ra z1
    exact ix_tup value slice pins s σ H _ _ v u Q I rx ry ⟨a, vs, i, y, rfl, rfl, ha, e1, c.now w z e2⟩ hs
  · rename_i zz i ex
    cases hy
    obtain ⟨z0, cc, z1, z⟩ := z
    obtain rfl := (rp_flat (ω := ω) hx).1 _ ex
    exact ix_str value slice pins s σ H _ _ v u Q I rx ry ⟨zz, i, cc, rfl, rfl, z0, z1, c.now w z (.str _)⟩ hs
  · exact False.elim z
theorem do_sl (hK : X.K = K) : SlR X (lift3 K slD) := by
  subst hK
  intro pins s σ H x v vl vu lo hi sl Q I rx hs pl pu h
  obtain ⟨J, ω, dx, q, w, hx, c, z⟩ := h
  unfold slD at z
  split at z
  · rename_i xs ex
    obtain ⟨a, vs, rfl, ha, ra⟩ := rp_list w hx ex
    exact sl_list pins s σ H _ v vl vu lo hi sl Q I rx hs pl pu ⟨a, vs, rfl, SqL.of ha, fun p hp => c.newL w z (rpAll_cut ra lo hi) hp⟩
  · rename_i xs ex
    obtain ⟨a, vs, rfl, ha, ra, rt⟩ := rp_tup w hx ex
    refine sl_tupA pins s σ H _ v vl vu lo hi sl Q I rx hs pl pu ⟨a, vs, rfl, ha, fun e => ?_, fun _ p hp => c.newT w z (rpAll_cut ra lo hi) hp⟩
    have e1 : cutD xs lo hi = xs := by
      unfold cutD
      rw [← ra.length, e.1, e.2, List.drop_zero, Nat.sub_zero, ra.length, List.take_length]
    rw [e1] at z
    exact c.now w z rt
  · rename_i zz ex
    obtain rfl := (rp_flat (ω := ω) hx).1 _ ex
    exact sl_str pins s σ H _ v vl vu lo hi sl Q I rx hs pl pu ⟨zz, rfl, z.1, c.now w z.2 (.str _)⟩
  · exact False.elim z
theorem dc_len (hK : X.K = K) : CallR X (.builtin "len") (liftA K lenD) := by
  subst hK
  intro pins s σ H xs us Q I rel h
  obtain ⟨J, ω, ds, q, w, hx, c, z⟩ := h
  unfold lenD at z
  split at z
  · rename_i x
    cases hx with
    | cons hx h0 =>
    cases h0
    split at z
    · rename_i ys ex
      obtain ⟨a, vs, rfl, ha, ra⟩ := rp_list w hx ex
      exact call_len_seq pins s σ H _ us Q I rel ⟨a, vs, rfl, .inl (SqL.of ha), by rw [ra.length]; exact c.now w z (.int _)⟩
    · rename_i ys ex
      obtain ⟨a, vs, rfl, ha, ra, _⟩ := rp_tup w hx ex
      exact call_len_seq pins s σ H _ us Q I rel ⟨a, vs, rfl, .inr ha, by rw [ra.length]; exact c.now w z (.int _)⟩
    · rename_i zz ex
      obtain rfl := (rp_flat (ω := ω) hx).1 _ ex
      exact call_len_str pins s σ H _ us Q I rel ⟨zz, rfl, z.1, c.now w z.2 (.int _)⟩
    · rename_i i0 ys ex
      have key : ∀ (d : PyData) (v : V), Rp X.K J v d → rsv ω d = .dict [(.int i0, .list ys)] → ∃ (a : Addr) (ns : List Int), v = .ref a ∧ SqL X.K J a (ns.map V.int) ∧ ys = ns.map PyData.int := by
        intro d v h e
        cases h with
        | ref a =>
          have e2 : (match ω (((a : Nat) : Int).toNat) with | some (.lst ds) => PyData.list ds | _ => .dict [(.int ((a : Nat) : Int), .none)]) = _ := e
          split at e2 <;> cases e2
        | scr hs => cases e; exact ⟨_, _, rfl, hs, rfl⟩
        | pub _ => cases e
        | non => cases e
        | bl _ => cases e
        | int _ => cases e
        | str _ => cases e
        | lst _ _ => cases e
        | tup _ _ => cases e
      obtain ⟨a, ns, rfl, hs, rfl⟩ := key _ _ hx ex
      refine call_len_seq pins s σ H _ us Q I rel ⟨a, _, rfl, .inl (w.jh.seq hs), ?_⟩
      rw [List.length_map] at z ⊢
      exact c.now w z (.int _)
    · exact False.elim z
  · exact False.elim z
theorem dc_repr (hK : X.K = K) (gd : X.A.guards = some []) (hu : X.A.units + 64 < cLine) : CallR X (.builtin "repr") (liftA K reprD) := by
  subst hK
  intro pins s σ H xs us Q I rel h
  obtain ⟨J, ω, ds, q, w, hx, c, z⟩ := h
  unfold reprD at z
  split at z
  · cases hx with
    | cons hx h0 =>
    cases h0
    obtain ⟨d, f, ok, z⟩ := z
    exact call_repr gd hu pins s σ H _ us Q I rel ⟨_, _, rfl, f.dp w hx (fine_lay _ ok.1), ok, c.now w z (.str _)⟩
  · exact False.elim z
theorem dc_list (hK : X.K = K) (hc : X.calm = true) : CallR X (.type "list") (liftA K listD) := by
  subst hK
  intro pins s σ H xs us Q I rel h
  obtain ⟨J, ω, ds, q, w, hx, c, z⟩ := h
  unfold listD at z
  split at z
  · cases hx with
    | cons hx h0 =>
    cases h0
    split at z
    · rename_i ys ex
      obtain ⟨a, vs, rfl, ha, ra⟩ := rp_list w hx ex
      exact call_list_of pins s σ H _ us Q I rel ⟨a, vs, rfl, .inl (SqL.of ha), fun p hp => c.newL w z ra hp⟩
    · rename_i ys ex
      obtain ⟨a, vs, rfl, ha, ra, _⟩ := rp_tup w hx ex
      exact call_list_of pins s σ H _ us Q I rel ⟨a, vs, rfl, .inr ha, fun p hp => c.newL w z ra hp⟩
    · rename_i zz ex
      obtain rfl := (rp_flat (ω := ω) hx).1 _ ex
      exact call_listS hc pins s σ H _ us Q I rel ⟨zz, rfl, z.1, fun p hp => c.newL w z.2 (rpAll_sgn zz) hp⟩
    · exact False.elim z
  · exact False.elim z
theorem dc_tuple (hK : X.K = K) : CallR X (.type "tuple") (liftA K tupleD) := by
  subst hK
  intro pins s σ H xs us Q I rel h
  obtain ⟨J, ω, ds, q, w, hx, c, z⟩ := h
  unfold tupleD at z
  split at z
  · cases hx with
    | cons hx h0 =>
    cases h0
    split at z
    · rename_i ys ex
      obtain ⟨a, vs, rfl, ha, ra⟩ := rp_list w hx ex
      exact call_tuple_of pins s σ H _ us Q I rel ⟨a, vs, rfl, .inl ⟨SqL.of ha, fun p hp => c.newT w z ra hp⟩⟩
    · rename_i ys ex
      obtain ⟨a, vs, rfl, ha, ra, rt⟩ := rp_tup w hx ex
      exact call_tuple_of pins s σ H _ us Q I rel ⟨a, vs, rfl, .inr ⟨ha, c.now w z rt⟩⟩
    · exact False.elim z
  · exact False.elim z
theorem dc_sum (hK : X.K = K) (hc : X.calm = true) : CallR X (.builtin "sum") (liftA K sumD) := by
  subst hK
  intro pins s σ H xs us Q I rel h
  obtain ⟨J, ω, ds, q, w, hx, c, x, ns, rfl, ex, z⟩ := h
  cases hx with
  | cons hx h0 =>
  cases h0
  obtain ⟨a, vs, rfl, ha, ra⟩ := rp_list w hx ex
  rw [rpAll_ints ra] at ha
  exact cr_sum hc pins s σ H _ us Q I rel ⟨a, ns, rfl, SqL.of ha, c.now w z (.int _)⟩
theorem dc_all (hK : X.K = K) (hc : X.calm = true) : CallR X (.builtin "all") (liftA K allD) := by
  subst hK
  intro pins s σ H xs us Q I rel h
  obtain ⟨J, ω, ds, q, w, hx, c, x, ns, rfl, ex, z⟩ := h
  cases hx with
  | cons hx h0 =>
  cases h0
  obtain ⟨a, vs, rfl, ha, ra⟩ := rp_list w hx ex
  rw [rpAll_bls ra] at ha
  exact cr_all hc pins s σ H _ us Q I rel ⟨a, ns, rfl, SqL.of ha, c.now w z (.bl _)⟩
theorem dc_any (hK : X.K = K) (hc : X.calm = true) : CallR X (.builtin "any") (liftA K anyD) := by
  subst hK
  intro pins s σ H xs us Q I rel h
  obtain ⟨J, ω, ds, q, w, hx, c, x, ns, rfl, ex, z⟩ := h
  cases hx with
  | cons hx h0 =>
  cases h0
  obtain ⟨a, vs, rfl, ha, ra⟩ := rp_list w hx ex
  rw [rpAll_bls ra] at ha
  exact cr_any hc pins s σ H _ us Q I rel ⟨a, ns, rfl, SqL.of ha, c.now w z (.bl _)⟩
end
end Tx

namespace Tx
open PySem PySem.Spec PyProof.Rows L2
/-! ## Rules over data: expressions -/
def dVar (i : Nat) (ρ : DS) (ω : Wd) (q : DQ) (_ : DXK) : Prop := match ρ[i]? with
  | some (some d) => q d ω
  | _ => False
def dC (d : PyData) (_ : DS) (ω : Wd) (q : DQ) (_ : DXK) : Prop := q d ω
def dOp (rd : RD2) (ta tb : DTE) (ρ : DS) (ω : Wd) (q : DQ) (x : DXK) : Prop := ta ρ ω (fun a ω1 => tb ρ ω1 (fun b ω2 => rd a b ω2 fun r => q r ω2) x) x
def dTest (t : DTE) (ρ : DS) (ω : Wd) (q : Bool → Wd → Prop) (x : DXK) : Prop := t ρ ω (fun r ω1 => match r with
  | .bool b => q b ω1
  | _ => False) x
def dChain (rd rd' : RD2) (ta tb tc : DTE) (ρ : DS) (ω : Wd) (q : DQ) (x : DXK) : Prop := ta ρ ω (fun a ω1 => tb ρ ω1 (fun b ω2 => rd a b ω2 fun r => match r with
  | .bool k => if k = true then tc ρ ω2 (fun c ω3 => rd' b c ω3 fun r' => q r' ω3) x else q (.bool false) ω2
  | _ => False) x) x
def dAnd (t u : DTT) (ρ : DS) (ω : Wd) (q : Bool → Wd → Prop) (x : DXK) : Prop := t ρ ω (fun b ω1 => if b = true then u ρ ω1 q x else q false ω1) x
def dOr (t u : DTT) (ρ : DS) (ω : Wd) (q : Bool → Wd → Prop) (x : DXK) : Prop := t ρ ω (fun b ω1 => if b = true then q true ω1 else u ρ ω1 q x) x
def dNot (t : DTT) (ρ : DS) (ω : Wd) (q : Bool → Wd → Prop) (x : DXK) : Prop := t ρ ω (fun b ω1 => q (!b) ω1) x
def dAndV (ta tb : DTE) (ρ : DS) (ω : Wd) (q : DQ) (x : DXK) : Prop := ta ρ ω (fun a ω1 => match a with
  | .bool b => if b = true then tb ρ ω1 q x else q (.bool false) ω1
  | _ => False) x
def dOrV (ta tb : DTE) (ρ : DS) (ω : Wd) (q : DQ) (x : DXK) : Prop := ta ρ ω (fun a ω1 => match a with
  | .bool b => if b = true then q (.bool true) ω1 else tb ρ ω1 q x
  | _ => False) x
def dNotV (ta : DTE) (ρ : DS) (ω : Wd) (q : DQ) (x : DXK) : Prop := ta ρ ω (fun a ω1 => match a with
  | .bool b => q (.bool (!b)) ω1
  | _ => False) x
def dNeg (ta : DTE) (ρ : DS) (ω : Wd) (q : DQ) (x : DXK) : Prop := ta ρ ω (fun r ω1 => match r with
  | .int i => q (.int (-i)) ω1
  | _ => False) x
def dIf (t : DTT) (ta tb : DTE) (ρ : DS) (ω : Wd) (q : DQ) (x : DXK) : Prop := t ρ ω (fun b ω1 => if b = true then ta ρ ω1 q x else tb ρ ω1 q x) x
def dNil (_ : DS) (ω : Wd) (q : List PyData → Wd → Prop) (_ : DXK) : Prop := q [] ω
def dCons (te : DTE) (ta : DTA) (ρ : DS) (ω : Wd) (q : List PyData → Wd → Prop) (x : DXK) : Prop := te ρ ω (fun a ω1 => ta ρ ω1 (fun as ω2 => q (a :: as) ω2) x) x
def dLst (ta : DTA) (ρ : DS) (ω : Wd) (q : DQ) (x : DXK) : Prop := ta ρ ω (fun as ω1 => as.length ≤ sizeLine ∧ q (.list as) ω1) x
def dTup (ta : DTA) (ρ : DS) (ω : Wd) (q : DQ) (x : DXK) : Prop := ta ρ ω (fun as ω1 => as.length ≤ sizeLine ∧ q (.tuple as) ω1) x
/-- [..], a list of one's own -/
def dLstO (ta : DTA) (ρ : DS) (ω : Wd) (q : DQ) (x : DXK) : Prop := ta ρ ω (fun as ω1 => as.length ≤ sizeLine ∧ ∀ a, ω1 a = none → q (refD a) (updW ω1 a (.lst as))) x
def dCB (rd : RD1) (ta : DTA) (ρ : DS) (ω : Wd) (q : DQ) (x : DXK) : Prop := ta ρ ω (fun as ω1 => rd as ω1 fun r => q r ω1) x
def dSl (te : DTE) (lo hi : Option DTE) (ρ : DS) (ω : Wd) (q : DQ) (x : DXK) : Prop := te ρ ω (fun a ω1 =>
  (match lo with
    | none => fun (k : Option Int → Wd → Prop) => k none ω1
    | some tl => fun k => tl ρ ω1 (fun l ω2 => match l with
      | .int i => k (some i) ω2
      | _ => False) x) fun l ω2 =>
  (match hi with
    | none => fun (k : Option Int → Wd → Prop) => k none ω2
    | some tl => fun k => tl ρ ω2 (fun l ω3 => match l with
      | .int i => k (some i) ω3
      | _ => False) x) fun h ω3 => slD a l h ω3 fun r => q r ω3) x
/-- isinstance(e, T) -/
def dIsi (f : PyData → Bool) (te : DTE) (ρ : DS) (ω : Wd) (q : DQ) (x : DXK) : Prop := te ρ ω (fun a ω1 => (match rsv ω1 a with
  | .dict _ => False
  | _ => True) ∧ q (.bool (f (rsv ω1 a))) ω1) x
section
variable {W : WX} {X : Cx} {K : PySem.W.Frag} {e a b c : Expr} {es : List Expr} {ta tb tc : DTE} {tA : DTA} {pos : Pos}
theorem Sl.var {J : Hp} {σ : L2.St} {ρ : DS} {i : Nat} {q : PyData → Prop} (s : Sl K J σ ρ) (h : match ρ[i]? with
  | some (some d) => q d
  | _ => False) : ∃ v d, σ[i]? = some (some v) ∧ Rp K J v d ∧ q d := by
  split at h
  · rename_i d e
    obtain ⟨v, h1, h2⟩ := s.2 i d e
    exact ⟨v, d, h1, h2, h⟩
  · exact False.elim h
theorem de_pe {t : TE} {td : DTE} (h : PE X e t) (k : ∀ σ H J ω ρ q x Q, Rw K J H ω → Sl K J σ ρ → CovQ K J H ω q Q → CovX K J H ω x (fun c d H => W c d σ H) → td ρ ω q x → t σ H Q) : DE W X K e td := ⟨_, h, k⟩
theorem de_var {i : Nat} (h : PE X e (tVar i)) : DE W X K e (dVar i) := ⟨_, h, fun σ H J ω ρ q x Q w s cq cx z => by
  obtain ⟨v, d, h1, h2, z⟩ := s.var (q := fun d => q d ω) z
  exact ⟨v, h1, cq.now w z h2⟩⟩
theorem de_c {v : V} {d : PyData} (h : PE X e (tC v)) (r : ∀ J, Rp K J v d) : DE W X K e (dC d) := ⟨_, h, fun σ H J ω ρ q x Q w s cq cx z => cq.now w z (r J)⟩
theorem de_non : DE W X K (.Constant .none j pos) (dC .none) := de_c pe_non fun _ => .non
theorem de_bl {bb : Bool} : DE W X K (.Constant (.bool bb) j pos) (dC (.bool bb)) := de_c pe_bl fun _ => .bl _
theorem de_int {i : Int} : DE W X K (.Constant (.int i) j pos) (dC (.int i)) := de_c pe_int fun _ => .int _
theorem de_str {z : Str} : DE W X K (.Constant (.str z) j pos) (dC (.str z)) := de_c pe_str fun _ => .str _
/-- two operands -/
theorem dOp_run {ra : TE} {rb : TE} {rd : RD2} {σ : L2.St} {H J : Hp} {ω : Wd} {ρ : DS} {q : DQ} {x : DXK} {Q : VK}
    (ka : ∀ σ H J ω ρ q x Q, Rw K J H ω → Sl K J σ ρ → CovQ K J H ω q Q → CovX K J H ω x (fun c d H => W c d σ H) → ta ρ ω q x → ra σ H Q) (kb : ∀ σ H J ω ρ q x Q, Rw K J H ω → Sl K J σ ρ → CovQ K J H ω q Q → CovX K J H ω x (fun c d H => W c d σ H) → tb ρ ω q x → rb σ H Q)
    (w : Rw K J H ω) (s : Sl K J σ ρ) (cq : CovQ K J H ω q Q) (cx : CovX K J H ω x (fun c d H => W c d σ H)) (z : dOp rd ta tb ρ ω q x) : tOp (lift2 K rd) ra rb σ H Q := by
  refine ka σ H J ω ρ _ x _ w s (fun a ω1 v J1 H1 z1 g1 w1 ra => ?_) cx z
  refine kb σ H1 J1 ω1 ρ _ x _ w1 (s.mono g1.jj) (fun b ω2 u J2 H2 z2 g2 w2 rb => ?_) (cx.step g1) z1
  exact ⟨J2, ω2, a, b, q, w2, rp_mono g2.jj _ _ ra, rb, (cq.step g1).step g2, z2⟩
theorem de_op {op : Operator} {rd : RD2} (ho : OpR X (binaryOp op) (lift2 K rd)) (ha : DE W X K a ta) (hb : DE W X K b tb) : DE W X K (.BinOp a op b pos) (dOp rd ta tb) := by
  obtain ⟨ra, pa, ka⟩ := ha
  obtain ⟨rb, pb, kb⟩ := hb
  exact ⟨_, pe_op ho pa pb, fun σ H J ω ρ q x Q w s cq cx z => dOp_run ka kb w s cq cx z⟩
theorem de_cmp {op : CmpOp} {rd : RD2} (ho : OpR X (compareOp op) (lift2 K rd)) (ha : DE W X K a ta) (hb : DE W X K b tb) (hm : behindInMarks op b = false) : DE W X K (.Compare a [op] [b] pos) (dOp rd ta tb) := by
  obtain ⟨ra, pa, ka⟩ := ha
  obtain ⟨rb, pb, kb⟩ := hb
  exact ⟨_, pe_cmpR ho pa pb hm, fun σ H J ω ρ q x Q w s cq cx z => dOp_run ka kb w s cq cx z⟩
theorem de_ix (hK : X.K = K) (ha : DE W X K a ta) (hb : DE W X K b tb) (hs : PlainIx b) : DE W X K (.Subscript a b pos) (dOp ixD ta tb) := by
  obtain ⟨ra, pa, ka⟩ := ha
  obtain ⟨rb, pb, kb⟩ := hb
  exact ⟨_, pe_ix (do_ix hK) pa pb hs, fun σ H J ω ρ q x Q w s cq cx z => dOp_run ka kb w s cq cx z⟩
theorem covT_test {J H : Hp} {ω : Wd} {q : Bool → Wd → Prop} {Q : Bool → Hp → Prop} (c : CovT K J H ω q Q) : CovQ K J H ω (fun r ω1 => match r with
  | .bool b => q b ω1
  | _ => False) (fun v H => ∃ k, v = .bl k ∧ Q k H) := by
  intro r ω' v J' H' z g w rp
  split at z
  · cases rp; exact ⟨_, rfl, c _ _ _ _ z g w⟩
  · exact False.elim z
theorem dt_cmp {op : CmpOp} {rd : RD2} (ho : OpR X (compareOp op) (lift2 K rd)) (ha : DE W X K a ta) (hb : DE W X K b tb) (hm : behindInMarks op b = false) : DT W X K (.Compare a [op] [b] pos) (dTest (dOp rd ta tb)) := by
  obtain ⟨ra, pa, ka⟩ := ha
  obtain ⟨rb, pb, kb⟩ := hb
  exact ⟨_, pt_cmpR ho pa pb hm, fun σ H J ω ρ q x Q w s cq cx z => dOp_run ka kb w s (covT_test cq) cx z⟩
theorem dt_val (ha : DE W X K a ta) (he : ∀ whole, isTrue a X.env whole = (do let v ← whole; standAt a.pos; holding [v] (truthy v)) := by intro _; rfl) : DT W X K a (dTest ta) := by
  obtain ⟨ra, pa, ka⟩ := ha
  exact ⟨_, pt_val pa he, fun σ H J ω ρ q x Q w s cq cx z => ka σ H J ω ρ _ x _ w s (covT_test cq) cx z⟩
theorem dChain_run {ra rb rc : TE} {rd rd' : RD2} {σ : L2.St} {H J : Hp} {ω : Wd} {ρ : DS} {q : DQ} {x : DXK} {Q : VK}
    (ka : ∀ σ H J ω ρ q x Q, Rw K J H ω → Sl K J σ ρ → CovQ K J H ω q Q → CovX K J H ω x (fun c d H => W c d σ H) → ta ρ ω q x → ra σ H Q) (kb : ∀ σ H J ω ρ q x Q, Rw K J H ω → Sl K J σ ρ → CovQ K J H ω q Q → CovX K J H ω x (fun c d H => W c d σ H) → tb ρ ω q x → rb σ H Q)
    (kc : ∀ σ H J ω ρ q x Q, Rw K J H ω → Sl K J σ ρ → CovQ K J H ω q Q → CovX K J H ω x (fun c d H => W c d σ H) → tc ρ ω q x → rc σ H Q)
    (w : Rw K J H ω) (s : Sl K J σ ρ) (cq : CovQ K J H ω q Q) (cx : CovX K J H ω x (fun c d H => W c d σ H)) (z : dChain rd rd' ta tb tc ρ ω q x) : tChain (lift2 K rd) (lift2 K rd') ra rb rc σ H Q := by
  refine ka σ H J ω ρ _ x _ w s (fun a ω1 v J1 H1 z1 g1 w1 ra => ?_) cx z
  refine kb σ H1 J1 ω1 ρ _ x _ w1 (s.mono g1.jj) (fun b ω2 u J2 H2 z2 g2 w2 rb => ?_) (cx.step g1) z1
  have cq2 := (cq.step g1).step g2
  refine ⟨J2, ω2, a, b, fun r ω' => ω' = ω2 ∧ (match r with
    | .bool k => if k = true then tc ρ ω2 (fun c ω3 => rd' b c ω3 fun r' => q r' ω3) x else q (.bool false) ω2
    | _ => False), w2, rp_mono g2.jj _ _ ra, rb, fun r ω' v3 J3 H3 z3 g3 w3 r3 => ?_, ?_⟩
  · obtain ⟨rfl, z3⟩ := z3
    split at z3
    · cases r3
      rename_i k
      refine ⟨k, rfl, ?_⟩
      cases k with
      | true =>
        refine iteT (kc σ H3 J3 ω' ρ _ x _ w3 ((s.mono g1.jj).mono (g2.jj.trans g3.jj)) (fun cc ω4 u4 J4 H4 z4 g4 w4 r4 => ?_) (((cx.step g1).step g2).step g3) (by simpa using z3))
        exact ⟨J4, ω4, b, cc, q, w4, rp_mono (g3.jj.trans g4.jj) _ _ rb, r4, (cq2.step g3).step g4, z4⟩
      | false => exact iteF (cq2 _ _ _ _ _ (by simpa using z3) g3 w3 (.bl _))
    · exact False.elim z3
  · have : (fun r => (fun (r : PyData) (ω' : Wd) => ω' = ω2 ∧ (match r with
      | .bool k => if k = true then tc ρ ω2 (fun c ω3 => rd' b c ω3 fun r' => q r' ω3) x else q (.bool false) ω2
      | _ => False)) r ω2) = fun (r : PyData) => (match r with
      | .bool k => if k = true then tc ρ ω2 (fun c ω3 => rd' b c ω3 fun r' => q r' ω3) x else q (.bool false) ω2
      | _ => False) := by
      funext r
      exact propext ⟨fun h => h.2, fun h => ⟨rfl, h⟩⟩
    rw [this]
    exact z2
theorem de_chain {op op' : CmpOp} {rd rd' : RD2} (ho : OpR X (compareOp op) (lift2 K rd)) (ho' : OpR X (compareOp op') (lift2 K rd')) (ha : DE W X K a ta) (hb : DE W X K b tb) (hc : DE W X K c tc) (hm : lastMarks [op, op'] [b, c] = false := by with_unfolding_all rfl) :
    DE W X K (.Compare a [op, op'] [b, c] pos) (dChain rd rd' ta tb tc) := by
  obtain ⟨ra, pa, ka⟩ := ha
  obtain ⟨rb, pb, kb⟩ := hb
  obtain ⟨rc, pc, kc⟩ := hc
  exact ⟨_, pe_chain ho ho' pa pb pc hm, fun σ H J ω ρ q x Q w s cq cx z => dChain_run ka kb kc w s cq cx z⟩
theorem dt_chain {op op' : CmpOp} {rd rd' : RD2} (ho : OpR X (compareOp op) (lift2 K rd)) (ho' : OpR X (compareOp op') (lift2 K rd')) (ha : DE W X K a ta) (hb : DE W X K b tb) (hc : DE W X K c tc) (hm : lastMarks [op, op'] [b, c] = false := by with_unfolding_all rfl) :
    DT W X K (.Compare a [op, op'] [b, c] pos) (dTest (dChain rd rd' ta tb tc)) := by
  obtain ⟨ra, pa, ka⟩ := ha
  obtain ⟨rb, pb, kb⟩ := hb
  obtain ⟨rc, pc, kc⟩ := hc
  exact ⟨_, pt_chain ho ho' pa pb pc hm, fun σ H J ω ρ q x Q w s cq cx z => dChain_run ka kb kc w s (covT_test cq) cx z⟩
theorem de_one {op} (h : DE W X K a ta) : DE W X K (.BoolOp op [a] pos) ta := by
  obtain ⟨ra, pa, ka⟩ := h
  exact ⟨_, pe_one pa, ka⟩
theorem de_and {rest : List Expr} (ha : DE W X K a ta) (hb : DE W X K (.BoolOp .And (b :: rest) pos) tb) : DE W X K (.BoolOp .And (a :: b :: rest) pos) (dAndV ta tb) := by
  obtain ⟨ra, pa, ka⟩ := ha
  obtain ⟨rb, pb, kb⟩ := hb
  refine ⟨_, pe_and pa pb, fun σ H J ω ρ q x Q w s cq cx z => ka σ H J ω ρ _ x _ w s (fun r ω1 v J1 H1 z1 g1 w1 rp => ?_) cx z⟩
  split at z1
  · cases rp
    rename_i bb
    refine ⟨bb, rfl, ?_⟩
    cases bb with
    | true => exact iteT (kb σ H1 J1 ω1 ρ q x Q w1 (s.mono g1.jj) (cq.step g1) (cx.step g1) (by simpa using z1))
    | false => exact iteF ((cq.step g1).now w1 (by simpa using z1) (.bl _))
  · exact False.elim z1
theorem de_or {rest : List Expr} (ha : DE W X K a ta) (hb : DE W X K (.BoolOp .Or (b :: rest) pos) tb) : DE W X K (.BoolOp .Or (a :: b :: rest) pos) (dOrV ta tb) := by
  obtain ⟨ra, pa, ka⟩ := ha
  obtain ⟨rb, pb, kb⟩ := hb
  refine ⟨_, pe_or pa pb, fun σ H J ω ρ q x Q w s cq cx z => ka σ H J ω ρ _ x _ w s (fun r ω1 v J1 H1 z1 g1 w1 rp => ?_) cx z⟩
  split at z1
  · cases rp
    rename_i bb
    refine ⟨bb, rfl, ?_⟩
    cases bb with
    | false => exact iteF (kb σ H1 J1 ω1 ρ q x Q w1 (s.mono g1.jj) (cq.step g1) (cx.step g1) (by simpa using z1))
    | true => exact iteT ((cq.step g1).now w1 (by simpa using z1) (.bl _))
  · exact False.elim z1
theorem de_not (ha : DE W X K a ta) : DE W X K (.UnaryOp .Not a pos) (dNotV ta) := by
  obtain ⟨ra, pa, ka⟩ := ha
  refine ⟨_, pe_not pa, fun σ H J ω ρ q x Q w s cq cx z => ka σ H J ω ρ _ x _ w s (fun r ω1 v J1 H1 z1 g1 w1 rp => ?_) cx z⟩
  split at z1
  · cases rp
    exact ⟨_, rfl, (cq.step g1).now w1 z1 (.bl _)⟩
  · exact False.elim z1
theorem de_neg (ha : DE W X K a ta) : DE W X K (.UnaryOp .USub a pos) (dNeg ta) := by
  obtain ⟨ra, pa, ka⟩ := ha
  refine ⟨_, pe_un un_neg pa, fun σ H J ω ρ q x Q w s cq cx z => ka σ H J ω ρ _ x _ w s (fun r ω1 v J1 H1 z1 g1 w1 rp => ?_) cx z⟩
  split at z1
  · cases rp
    exact ⟨_, rfl, (cq.step g1).now w1 z1 (.int _)⟩
  · exact False.elim z1
variable {sa sb : DTT}
theorem dw_and1 (h : DT W X K a sa) : DW W X K (.BoolOp .And [a] pos) sa := by
  obtain ⟨ra, pa, ka⟩ := h
  exact ⟨_, pw_and1 pa, ka⟩
theorem dw_or1 (h : DT W X K a sa) : DW W X K (.BoolOp .Or [a] pos) sa := by
  obtain ⟨ra, pa, ka⟩ := h
  exact ⟨_, pw_or1 pa, ka⟩
theorem dw_and {rest : List Expr} (ha : DT W X K a sa) (hb : DW W X K (.BoolOp .And (b :: rest) pos) sb) : DW W X K (.BoolOp .And (a :: b :: rest) pos) (dAnd sa sb) := by
  obtain ⟨ra, pa, ka⟩ := ha
  obtain ⟨rb, pb, kb⟩ := hb
  refine ⟨_, pw_and pa pb, fun σ H J ω ρ q x Q w s cq cx z => ka σ H J ω ρ _ x _ w s (fun bb ω1 J1 H1 z1 g1 w1 => ?_) cx z⟩
  cases bb with
  | true => exact iteT (kb σ H1 J1 ω1 ρ q x Q w1 (s.mono g1.jj) (cq.step g1) (cx.step g1) (by simpa using z1))
  | false => exact iteF (cq _ _ _ _ (by simpa using z1) g1 w1)
theorem dw_or {rest : List Expr} (ha : DT W X K a sa) (hb : DW W X K (.BoolOp .Or (b :: rest) pos) sb) : DW W X K (.BoolOp .Or (a :: b :: rest) pos) (dOr sa sb) := by
  obtain ⟨ra, pa, ka⟩ := ha
  obtain ⟨rb, pb, kb⟩ := hb
  refine ⟨_, pw_or pa pb, fun σ H J ω ρ q x Q w s cq cx z => ka σ H J ω ρ _ x _ w s (fun bb ω1 J1 H1 z1 g1 w1 => ?_) cx z⟩
  cases bb with
  | false => exact iteF (kb σ H1 J1 ω1 ρ q x Q w1 (s.mono g1.jj) (cq.step g1) (cx.step g1) (by simpa using z1))
  | true => exact iteT (cq _ _ _ _ (by simpa using z1) g1 w1)
theorem DW.dt (h : DW W X K a sa) : DT W X K a sa := by
  obtain ⟨ra, pa, ka⟩ := h
  exact ⟨_, pa.pt, ka⟩
theorem dt_not (h : DT W X K a sa) : DT W X K (.UnaryOp .Not a pos) (dNot sa) := by
  obtain ⟨ra, pa, ka⟩ := h
  exact ⟨_, pt_not pa, fun σ H J ω ρ q x Q w s cq cx z => ka σ H J ω ρ _ x _ w s (fun bb ω1 J1 H1 z1 g1 w1 => cq _ _ _ _ z1 g1 w1) cx z⟩
theorem de_if (hc : DT W X K c sa) (ha : DE W X K a ta) (hb : DE W X K b tb) : DE W X K (.IfExp c a b pos) (dIf sa ta tb) := by
  obtain ⟨rc, pc, kc⟩ := hc
  obtain ⟨ra, pa, ka⟩ := ha
  obtain ⟨rb, pb, kb⟩ := hb
  refine ⟨_, pe_ifExp pc pa pb, fun σ H J ω ρ q x Q w s cq cx z => kc σ H J ω ρ _ x _ w s (fun bb ω1 J1 H1 z1 g1 w1 => ?_) cx z⟩
  cases bb with
  | true => exact iteT (ka σ H1 J1 ω1 ρ q x Q w1 (s.mono g1.jj) (cq.step g1) (cx.step g1) (by simpa using z1))
  | false => exact iteF (kb σ H1 J1 ω1 ρ q x Q w1 (s.mono g1.jj) (cq.step g1) (cx.step g1) (by simpa using z1))
theorem da_nil : DAs W X K [] dNil := ⟨_, pa_nil, fun σ H J ω ρ q x Q w s cq cx z => cq _ _ _ _ _ z Grow.refl w .nil⟩
theorem da_cons (he : DE W X K e ta) (ha : DAs W X K es tA) (hs : starEach (e :: es) X.env = (false, eval e X.env) :: starEach es X.env := by rfl) : DAs W X K (e :: es) (dCons ta tA) := by
  obtain ⟨re, pe, ke⟩ := he
  obtain ⟨ra, pa, ka⟩ := ha
  refine ⟨_, pa_cons pe pa hs, fun σ H J ω ρ q x Q w s cq cx z => ke σ H J ω ρ _ x _ w s (fun r ω1 v J1 H1 z1 g1 w1 rp => ?_) cx z⟩
  refine ka σ H1 J1 ω1 ρ _ x _ w1 (s.mono g1.jj) (fun rs ω2 vs J2 H2 z2 g2 w2 rps => ?_) (cx.step g1) z1
  exact cq _ _ _ _ _ z2 (g1.trans g2) w2 (.cons (rp_mono g2.jj _ _ rp) rps)
theorem de_lst (ha : DAs W X K es tA) : DE W X K (.List es pos) (dLst tA) := by
  obtain ⟨ra, pa, ka⟩ := ha
  refine ⟨_, pe_lst pa, fun σ H J ω ρ q x Q w s cq cx z => ka σ H J ω ρ _ x _ w s (fun rs ω1 vs J1 H1 z1 g1 w1 rps => ?_) cx z⟩
  exact ⟨by rw [rps.length]; exact z1.1, fun p hp => (cq.step g1).newL w1 z1.2 rps hp⟩
theorem de_lstO (ha : DAs W X K es tA) : DE W X K (.List es pos) (dLstO tA) := by
  obtain ⟨ra, pa, ka⟩ := ha
  refine ⟨_, pe_lst pa, fun σ H J ω ρ q x Q w s cq cx z => ka σ H J ω ρ _ x _ w s (fun rs ω1 vs J1 H1 z1 g1 w1 rps => ?_) cx z⟩
  exact ⟨by rw [rps.length]; exact z1.1, fun p hp => cq _ _ _ _ _ (z1.2 p (w1.free hp).1) (g1.trans (Grow.own rfl hp _)) (w1.own rfl hp ⟨vs, upd_same, rps⟩) (.ref p)⟩
theorem de_tup {x1} (ha : DAs W X K es tA) : DE W X K (.Tuple es x1 pos) (dTup tA) := by
  obtain ⟨ra, pa, ka⟩ := ha
  refine ⟨_, pe_tup pa, fun σ H J ω ρ q x Q w s cq cx z => ka σ H J ω ρ _ x _ w s (fun rs ω1 vs J1 H1 z1 g1 w1 rps => ?_) cx z⟩
  exact ⟨by rw [rps.length]; exact z1.1, fun p hp => (cq.step g1).newT w1 z1.2 rps hp⟩
theorem de_callB {x : Str} {id : String} {rd : RD1} {p : Pos} (hc : CallR X (.builtin id) (liftA K rd)) (hg : Gl X x) (hm : X.mg x = none) (hv : bootBuiltins x = some (.builtin id)) (ha : DAs W X K (e :: es) tA) (hn : x ≠ "__name__" := by decide) (hdb : (x == ("__debug__" : Str)) = false := by decide)
    (he : starEach (e :: es) X.env = (false, eval e X.env) :: starEach es X.env := by rfl) (hpl : (backTo pos (starEach es X.env)).any (·.1) = false := by rfl) : DE W X K (.Call (.Name x p) (e :: es) [] pos) (dCB rd tA) := by
  obtain ⟨ra, pa, ka⟩ := ha
  exact ⟨_, pe_callB hc hg hm hv pa hn hdb he hpl, fun σ H J ω ρ q x Q w s cq cx z => ka σ H J ω ρ _ x _ w s (fun rs ω1 vs J1 H1 z1 g1 w1 rps => ⟨J1, ω1, rs, q, w1, rps, cq.step g1, z1⟩) cx z⟩
theorem de_callTy {x : Str} {T : String} {rd : RD1} {p : Pos} (hc : CallR X (.type T) (liftA K rd)) (hg : Gl X x) (hm : X.mg x = none) (hv : bootBuiltins x = some (.type T)) (ha : DAs W X K (e :: es) tA) (hn : x ≠ "__name__" := by decide) (hdb : (x == ("__debug__" : Str)) = false := by decide)
    (he : starEach (e :: es) X.env = (false, eval e X.env) :: starEach es X.env := by rfl) (hpl : (backTo pos (starEach es X.env)).any (·.1) = false := by rfl) : DE W X K (.Call (.Name x p) (e :: es) [] pos) (dCB rd tA) := by
  obtain ⟨ra, pa, ka⟩ := ha
  exact ⟨_, pe_callTy hc hg hm hv pa hn hdb he hpl, fun σ H J ω ρ q x Q w s cq cx z => ka σ H J ω ρ _ x _ w s (fun rs ω1 vs J1 H1 z1 g1 w1 rps => ⟨J1, ω1, rs, q, w1, rps, cq.step g1, z1⟩) cx z⟩
theorem tyx_rp {J H : Hp} {ω : Wd} {v : V} {d : PyData} (w : Rw K J H ω) (h : Rp K J v d) (nd : match rsv ω d with
  | .dict _ => False
  | _ => True) : TyX K H v (.type (tyN (rsv ω d))) := by
  cases e : rsv ω d with
  | dict _ => rw [e] at nd; exact False.elim nd
  | list xs => obtain ⟨a, vs, rfl, ha, _⟩ := rp_list w h e; exact .base (.lst ha)
  | tuple xs =>
    obtain ⟨a, vs, rfl, ha, _⟩ := rp_tup w h e
    rcases ha with (h | ⟨o, h⟩) | ⟨o, its, n, h, hc, _⟩
    · exact .base (.tup h)
    · exact .fTuple h
    · exact .kTuple h hc
  | none => rw [(rp_flat h).2.2.2 e]; exact .base .non
  | bool b => rw [(rp_flat h).2.2.1 b e]; exact .base (.bl b)
  | int i => rw [(rp_flat h).2.1 i e]; exact .base (.int i)
  | str z => rw [(rp_flat h).1 z e]; exact .base (.str z)
theorem de_isi {T : String} {f : PyData → Bool} {t : Expr} {p : Pos} (hK : X.K = K) (hk : ∀ d, kitB (tyN d) T = some (f d)) (hg : Gl X "isinstance") (hm : X.mg "isinstance" = none) (ha : DE W X K a ta) (ht : PE X t (tC (.ty T)))
    (he : starEach (a :: [t]) X.env = (false, eval a X.env) :: starEach [t] X.env := by rfl) (he2 : starEach [t] X.env = (false, eval t X.env) :: starEach [] X.env := by rfl) (hpl : (backTo pos (starEach [t] X.env)).any (·.1) = false := by rfl) :
    DE W X K (.Call (.Name "isinstance" p) [a, t] [] pos) (dIsi f ta) := by
  subst hK
  obtain ⟨ra, pa, ka⟩ := ha
  refine ⟨_, pe_callB call_isi hg hm (by decide +kernel) (pa_cons pa (pa_cons ht pa_nil he2) he) (by decide) (by decide) he hpl, fun σ H J ω ρ q x Q w s cq cx z => ka σ H J ω ρ _ x _ w s (fun r ω1 v J1 H1 z1 g1 w1 rp => ?_) cx z⟩
  exact ⟨v, .ty T, .type (tyN (rsv ω1 r)), .type T, _, rfl, .ty T, tyx_rp w1 rp z1.1, kit_ty (hk _), (cq.step g1).now w1 z1.2 (.bl _)⟩
/-! ### slices -/
structure DO (W : WX) (X : Cx) (K : PySem.W.Frag) (e : Option Expr) (td : Option DTE) : Prop where
  ex : ∃ t : TO, PO X e t ∧ ∀ σ H J ω ρ (k : Option Int → Wd → Prop) x (Q : Option Int → Hp → Prop), Rw K J H ω → Sl K J σ ρ → (∀ l ω' J' H', k l ω' → Grow J H ω J' H' ω' → Rw K J' H' ω' → Q l H') → CovX K J H ω x (fun c d H => W c d σ H) →
    (match td with
      | none => fun (k : Option Int → Wd → Prop) => k none ω
      | some tl => fun k => tl ρ ω (fun l ω2 => match l with
        | .int i => k (some i) ω2
        | _ => False) x) k → t σ H Q
theorem do_none : DO W X K none none := ⟨_, po_none, fun σ H J ω ρ k x Q w s c cx z => c _ _ _ _ z Grow.refl w⟩
theorem do_some (h : DE W X K a ta) : DO W X K (some a) (some ta) := by
  obtain ⟨ra, pa, ka⟩ := h
  refine ⟨_, po_some pa, fun σ H J ω ρ k x Q w s c cx z => ka σ H J ω ρ _ x _ w s (fun r ω1 v J1 H1 z1 g1 w1 rp => ?_) cx z⟩
  split at z1
  · cases rp; exact ⟨_, rfl, c _ _ _ _ z1 g1 w1⟩
  · exact False.elim z1
theorem de_sl {lo hi : Option Expr} {tl th : Option DTE} {p2 : Pos} (hK : X.K = K) (h : DE W X K a ta) (hl : DO W X K lo tl) (hh : DO W X K hi th) : DE W X K (.Subscript a (.Slice lo hi none p2) pos) (dSl ta tl th) := by
  obtain ⟨ra, pa, ka⟩ := h
  obtain ⟨rl, pl, kl⟩ := hl
  obtain ⟨rh, ph, kh⟩ := hh
  refine ⟨_, pe_slice (do_sl hK) pa pl ph, fun σ H J ω ρ q x Q w s cq cx z => ka σ H J ω ρ _ x _ w s (fun r ω1 v J1 H1 z1 g1 w1 rp => ?_) cx z⟩
  refine kl σ H1 J1 ω1 ρ _ x _ w1 (s.mono g1.jj) (fun l ω2 J2 H2 z2 g2 w2 => ?_) (cx.step g1) z1
  refine kh σ H2 J2 ω2 ρ _ x _ w2 ((s.mono g1.jj).mono g2.jj) (fun l ω3 J3 H3 z3 g3 w3 => ?_) ((cx.step g1).step g2) z2
  exact ⟨J3, ω3, r, q, w3, rp_mono (g2.jj.trans g3.jj) _ _ rp, ((cq.step g1).step g2).step g3, z3⟩
end
end Tx

namespace Tx
open PySem PySem.Spec PyProof.Rows L2
/-! ## Rules over data: targets, what is walked, comprehensions -/
/-- the reading of the kit that a reading over data stands for -/
def liftE (K : PySem.W.Frag) (W : WX) (td : DTE) : TE := fun σ H Q => ∃ J ω ρ q x, Rw K J H ω ∧ Sl K J σ ρ ∧ CovQ K J H ω q Q ∧ CovX K J H ω x (fun c d H => W c d σ H) ∧ td ρ ω q x
def liftT (K : PySem.W.Frag) (W : WX) (td : DTT) : TT := fun σ H Q => ∃ J ω ρ q x, Rw K J H ω ∧ Sl K J σ ρ ∧ CovT K J H ω q Q ∧ CovX K J H ω x (fun c d H => W c d σ H) ∧ td ρ ω q x
theorem DE.pe {W : WX} {X : Cx} {K : PySem.W.Frag} {e : Expr} {td : DTE} (h : DE W X K e td) : PE X e (liftE K W td) := by
  obtain ⟨t, p, k⟩ := h
  exact ⟨fun pins s σ H Q I ⟨J, ω, ρ, q, x, w, sl, cq, cx, z⟩ => p.run pins s σ H Q I (k σ H J ω ρ q x Q w sl cq cx z)⟩
theorem DT.pt {W : WX} {X : Cx} {K : PySem.W.Frag} {e : Expr} {td : DTT} (h : DT W X K e td) : PT X e (liftT K W td) := by
  obtain ⟨t, p, k⟩ := h
  exact ⟨fun pins s σ H Q I ⟨J, ω, ρ, q, x, w, sl, cq, cx, z⟩ => p.run pins s σ H Q I (k σ H J ω ρ q x Q w sl cq cx z)⟩
/-! ### targets -/
abbrev DTG := PyData → DS → (DS → Prop) → Prop
abbrev DTGs := List PyData → DS → (DS → Prop) → Prop
def liftG (K : PySem.W.Frag) (is : List Nat) (gd : DTG) : TG := fun v σ H Q => ∃ J ω ρ d k, Rw K J H ω ∧ Sl K J σ ρ ∧ Rp K J v d ∧ (∀ ρ' σ', k ρ' → Sl K J σ' ρ' → (∀ vs, (∀ i ∈ is, i ∈ vs) → wipe σ' vs = wipe σ vs) → Q σ' H) ∧ gd d ρ k
def liftGs (K : PySem.W.Frag) (is : List Nat) (gd : DTGs) : TGs := fun vs σ H Q => ∃ J ω ρ ds k, Rw K J H ω ∧ Sl K J σ ρ ∧ RpAll K J vs ds ∧ (∀ ρ' σ', k ρ' → Sl K J σ' ρ' → (∀ vs, (∀ i ∈ is, i ∈ vs) → wipe σ' vs = wipe σ vs) → Q σ' H) ∧ gd ds ρ k
def DG (X : Cx) (K : PySem.W.Frag) (tg : Expr) (is : List Nat) (gd : DTG) : Prop := PG X tg (liftG K is gd)
def DGs (X : Cx) (K : PySem.W.Frag) (tg : List Expr) (is : List Nat) (gd : DTGs) : Prop := PGs X tg (liftGs K is gd)
def dgName (i : Nat) (d : PyData) (ρ : DS) (k : DS → Prop) : Prop := k (ρ.set i (some d))
def dgNil (ds : List PyData) (ρ : DS) (k : DS → Prop) : Prop := ds = [] ∧ k ρ
def dgCons (g : DTG) (gs : DTGs) (ds : List PyData) (ρ : DS) (k : DS → Prop) : Prop := match ds with
  | d :: r => g d ρ fun ρ' => gs r ρ' k
  | [] => False
def dgTup (n : Nat) (gs : DTGs) (d : PyData) (ρ : DS) (k : DS → Prop) : Prop := match d with
  | .tuple ds => ds.length = n ∧ gs ds ρ k
  | _ => False
section
variable {X : Cx} {K : PySem.W.Frag} {tg : Expr} {es : List Expr} {is js : List Nat} {gd : DTG} {gs : DTGs}
theorem pg_weak {t t' : TG} (h : PG X tg t) (k : ∀ v σ H Q, t' v σ H Q → t v σ H Q) : PG X tg t' := ⟨fun pins s σ H x v Q I r z => h.run pins s σ H x v Q I r (k _ _ _ _ z)⟩
theorem pgs_weak {t t' : TGs} (h : PGs X es t) (k : ∀ v σ H Q, t' v σ H Q → t v σ H Q) : PGs X es t' := ⟨fun pins s σ H xs us Q I r z => h.run pins s σ H xs us Q I r (k _ _ _ _ z)⟩
theorem dg_name {i : Nat} (h : PG X tg (gName i)) : DG X K tg [i] (dgName i) := pg_weak h fun v σ H Q ⟨J, ω, ρ, d, k, w, s, r, c, z⟩ => c _ _ z (s.set i r) fun vs hv => wipe_set (hv i (by simp))
theorem dgs_nil : DGs X K [] [] dgNil := pgs_weak pgs_nil fun v σ H Q ⟨J, ω, ρ, ds, k, w, s, r, c, z⟩ => by
  obtain ⟨rfl, z⟩ := z
  cases r
  exact ⟨rfl, c _ _ z s fun _ _ => rfl⟩
theorem dgs_cons (h : DG X K tg is gd) (hs : DGs X K es js gs) (hm : (assignEach (tg :: es) X.env).map (·.2) = assign tg X.env :: (assignEach es X.env).map (·.2) := by rfl) : DGs X K (tg :: es) (is ++ js) (dgCons gd gs) := pgs_weak (pgs_cons h hs hm) fun v σ H Q ⟨J, ω, ρ, ds, k, w, s, r, c, z⟩ => by
  cases r with
  | nil => exact False.elim z
  | @cons v vs d ds r1 r2 =>
    refine ⟨v, vs, rfl, J, ω, ρ, d, _, w, s, r1, fun ρ' σ' z' s' e1 => ?_, z⟩
    exact ⟨J, ω, ρ', ds, k, w, s', r2, fun ρ'' σ'' z'' s'' e2 => c _ _ z'' s'' fun us hu => (e2 us fun i hi => hu i (List.mem_append.mpr (.inr hi))).trans (e1 us fun i hi => hu i (List.mem_append.mpr (.inl hi))), z'⟩
theorem dg_tup {k n : Nat} {pos : Pos} (hK : X.K = K) (hc : X.calm = true) (h : DGs X K es is gs) (hn : (assignEach es X.env).length = n := by rfl) (hst : (assignEach es X.env).findIdx? (·.1) = none := by rfl) : DG X K (.Tuple es k pos) is (dgTup n gs) := by
  subst hK
  refine pg_weak (pg_tup hc h hn hst) fun v σ H Q ⟨J, ω, ρ, d, k, w, s, r, c, z⟩ => ?_
  unfold dgTup at z
  split at z
  · cases r with
    | tup hs ha => exact ⟨_, _, rfl, Same.sqT w.jh hs, by rw [ha.length]; exact z.1, J, ω, ρ, _, k, w, s, ha, c, z.2⟩
  · exact False.elim z
end
/-! ### what is walked -/
abbrev DTI := DS → Wd → (List PyData → Wd → Prop) → DXK → Prop
def WalkD (K : PySem.W.Frag) (J : Hp) (I : It) (xs : List PyData) : Prop := ∃ G Y, Walk I xs.length G Y ∧ (∀ J' H', Same J J' → Same J' H' → G H') ∧
  ∀ i H v H', i < xs.length → Y i H v H' → (H' = H ∧ ∃ d, xs[i]? = some d ∧ Rp K J v d) ∨ ∃ T us ds, v = .ref T ∧ H T = none ∧ H' = upd H T (.tup us) ∧ RpAll K J us ds ∧ xs[i]? = some (.tuple ds)
structure DI (W : WX) (X : Cx) (K : PySem.W.Frag) (tg iter : Expr) (di : DTI) : Prop where
  ex : ∃ wi : TI, PI X tg iter wi ∧ ∀ σ H J ω ρ (k : List PyData → Wd → Prop) x (R : It → Hp → Prop), Rw K J H ω → Sl K J σ ρ → (∀ xs ω1 J1 H1 I, k xs ω1 → Grow J H ω J1 H1 ω1 → Rw K J1 H1 ω1 → WalkD K J1 I xs → R I H1) →
    CovX K J H ω x (fun c d H => W c d σ H) → di ρ ω k x → wi σ H R
/-- a walk over data: a list, a tuple, a text -/
def itemsD : PyData → Option (List PyData)
  | .list xs => some xs
  | .tuple xs => some xs
  | .str z => some (z.cps.toList.map fun c => .str ⟨#[c]⟩)
  | _ => none
def diData (te : DTE) (ρ : DS) (ω : Wd) (k : List PyData → Wd → Prop) (x : DXK) : Prop := te ρ ω (fun r ω1 => ∃ xs, itemsD r = some xs ∧ k xs ω1) x
def diRange1 (ta : DTA) (ρ : DS) (ω : Wd) (k : List PyData → Wd → Prop) (x : DXK) : Prop := ta ρ ω (fun rs ω1 => match rs with
  | [.int n] => -(2 ^ 62) ≤ n ∧ n < 2 ^ 62 ∧ k ((List.range n.toNat).map fun i => .int ((i : Nat) : Int)) ω1
  | _ => False) x
def diRange2 (ta : DTA) (ρ : DS) (ω : Wd) (k : List PyData → Wd → Prop) (x : DXK) : Prop := ta ρ ω (fun rs ω1 => match rs with
  | [.int a, .int b] => (-(2 ^ 62) ≤ a ∧ a < 2 ^ 62 ∧ -(2 ^ 62) ≤ b ∧ b < 2 ^ 62) ∧ k ((List.range (b - a).toNat).map fun i => .int (a + ((i : Nat) : Int))) ω1
  | _ => False) x
def enumD (xs : List PyData) : List PyData := xs.mapIdx fun i x => .tuple [.int ((i : Nat) : Int), x]
def diEnum (ta : DTA) (ρ : DS) (ω : Wd) (k : List PyData → Wd → Prop) (x : DXK) : Prop := ta ρ ω (fun rs ω1 => match rs with
  | [.list xs] => k (enumD xs) ω1
  | _ => False) x
section
variable {X : Cx} {K : PySem.W.Frag}
/-- a list, a tuple or a text, as it comes -/
theorem pi_data {tg e : Expr} {t : TE} (h : PE X e t) : PI X tg e (fun σ H R => t σ H fun x H1 => (∃ a, x = .ref a ∧ (∃ xs, SqL X.K H1 a xs) ∧ R (Itl X.K a) H1) ∨ (∃ a, x = .ref a ∧ (∃ xs, SqT X.K H1 a xs) ∧ R (Itt X.K a) H1) ∨ ∃ z, x = .str z ∧ R (Its z) H1) := by
  refine ⟨fun pins s σ H R I q => ?_⟩
  refine thn (h.run pins s σ H _ I q) fun v s1 ⟨x, H1, I1, r1, q1⟩ => ?_
  rcases q1 with ⟨a, rfl, ⟨xs, hq⟩, q⟩ | ⟨a, rfl, ⟨xs, hq⟩, q⟩ | ⟨z, rfl, q⟩
  · cases r1
    obtain ⟨its, rv, p, hz⟩ := I1.list hq
    refine wpAny_pyIter_list p.isList ?_
    refine ⟨s1.heap.objs.size, [s1.heap.objs.size], _, _, H1, rfl, I1.kept (t' := s1.toks) fun b o e => Heap.get?_push_of_some _ e, turn_list a _, ⟨_, Heap.get?_push_size _ rfl, rfl, rfl⟩, fun b hb => ?_, q⟩
    have e : b = s1.heap.objs.size := by simpa using hb
    subst e
    exact I1.fpOk (Nat.le_refl _) (I1.hok.fresh (Nat.le_refl _))
  · cases r1
    obtain ⟨its, rv, p, hz⟩ := I1.tuple hq
    refine wpAny_pyIter_tuple (show s1.heap.IsTuple a its.toArray from p) ?_
    refine ⟨s1.heap.objs.size, [s1.heap.objs.size], _, _, H1, rfl, I1.kept (t' := s1.toks) fun b o e => Heap.get?_push_of_some _ e, turn_tuple a _, ⟨_, Heap.get?_push_size _ rfl, rfl, rfl⟩, fun b hb => ?_, q⟩
    have e : b = s1.heap.objs.size := by simpa using hb
    subst e
    exact I1.fpOk (Nat.le_refl _) (I1.hok.fresh (Nat.le_refl _))
  · obtain ⟨t, rfl⟩ := r1
    cases ha : z.cps.all (· < 128)
    · exact wpAny_pyIter_wide ha (pi_one (tk := s1.toks) I1 _ (turn_str _ z t "str_iterator" (.inr rfl)) ⟨_, Heap.get?_push_size _ rfl, rfl, rfl⟩ q)
    · exact wpAny_pyIter_ascii ha (pi_one (tk := s1.toks) I1 _ (turn_str _ z t "str_ascii_iterator" (.inl rfl)) ⟨_, Heap.get?_push_size _ rfl, rfl, rfl⟩ q)
theorem walkD_list {J : Hp} {a : Addr} {vs : List V} {xs : List PyData} (h : J a = some (.lst vs)) (r : RpAll K J vs xs) : WalkD K J (Itl K a) xs := by
  refine ⟨_, _, by rw [← r.length]; exact walk_list (xs := vs), fun J' H' s1 s2 => SqL.of (s2 _ _ (s1 _ _ h)), fun i H v H' hi y => ?_⟩
  exact .inl ⟨y.1, r.get y.2⟩
theorem walkD_tup {J : Hp} {a : Addr} {vs : List V} {xs : List PyData} (h : SqT K J a vs) (r : RpAll K J vs xs) : WalkD K J (Itt K a) xs := by
  refine ⟨_, _, by rw [← r.length]; exact walk_tup (xs := vs), fun J' H' s1 s2 => Same.sqT s2 (Same.sqT s1 h), fun i H v H' hi y => ?_⟩
  exact .inl ⟨y.1, r.get y.2⟩
theorem walkD_str {J : Hp} {z : Str} : WalkD K J (Its z) (z.cps.toList.map fun c => .str ⟨#[c]⟩) := by
  refine ⟨_, _, by rw [List.length_map, Array.length_toList]; exact walk_str (z := z), fun _ _ _ _ => trivial, fun i H v H' hi y => ?_⟩
  obtain ⟨c, e, rfl⟩ := y.2
  exact .inl ⟨y.1, _, by rw [List.getElem?_map, Array.getElem?_toList, e]; rfl, .str _⟩
theorem walkD_range {J : Hp} {lo : Int} {n : Nat} : WalkD K J (Itr lo n) ((List.range n).map fun i => .int (lo + ((i : Nat) : Int))) := by
  refine ⟨_, _, by rw [List.length_map, List.length_range]; exact walk_range (lo := lo) (n := n), fun _ _ _ _ => trivial, fun i H v H' hi y => ?_⟩
  rw [List.length_map, List.length_range] at hi
  exact .inl ⟨y.1, _, by rw [List.getElem?_map, List.getElem?_range hi]; rfl, by rw [y.2]; exact .int _⟩
theorem walkD_enum {J : Hp} {a : Addr} {vs : List V} {xs : List PyData} (h : J a = some (.lst vs)) (r : RpAll K J vs xs) : WalkD K J (Ite K a) (enumD xs) := by
  refine ⟨_, _, by unfold enumD; rw [List.length_mapIdx, ← r.length]; exact walk_enum (xs := vs), fun J' H' s1 s2 => SqL.of (s2 _ _ (s1 _ _ h)), fun i H v H' hi y => .inr ?_⟩
  obtain ⟨T, x, y, e1, e2, e3, e4, e5⟩ := y
  obtain ⟨d, e6, e7⟩ := r.get e5
  cases e4
  exact ⟨T, _, [.int ((i : Nat) : Int), d], e1, e2, e3, .cons (.int _) (.cons e7 .nil), by unfold enumD; rw [List.getElem?_mapIdx, e6]; rfl⟩
variable {W : WX} {tg e : Expr} {td : DTE} {tA : DTA}
theorem di_data (hK : X.K = K) (h : DE W X K e td) : DI W X K tg e (diData td) := by
  subst hK
  obtain ⟨t, p, k⟩ := h
  refine ⟨_, pi_data p, fun σ H J ω ρ kk x R w s c cx z => k σ H J ω ρ _ x _ w s (fun r ω1 v J1 H1 z1 g1 w1 rp => ?_) cx z⟩
  obtain ⟨xs, e1, z2⟩ := z1
  cases rp with
  | lst hs ha => cases e1; exact .inl ⟨_, rfl, ⟨_, SqL.of (w1.jh _ _ hs)⟩, c _ _ _ _ _ z2 g1 w1 (walkD_list hs ha)⟩
  | tup hs ha => cases e1; exact .inr (.inl ⟨_, rfl, ⟨_, Same.sqT w1.jh hs⟩, c _ _ _ _ _ z2 g1 w1 (walkD_tup hs ha)⟩)
  | str y => cases e1; exact .inr (.inr ⟨_, rfl, c _ _ _ _ _ z2 g1 w1 walkD_str⟩)
  | non => cases e1
  | bl _ => cases e1
  | int _ => cases e1
  | ref _ => cases e1
  | scr _ => cases e1
  | pub _ => cases e1
theorem di_range1 {a : Expr} {p pos : Pos} (hg : Gl X "range") (hm : X.mg "range" = none) (ha : DAs W X K [a] tA) (hs : starEach [a] X.env = [(false, eval a X.env)] := by rfl) : DI W X K tg (.Call (.Name "range" p) [a] [] pos) (diRange1 tA) := by
  obtain ⟨t, pp, k⟩ := ha
  refine ⟨_, pi_range1 hg hm pp hs, fun σ H J ω ρ kk x R w s c cx z => k σ H J ω ρ _ x _ w s (fun rs ω1 vs J1 H1 z1 g1 w1 rps => ?_) cx z⟩
  split at z1
  · cases rps with
    | cons r1 r2 =>
      cases r1
      cases r2
      refine ⟨_, rfl, z1.1, z1.2.1, c _ _ _ _ _ z1.2.2 g1 w1 ?_⟩
      have := walkD_range (K := K) (J := J1) (lo := 0) (n := Int.toNat (by assumption))
      simpa using this
  · exact False.elim z1
theorem di_range2 {a b : Expr} {p pos : Pos} (hg : Gl X "range") (hm : X.mg "range" = none) (ha : DAs W X K [a, b] tA) (hs : starEach [a, b] X.env = [(false, eval a X.env), (false, eval b X.env)] := by rfl) (hs2 : starEach [b] X.env = [(false, eval b X.env)] := by rfl) : DI W X K tg (.Call (.Name "range" p) [a, b] [] pos) (diRange2 tA) := by
  obtain ⟨t, pp, k⟩ := ha
  refine ⟨_, pi_range2 hg hm pp hs hs2, fun σ H J ω ρ kk x R w s c cx z => k σ H J ω ρ _ x _ w s (fun rs ω1 vs J1 H1 z1 g1 w1 rps => ?_) cx z⟩
  split at z1
  · cases rps with
    | cons r1 r2 =>
      cases r1
      cases r2 with
      | cons r3 r4 =>
        cases r3
        cases r4
        exact ⟨_, _, rfl, z1.1, c _ _ _ _ _ z1.2 g1 w1 walkD_range⟩
  · exact False.elim z1
theorem di_enum {a : Expr} {p pos tpos : Pos} {elts : List Expr} {kk : Nat} (hK : X.K = K) (hg : Gl X "enumerate") (hm : X.mg "enumerate" = none) (ha : DAs W X K [a] tA) (hs : starEach [a] X.env = [(false, eval a X.env)] := by rfl) :
    DI W X K (.Tuple elts kk tpos) (.Call (.Name "enumerate" p) [a] [] pos) (diEnum tA) := by
  subst hK
  obtain ⟨t, pp, k⟩ := ha
  refine ⟨_, pi_enum hg hm pp hs, fun σ H J ω ρ kk x R w s c cx z => k σ H J ω ρ _ x _ w s (fun rs ω1 vs J1 H1 z1 g1 w1 rps => ?_) cx z⟩
  split at z1
  · cases rps with
    | cons r1 r2 =>
      cases r2
      cases r1 with
      | lst hs ha => exact ⟨_, _, rfl, SqL.of (w1.jh _ _ hs), c _ _ _ _ _ z1 g1 w1 (walkD_enum hs ha)⟩
  · exact False.elim z1
end
/-! ### comprehensions -/
abbrev W0 : WX := fun _ _ _ _ => False
abbrev X0 : DXK := fun _ _ _ => False
structure DTs (W : WX) (X : Cx) (K : PySem.W.Frag) (ifs : List Expr) (td : DTT) : Prop where
  ps : PTs X ifs (liftT K W td)
def dYes (_ : DS) (ω : Wd) (q : Bool → Wd → Prop) (_ : DXK) : Prop := q true ω
theorem dts_nil {W : WX} {X : Cx} {K : PySem.W.Frag} : DTs W X K [] dYes :=
  ⟨⟨fun pins s σ H Q I ⟨J, ω, ρ, q, x, w, sl, cq, cx, z⟩ => (pts_nil (X := X)).run pins s σ H Q I (cq _ _ _ _ z Grow.refl w)⟩⟩
theorem dts_one {W : WX} {X : Cx} {K : PySem.W.Frag} {c : Expr} {td : DTT} (h : DT W X K c td) : DTs W X K [c] td := ⟨pts_one h.pt⟩
def dLc (di : DTI) (gd : DTG) (tt : DTT) (te : DTE) (vs : List Nat) (ρ : DS) (ω : Wd) (q : DQ) (x : DXK) : Prop := di ρ ω (fun xs ω1 => xs.length ≤ sizeLine ∧ ∃ Inv : Nat → List PyData → Wd → Prop, Inv 0 [] ω1 ∧
  (∀ i y acc ω2, xs[i]? = some y → Inv i acc ω2 → acc.length ≤ i → gd y (wipeD ρ vs) fun ρ' => tt ρ' ω2 (fun b ω3 => if b = true then te ρ' ω3 (fun r ω4 => Inv (i + 1) (acc ++ [r]) ω4) X0 else Inv (i + 1) acc ω3) X0) ∧
  ∀ acc ω2, acc.length ≤ xs.length → Inv xs.length acc ω2 → q (.list acc) ω2) x
theorem wipe_wipe (σ : L2.St) (vs : List Nat) : wipe (wipe σ vs) vs = wipe σ vs := by
  have key : ∀ (ws : List Nat) (σ : L2.St), (∀ i ∈ ws, i ∈ vs) → wipe (wipe σ ws) vs = wipe σ vs := by
    intro ws
    induction ws with
    | nil => intro σ _; rfl
    | cons i ws ih =>
      intro σ h
      show wipe ((wipe σ ws).set i none) vs = wipe σ vs
      rw [wipe_set (h i (by simp)), ih σ fun j hj => h j (List.mem_cons_of_mem _ hj)]
  exact key vs σ fun _ h => h
section
variable {K : PySem.W.Frag} {J J1 H H1 : Hp} {ω ω1 : Wd} {D : Addr}
/-- a list that is being made, neither data yet nor a cell -/
theorem Grow.loc (g : Grow J H ω J1 H1 ω1) (hD : H D = none) (o : HO) : Grow J H ω J1 (upd H1 D o) ω1 :=
  ⟨g.jj, fun a h => by rw [upd_ne (ne_new h hD)]; exact g.dom a h, fun a u h z => by rw [upd_ne (ne_of_none h hD)]; exact g.keep a u h z, g.frj, g.frw⟩
theorem fr_ne {a : Addr} {m : MO} {b : Addr} (hw : Fr ω D) (e : ω a = some m) (l : Looks a m b) : b ≠ D := by
  rintro rfl
  rcases l with rfl | nb
  · rw [hw.1] at e; cases e
  · exact hw.2 a m e nb
theorem Rw.loc (w : Rw K J H ω) (hj : J D = none) (hw : Fr ω D) (o : HO) : Rw K J (upd H D o) ω := by
  refine w.step (Same.refl _) (fun a u e => ?_) (fun _ _ j => j) fun a m e => .inl ⟨e, fun b u l z => ?_⟩
  · rw [upd_ne fun z => by rw [z, hj] at e; cases e]; exact w.jh a u e
  · rw [upd_ne (fr_ne hw e l)]; exact z
theorem Grow.take (g : Grow J H ω J1 H1 ω1) (hD : H D = none) (hj : J1 D = none) (o : HO) : Grow J H ω (upd J1 D o) H1 ω1 :=
  ⟨g.jj.trans (same_new hj o), g.dom, g.keep, fun a h z j => by rw [upd_ne (ne_new h hD)]; exact g.frj a h z j, g.frw⟩
theorem Rw.take {o : HO} (w : Rw K J H ω) (hj : J D = none) (hw : Fr ω D) (h : H D = some o) : Rw K (upd J D o) H ω := by
  refine ⟨fun a u e => ?_, fun a m e => ?_, fun a m e => (w.cell a m e).mono (same_new hj o) fun _ _ _ z => z, fun a m e b nb => ?_⟩
  · by_cases z : a = D
    · rw [z, upd_same] at e; rw [z, ← e]; exact h
    · rw [upd_ne z] at e; exact w.jh a u e
  · rw [upd_ne (fr_ne hw e (.inl rfl))]; exact w.out a m e
  · obtain ⟨t1, t2, t3⟩ := w.tmp a m e b nb
    exact ⟨by rw [upd_ne (fr_ne hw e (.inr nb))]; exact t1, t2, t3⟩
end
section
variable {W : WX} {X : Cx} {K : PySem.W.Frag} {elt tg iter : Expr} {ifs : List Expr} {scope : Scope} {own : List (Str × Nat)} {pos : Pos} {is : List Nat} {di : DTI} {gd : DTG} {tt : DTT} {te : DTE}
theorem lc_run {wi : TI} (hi : ∀ σ H J ω ρ (k : List PyData → Wd → Prop) x (R : It → Hp → Prop), Rw K J H ω → Sl K J σ ρ → (∀ xs ω1 J1 H1 I, k xs ω1 → Grow J H ω J1 H1 ω1 → Rw K J1 H1 ω1 → WalkD K J1 I xs → R I H1) →
    CovX K J H ω x (fun c d H => W c d σ H) → di ρ ω k x → wi σ H R) {vs : List Nat} (his : ∀ i ∈ is, i ∈ vs)
    {σ : L2.St} {H J : Hp} {ω : Wd} {ρ : DS} {q : DQ} {x : DXK} {Q : VK} (w : Rw K J H ω) (s : Sl K J σ ρ) (cq : CovQ K J H ω q Q) (cx : CovX K J H ω x (fun c d H => W c d σ H)) (z : dLc di gd tt te vs ρ ω q x) :
    tLc wi (liftG K is gd) (liftT K W0 tt) (liftE K W0 te) vs σ H Q := by
  refine hi σ H J ω ρ _ x _ w s (fun xs ω1 J1 H1 I z1 g1 w1 wd => ?_) cx z
  intro D hD
  obtain ⟨hz, Inv, i0, step, fin⟩ := z1
  obtain ⟨G, Y, wk, hG, hY⟩ := wd
  have hjD : J1 D = none := w1.jh.free hD
  have s1 := s.mono g1.jj
  refine lc_it wk (fun i H' => ∃ J' ω' acc us, Grow J1 H1 ω1 J' H' ω' ∧ Rw K J' H' ω' ∧ H' D = some (.lst us) ∧ J' D = none ∧ Fr ω' D ∧ RpAll K J' us acc ∧ acc.length ≤ i ∧ Inv i acc ω') ?_ ?_ ?_ ?_
  · exact ⟨J1, ω1, [], [], Grow.junk hD _, w1.junk hD _, upd_same, hjD, w1.free hD, .nil, Nat.le_refl _, i0⟩
  · rintro i H' _ ⟨J', ω', acc, us, g, w', _⟩
    exact hG J' H' g.jj w'.jh
  · rintro i v H2 H2' hi ⟨J2, ω2, acc, us, g2, w2, hD2, jD2, oD2, ra, al, inv⟩ y
    have go : ∀ (d : PyData) (J3 H3 : Hp), xs[i]? = some d → Grow J2 H2 ω2 J3 H3 ω2 → Rw K J3 H3 ω2 → Rp K J3 v d → liftG K is gd v (wipe σ vs) H3 fun σ2 H2 => wipe σ2 vs = wipe σ vs ∧ liftT K W0 tt σ2 H2 fun b H3 =>
        if b = true then liftE K W0 te σ2 H3 fun y H4 => ∃ acc, H4 D = some (.lst acc) ∧ acc.length < sizeLine ∧ (∃ J' ω' acc' us, Grow J1 H1 ω1 J' (upd H4 D (.lst (acc ++ [y]))) ω' ∧ Rw K J' (upd H4 D (.lst (acc ++ [y]))) ω' ∧ upd H4 D (.lst (acc ++ [y])) D = some (.lst us) ∧ J' D = none ∧ Fr ω' D ∧ RpAll K J' us acc' ∧ acc'.length ≤ i + 1 ∧ Inv (i + 1) acc' ω')
        else ∃ J' ω' acc us, Grow J1 H1 ω1 J' H3 ω' ∧ Rw K J' H3 ω' ∧ H3 D = some (.lst us) ∧ J' D = none ∧ Fr ω' D ∧ RpAll K J' us acc ∧ acc.length ≤ i + 1 ∧ Inv (i + 1) acc ω' := by
      intro d J3 H3 e3 g3 w3 r3
      have hD3 := g3.keep D _ hD2 oD2
      have nD2 : H2 D ≠ none := by rw [hD2]; simp
      have jD3 := g3.frj D nD2 oD2 jD2
      refine ⟨J3, ω2, wipeD ρ vs, d, _, w3, (s1.mono (g2.jj.trans g3.jj)).wipe vs, r3, fun ρ' σ' z4 s4 ew => ⟨(ew vs his).trans (wipe_wipe σ vs), ?_⟩, step i d acc ω2 e3 inv al⟩
      refine ⟨J3, ω2, ρ', _, X0, w3, s4, fun b ω5 J5 H5 z5 g5 w5 => ?_, (fun _ _ _ _ _ _ z => False.elim z), z4⟩
      have nD3 : H3 D ≠ none := by rw [hD3]; simp
      have hD5 := g5.keep D _ hD3 oD2
      have jD5 := g5.frj D nD3 oD2 jD3
      have oD5 := g5.frw D nD3 oD2
      have nD5 : H5 D ≠ none := by rw [hD5]; simp
      cases b with
      | false =>
        refine iteF ⟨J5, ω5, acc, us, (g2.trans g3).trans g5, w5, hD5, jD5, oD5, rpAll_mono (g3.jj.trans g5.jj) _ _ ra, by omega, by simpa using z5⟩
      | true =>
        refine iteT ⟨J5, ω5, ρ', _, X0, w5, s4.mono g5.jj, fun r ω6 y J6 H6 z6 g6 w6 r6 => ?_, (fun _ _ _ _ _ _ z => False.elim z), by simpa using z5⟩
        have hD6 := g6.keep D _ hD5 oD5
        have jD6 := g6.frj D nD5 oD5 jD5
        have oD6 := g6.frw D nD5 oD5
        have ul := ra.length
        refine ⟨us, hD6, by omega, J6, ω6, acc ++ [r], us ++ [y], (((g2.trans g3).trans g5).trans g6).loc hD _, w6.loc jD6 oD6 _, upd_same, jD6, oD6, RpAll.append (rpAll_mono ((g3.jj.trans g5.jj).trans g6.jj) _ _ ra) (.one r6), by rw [List.length_append]; simp; omega, z6⟩
    rcases hY i H2 v H2' hi y with ⟨rfl, d, e1, e2⟩ | ⟨T, us2, ds, rfl, hT, rfl, e1, e2⟩
    · exact go d J2 _ e1 Grow.refl w2 (rp_mono g2.jj _ _ e2)
    · exact go (.tuple ds) _ _ e2 (Grow.frz w2 hT _) (w2.frz hT _) (.tup (SqT.of upd_same) (rpAll_mono (g2.jj.trans (same_new (w2.jh.free hT) _)) _ _ e1))
  · rintro H2 ⟨J2, ω2, acc, us, g2, w2, hD2, jD2, oD2, ra, al, inv⟩
    exact (cq.step g1) _ _ _ _ _ (fin acc ω2 al inv) (g2.take hD jD2 _) (w2.take jD2 oD2 hD2) (.lst upd_same (rpAll_mono (same_new jD2 _) _ _ ra))
theorem de_lc (hc : X.calm = true) (hN : X.N.Nodup) (hi : DI W X K tg iter di) (ok : BlkOk X.N X.env.scope scope own)
    (hg : ∀ (s : Shared) (H : Hp) (C : Addr) (cl : List (Str × Addr)) (fp : List Addr), DG (X.blk s H scope (compEnvC scope cl C X.env) fp) K tg is gd)
    (ht : ∀ (s : Shared) (H : Hp) (C : Addr) (cl : List (Str × Addr)) (fp : List Addr), DTs W0 (X.blk s H scope (compEnvC scope cl C X.env) fp) K ifs tt)
    (he : ∀ (s : Shared) (H : Hp) (C : Addr) (cl : List (Str × Addr)) (fp : List Addr), DE W0 (X.blk s H scope (compEnvC scope cl C X.env) fp) K elt te)
    (his : ∀ i ∈ is, i ∈ own.map (·.2) := by decide) (hs : ∀ x, foldedSetIterable iter X.env x = pure x := by intro _; rfl) :
    DE W X K (.ListComp elt [⟨tg, iter, ifs, 0⟩] scope pos) (dLc di gd tt te (own.map (·.2))) := by
  obtain ⟨wi, p, k⟩ := hi
  exact ⟨_, pe_lc hc hN p ok hg (fun s H C cl fp => (ht s H C cl fp).ps) (fun s H C cl fp => (he s H C cl fp).pe) hs, fun σ H J ω ρ q x Q w s cq cx z => lc_run k his w s cq cx z⟩
end
end Tx

namespace Tx
open PySem PySem.Spec PyProof.Rows L2
/-! ## Rules over data: statements, defs, calls, errors -/
def xcOf (D : DEnds) (ρ : DS) : DXK := fun C fs ω => D.xc C fs ρ ω
def dNext (D : DEnds) (ρ : DS) (ω : Wd) : Prop := D.nx ρ ω
def dSeq (t u : DTS) (D : DEnds) (ρ : DS) (ω : Wd) : Prop := t { D with nx := u D } ρ ω
def dSet (i : Nat) (te : DTE) (D : DEnds) (ρ : DS) (ω : Wd) : Prop := te ρ ω (fun r ω1 => D.nx (ρ.set i (some r)) ω1) (xcOf D ρ)
def dAsg (te : DTE) (g : DTG) (D : DEnds) (ρ : DS) (ω : Wd) : Prop := te ρ ω (fun r ω1 => g r ρ fun ρ' => D.nx ρ' ω1) (xcOf D ρ)
def dPar (i j : Nat) (ta : DTA) (D : DEnds) (ρ : DS) (ω : Wd) : Prop := ta ρ ω (fun rs ω1 => match rs with
  | [a, b] => D.nx ((ρ.set i (some a)).set j (some b)) ω1
  | _ => False) (xcOf D ρ)
def dDrop (te : DTE) (D : DEnds) (ρ : DS) (ω : Wd) : Prop := te ρ ω (fun _ ω1 => D.nx ρ ω1) (xcOf D ρ)
def dRet (te : DTE) (D : DEnds) (ρ : DS) (ω : Wd) : Prop := te ρ ω D.rt (xcOf D ρ)
def dRetN (D : DEnds) (_ : DS) (ω : Wd) : Prop := D.rt .none ω
def dBreak (D : DEnds) (ρ : DS) (ω : Wd) : Prop := D.bk ρ ω
def dCont (D : DEnds) (ρ : DS) (ω : Wd) : Prop := D.ct ρ ω
def dIfS (c : DTT) (t u : DTS) (D : DEnds) (ρ : DS) (ω : Wd) : Prop := c ρ ω (fun b ω1 => if b = true then t D ρ ω1 else u D ρ ω1) (xcOf D ρ)
def dFor (di : DTI) (gd : DTG) (tb : DTS) (D : DEnds) (ρ : DS) (ω : Wd) : Prop := di ρ ω (fun xs ω1 => ∃ Inv : Nat → DS → Wd → Prop, Inv 0 ρ ω1 ∧
  (∀ i x ρ' ω', xs[i]? = some x → Inv i ρ' ω' → gd x ρ' fun ρ'' => tb { D with nx := Inv (i + 1), ct := Inv (i + 1), bk := D.nx } ρ'' ω') ∧ ∀ ρ' ω', Inv xs.length ρ' ω' → D.nx ρ' ω') (xcOf D ρ)
def dWhile (c : DTT) (tb : DTS) (D : DEnds) (ρ : DS) (ω : Wd) : Prop := ∃ Inv : Nat → DS → Wd → Prop, (∃ m, Inv m ρ ω) ∧
  ∀ m ρ' ω', Inv m ρ' ω' → c ρ' ω' (fun b ω1 => if b = true then tb { D with nx := fun ρ2 ω2 => ∃ m', m' < m ∧ Inv m' ρ2 ω2, ct := fun ρ2 ω2 => ∃ m', m' < m ∧ Inv m' ρ2 ω2, bk := D.nx } ρ' ω1 else D.nx ρ' ω1) (xcOf D ρ')
section
variable {W : WX} {X : Cx} {K : PySem.W.Frag} {e c tg iter : Expr} {es : List Expr} {st : Stmt} {a b body rest : List Stmt} {te : DTE} {tA : DTA} {tc : DTT} {t u : DTS} {pos : Pos} {is : List Nat} {gd : DTG} {di : DTI}
theorem dss_nil : DSs W X K [] dNext := ⟨_, pss_nil, fun D DD σ H J ω ρ w s cs z => cs.nx _ _ _ _ _ z Grow.refl w s⟩
theorem dss_one (h : DSt W X K st t) : DSs W X K [st] t := by
  obtain ⟨r, p, k⟩ := h
  exact ⟨_, pss_one p, k⟩
theorem dss_cons (h : DSt W X K st t) (hs : DSs W X K rest u) : DSs W X K (st :: rest) (dSeq t u) := by
  obtain ⟨r, p, k⟩ := h
  obtain ⟨r2, p2, k2⟩ := hs
  refine ⟨_, pss_cons p p2, fun D DD σ H J ω ρ w s cs z => k { D with nx := r2 D } { DD with nx := u DD } σ H J ω ρ w s ⟨fun ρ' ω' σ' J' H' z' g' w' s' => ?_, cs.bk, cs.ct, cs.rt, cs.xc⟩ z⟩
  exact k2 D DD σ' H' J' ω' ρ' w' s' (cs.step g') z'
theorem ds_set {i : Nat} {x : Str} {pos' : Pos} (hN : X.N.Nodup) (hi : X.N[i]? = some x) (hx : Loc X.env.scope x) (he : DE W X K e te) (hs : swapsWith e (some (.Name x pos')) pos.line X.env = pure false := by rfl) (hf : X.fn x = true ∨ X.env.scope.names.lookup x = some .local := by first | exact .inl rfl | exact .inr rfl | assumption) :
    DSt W X K (.Assign [.Name x pos'] e pos) (dSet i te) := by
  obtain ⟨r, p, k⟩ := he
  refine ⟨_, ps_set hN hi hx p hs hf, fun D DD σ H J ω ρ w s cs z => k σ H J ω ρ _ _ _ w s (fun d ω1 v J1 H1 z1 g1 w1 rp => ?_) (cs.x s) z⟩
  exact cs.nx _ _ _ _ _ z1 g1 w1 ((s.mono g1.jj).set i rp)
theorem ds_asg (he : DE W X K e te) (hg : DG X K tg is gd) (hs : swapsWithSole [tg] e pos.line X.env = pure false := by rfl) (hw : swappedStores [tg] e X.env = pure none := by rfl) (h1 : (assignEach [tg] X.env).map (·.2) = [assign tg X.env] := by rfl) :
    DSt W X K (.Assign [tg] e pos) (dAsg te gd) := by
  obtain ⟨r, p, k⟩ := he
  refine ⟨_, ps_asg p hg hs hw h1, fun D DD σ H J ω ρ w s cs z => k σ H J ω ρ _ _ _ w s (fun d ω1 v J1 H1 z1 g1 w1 rp => ?_) (cs.x s) z⟩
  exact ⟨J1, ω1, ρ, d, _, w1, s.mono g1.jj, rp, fun ρ' σ' z' s' _ => cs.nx _ _ _ _ _ z' g1 w1 s', z1⟩
theorem ds_par {i j : Nat} {x y : Str} {e1 e2 : Expr} {px py pt : Pos} {kt k2 pt2} (hc : X.calm = true) (hN : X.N.Nodup) (hi : X.N[i]? = some x) (hj : X.N[j]? = some y) (hij : i ≠ j)
    (hx : X.env.scope.names.lookup x = some .local) (hy : X.env.scope.names.lookup y = some .local) (ha : DAs W X K [e1, e2] tA)
    (hw : swappedStores [.Tuple [.Name x px, .Name y py] kt pt] (.Tuple [e1, e2] k2 pt2) X.env = pure (some [x, y]))
    (hs : swapsWithSole [.Tuple [.Name x px, .Name y py] kt pt] (.Tuple [e1, e2] k2 pt2) pos.line X.env = pure false := by rfl) :
    DSt W X K (.Assign [.Tuple [.Name x px, .Name y py] kt pt] (.Tuple [e1, e2] k2 pt2) pos) (dPar i j tA) := by
  obtain ⟨r, p, k⟩ := ha
  refine ⟨_, ps_par hc hN hi hj hij hx hy p hw hs, fun D DD σ H J ω ρ w s cs z => k σ H J ω ρ _ _ _ w s (fun ds ω1 vs J1 H1 z1 g1 w1 rp => ?_) (cs.x s) z⟩
  split at z1
  · cases rp with
    | cons r1 r2 =>
      cases r2 with
      | cons r3 r4 =>
        cases r4
        exact ⟨_, _, rfl, cs.nx _ _ _ _ _ z1 g1 w1 (((s.mono g1.jj).set i r1).set j r3)⟩
  · exact False.elim z1
theorem ds_expr (he : DE W X K e te) (hs : swapsWith e none pos.line X.env = pure false := by rfl) : DSt W X K (.Expr e pos) (dDrop te) := by
  obtain ⟨r, p, k⟩ := he
  exact ⟨_, ps_expr p hs, fun D DD σ H J ω ρ w s cs z => k σ H J ω ρ _ _ _ w s (fun d ω1 v J1 H1 z1 g1 w1 rp => cs.nx _ _ _ _ _ z1 g1 w1 (s.mono g1.jj)) (cs.x s) z⟩
theorem ds_ret (he : DE W X K e te) : DSt W X K (.Return (some e) pos) (dRet te) := by
  obtain ⟨r, p, k⟩ := he
  exact ⟨_, ps_ret p, fun D DD σ H J ω ρ w s cs z => k σ H J ω ρ _ _ _ w s cs.rt (cs.x s) z⟩
theorem ds_retN : DSt W X K (.Return none pos) dRetN := ⟨_, ps_retN, fun D DD σ H J ω ρ w s cs z => cs.rt _ _ _ _ _ z Grow.refl w .non⟩
theorem ds_pass : DSt W X K (.Pass pos) dNext := ⟨_, ps_pass, fun D DD σ H J ω ρ w s cs z => cs.nx _ _ _ _ _ z Grow.refl w s⟩
theorem ds_doc {x j pos'} : DSt W X K (.Expr (.Constant (.str x) j pos) pos') dNext := ⟨_, ps_doc, fun D DD σ H J ω ρ w s cs z => cs.nx _ _ _ _ _ z Grow.refl w s⟩
theorem ds_break : DSt W X K (.Break pos) dBreak := ⟨_, ps_break, fun D DD σ H J ω ρ w s cs z => cs.bk _ _ _ _ _ z Grow.refl w s⟩
theorem ds_continue : DSt W X K (.Continue pos) dCont := ⟨_, ps_continue, fun D DD σ H J ω ρ w s cs z => cs.ct _ _ _ _ _ z Grow.refl w s⟩
theorem ds_if (hc : DT W X K c tc) (ha : DSs W X K a t) (hb : DSs W X K b u) : DSt W X K (.If c a b pos) (dIfS tc t u) := by
  obtain ⟨rc, pc, kc⟩ := hc
  obtain ⟨ra, pa, ka⟩ := ha
  obtain ⟨rb, pb, kb⟩ := hb
  refine ⟨_, ps_if pc pa pb, fun D DD σ H J ω ρ w s cs z => kc σ H J ω ρ _ _ _ w s (fun bb ω1 J1 H1 z1 g1 w1 => ?_) (cs.x s) z⟩
  cases bb with
  | true => exact iteT (ka D DD σ H1 J1 ω1 ρ w1 (s.mono g1.jj) (cs.step g1) (by simpa using z1))
  | false => exact iteF (kb D DD σ H1 J1 ω1 ρ w1 (s.mono g1.jj) (cs.step g1) (by simpa using z1))
theorem ds_for (hp : PassesOwn (model X.prog X.w) X.A X.env X.xe) (hc : X.calm = true) (hi : DI W X K tg iter di) (hg : DG X K tg is gd) (hb : DSs W X K body t) (hs : ∀ x, foldedSetIterable iter X.env x = pure x := by intro _; rfl) :
    DSt W X K (.For tg iter body [] pos) (dFor di gd t) := by
  obtain ⟨wi, pi, ki⟩ := hi
  obtain ⟨rb, pb, kb⟩ := hb
  refine ⟨_, ps_for hp hc pi hg pb hs, fun D DD σ H J ω ρ w s cs z => ki σ H J ω ρ _ _ _ w s (fun xs ω1 J1 H1 I z1 g1 w1 wd => ?_) (cs.x s) z⟩
  obtain ⟨Inv, i0, step, fin⟩ := z1
  obtain ⟨G, Y, wk, hG, hY⟩ := wd
  have cs1 := cs.step g1
  refine for_it wk (fun i σ' H' => ∃ J' ρ' ω', Grow J1 H1 ω1 J' H' ω' ∧ Rw K J' H' ω' ∧ Sl K J' σ' ρ' ∧ Inv i ρ' ω') ⟨J1, ρ, ω1, Grow.refl, w1, s.mono g1.jj, i0⟩ ?_ ?_ ?_
  · rintro i σ' H' _ ⟨J', ρ', ω', g, w', _⟩
    exact hG J' H' g.jj w'.jh
  · rintro i v σ2 H2 H2' hi ⟨J2, ρ2, ω2, g2, w2, s2, inv⟩ y
    have go : ∀ (d : PyData) (J3 H3 : Hp), xs[i]? = some d → Grow J2 H2 ω2 J3 H3 ω2 → Rw K J3 H3 ω2 → Rp K J3 v d → liftG K is gd v σ2 H3 fun σ2 H2 => rb { D with nx := fun σ' H' => ∃ J' ρ' ω', Grow J1 H1 ω1 J' H' ω' ∧ Rw K J' H' ω' ∧ Sl K J' σ' ρ' ∧ Inv (i + 1) ρ' ω', ct := fun σ' H' => ∃ J' ρ' ω', Grow J1 H1 ω1 J' H' ω' ∧ Rw K J' H' ω' ∧ Sl K J' σ' ρ' ∧ Inv (i + 1) ρ' ω', bk := D.nx } σ2 H2 := by
      intro d J3 H3 e3 g3 w3 r3
      refine ⟨J3, ω2, ρ2, d, _, w3, s2.mono g3.jj, r3, fun ρ' σ' z4 s4 _ => ?_, step i d ρ2 ω2 e3 inv⟩
      have g := g2.trans g3
      have cs3 := cs1.step g
      exact kb _ { DD with nx := Inv (i + 1), ct := Inv (i + 1), bk := DD.nx } σ' H3 J3 ω2 ρ' w3 s4 ⟨fun ρ5 ω5 σ5 J5 H5 z5 g5 w5 s5 => ⟨J5, ρ5, ω5, g.trans g5, w5, s5, z5⟩, cs3.nx, fun ρ5 ω5 σ5 J5 H5 z5 g5 w5 s5 => ⟨J5, ρ5, ω5, g.trans g5, w5, s5, z5⟩, cs3.rt, cs3.xc⟩ z4
    rcases hY i H2 v H2' hi y with ⟨rfl, d, e1, e2⟩ | ⟨T, us2, ds, rfl, hT, rfl, e1, e2⟩
    · exact go d J2 _ e1 Grow.refl w2 (rp_mono g2.jj _ _ e2)
    · exact go (.tuple ds) _ _ e2 (Grow.frz w2 hT _) (w2.frz hT _) (.tup (SqT.of upd_same) (rpAll_mono (g2.jj.trans (same_new (w2.jh.free hT) _)) _ _ e1))
  · rintro σ2 H2 ⟨J2, ρ2, ω2, g2, w2, s2, inv⟩
    exact cs1.nx _ _ _ _ _ (fin ρ2 ω2 inv) g2 w2 s2
theorem ds_setLc {i : Nat} {y : Str} {py spos : Pos} {elt : Expr} {ifs : List Expr} {scope : Scope} {own : List (Str × Nat)} {tt : DTT} (hc : X.calm = true) (hN : X.N.Nodup) (hy : X.N[i]? = some y) (hyl : X.env.scope.names.lookup y = some .local)
    (hsw : swapsWith (.ListComp elt [⟨tg, iter, ifs, 0⟩] scope pos) (some (.Name y py)) spos.line X.env = pure true) (hi : DI W X K tg iter di) (ok : BlkOk X.N X.env.scope scope own)
    (hg : ∀ (s : Shared) (H : Hp) (C : Addr) (cl : List (Str × Addr)) (fp : List Addr), DG (X.blk s H scope (compEnvC scope cl C X.env) fp) K tg is gd)
    (ht : ∀ (s : Shared) (H : Hp) (C : Addr) (cl : List (Str × Addr)) (fp : List Addr), DTs W0 (X.blk s H scope (compEnvC scope cl C X.env) fp) K ifs tt)
    (he : ∀ (s : Shared) (H : Hp) (C : Addr) (cl : List (Str × Addr)) (fp : List Addr), DE W0 (X.blk s H scope (compEnvC scope cl C X.env) fp) K elt te)
    (his : ∀ i ∈ is, i ∈ own.map (·.2) := by decide) (hs : ∀ x, foldedSetIterable iter X.env x = pure x := by intro _; rfl) :
    DSt W X K (.Assign [.Name y py] (.ListComp elt [⟨tg, iter, ifs, 0⟩] scope pos) spos) (dSet i (dLc di gd tt te (own.map (·.2)))) := by
  obtain ⟨wi, p, k⟩ := hi
  refine ⟨_, ps_setLc hc hN hy hyl hsw p ok hg (fun s H C cl fp => (ht s H C cl fp).ps) (fun s H C cl fp => (he s H C cl fp).pe) hs, fun D DD σ H J ω ρ w s cs z => lc_run (q := fun r ω1 => DD.nx (ρ.set i (some r)) ω1) k his w s (fun d ω1 v J1 H1 z1 g1 w1 rp => ?_) (cs.x s) z⟩
  exact cs.nx _ _ _ _ _ z1 g1 w1 ((s.mono g1.jj).set i rp)
end
/-! ### lists of one's own -/
def dAppend (to te : DTE) (ρ : DS) (ω : Wd) (q : DQ) (x : DXK) : Prop := to ρ ω (fun o ω1 => ∃ a ds0, o = refD a ∧ ω1 a = some (.lst ds0) ∧ te ρ ω1 (fun r ω2 => ∃ ds, ω2 a = some (.lst ds) ∧ ds.length < sizeLine ∧ q .none (updW ω2 a (.lst (ds ++ [r])))) x) x
def dExtend (to te : DTE) (ρ : DS) (ω : Wd) (q : DQ) (x : DXK) : Prop := to ρ ω (fun o ω1 => ∃ a ds0, o = refD a ∧ ω1 a = some (.lst ds0) ∧ te ρ ω1 (fun r ω2 => ∃ ds es, ω2 a = some (.lst ds) ∧ rsv ω2 r = .list es ∧ ds.length + es.length ≤ sizeLine ∧ q .none (updW ω2 a (.lst (ds ++ es)))) x) x
/-- a name whose list is not changed any more -/
def dFrz (i : Nat) (ρ : DS) (ω : Wd) (q : DQ) (_ : DXK) : Prop := match ρ[i]? with
  | some (some d) => ∃ a ds, d = refD a ∧ ω a = some (.lst ds) ∧ q (.list ds) (delW ω a)
  | _ => False
section
variable {W : WX} {X : Cx} {K : PySem.W.Frag} {o e : Expr} {to te : DTE} {apos cpos : Pos}
theorem rp_ref {J : Hp} {v : V} {a : Addr} (h : Rp K J v (refD a)) : v = .ref a := by
  generalize hd : refD a = d at h
  cases h with
  | ref b =>
    have e1 := PyData.dict.inj hd
    have e2 := (List.cons.inj e1).1
    have e3 := (Prod.mk.inj e2).1
    have e4 := PyData.int.inj e3
    rw [show a = b from by exact_mod_cast e4]
  | _ => cases hd
theorem de_append (hK : X.K = K) (ho : DE W X K o to) (he : DE W X K e te) (hbase : attributeBase o "append" X.env (eval o X.env) = eval o X.env := by rfl)
    (hfew : ((backTo cpos (starEach (e :: []) X.env)).all (fun x => !x.1) && (backToKw cpos (keywordEach [] X.env)).all (fun x => x.1.isSome) && decide ((e :: []).length + ([] : List Keyword).length + (if ([] : List Keyword).isEmpty then 0 else 1) < 30)) = true := by rfl)
    (hline : (apos.endLine == cpos.line) = true := by rfl) (hs : starEach (e :: []) X.env = (false, eval e X.env) :: starEach [] X.env := by rfl) (hplain : (backTo cpos (starEach [] X.env)).any (·.1) = false := by rfl) :
    DE W X K (.Call (.Attribute o "append" apos) [e] [] cpos) (dAppend to te) := by
  subst hK
  obtain ⟨ro, po, ko⟩ := ho
  obtain ⟨re, pe, ke⟩ := he
  refine ⟨_, pe_bm PySem.F.plainAttrs_list PySem.F.slot_list_append PySem.F.type_list_append mt_append po (pa_cons pe pa_nil hs) hbase hfew hline hs hplain, fun σ H J ω ρ q x Q w s cq cx z => ko σ H J ω ρ _ x _ w s (fun r ω1 v J1 H1 z1 g1 w1 rp => ?_) cx z⟩
  obtain ⟨a, ds0, rfl, e1, z1⟩ := z1
  obtain rfl := rp_ref rp
  obtain ⟨vs0, h0, _⟩ := w1.cell a _ e1
  refine ⟨.inl ⟨rfl, _, SqL.of h0⟩, ke σ H1 J1 ω1 ρ _ x _ w1 (s.mono g1.jj) (fun r2 ω2 v2 J2 H2 z2 g2 w2 rp2 => ?_) (cx.step g1) z1⟩
  obtain ⟨ds, e2, hl, z2⟩ := z2
  obtain ⟨vs, h2, r2'⟩ := w2.cell a _ e2
  exact ⟨a, vs, v2, rfl, rfl, h2, by rw [r2'.length]; exact hl, cq _ _ _ _ _ z2 ((g1.trans g2).trans (Grow.set e2 rfl _)) (w2.set e2 rfl ⟨_, upd_same, r2'.append (.one rp2)⟩) .non⟩
theorem de_extend (hK : X.K = K) (ho : DE W X K o to) (he : DE W X K e te) (hbase : attributeBase o "extend" X.env (eval o X.env) = eval o X.env := by rfl)
    (hfew : ((backTo cpos (starEach (e :: []) X.env)).all (fun x => !x.1) && (backToKw cpos (keywordEach [] X.env)).all (fun x => x.1.isSome) && decide ((e :: []).length + ([] : List Keyword).length + (if ([] : List Keyword).isEmpty then 0 else 1) < 30)) = true := by rfl)
    (hline : (apos.endLine == cpos.line) = true := by rfl) (hs : starEach (e :: []) X.env = (false, eval e X.env) :: starEach [] X.env := by rfl) (hplain : (backTo cpos (starEach [] X.env)).any (·.1) = false := by rfl) :
    DE W X K (.Call (.Attribute o "extend" apos) [e] [] cpos) (dExtend to te) := by
  subst hK
  obtain ⟨ro, po, ko⟩ := ho
  obtain ⟨re, pe, ke⟩ := he
  refine ⟨_, pe_bm PySem.F.plainAttrs_list PySem.F.slot_list_extend PySem.F.type_list_extend mt_extend po (pa_cons pe pa_nil hs) hbase hfew hline hs hplain, fun σ H J ω ρ q x Q w s cq cx z => ko σ H J ω ρ _ x _ w s (fun r ω1 v J1 H1 z1 g1 w1 rp => ?_) cx z⟩
  obtain ⟨a, ds0, rfl, e1, z1⟩ := z1
  obtain rfl := rp_ref rp
  obtain ⟨vs0, h0, _⟩ := w1.cell a _ e1
  refine ⟨.inl ⟨rfl, _, SqL.of h0⟩, ke σ H1 J1 ω1 ρ _ x _ w1 (s.mono g1.jj) (fun r2 ω2 v2 J2 H2 z2 g2 w2 rp2 => ?_) (cx.step g1) z1⟩
  obtain ⟨ds, es, e2, e3, hl, z2⟩ := z2
  obtain ⟨vs, h2, r2'⟩ := w2.cell a _ e2
  obtain ⟨b, ws, rfl, hb, r3⟩ := rp_list w2 rp2 e3
  exact ⟨a, b, vs, ws, rfl, rfl, h2, hb, by rw [r2'.length, r3.length]; exact hl, cq _ _ _ _ _ z2 ((g1.trans g2).trans (Grow.set e2 rfl _)) (w2.set e2 rfl ⟨_, upd_same, r2'.append r3⟩) .non⟩
theorem de_frz {i : Nat} (h : PE X e (tVar i)) : DE W X K e (dFrz i) := ⟨_, h, fun σ H J ω ρ q x Q w s cq cx z => by
  obtain ⟨v, d, h1, h2, z⟩ := s.var (q := fun d => ∃ a ds, d = refD a ∧ ω a = some (.lst ds) ∧ q (.list ds) (delW ω a)) z
  obtain ⟨a, ds, rfl, e1, z⟩ := z
  obtain rfl := rp_ref h2
  obtain ⟨vs, h3, h4⟩ := w.cell a _ e1
  exact ⟨_, h1, cq _ _ _ _ _ z (Grow.fix w e1 h3) (w.fix e1 h3) (.lst upd_same (rpAll_mono (same_new (w.out _ _ e1) _) _ _ h4))⟩⟩
end
/-- .. where cells that are not looked at any more are left -/
def SubW (ω2 ω1 : Wd) : Prop := ∀ a m, ω2 a = some m → ω1 a = some m
theorem SubW.refl {ω : Wd} : SubW ω ω := fun _ _ h => h
theorem SubW.upd {ω : Wd} {a : Addr} {m : MO} (h : ω a = none) : SubW ω (updW ω a m) := fun b n e => by
  rw [updW_ne fun z => by rw [z, h] at e; cases e]; exact e
theorem SubW.trans {ω1 ω2 ω3 : Wd} (h : SubW ω1 ω2) (g : SubW ω2 ω3) : SubW ω1 ω3 := fun a m e => g a m (h a m e)
def dRetS (te : DTE) (D : DEnds) (ρ : DS) (ω : Wd) : Prop := te ρ ω (fun r ω1 => ∃ ω2, SubW ω2 ω1 ∧ D.rt r ω2) (xcOf D ρ)
section
variable {K : PySem.W.Frag} {J H : Hp} {ω1 ω2 : Wd}
theorem fr_sub {b : Addr} (s : SubW ω2 ω1) (h : Fr ω1 b) : Fr ω2 b := by
  refine ⟨?_, fun c m e => h.2 c m (s _ _ e)⟩
  cases q : ω2 b with
  | none => rfl
  | some m => have := s b m q; rw [h.1] at this; cases this
theorem SubW.grow (s : SubW ω2 ω1) : Grow J H ω1 J H ω2 := ⟨Same.refl _, fun _ z => z, fun _ _ z _ => z, fun _ _ _ j => j, fun b _ z => fr_sub s z⟩
theorem Rw.sub (w : Rw K J H ω1) (s : SubW ω2 ω1) : Rw K J H ω2 := w.step (Same.refl _) w.jh (fun _ _ j => j) fun b m e => .inl ⟨s b m e, fun _ _ _ z => z⟩
theorem ds_retS {W : WX} {X : Cx} {e : Expr} {te : DTE} {pos : Pos} (he : DE W X K e te) : DSt W X K (.Return (some e) pos) (dRetS te) := by
  obtain ⟨r, p, k⟩ := he
  refine ⟨_, ps_ret p, fun D DD σ H J ω ρ w s cs z => k σ H J ω ρ _ _ _ w s (fun d ω1 v J1 H1 z1 g1 w1 rp => ?_) (cs.x s) z⟩
  obtain ⟨ω2, sb, z2⟩ := z1
  exact cs.rt _ _ _ _ _ z2 (g1.trans sb.grow) (w1.sub sb) rp
end
/-! ### intros -/
theorem ixD_cell {ω : Wd} {a : Addr} {xs : List PyData} {i : Int} {d : PyData} {Q : PyData → Prop} (h : ω a = some (.lst xs)) (e : atI xs i = some d) (z : Q d) : ixD (refD a) (.int i) ω Q := by
  unfold ixD
  rw [rsv_cell h]
  exact ⟨d, e, z⟩
theorem lenD_cell {ω : Wd} {a : Addr} {xs : List PyData} {Q : PyData → Prop} (h : ω a = some (.lst xs)) (z : Q (.int xs.length)) : lenD [refD a] ω Q := by
  unfold lenD
  simp only
  rw [rsv_cell h]
  exact z
/-! ### defs -/
abbrev DSp := List PyData → Wd → DQ → DXK → Prop
def spD (K : PySem.W.Frag) (sp : DSp) : Sp := fun vs H Q E => ∃ J ω ts q x, Rw K J H ω ∧ RpAll K J vs ts ∧ CovQ K J H ω q Q ∧ CovX K J H ω x E ∧ sp ts ω q x
def endsD (q : DQ) (x : DXK) : DEnds := ⟨fun _ ω => q .none ω, q, fun _ _ => False, fun _ _ => False, fun C fs _ ω => x C fs ω⟩
def dCall (sp : DSp) (ta : DTA) (ρ : DS) (ω : Wd) (q : DQ) (x : DXK) : Prop := ta ρ ω (fun ts ω1 => sp ts ω1 q X0) x
def dCallX (sp : DSp) (ta : DTA) (ρ : DS) (ω : Wd) (q : DQ) (x : DXK) : Prop := ta ρ ω (fun ts ω1 => sp ts ω1 q x) x
section
variable {P : Program} {w : World} {K : PySem.W.Frag} {mg : Str → Option Value} {base : Heap} {CX : CXT} {k : Nat} {x : Str} {ps N : List Str} {sp : DSp} {st : Stmt}
theorem dfnD (h : Has K mg x st) (B : Bi mg) (S : FnScope N ps (defScope st)) (bd : BindsBy x st ps) (len : ∀ ts ω q xx, sp ts ω q xx → ts.length = ps.length)
    (body : ∀ (f : Addr) (cv : Value) (A : Around) (out : List Env) (s : Shared) (H : Hp) (E : XK), Ct mg (A.deeper (envOfC x (defScope st) s.heap.objs.size f cv)) k →
      ∃ td, DSs W0 (cxOf CX0 P w K mg base N x (defScope st) f cv A out s H E).nox K (defBody st) td ∧ ∀ ts ω q xx, sp ts ω q xx → td (endsD q X0) (startD N ts) ω) :
    Dfn P w K mg base CX0 (k + 1) x ps (spD K sp) := by
  refine dfn0 h B S bd (fun vs H Q E z => ?_) (fun f cv A out s H vs Q E c z => ?_)
  · obtain ⟨J, ω, ts, q, xx, w, r, _, _, z⟩ := z
    rw [r.length]
    exact len _ _ _ _ z
  obtain ⟨J, ω, ts, q, xx, w, r, cq, cx, z⟩ := z
  obtain ⟨td, ⟨t, p, kk⟩, hb⟩ := body f cv A out s H E c
  exact ⟨t, p, kk _ _ _ H J ω _ w (sl_start r) ⟨fun _ _ _ _ _ z g w _ => cq _ _ _ _ _ z g w .non, fun _ _ _ _ _ z _ _ _ => False.elim z, fun _ _ _ _ _ z _ _ _ => False.elim z, cq, fun _ _ _ _ _ _ _ _ z _ _ _ _ => False.elim z⟩ (hb ts ω q xx z)⟩
theorem dfnDX (h : Has K mg x st) (B : Bi mg) (S : FnScope N ps (defScope st)) (bd : BindsBy x st ps) (len : ∀ ts ω q xx, sp ts ω q xx → ts.length = ps.length)
    (body : ∀ (f : Addr) (cv : Value) (A : Around) (out : List Env) (s : Shared) (H : Hp) (E : XK), Ct mg (A.deeper (envOfC x (defScope st) s.heap.objs.size f cv)) k →
      ∃ td, DSs (fun cl d _ H => E cl d H) (cxOf (L2.CX P w) P w K mg base N x (defScope st) f cv A out s H E) K (defBody st) td ∧ ∀ ts ω q xx, sp ts ω q xx → td (endsD q xx) (startD N ts) ω) :
    Dfn P w K mg base (L2.CX P w) (k + 1) x ps (spD K sp) := by
  refine dfnX h B S bd (fun vs H Q E z => ?_) (fun f cv A out s H vs Q E c z => ?_)
  · obtain ⟨J, ω, ts, q, xx, w, r, _, _, z⟩ := z
    rw [r.length]
    exact len _ _ _ _ z
  obtain ⟨J, ω, ts, q, xx, w, r, cq, cx, z⟩ := z
  obtain ⟨td, ⟨t, p, kk⟩, hb⟩ := body f cv A out s H E c
  exact ⟨t, p, kk _ _ _ H J ω _ w (sl_start r) ⟨fun _ _ _ _ _ z g w _ => cq _ _ _ _ _ z g w .non, fun _ _ _ _ _ z _ _ _ => False.elim z, fun _ _ _ _ _ z _ _ _ => False.elim z, cq, fun C fs _ ω' d _ J' H' z g w _ x => cx C fs ω' d J' H' z g w x⟩ (hb ts ω q xx z)⟩
/-- nothing is promised -/
theorem dfnD_none (h : Has K mg x st) (bd : BindsBy x st ps) (no : ∀ ts ω q xx, ¬ sp ts ω q xx) : Dfn P w K mg base CX0 0 x ps (spD K sp) :=
  dfn_none h bd fun vs H Q E z => by
    obtain ⟨J, ω, ts, q, xx, w, r, _, _, z⟩ := z
    exact no _ _ _ _ z
/-- a promise of another kind, for data -/
theorem Dfn.toD {sp0 : Sp} (D : Dfn P w K mg base CX k x ps sp0) (h : ∀ vs H Q E, spD K sp vs H Q E → sp0 vs H Q E) : Dfn P w K mg base CX k x ps (spD K sp) := by
  obtain ⟨f, fd, F, r⟩ := D
  exact ⟨f, fd, ⟨fun vs H Q E z => F.len _ _ _ _ (h _ _ _ _ z), fun A out s H ar us vs Q E ro g e b v z => F.run A out s H ar us vs Q E ro g e b v (h _ _ _ _ z)⟩, r⟩
end
section
variable {W : WX} {X : Cx} {K : PySem.W.Frag} {j k : Nat} {ps : List Str} {sp : DSp} {x : Str} {p pos : Pos} {e : Expr} {es : List Expr} {tA : DTA}
theorem de_d (D : Dfn X.prog X.w X.K X.mg X.base CX0 j x ps (spD K sp)) (c : Ct X.mg X.A k) (h : j ≤ k) (gl : Gl X x) (args : DAs W X K (e :: es) tA)
    (nd : (x == ("__debug__" : Str)) = false := by decide) (plain : starEach (e :: es) X.env = (false, eval e X.env) :: starEach es X.env := by rfl) (bare : (backTo pos (starEach es X.env)).any (·.1) = false := by rfl) :
    DE W X K (.Call (.Name x p) (e :: es) [] pos) (dCall sp tA) := by
  obtain ⟨t, pp, kk⟩ := args
  refine ⟨_, pe_d D c h gl pp nd plain bare, fun σ H J ω ρ q x Q w s cq cx z => kk σ H J ω ρ _ x _ w s (fun ts ω1 vs J1 H1 z1 g1 w1 rps => ?_) cx z⟩
  refine ⟨J1, ω1, ts, q, X0, w1, ?_, cq.step g1, (fun _ _ _ _ _ _ z => False.elim z), z1⟩
  rw [List.append_nil]
  exact rps
theorem de_dX (D : Dfn X.prog X.w X.K X.mg X.base (L2.CX X.prog X.w) j x ps (spD K sp)) (c : Ct X.mg X.A k) (h : j ≤ k) (gl : Gl X x) (out : ∀ σ, PassesAt (L2.CX X.prog X.w) X σ (fun cl d H => W cl d σ H)) (args : DAs W X K (e :: es) tA)
    (nd : (x == ("__debug__" : Str)) = false := by decide) (plain : starEach (e :: es) X.env = (false, eval e X.env) :: starEach es X.env := by rfl) (bare : (backTo pos (starEach es X.env)).any (·.1) = false := by rfl) :
    DE W X K (.Call (.Name x p) (e :: es) [] pos) (dCallX sp tA) := by
  obtain ⟨t, pp, kk⟩ := args
  refine ⟨_, pe_dS (E := fun σ cl d H => W cl d σ H) D c h gl out pp nd plain bare, fun σ H J ω ρ q x Q w s cq cx z => kk σ H J ω ρ _ x _ w s (fun ts ω1 vs J1 H1 z1 g1 w1 rps => ?_) cx z⟩
  exact ⟨J1, ω1, ts, q, x, w1, rps, cq.step g1, cx.step g1, z1⟩
end
/-! ### errors -/
def dErr1 (C : Addr) (f : Str) (te : DTE) (D : DEnds) (ρ : DS) (ω : Wd) : Prop := te ρ ω (fun r ω1 => D.xc C [(f, r)] ρ ω1) (xcOf D ρ)
section
variable {W : WX} {X : Cx} {K : PySem.W.Frag} {x f : Str} {C : Addr} {k : Nat} {e : Expr} {te : DTE} {p pos pos2 : Pos}
theorem ds_err1 (T : Err1 X.prog X.w X.K X.mg X.base x f C) (calm : X.calm = true) (room : Room (k + 2) X.A) (tk : Takes X W) (he : DE W X K e te) (gl : Gl X x)
    (nd : (x == ("__debug__" : Str)) = false := by decide) (plain : starEach (e :: []) X.env = (false, eval e X.env) :: starEach [] X.env := by rfl) (bare : (backTo pos (starEach [] X.env)).any (·.1) = false := by rfl) :
    DSt W X K (.Raise (some (.Call (.Name x p) [e] [] pos)) none pos2) (dErr1 C f te) := by
  obtain ⟨re, pe, ke⟩ := he
  refine ⟨_, ps_err1 T calm room tk (pa_cons pe pa_nil plain) gl nd plain bare, fun D DD σ H J ω ρ w s cs z => ke σ H J ω ρ _ _ _ w s (fun r ω1 v J1 H1 z1 g1 w1 rp => ?_) (cs.x s) z⟩
  refine err1 (C := C) (f := f) (v := v) (Q := fun cl d H => W cl d σ H) fun d hd => cs.xc _ _ _ _ (some d) _ J1 _ z1 (g1.trans (Grow.junk hd _)) (w1.junk hd _) (s.mono g1.jj) ⟨?_, w1.jh.free hd, w1.free hd, [(f, v)], upd_same, .cons ⟨rfl, rp⟩ .nil⟩
  cases q : H d with
  | none => rfl
  | some o => exact absurd hd (g1.dom d (by rw [q]; simp))
end
/-- the error's own dict comes among the cells -/
def XdIn (d : Option Addr) (fs : List (Str × PyData)) (ω ω' : Wd) : Prop := (d = none ∧ fs = [] ∧ ω' = ω) ∨ ∃ dd, d = some dd ∧ ω dd = none ∧ ω' = updW ω dd (.xd fs)
def dropX (d : Option Addr) (ω : Wd) : Wd := match d with
  | none => ω
  | some dd => delW ω dd
def liftS (K : PySem.W.Frag) (W : WX) (td : DTS) : TS := fun D σ H => ∃ J ω ρ DD, Rw K J H ω ∧ Sl K J σ ρ ∧ CovS K J H ω W DD D ∧ td DD ρ ω
theorem DSs.pss {W : WX} {X : Cx} {K : PySem.W.Frag} {st : List Stmt} {td : DTS} (h : DSs W X K st td) : PSs X st (liftS K W td) := by
  obtain ⟨t, p, k⟩ := h
  exact ⟨fun pins s σ H D I ⟨J, ω, ρ, DD, w, sl, cs, z⟩ => p.run pins s σ H D I (k D DD σ H J ω ρ w sl cs z)⟩
/-- try: .. except c as (slot i): .. -/
def dTryAs (K : PySem.W.Frag) (c : Value) (i : Nat) (tb : DTS) (ts : Addr → Value → Option Addr → DTS) (D : DEnds) (ρ : DS) (ω : Wd) : Prop :=
  tb { D with xc := fun C fs ρ' ω' => ∃ b, PySem.W.exmOne K (.ref C) c = some b ∧ (b = true → ∀ a d ω'', XdIn d fs ω' ω'' → ts a (.ref C) d
      { nx := fun ρ2 ω2 => D.nx (ρ2.set i none) (dropX d ω2), rt := fun r ω2 => D.rt r (dropX d ω2), bk := fun ρ2 ω2 => D.bk (ρ2.set i none) (dropX d ω2), ct := fun ρ2 ω2 => D.ct (ρ2.set i none) (dropX d ω2), xc := fun _ _ _ _ => False }
      (ρ'.set i (some (refD a))) ω'') ∧ (b = false → D.xc C fs ρ' ω') } ρ ω
theorem Grow.dropX {J H : Hp} {ω : Wd} {d : Option Addr} : Grow J H ω J H (Tx.dropX d ω) := by
  cases d with
  | none => exact Grow.refl
  | some dd => exact Grow.drop
theorem Rw.dropX {K : PySem.W.Frag} {J H : Hp} {ω : Wd} (w : Rw K J H ω) (d : Option Addr) : Rw K J H (Tx.dropX d ω) := by
  cases d with
  | none => exact w
  | some dd => exact w.drop
section
variable {W : WX} {X : Cx} {K : PySem.W.Frag} {x n : Str} {c : Value} {i : Nat} {body suite : List Stmt} {b₀ : Stmt} {np pos pos' : Pos} {tb : DTS} {ts : Addr → Value → Option Addr → DTS}
theorem ds_try_as (hK : X.K = K) (hs : X.stack = X.env :: X.outer) (hf : X.env.frame = some X.env.locals) (hN : X.N.Nodup) (hi : X.N[i]? = some n) (hln : X.env.kindOf n = some .local) (hc : Names X x c) (tk : Takes X W)
    (hb : ∀ (W' : WX) (pn : List (Addr × Obj)) (xe : Value → Shared → Prop), Takes (X.tr pn xe) W' → PassesOwn (model X.prog X.w) X.A X.env xe → DSs W' (X.tr pn xe) K body tb)
    (hsu : ∀ (a : Addr) (oe : Obj) (cls : Value) (d : Option Addr) (pn : List (Addr × Obj)), Zc cls d oe → (∃ vs, oe.data = .fields vs) → DSs W0 (X.suite a ((a, oe) :: pn)) K (b₀ :: suite) (ts a cls d)) :
    DSt W X K (.Try body [.ExceptHandler (some (.Name x np)) (some n) (b₀ :: suite) pos'] [] [] pos) (dTryAs K c i tb ts) := by
  subst hK
  refine ⟨_, ps_try_as (Wout := W) hs hf hN hi hln hc tk (fun W' pn xe t po => (hb W' pn xe t po).pss) (fun a oe cls d pn z f => (hsu a oe cls d pn z f).pss), fun D DD σ H J ω ρ w s cs z => ?_⟩
  refine ⟨J, ω, ρ, { DD with xc := fun C fs ρ' ω' => ∃ b, PySem.W.exmOne X.K (.ref C) c = some b ∧ (b = true → ∀ a d ω'', XdIn d fs ω' ω'' → ts a (.ref C) d
      { nx := fun ρ2 ω2 => DD.nx (ρ2.set i none) (dropX d ω2), rt := fun r ω2 => DD.rt r (dropX d ω2), bk := fun ρ2 ω2 => DD.bk (ρ2.set i none) (dropX d ω2), ct := fun ρ2 ω2 => DD.ct (ρ2.set i none) (dropX d ω2), xc := fun _ _ _ _ => False }
      (ρ'.set i (some (refD a))) ω'') ∧ (b = false → DD.xc C fs ρ' ω') }, w, s, ⟨cs.nx, cs.bk, cs.ct, cs.rt, fun C fs ρ' ω' d σ' J' H' z' g' w' s' xd => ?_⟩, z⟩
  obtain ⟨b, hb, h1, h2⟩ := z'
  refine ⟨b, hb, fun eb a ha => ?_, fun eb => cs.xc _ _ _ _ _ _ _ _ (h2 eb) g' w' s' xd⟩
  have main : ∀ ω'', Rw X.K J' H' ω'' → XdIn d fs ω' ω'' → (∀ {J2 H2 ω2}, Grow J' H' ω'' J2 H2 ω2 → Grow J H ω J2 H2 (dropX d ω2)) → liftS X.K W0 (ts a (.ref C) d) { nx := fun σ2 H2 => D.nx (σ2.set i none) H2, rt := D.rt, bk := fun σ2 H2 => D.bk (σ2.set i none) H2, ct := fun σ2 H2 => D.ct (σ2.set i none) H2 } (σ'.set i (some (.ref a))) H' := by
    intro ω'' w'' xin tr
    exact ⟨J', ω'', _, { nx := fun ρ2 ω2 => DD.nx (ρ2.set i none) (dropX d ω2), rt := fun r ω2 => DD.rt r (dropX d ω2), bk := fun ρ2 ω2 => DD.bk (ρ2.set i none) (dropX d ω2), ct := fun ρ2 ω2 => DD.ct (ρ2.set i none) (dropX d ω2), xc := fun _ _ _ _ => False }, w'', s'.set i (.ref a), ⟨fun ρ2 ω2 σ2 J2 H2 z2 g2 w2 s2 => cs.nx _ _ _ _ _ z2 (tr g2) (w2.dropX d) (s2.clear i none), fun ρ2 ω2 σ2 J2 H2 z2 g2 w2 s2 => cs.bk _ _ _ _ _ z2 (tr g2) (w2.dropX d) (s2.clear i none),
      fun ρ2 ω2 σ2 J2 H2 z2 g2 w2 s2 => cs.ct _ _ _ _ _ z2 (tr g2) (w2.dropX d) (s2.clear i none), fun r ω2 v J2 H2 z2 g2 w2 rp => cs.rt _ _ _ _ _ z2 (tr g2) (w2.dropX d) rp, (fun _ _ _ _ _ _ _ _ z _ _ _ _ => False.elim z)⟩, h1 eb a d ω'' xin⟩
  cases d with
  | none => exact main ω' w' (.inl ⟨rfl, xd, rfl⟩) fun g2 => g'.trans g2
  | some dd =>
    obtain ⟨n0, jD, oD, gs, hg, rf⟩ := xd
    refine main (updW ω' dd (.xd fs)) (w'.step (Same.refl _) w'.jh (fun _ _ j => j) fun b m e => ?_) (.inr ⟨dd, rfl, oD.1, rfl⟩) fun g2 => ?_
    · by_cases eb : b = dd
      · subst eb
        rw [updW_same] at e
        cases e
        refine .inr ⟨jD, ⟨gs, hg, rf⟩, fun b' pb => False.elim pb, fun c m' nc e => ?_⟩
        rw [updW_ne nc] at e
        exact ⟨oD.2 c m' e, fun b' pb => False.elim pb⟩
      · rw [updW_ne eb] at e; exact .inl ⟨e, fun _ _ _ z => z⟩
    · have ne : ∀ b, H b ≠ none → b ≠ dd := fun b h e => h (by rw [e]; exact n0)
      refine ⟨g'.jj.trans g2.jj, fun b h => g2.dom b (g'.dom b h), fun b o h y => ?_, fun b h y j => ?_, fun b h y => ?_⟩
      · have hb := ne b (by rw [h]; simp)
        exact g2.keep b o (g'.keep b o h y) (fr_upd rfl (g'.frw b (by rw [h]; simp) y) hb)
      · exact g2.frj b (g'.dom b h) (fr_upd rfl (g'.frw b h y) (ne b h)) (g'.frj b h y j)
      · exact fr_del (g2.frw b (g'.dom b h) (fr_upd rfl (g'.frw b h y) (ne b h)))
end
end Tx

namespace Tx
open PySem PySem.Spec PyProof.Rows L2
/-! ## More rules over data -/
def max2D : RD1 := fun xs _ Q => match xs with
  | [.int m, .int n] => Q (.int (if n > m then n else m))
  | _ => False
def min2D : RD1 := fun xs _ Q => match xs with
  | [.int m, .int n] => Q (.int (if n < m then n else m))
  | _ => False
section
variable {X : Cx} {K : PySem.W.Frag}
theorem rpAll2 {J : Hp} {vs : List V} {m n : Int} (h : RpAll K J vs [.int m, .int n]) : vs = [.int m, .int n] := by
  cases h with
  | cons h1 h2 => cases h2 with | cons h2 h3 => cases h3; cases h1; cases h2; rfl
theorem dc_max2 (hK : X.K = K) (hc : X.calm = true) : CallR X (.builtin "max") (liftA K max2D) := by
  intro pins s σ H xs us Q I rel h
  obtain ⟨J, ω, ds, q, w, hx, c, z⟩ := h
  unfold max2D at z
  split at z
  · obtain rfl := rpAll2 hx
    exact call_max2 hc pins s σ H _ us Q I rel ⟨_, _, rfl, c.now w z (.int _)⟩
  · exact False.elim z
theorem dc_min2 (hK : X.K = K) (hc : X.calm = true) : CallR X (.builtin "min") (liftA K min2D) := by
  intro pins s σ H xs us Q I rel h
  obtain ⟨J, ω, ds, q, w, hx, c, z⟩ := h
  unfold min2D at z
  split at z
  · obtain rfl := rpAll2 hx
    exact call_min2 hc pins s σ H _ us Q I rel ⟨_, _, rfl, c.now w z (.int _)⟩
  · exact False.elim z
end
/-- == of data, whatever it is -/
theorem full_str {ω : Wd} {a : Str} {d : PyData} (h : Full ω (.str a) d) : d = .str a := by
  rcases h with h | h
  · exact h.symm
  · simpa only [full] using h.symm
theorem full_int {ω : Wd} {a : Int} {d : PyData} (h : Full ω (.int a) d) : d = .int a := by
  rcases h with h | h
  · exact h.symm
  · simpa only [full] using h.symm
theorem eqv_str (a b : Str) : PyData.eqv (.str a) (.str b) = decide (a = b) := by
  simp only [PyData.eqv]
  by_cases h : a = b
  · rw [decide_eq_true h, h]; simp
  · rw [decide_eq_false h]; exact beq_eq_false_iff_ne.mpr h
theorem eqv_int (a b : Int) : PyData.eqv (.int a) (.int b) = decide (a = b) := by
  simp only [PyData.eqv]
  by_cases h : a = b
  · rw [decide_eq_true h, h]; simp
  · rw [decide_eq_false h]; exact beq_eq_false_iff_ne.mpr h
theorem eqD_of {ω : Wd} {x y d e : PyData} {Q : PyData → Prop} (f1 : Full ω x d) (f2 : Full ω y e) (s1 : SeqAt.shaped d = true) (s2 : SeqAt.shaped e = true) (z : Q (.bool (PyData.eqv d e))) : eqD x y ω Q := by
  unfold eqD
  split
  · rw [full_str f1, full_str f2, eqv_str] at z; exact z
  · rw [full_int f1, full_int f2, eqv_int] at z; exact z
  · exact ⟨d, e, f1, f2, s1, s2, z⟩
theorem neD_of {ω : Wd} {x y d e : PyData} {Q : PyData → Prop} (f1 : Full ω x d) (f2 : Full ω y e) (s1 : SeqAt.shaped d = true) (s2 : SeqAt.shaped e = true) (z : Q (.bool (!PyData.eqv d e))) : neD x y ω Q := by
  unfold neD
  split
  · rw [full_str f1, full_str f2, eqv_str] at z; exact z
  · rw [full_int f1, full_int f2, eqv_int] at z; exact z
  · exact ⟨d, e, f1, f2, s1, s2, z⟩
/-- a text that is the same -/
theorem ne_same {a : Str} {A B : Prop} (h : B) : if (!decide (a = a)) = true then A else B := by rw [decide_eq_true rfl]; exact iteF h
/-! ### the error that a suite holds -/
def dXf (a : Addr) (cls : Value) (d : Option Addr) (C : Addr) (f : Str) (te : DTE) (ρ : DS) (ω : Wd) (q : DQ) (x : DXK) : Prop := te ρ ω (fun r ω1 => r = refD a ∧ cls = .ref C ∧ ∃ dd fs v, d = some dd ∧ ω1 dd = some (.xd fs) ∧ fs.lookup f = some v ∧ q v ω1) x
def dIsX (K : PySem.W.Frag) (a : Addr) (cls : Value) (d : Option Addr) (D C : Addr) (te : DTE) (ρ : DS) (ω : Wd) (q : DQ) (x : DXK) : Prop := te ρ ω (fun r ω1 => r = refD a ∧ cls = .ref D ∧ (∀ dd, d = some dd → ∃ fs, ω1 dd = some (.xd fs)) ∧ ∃ b, PySem.W.kitOne K (.ref D) (.ref C) = some b ∧ q (.bool b) ω1) x
theorem rpf_lookup {K : PySem.W.Frag} {J : Hp} {f : Str} {v : PyData} : ∀ {gs : List (Str × V)} {fs : List (Str × PyData)}, RpF K J gs fs → fs.lookup f = some v → ∃ u, gs.lookup f = some u ∧ Rp K J u v
  | _, _, .nil, e => by simp at e
  | (g, u) :: gs, (k, y) :: fs, .cons h t, e => by
    obtain ⟨h1, h2⟩ := h
    simp only at h1 h2
    subst h1
    rw [List.lookup_cons] at e ⊢
    split at e
    · rename_i hf
      cases e
      exact ⟨u, by simp [hf], h2⟩
    · rename_i hf
      obtain ⟨u2, e1, e2⟩ := rpf_lookup t e
      exact ⟨u2, by simp [hf, e1], e2⟩
section
variable {W : WX} {X : Cx} {K : PySem.W.Frag} {a D C C2 : Addr} {oe : Obj} {cls : Value} {d : Option Addr} {pn : List (Addr × Obj)} {e t : Expr} {te : DTE} {pos p : Pos} {n : Str}
theorem de_xf (hK : X.K = K) (T : XfC X.K C) (hno : PySem.W.findIn X.K (.ref C) n = some none) (hz : Zc cls d oe) (hf : ∃ vs, oe.data = .fields vs) (he : DE W (X.suite a ((a, oe) :: pn)) K e te) (hb : attributeBase e n X.env (eval e X.env) = eval e X.env := by rfl) :
    DE W (X.suite a ((a, oe) :: pn)) K (.Attribute e n pos) (dXf a cls d C n te) := by
  obtain ⟨r, pe, k⟩ := he
  refine ⟨_, pe_xf T hno hz hf pe hb, fun σ H J ω ρ q x Q w s cq cx z => k σ H J ω ρ _ x _ w s (fun rr ω1 v J1 H1 z1 g1 w1 rp => ?_) cx z⟩
  obtain ⟨rfl, ec, dd, fs, y, ed, eω, el, z2⟩ := z1
  obtain rfl := rp_ref rp
  obtain ⟨gs, hg, rf⟩ := w1.cell dd _ eω
  obtain ⟨u, e1, e2⟩ := rpf_lookup rf el
  exact ⟨rfl, ec, dd, gs, u, ed, hg, e1, (cq.step g1).now w1 z2 e2⟩
theorem de_isX (hK : X.K = K) (CC : ExcC X.K D) (hz : Zc cls d oe) (hf : ∃ vs, oe.data = .fields vs) (hg : Gl (X.suite a ((a, oe) :: pn)) "isinstance") (hm : X.mg "isinstance" = none) (he : DE W (X.suite a ((a, oe) :: pn)) K e te) (ht : PE (X.suite a ((a, oe) :: pn)) t (tC (.ref C2)))
    (h1 : starEach (e :: [t]) X.env = (false, eval e X.env) :: starEach [t] X.env := by rfl) (h2 : starEach [t] X.env = (false, eval t X.env) :: starEach [] X.env := by rfl) (hpl : (backTo pos (starEach [t] X.env)).any (·.1) = false := by rfl) :
    DE W (X.suite a ((a, oe) :: pn)) K (.Call (.Name "isinstance" p) [e, t] [] pos) (dIsX K a cls d D C2 te) := by
  subst hK
  obtain ⟨r, pe, k⟩ := he
  refine ⟨_, pe_callB (call_isX CC hz hf) hg hm (by decide +kernel) (pa_cons pe (pa_cons ht pa_nil h2) h1) (by decide) (by decide) h1 hpl, fun σ H J ω ρ q x Q w s cq cx z => k σ H J ω ρ _ x _ w s (fun rr ω1 v J1 H1 z1 g1 w1 rp => ?_) cx z⟩
  obtain ⟨rfl, ec, hd, b, kb, z2⟩ := z1
  obtain rfl := rp_ref rp
  refine ⟨_, _, b, rfl, ec, .own C2, kb, fun dd e => ?_, (cq.step g1).now w1 z2 (.bl _)⟩
  obtain ⟨fs, eω⟩ := hd dd e
  obtain ⟨gs, hg, _⟩ := w1.cell dd _ eω
  exact ⟨gs, hg⟩
end
end Tx

namespace Tx
open PySem PySem.Spec PyProof.Rows L2
/-! ## The law's draws over data -/
/-- v is data d, or a new list, of new lists, that stands for d -/
def Tm (ω : Wd) (v d : PyData) (ω' : Wd) : Prop := (isL d = false ∧ v = d ∧ ω' = ω) ∨ ∃ a N, v = refD a ∧ ω a = none ∧ ω' = updW ω a (.tmp N d) ∧ isL d = true
/-- such a thing becomes data -/
def Fz (v : PyData) (ω1 : Wd) (d : PyData) (ω2 : Wd) : Prop := (v = d ∧ ω2 = ω1) ∨ ∃ a N, v = refD a ∧ ω1 a = some (.tmp N d) ∧ ω2 = delW ω1 a
theorem Tm.fz {ω ω' : Wd} {v d : PyData} (h : Tm ω v d ω') : Fz v ω' d ω := by
  rcases h with ⟨_, h1, h2⟩ | ⟨a, N, h1, h2, h3, _⟩
  · exact .inl ⟨h1, h2.symm⟩
  · exact .inr ⟨a, N, h1, by rw [h3, updW_same], by rw [h3, delW_updW h2]⟩
theorem Tm.full {ω ω' : Wd} {v d : PyData} (h : Tm ω v d ω') : Full ω' v d := by
  rcases h with ⟨_, h1, h2⟩ | ⟨a, N, h1, h2, h3, _⟩
  · exact .inl h1
  · rw [h1]; exact Full.tmp (N := N) (by rw [h3, updW_same])
def dFz (te : DTE) (ρ : DS) (ω : Wd) (q : DQ) (x : DXK) : Prop := te ρ ω (fun v ω1 => ∃ d ω2, Fz v ω1 d ω2 ∧ q d ω2) x
theorem de_fz {W : WX} {X : Cx} {K : PySem.W.Frag} {e : Expr} {td : DTE} (h : DE W X K e td) : DE W X K e (dFz td) := by
  obtain ⟨t, p, k⟩ := h
  refine ⟨t, p, fun σ H J ω ρ q x Q w s cq cx z => k σ H J ω ρ _ x _ w s (fun v ω1 u J1 H1 z1 g1 w1 r => ?_) cx z⟩
  obtain ⟨d, ω2, f, z2⟩ := z1
  rcases f with ⟨rfl, rfl⟩ | ⟨a, N, rfl, e1, rfl⟩
  · exact cq _ _ _ _ _ z2 g1 w1 r
  · obtain rfl := rp_ref r
    obtain ⟨_, rN, _⟩ := w1.cell a _ e1
    exact cq _ _ _ _ _ z2 (g1.trans (grow_thaw w1 e1)) (rw_thaw w1 e1) (rp_mono same_joinN _ _ rN)
section
variable {K : PySem.W.Frag} {J J' H H' : Hp} {ω : Wd} {b : Addr}
theorem gro_grow (w : Rw K J H ω) (hb : ω b = some .bag) (g : Gro b J H J' H') : Grow J H ω J' H' ω ∧ Rw K J' H' ω := by
  have hB : Bag H b := w.cell b _ hb
  have ne : ∀ a, Fr ω a → a ≠ b := fun a z e => by have := z.1; rw [e, hb] at this; cases this
  constructor
  · exact ⟨g.jj, fun a h => g.st.there hB h, fun a o h z => g.st.keep a o (ne a z) h, fun a h _ j => g.fr a h j, fun _ _ z => z⟩
  · refine w.step g.jj g.jh g.fr fun a m e => ?_
    by_cases z : a = b
    · subst z
      rw [hb] at e
      cases e
      exact .inr ⟨g.fr a (w.there hb) (w.out a _ hb), g.st.bag, fun b' pb => False.elim pb, fun c m' nc e => ⟨w.apart hb nc e, fun b' pb => False.elim pb⟩⟩
    · refine .inl ⟨e, fun b' o l h => g.st.keep b' o ?_ h⟩
      rintro rfl
      rcases l with rfl | nb
      · exact z rfl
      · exact w.apart hb z e nb
theorem stp_grow (w : Rw K J H ω) (hb : ω b = some .bag) (g : Stp b H H') : Grow J H ω J H' ω ∧ Rw K J H' ω := gro_grow w hb (g.gro (w.out b _ hb) w.jh)
end
def dsTake : DSp := fun ts ω q _ => ∃ (b : Addr) (n : Int), ts = [refD b, .int n] ∧ ω b = some .bag ∧ 0 < n ∧ n < 1073741824 ∧ ∀ r : Int, 0 ≤ r → r < n → q (.int r) ω
def dsBag : DSp := fun ts ω q _ => ∃ (a : Addr) (ns : List Int) (i : Int), ts = [scrD a ns, .int i] ∧ 0 ≤ i ∧ i < 1000 ∧ ∀ b, ω b = none → q (refD b) (updW ω b .bag)
def dsText : DSp := fun ts ω q _ => ∃ (b : Addr) (m : Int), ts = [refD b, .int m] ∧ ω b = some .bag ∧ 0 ≤ m ∧ m < 1000 ∧ ∀ x : Str, ltr x = true → (x.length : Int) ≤ m → q (.str x) ω
def dsSize (n : Nat) : DSp := fun ts ω q _ => ∃ d, ts = [d] ∧ isVal d = true ∧ d.depth < n ∧ szD d ≤ 1000000 ∧ q (.int (szD d)) ω
def dsValue (n : Nat) : DSp := fun ts ω q _ => ∃ (b : Addr) (deep room : Int), ts = [refD b, .int deep, .int room] ∧ ω b = some .bag ∧ 0 ≤ deep ∧ deep < n ∧ 1 ≤ room ∧ room ≤ 1000 ∧ ∀ d, Val deep.toNat room.toNat d → q d ω
/-- .. of new lists that may be changed -/
def dsValueT (n : Nat) : DSp := fun ts ω q _ => ∃ (b : Addr) (deep room : Int), ts = [refD b, .int deep, .int room] ∧ ω b = some .bag ∧ 0 ≤ deep ∧ deep < n ∧ 1 ≤ room ∧ room ≤ 1000 ∧ ∀ d v ω', Val deep.toNat room.toNat d → Tm ω v d ω' → q v ω'
def dsGreat : DSp := fun ts ω q _ => ∃ b : Addr, ts = [refD b] ∧ ω b = some .bag ∧ ∀ d, Val 12 400 d → q d ω
def dsGreatT : DSp := fun ts ω q _ => ∃ b : Addr, ts = [refD b] ∧ ω b = some .bag ∧ ∀ d v ω', Val 12 400 d → Tm ω v d ω' → q v ω'
section
variable {P : Program} {w : World} {K : PySem.W.Frag} {mg : Str → Option Value} {base : Heap}
theorem rp_int {J : Hp} {v : V} {i : Int} (h : Rp K J v (.int i)) : v = .int i := by cases h; rfl
theorem dd_take (h : Has K mg "_law_take" sTake) (B : Bi mg) : Dfn P w K mg base CX0 1 "_law_take" ["_law_bag_here", "_law_many"] (spD K dsTake) := by
  refine (d_take h B).toD fun vs H Q E z => ?_
  obtain ⟨J, ω, ts, q, x, w, r, cq, cx, b, n, rfl, hb, n0, n1, z⟩ := z
  cases r with
  | cons r1 r2 => cases r2 with | cons r2 r3 =>
  cases r3
  obtain rfl := rp_ref r1
  obtain rfl := rp_int r2
  exact ⟨b, n, rfl, w.cell b _ hb, n0, n1, fun r H' r0 r1 st => cq _ _ _ _ _ (z r r0 r1) (stp_grow w hb st).1 (stp_grow w hb st).2 (.int _)⟩
theorem map_int_inj : ∀ {xs ys : List Int}, xs.map PyData.int = ys.map PyData.int → xs = ys
  | [], [], _ => rfl
  | [], _ :: _, h => by cases h
  | _ :: _, [], h => by cases h
  | x :: xs, y :: ys, h => by
    rw [List.map_cons, List.map_cons] at h
    obtain ⟨h1, h2⟩ := List.cons.inj h
    rw [PyData.int.inj h1, map_int_inj h2]
theorem dd_bag (h : Has K mg "_law_bag" sBag) (B : Bi mg) : Dfn P w K mg base CX0 1 "_law_bag" ["_law_script", "_law_at"] (spD K dsBag) := by
  refine (d_bag h B).toD fun vs H Q E z => ?_
  obtain ⟨J, ω, ts, q, x, w, r, cq, cx, a, ns, i, rfl, i0, i1, z⟩ := z
  cases r with
  | cons r1 r2 => cases r2 with | cons r2 r3 =>
  cases r3
  obtain rfl := rp_int r2
  have key : ∀ (d : PyData) (v : V), Rp K J v d → d = scrD a ns → v = .ref a ∧ SqL K J a (ns.map V.int) := by
    intro d v h e
    cases h with
    | @scr a' ns' hs =>
      have e1 := PyData.dict.inj e
      have e2 := (List.cons.inj e1).1
      obtain ⟨e3, e4⟩ := Prod.mk.inj e2
      have e5 := PyData.int.inj e3
      have e6 := PyData.list.inj e4
      have ea : a' = a := by exact_mod_cast e5
      have en : ns' = ns := map_int_inj e6
      subst ea en
      exact ⟨rfl, hs⟩
    | ref a' => cases e
    | _ => cases e
  obtain ⟨rfl, hs⟩ := key _ _ r1 rfl
  refine ⟨a, ns, i, rfl, w.jh.seq hs, i0, i1, fun b H' sm hn hB => ?_⟩
  have g0 : Grow J H ω J H' (updW ω b .bag) := ⟨Same.refl _, fun c hc => by
      cases qc : H c with
      | none => exact absurd qc hc
      | some o => rw [sm _ _ qc]; simp, fun c o hc _ => sm c o hc, fun _ _ _ j => j, fun c hc zc => fr_upd rfl zc (ne_new hc hn)⟩
  have fp := w.free hn
  refine cq _ _ _ _ _ (z b fp.1) g0 (w.step (Same.refl _) (w.jh.trans sm) (fun _ _ j => j) fun c m e => ?_) (.ref b)
  by_cases zc : c = b
  · subst zc
    rw [updW_same] at e
    cases e
    refine .inr ⟨w.jh.free hn, hB, fun b' pb => False.elim pb, fun c' m' nc e => ?_⟩
    rw [updW_ne nc] at e
    exact ⟨fp.2 c' m' e, fun b' pb => False.elim pb⟩
  · rw [updW_ne zc] at e
    exact .inl ⟨e, fun b' o _ h => sm b' o h⟩
theorem dd_text (h : Has K mg "_law_text" sText) (B : Bi mg) (D_law_take : Dfn P w K mg base CX0 1 "_law_take" ["_law_bag_here", "_law_many"] spTake) : Dfn P w K mg base CX0 2 "_law_text" ["_law_bag_here", "_law_most"] (spD K dsText) := by
  refine (d_text h B D_law_take).toD fun vs H Q E z => ?_
  obtain ⟨J, ω, ts, q, x, w, r, cq, cx, b, n, rfl, hb, n0, n1, z⟩ := z
  cases r with
  | cons r1 r2 => cases r2 with | cons r2 r3 =>
  cases r3
  obtain rfl := rp_ref r1
  obtain rfl := rp_int r2
  exact ⟨b, n, rfl, w.cell b _ hb, n0, n1, fun r H' r0 r1 st => cq _ _ _ _ _ (z r r0 r1) (stp_grow w hb st).1 (stp_grow w hb st).2 (.str _)⟩
theorem same_grow {J H H' : Hp} {ω : Wd} (w : Rw K J H ω) (s : Same H H') : Grow J H ω J H' ω ∧ Rw K J H' ω :=
  ⟨⟨Same.refl _, fun a h => by
    cases q : H a with
    | none => exact absurd q h
    | some o => rw [s _ _ q]; simp, fun a o h _ => s a o h, fun _ _ _ j => j, fun _ _ z => z⟩, w.step (Same.refl _) (w.jh.trans s) (fun _ _ j => j) fun a m e => .inl ⟨e, fun b o _ h => s b o h⟩⟩
theorem val_dp {J H : Hp} {v : V} {d : PyData} (s : Same J H) (r : Rp K J v d) (h : isVal d = true) : Dp K H v d := dp_mono s _ _ (rp_dp _ _ (fine_lay _ (val_fine _ h)) r)
theorem dd_size (h : Has K mg "_law_size" sSize) (B : Bi mg) (n : Nat) : Dfn P w K mg base CX0 n "_law_size" ["_law_value_here"] (spD K (dsSize n)) := by
  refine (d_size h B n).toD fun vs H Q E z => ?_
  obtain ⟨J, ω, ts, q, x, w, r, cq, cx, d, rfl, val, dn, sz, z⟩ := z
  cases r with
  | cons r1 r2 =>
  cases r2
  exact ⟨_, d, rfl, val_dp w.jh r1 val, val, dn, sz, fun H' sm => cq _ _ _ _ _ z (same_grow w sm).1 (same_grow w sm).2 (.int _)⟩
/-- what a new thing of new lists is as a cell -/
theorem tm_cov {J H H' N : Hp} {ω : Wd} {q : DQ} {Q : VK} {v : V} {d : PyData} (w : Rw K J H ω) (g : Grow J H ω J H' ω) (w1 : Rw K J H' ω) (cq : CovQ K J H ω q Q) (nn : ∀ b, N b ≠ none → H b = none) (s : Same N H') (r : Rp K N v d) (val : isVal d = true)
    (z : ∀ u ω', Tm ω u d ω' → q u ω') : Q v H' := by
  cases r with
  | non => exact cq _ _ _ _ _ (z _ _ (.inl ⟨rfl, rfl, rfl⟩)) g w1 .non
  | str x => exact cq _ _ _ _ _ (z _ _ (.inl ⟨rfl, rfl, rfl⟩)) g w1 (.str x)
  | @lst a vs ds hs ha =>
    have na : N a ≠ none := by rw [hs]; simp
    have nh := nn a na
    exact cq _ _ _ _ _ (z _ _ (.inr ⟨a, N, rfl, (w.free nh).1, rfl, rfl⟩)) (grow_tmp (m := .tmp N _) g nn nh) (rw_tmp w w1 nn s (.lst hs ha) na) (.ref a)
  | bl _ => cases val
  | int _ => cases val
  | tup _ _ => cases val
  | ref _ => cases val
  | scr _ => cases val
  | pub _ => cases val
theorem dd_value {n : Nat} (D : Dfn P w K mg base CX0 (n + 20) "_law_value" ["_law_bag_here", "_law_deep", "_law_room"] (spValue K n)) : Dfn P w K mg base CX0 (n + 20) "_law_value" ["_law_bag_here", "_law_deep", "_law_room"] (spD K (dsValue n)) := by
  refine D.toD fun vs H Q E z => ?_
  obtain ⟨J, ω, ts, q, x, w, r, cq, cx, b, deep, room, rfl, hb, d0, d1, r0, r1, z⟩ := z
  cases r with
  | cons ra r2 => cases r2 with | cons rb r3 => cases r3 with | cons rc r4 =>
  cases r4
  obtain rfl := rp_ref ra
  obtain rfl := rp_int rb
  obtain rfl := rp_int rc
  exact ⟨b, J, deep, room, rfl, w.cell b _ hb, w.out b _ hb, w.jh, d0, d1, r0, r1, fun v d J' H' g r vd => cq _ _ _ _ _ (z d vd) (gro_grow w hb g).1 (gro_grow w hb g).2 r⟩
theorem gro_tm {J H H' N : Hp} {ω : Wd} {b : Addr} {q : DQ} {Q : VK} {v : V} {d : PyData} (w : Rw K J H ω) (hb : ω b = some .bag) (g : Gro b (fun _ => none) H N H') (cq : CovQ K J H ω q Q) (r : Rp K N v d) (val : isVal d = true) (z : ∀ u ω', Tm ω u d ω' → q u ω') : Q v H' := by
  obtain ⟨g2, w2⟩ := stp_grow w hb g.st
  refine tm_cov w g2 w2 cq (fun b nb => ?_) g.jh r val z
  cases q : H b with
  | none => rfl
  | some o => exact absurd (g.fr b (by rw [q]; simp) rfl) nb
theorem dd_valueT {n : Nat} (D : Dfn P w K mg base CX0 (n + 20) "_law_value" ["_law_bag_here", "_law_deep", "_law_room"] (spValue K n)) : Dfn P w K mg base CX0 (n + 20) "_law_value" ["_law_bag_here", "_law_deep", "_law_room"] (spD K (dsValueT n)) := by
  refine D.toD fun vs H Q E z => ?_
  obtain ⟨J, ω, ts, q, x, w, r, cq, cx, b, deep, room, rfl, hb, d0, d1, r0, r1, z⟩ := z
  cases r with
  | cons ra r2 => cases r2 with | cons rb r3 => cases r3 with | cons rc r4 =>
  cases r4
  obtain rfl := rp_ref ra
  obtain rfl := rp_int rb
  obtain rfl := rp_int rc
  exact ⟨b, fun _ => none, deep, room, rfl, w.cell b _ hb, rfl, (fun _ _ e => nomatch e), d0, d1, r0, r1, fun v d J' H' g r vd => gro_tm w hb g cq r vd.val fun u ω' t => z d u ω' vd t⟩
/-! ### the law's own def -/
def spLaw (K : PySem.W.Frag) : Sp := fun vs H Q _ => ∃ (a : Addr) (ns : List Int), vs = [.ref a] ∧ SqL K H a (ns.map V.int) ∧ ns.length ≤ 63 ∧ ∀ H', Q (.bl true) H'
def dsLaw : DSp := fun ts ω q _ => ∃ (a : Addr) (ns : List Int), ts = [scrD a ns] ∧ ns.length ≤ 63 ∧ ω = (fun _ => none) ∧ ∀ ω', q (.bool true) ω'
theorem law_of {k : Nat} {ps : List Str} (D : Dfn P w K mg base CX0 k "law" ps (spD K dsLaw)) : Dfn P w K mg base CX0 k "law" ps (spLaw K) := by
  obtain ⟨f, fd, F, r⟩ := D
  have key : ∀ vs H Q E, spLaw K vs H Q E → spD K dsLaw vs H Q E := by
    rintro vs H Q E ⟨a, ns, rfl, hs, hl, q⟩
    refine ⟨H, fun _ => none, [scrD a ns], fun d _ => d = .bool true, X0, ⟨Same.refl _, (fun _ _ e => nomatch e), (fun _ _ e => nomatch e), (fun _ _ e => nomatch e)⟩, .cons (.scr hs) .nil, fun r ω' v J' H' z _ _ rp => ?_, (fun _ _ _ _ _ _ z => False.elim z), a, ns, rfl, hl, rfl, fun _ => rfl⟩
    subst z
    cases rp
    exact q H'
  exact ⟨f, fd, ⟨fun vs H Q E z => F.len _ _ _ _ (key _ _ _ _ z), fun A out s H ar us vs Q E ro g e b v z => F.run A out s H ar us vs Q E ro g e b v (key _ _ _ _ z)⟩, r⟩
end
end Tx

namespace Tx
open PySem PySem.Spec PyProof.Rows L2
section
variable {P : Program} {w : World} {K : PySem.W.Frag} {mg : Str → Option Value} {base : Heap}
theorem dd_great {k : Nat} (D : Dfn P w K mg base CX0 k "_law_great" ["_law_bag_here"] (spGreat K)) : Dfn P w K mg base CX0 k "_law_great" ["_law_bag_here"] (spD K dsGreat) := by
  refine D.toD fun vs H Q E z => ?_
  obtain ⟨J, ω, ts, q, x, w, r, cq, cx, b, rfl, hb, z⟩ := z
  cases r with
  | cons ra r2 =>
  cases r2
  obtain rfl := rp_ref ra
  exact ⟨b, J, rfl, w.cell b _ hb, w.out b _ hb, w.jh, fun v d J' H' g r vd => cq _ _ _ _ _ (z d vd) (gro_grow w hb g).1 (gro_grow w hb g).2 r⟩
theorem dd_greatT {k : Nat} (D : Dfn P w K mg base CX0 k "_law_great" ["_law_bag_here"] (spGreat K)) : Dfn P w K mg base CX0 k "_law_great" ["_law_bag_here"] (spD K dsGreatT) := by
  refine D.toD fun vs H Q E z => ?_
  obtain ⟨J, ω, ts, q, x, w, r, cq, cx, b, rfl, hb, z⟩ := z
  cases r with
  | cons ra r2 =>
  cases r2
  obtain rfl := rp_ref ra
  exact ⟨b, fun _ => none, rfl, w.cell b _ hb, rfl, (fun _ _ e => nomatch e), fun v d J' H' g r vd => gro_tm w hb g cq r vd.val fun u ω' t => z d u ω' vd t⟩
end
end Tx

namespace Tx
open PySem PySem.Spec PyProof.Rows L2
/-! ## The first place at which something is no value -/
/-- a place, as a tuple of numbers -/
def plD (p : List Nat) : PyData := .tuple (p.map fun (n : Nat) => PyData.int (n : Int))
mutual
def wrongP : PyData → Option (List Nat)
  | .none => none
  | .str x => if ltr x = true then none else some []
  | .list xs => wrongAll 0 xs
  | _ => some []
def wrongAll (i : Nat) : List PyData → Option (List Nat)
  | [] => none
  | x :: xs => match wrongP x with
    | some p => some (i :: p)
    | none => wrongAll (i + 1) xs
end
def isTxt : PyData → Bool
  | .str x => ltr x
  | _ => false
theorem wrongAll_drop {ds : List PyData} {i : Nat} {d : PyData} (h : ds[i]? = some d) (n : wrongP d = none) (e : wrongAll 0 ds = wrongAll i (ds.drop i)) : wrongAll 0 ds = wrongAll (i + 1) (ds.drop (i + 1)) := by
  have hi : i < ds.length := (List.getElem?_eq_some_iff.mp h).1
  rw [e, List.drop_eq_getElem_cons hi]
  have hd : ds[i] = d := by rw [List.getElem?_eq_getElem hi] at h; exact Option.some.inj h
  rw [hd]
  simp only [wrongAll, n]
theorem wrongAll_at {ds : List PyData} {i : Nat} {d : PyData} {p : List Nat} (h : ds[i]? = some d) (n : wrongP d = some p) (e : wrongAll 0 ds = wrongAll i (ds.drop i)) : wrongAll 0 ds = some (i :: p) := by
  have hi : i < ds.length := (List.getElem?_eq_some_iff.mp h).1
  rw [e, List.drop_eq_getElem_cons hi]
  have hd : ds[i] = d := by rw [List.getElem?_eq_getElem hi] at h; exact Option.some.inj h
  rw [hd]
  simp only [wrongAll, n]
mutual
theorem wrong_len : ∀ (d : PyData) (p : List Nat), wrongP d = some p → p.length ≤ d.depth
  | .none, p, h => by simp [wrongP] at h
  | .bool _, p, h => by simp only [wrongP] at h; cases h; simp
  | .int _, p, h => by simp only [wrongP] at h; cases h; simp
  | .tuple _, p, h => by simp only [wrongP] at h; cases h; simp
  | .dict _, p, h => by simp only [wrongP] at h; cases h; simp
  | .str x, p, h => by
    simp only [wrongP] at h
    split at h
    · cases h
    · cases h; simp
  | .list xs, p, h => by
    simp only [wrongP] at h
    have := wrongAll_len xs 0 p h
    simpa only [PyData.depth] using this
theorem wrongAll_len : ∀ (xs : List PyData) (i : Nat) (p : List Nat), wrongAll i xs = some p → p.length ≤ PyData.depthAll xs + 1
  | [], i, p, h => by simp [wrongAll] at h
  | x :: xs, i, p, h => by
    simp only [wrongAll] at h
    simp only [PyData.depthAll]
    cases e : wrongP x with
    | some q =>
      rw [e] at h
      cases h
      have := wrong_len x q e
      simp only [List.length_cons]
      omega
    | none =>
      rw [e] at h
      have := wrongAll_len xs (i + 1) p h
      omega
end
theorem abc_mem (c : Nat) : decide (c ∈ (("abcdefghijklmnopqrstuvwxyz" : Str)).cps.toList) = decide (97 ≤ c ∧ c ≤ 122) := by
  have e : (("abcdefghijklmnopqrstuvwxyz" : Str)).cps.toList = List.range' 97 26 := by decide +kernel
  rw [e]
  by_cases h : 97 ≤ c ∧ c ≤ 122
  · rw [decide_eq_true h, decide_eq_true (List.mem_range'_1.mpr ⟨h.1, by omega⟩)]
  · rw [decide_eq_false h, decide_eq_false fun z => h (by have := List.mem_range'_1.mp z; omega)]
/-- a thing that the texts take: shown well, not too deep -/
structure Thing (n m : Nat) (d : PyData) : Prop where
  fine : fine d = true
  deep : d.depth ≤ n
  wt : wt d ≤ m
theorem Thing.mono {n m n' m' : Nat} {d : PyData} (h : Thing n m d) (h1 : n ≤ n') (h2 : m ≤ m') : Thing n' m' d := ⟨h.fine, Nat.le_trans h.deep h1, Nat.le_trans h.wt h2⟩
theorem Thing.ok {n m : Nat} {d : PyData} (h : Thing n m d) (h1 : n ≤ 60) (h2 : m ≤ 16000000) : Ok d := ⟨h.fine, Nat.le_trans h.deep h1, Nat.le_trans h.wt h2⟩
theorem Val.thing {n m : Nat} {d : PyData} (h : Val n m d) : Thing n (12 * m) d := ⟨val_fine d h.val, h.deep, by have := val_wt d h.val; have := h.size; omega⟩
theorem Thing.item {n m : Nat} {ds : List PyData} (h : Thing n m (.list ds)) {d : PyData} (hd : d ∈ ds) : Thing (n - 1) m d := by
  have h1 := h.fine
  have h2 := h.deep
  have h3 := h.wt
  simp only [Tx.fine] at h1
  simp only [PyData.depth] at h2
  simp only [Tx.wt] at h3
  have := depth_mem hd
  have := wt_mem hd
  exact ⟨fineAll_iff.mp h1 d hd, by omega, by omega⟩
mutual
theorem depth_wt : ∀ d : PyData, Tx.fine d = true → d.depth ≤ Tx.wt d
  | .none, _ => by simp [PyData.depth]
  | .bool _, _ => by simp [PyData.depth]
  | .int _, _ => by simp [PyData.depth]
  | .str _, _ => by simp [PyData.depth]
  | .list xs, h => by
    simp only [Tx.fine] at h
    have := depthAll_wt xs h
    simp only [PyData.depth, Tx.wt]
    omega
  | .tuple xs, h => by
    simp only [Tx.fine] at h
    have := depthAll_wt xs h
    simp only [PyData.depth, Tx.wt]
    omega
  | .dict _, h => by simp [Tx.fine] at h
theorem depthAll_wt : ∀ xs : List PyData, fineAll xs = true → PyData.depthAll xs ≤ wtAll xs
  | [], _ => by simp [PyData.depthAll]
  | x :: xs, h => by
    simp only [fineAll, Bool.and_eq_true] at h
    have := depth_wt x h.1
    have := depthAll_wt xs h.2
    simp only [PyData.depthAll, wtAll]
    omega
end
theorem len_le_wtAll : ∀ xs : List PyData, 2 * xs.length ≤ wtAll xs
  | [] => by simp [wtAll]
  | x :: xs => by
    have := len_le_wtAll xs
    simp only [wtAll, List.length_cons]
    omega
theorem Thing.len {n m : Nat} {ds : List PyData} (h : Thing n m (.list ds)) : 2 * ds.length ≤ m := by
  have h3 := h.wt
  simp only [Tx.wt] at h3
  have := len_le_wtAll ds
  omega
end Tx

namespace Tx
open PySem PySem.Spec PyProof.Rows L2
/-! ## Rules of the kit with the written part named (within a comprehension it must be) -/
section
variable {X : Cx} {K : PySem.W.Frag}
theorem op_catTK (h : X.K = K) : OpR X (binaryOp .Add) (rCatT K) := h ▸ op_catT
theorem op_eqDK (h : X.K = K) (u : X.A.units + 64 < cLine) : OpR X (compareOp .Eq) (rEqD K) := h ▸ op_eqD u
theorem op_neDK (h : X.K = K) (u : X.A.units + 64 < cLine) : OpR X (compareOp .NotEq) (rNeD K) := h ▸ op_neD u
theorem ix_listK (h : X.K = K) : IxR X (rIxL K) := h ▸ ix_list
theorem ix_tupK (h : X.K = K) : IxR X (rIxT K) := h ▸ ix_tup
theorem sl_listK (h : X.K = K) : SlR X (rSlL K) := h ▸ sl_list
theorem sl_tupK (h : X.K = K) : SlR X (rSlT K) := h ▸ sl_tup
theorem call_len_seqK (h : X.K = K) : CallR X (.builtin "len") (fun xs H Q => ∃ p ys, xs = [.ref p] ∧ (SqL K H p ys ∨ SqT K H p ys) ∧ Q (.int ys.length) H) := h ▸ call_len_seq
theorem call_isDK {T : String} (h : X.K = K) : CallR X (.builtin "isinstance") (rIsD K T) := h ▸ call_isD
theorem call_reprK (h : X.K = K) (gd : X.A.guards = some []) (hu : X.A.units + 64 < cLine) : CallR X (.builtin "repr") (rRepr K) := h ▸ call_repr gd hu
theorem op_in_seqK (h : X.K = K) : OpR X (compareOp .In) (rIn K false) := h ▸ op_in_seq
end
/-! ## Data that stays while the things at F are changed -/
def hide (F : List Addr) (H : Hp) : Hp := fun a => if a ∈ F then none else H a
def Dq (K : PySem.W.Frag) (F : List Addr) (H : Hp) (v : V) (d : PyData) : Prop := Dp K (hide F H) v d
def DqAll (K : PySem.W.Frag) (F : List Addr) (H : Hp) (vs : List V) (ds : List PyData) : Prop := DpAll K (hide F H) vs ds
/-- the things at F are there -/
def There (F : List Addr) (H : Hp) : Prop := ∀ a ∈ F, H a ≠ none
section
variable {K : PySem.W.Frag} {F : List Addr} {H H' : Hp} {p : Addr} {o : HO} {v : V} {d : PyData} {vs : List V} {ds : List PyData}
theorem hide_in (h : p ∈ F) : hide F H p = none := if_pos h
theorem hide_out (h : p ∉ F) : hide F H p = H p := if_neg h
theorem hide_le : Same (hide F H) H := fun a o e => by
  unfold hide at e
  split at e
  · cases e
  · exact e
theorem hide_same (s : Same H H') : Same (hide F H) (hide F H') := fun a o e => by
  unfold hide at e ⊢
  split at e
  · cases e
  · rename_i h; rw [if_neg h]; exact s a o e
theorem hide_cons : Same (hide (p :: F) H) (hide F H) := fun a o e => by
  unfold hide at e ⊢
  split at e
  · cases e
  · rename_i h; rw [if_neg fun z => h (List.mem_cons_of_mem _ z)]; exact e
theorem hide_sub {F' : List Addr} (h : ∀ a ∈ F, a ∈ F') : Same (hide F' H) (hide F H) := fun a o e => by
  unfold hide at e ⊢
  split at e
  · cases e
  · rename_i z; rw [if_neg fun y => z (h a y)]; exact e
theorem There.fresh (t : There F H) (h : H p = none) : p ∉ F := fun z => t p z h
theorem There.same (t : There F H) (s : Same H H') : There F H' := fun a h => by
  cases q : H a with
  | none => exact absurd q (t a h)
  | some o => rw [s a o q]; simp
theorem There.upd (t : There F H) : There F (upd H p o) := fun a h => by
  by_cases z : a = p
  · rw [z, upd_same]; simp
  · rw [upd_ne z]; exact t a h
theorem There.cons (t : There F H) (h : H p = some o) : There (p :: F) H := fun a z => by
  cases z with
  | head => rw [h]; simp
  | tail _ z => exact t a z
theorem There.one (h : H p = some o) : There [p] H := fun a z => by rw [List.mem_singleton.mp z, h]; simp
theorem hide_upd (h : p ∉ F) : hide F (upd H p o) = upd (hide F H) p o := by
  funext a
  by_cases z : a = p
  · subst z; rw [hide_out h, upd_same, upd_same]
  · rw [upd_ne z]
    unfold hide
    rw [upd_ne z]
theorem hide_upd_in (h : p ∈ F) : hide F (upd H p o) = hide F H := by
  funext a
  unfold hide
  split
  · rfl
  · rename_i z; rw [upd_ne fun y => z (by rw [y]; exact h)]
theorem hide_mut (h : p ∈ F) : Same (hide F H) (hide F (upd H p o)) := by rw [hide_upd_in h]; exact Same.refl _
theorem Dq.dp (h : Dq K F H v d) : Dp K H v d := dp_mono hide_le d v h
theorem DqAll.dp (h : DqAll K F H vs ds) : DpAll K H vs ds := dpAll_mono hide_le ds vs h
theorem Dq.to (h : Dq K F H v d) (s : Same (hide F H) (hide F H')) : Dq K F H' v d := dp_mono s d v h
theorem DqAll.to (h : DqAll K F H vs ds) (s : Same (hide F H) (hide F H')) : DqAll K F H' vs ds := dpAll_mono s ds vs h
theorem Dq.same (h : Dq K F H v d) (s : Same H H') : Dq K F H' v d := h.to (hide_same s)
theorem DqAll.same (h : DqAll K F H vs ds) (s : Same H H') : DqAll K F H' vs ds := h.to (hide_same s)
theorem Dq.less (h : Dq K (p :: F) H v d) : Dq K F H v d := dp_mono hide_cons d v h
theorem DqAll.less (h : DqAll K (p :: F) H vs ds) : DqAll K F H vs ds := dpAll_mono hide_cons ds vs h
/-- a further thing is guarded that is new -/
theorem Dq.more (h : Dq K F H v d) (n : H p = none) : Dq K (p :: F) H v d := dp_mono (fun a o e => by
  have z : a ≠ p := fun z => by rw [z] at e; have := hide_le p o e; rw [n] at this; cases this
  unfold hide at e ⊢
  split at e
  · cases e
  · rename_i y; rw [if_neg fun q => by cases q with | head => exact z rfl | tail _ q => exact y q]; exact e) d v h
theorem DqAll.more (h : DqAll K F H vs ds) (n : H p = none) : DqAll K (p :: F) H vs ds := dpAll_mono (fun a o e => by
  have z : a ≠ p := fun z => by rw [z] at e; have := hide_le p o e; rw [n] at this; cases this
  unfold hide at e ⊢
  split at e
  · cases e
  · rename_i y; rw [if_neg fun q => by cases q with | head => exact z rfl | tail _ q => exact y q]; exact e) ds vs h
/-- a list (a tuple) of one's own -/
theorem Dq.lst (n : p ∉ F) (e : H p = some (.lst vs)) (h : DqAll K (p :: F) H vs ds) : Dq K F H (.ref p) (.list ds) := L2.Dp.lst (SqL.of (by rw [hide_out n]; exact e)) h.less
theorem Dq.tup (n : p ∉ F) (e : H p = some (.tup vs)) (h : DqAll K F H vs ds) : Dq K F H (.ref p) (.tuple ds) := L2.Dp.tup (SqT.of (by rw [hide_out n]; exact e)) h
theorem Dq.newL (n : H p = none) (t : There F H) (h : DqAll K F H vs ds) : Dq K F (upd H p (.lst vs)) (.ref p) (.list ds) :=
  L2.Dp.lst (SqL.of (by rw [hide_out (t.fresh n), upd_same])) (h.same (same_new n _))
theorem Dq.newT (n : H p = none) (t : There F H) (h : DqAll K F H vs ds) : Dq K F (upd H p (.tup vs)) (.ref p) (.tuple ds) :=
  L2.Dp.tup (SqT.of (by rw [hide_out (t.fresh n), upd_same])) (h.same (same_new n _))
/-- a place: numbers alone -/
theorem place_q {b : Addr} {q : List Nat} (hb : ∀ ys, H b ≠ some (.tup ys)) (hf : ∀ o ys, H b ≠ some (.frz o (.tup ys))) (h : Dp K H v (plD q)) : Dq K [b] H v (plD q) := by
  cases h with
  | @tup a xs _ hs ha =>
  have ha' : ∀ (q : List Nat) (xs : List V), DpAll K H xs (q.map fun (n : Nat) => PyData.int (n : Int)) → DpAll K (hide [b] H) xs (q.map fun (n : Nat) => PyData.int (n : Int)) := by
    intro q
    induction q with
    | nil => intro xs h; cases h; exact .nil
    | cons n q ih =>
      intro xs h
      cases h with
      | cons h1 h2 => cases h1; exact .cons (.int _) (ih _ h2)
  refine L2.Dp.tup ?_ (ha' q xs ha)
  rcases hs with (e | ⟨o, e⟩) | e
  · exact .inl (.inl (by rw [hide_out fun z => hb xs (by rw [← List.mem_singleton.mp z]; exact e)]; exact e))
  · exact .inl (.inr ⟨o, by rw [hide_out fun z => hf o xs (by rw [← List.mem_singleton.mp z]; exact e)]; exact e⟩)
  · exact .inr e
end
section
variable {K : PySem.W.Frag} {b : Addr} {F : List Addr} {H H' J' : Hp} {v : V} {d : PyData}
theorem Stp.hide (s : Stp b H H') (h : b ∈ F) : Same (hide F H) (hide F H') := fun a o e => by
  unfold Tx.hide at e ⊢
  split at e
  · cases e
  · rename_i z; rw [if_neg z]; exact s.keep a o (fun y => z (by rw [y]; exact h)) e
theorem Stp.thereF (s : Stp b H H') (hB : Bag H b) (t : There F H) : There F H' := fun a h => s.there hB (t a h)
theorem Gro.hide (g : Gro b (hide F H) H J' H') (t : There F H) : Same J' (Tx.hide F H') := fun a o e => by
  have n : a ∉ F := fun z => by rw [g.fr a (t a z) (hide_in z)] at e; cases e
  rw [hide_out n]
  exact g.jh a o e
theorem Gro.dq (g : Gro b (Tx.hide F H) H J' H') (t : There F H) (h : Dp K J' v d) : Dq K F H' v d := dp_mono (g.hide t) d v h
theorem Bag.there (h : Bag H b) : There [b] H := by
  obtain ⟨c, m, e⟩ := h
  exact There.one e
theorem Bag.same (h : Bag H b) (s : Same H H') : Bag H' b := by
  obtain ⟨c, m, e⟩ := h
  exact ⟨c, m, s _ _ e⟩
theorem Stp.ofSame (h : Bag H b) (s : Same H H') : Stp b H H' := ⟨h.same s, SameBut.of s⟩
end
end Tx

namespace Tx
open PySem PySem.Spec PyProof.Rows L2
/-! ## More rules: max with a default; a def that cannot raise here -/
/-- the greatest, or z -/
def maxOr (z : Int) : List Int → Int
  | [] => z
  | n :: r => r.foldl max n
def rMaxDf (K : PySem.W.Frag) : List V → List V → Hp → VK → Prop := fun vs zs H Q => ∃ (a : Addr) (ns : List Int) (z : Int), vs = [.ref a] ∧ zs = [.int z] ∧ SqL K H a (ns.map V.int) ∧ Q (.int (maxOr z ns)) H
theorem dp_ints {K : PySem.W.Frag} {H : Hp} : ∀ ns : List Int, DpAll K H (ns.map V.int) (ns.map PyData.int)
  | [] => .nil
  | n :: ns => .cons (.int n) (dp_ints ns)
theorem depth_ints : ∀ ns : List Int, PyData.depthAll (ns.map PyData.int) = 0
  | [] => rfl
  | n :: ns => by simp [PyData.depthAll, PyData.depth, depth_ints ns]
theorem cr_maxDf {X : Cx} (hc : X.calm = true) (hu : X.A.units + 64 < cLine) : CallRK X (.builtin "max") [Str.ofString "default"] (rMaxDf X.K) := by
  intro pins s σ H vs zs us ws Q I r rz h
  obtain ⟨a, ns, z, rfl, rfl, hs, q⟩ := h
  obtain ⟨its, rv, hl, _⟩ := I.list hs
  rw [Vals.ref1 r]
  obtain ⟨w1, rfl, t, rfl⟩ := vals1 rz
  obtain ⟨as, rd⟩ := Dp.readsAll I _ _ _ (dp_ints ns) rv
  have al : PySem.W.AlikeAll (ns.map PyData.int) := by
    refine ⟨fun x hx y hy => ?_, fun x hx => ?_⟩
    · obtain ⟨i, _, rfl⟩ := List.mem_map.mp hx
      obtain ⟨j, _, rfl⟩ := List.mem_map.mp hy
      rfl
    · obtain ⟨i, _, rfl⟩ := List.mem_map.mp hx
      exact fun z => nomatch z
  refine PySem.W.max_list_default (d := .int z t) (I.ok.hd hc) hl.isList (by simpa using rd) al (by rw [depth_ints]; omega) (fun e h' tk hk => ?_) (fun y ys i v h' tk bs e hv rd' hk => ?_)
  · obtain rfl : ns = [] := by cases ns with | nil => rfl | cons n r => cases e
    exact ⟨.int z, H, I.kept hk, ⟨t, rfl⟩, q⟩
  · cases ns with
    | nil => cases e
    | cons n r =>
      rw [List.map_cons] at e
      injection e with e1 e2
      subst e1 e2
      rw [PySem.W.maxD_ints] at rd'
      cases rd'
      exact ⟨.int _, H, I.kept hk, ⟨_, rfl⟩, q⟩
theorem foldl_max (ds : List PyData) : ∀ n : Nat, (ds.map fun d => (d.depth : Int)).foldl max (n : Int) = ((max n (PyData.depthAll ds) : Nat) : Int) := by
  induction ds with
  | nil => intro n; simp [PyData.depthAll]
  | cons d ds ih =>
    intro n
    rw [List.map_cons, List.foldl_cons]
    have : max (n : Int) (d.depth : Int) = ((max n d.depth : Nat) : Int) := by omega
    rw [this, ih]
    simp only [PyData.depthAll]
    omega
theorem maxOr_depth (ds : List PyData) : maxOr 0 (ds.map fun d => (d.depth : Int)) = (PyData.depthAll ds : Int) := by
  cases ds with
  | nil => rfl
  | cons d ds =>
    show (ds.map fun d => (d.depth : Int)).foldl max (d.depth : Int) = _
    rw [foldl_max]
    rfl
theorem Dfn.calm {P : Program} {w : World} {K : PySem.W.Frag} {mg : Str → Option Value} {base : Heap} {k : Nat} {x : Str} {ps : List Str} {sp sp' : Sp} (D : Dfn P w K mg base (L2.CX P w) k x ps sp) (h : ∀ vs H Q E, sp' vs H Q E → sp vs H Q fun _ _ _ => False) : Dfn P w K mg base CX0 k x ps sp' := by
  obtain ⟨f, fd, F, m, kp, bd⟩ := D
  refine ⟨f, fd, ⟨fun vs H Q E z => F.len _ _ _ _ (h _ _ _ _ z), fun A out s H ar us vs Q E r g e b v z => ?_⟩, m, kp, bd⟩
  refine codeAny_mono (F.run A out s H ar us vs Q _ r g e b v (h _ _ _ _ z)) fun r s' got => ?_
  match r, got with
  | .ok (.ret u), got => exact got
  | .ok .next, got => exact False.elim got
  | .ok .brk, got => exact False.elim got
  | .ok .cont, got => exact False.elim got
  | .error er, ⟨_, _, _, _, _, _, _, _, _, _, _, _, no⟩ => exact False.elim no
/-! ## New things made of new things; what may be done to them -/
mutual
/-- v stands for d, all its lists are outside B, each below another, and have at most M 'x' behind -/
def Nw (M : Nat) (H : Hp) : PyData → (Addr → Prop) → V → Prop
  | .none, _, v => v = .non
  | .str x, _, v => v = .str x
  | .list ds, B, v => ∃ (a : Addr) (vs : List V) (k : Nat), v = .ref a ∧ ¬ B a ∧ H a = some (.lst (vs ++ List.replicate k (.str "x"))) ∧ k ≤ M ∧ NwAll M H ds (fun x => B x ∨ x = a) vs
  | .bool _, _, _ => False
  | .int _, _, _ => False
  | .tuple _, _, _ => False
  | .dict _, _, _ => False
def NwAll (M : Nat) (H : Hp) : List PyData → (Addr → Prop) → List V → Prop
  | [], _, vs => vs = []
  | d :: ds, B, vs => ∃ (v : V) (ws : List V), vs = v :: ws ∧ Nw M H d B v ∧ NwAll M H ds B ws
end
mutual
theorem Nw.to {M M' : Nat} {H H' : Hp} (hM : M ≤ M') : ∀ (d : PyData) (B B' : Addr → Prop) (v : V), (∀ a, B' a → B a) → (∀ a o, ¬ B a → H a = some o → H' a = some o) → Nw M H d B v → Nw M' H' d B' v
  | .none, _, _, _, _, _, h => by simpa only [Nw] using h
  | .str _, _, _, _, _, _, h => by simpa only [Nw] using h
  | .list ds, B, B', v, hB, hH, h => by
    simp only [Nw] at h ⊢
    obtain ⟨a, vs, k, e, n, ha, hk, hA⟩ := h
    exact ⟨a, vs, k, e, fun z => n (hB a z), hH a _ n ha, by omega, NwAll.to hM ds _ _ vs (fun x hx => hx.imp (hB x) id) (fun x o nx hx => hH x o (fun z => nx (.inl z)) hx) hA⟩
  | .bool _, _, _, _, _, _, h => by simp only [Nw] at h
  | .int _, _, _, _, _, _, h => by simp only [Nw] at h
  | .tuple _, _, _, _, _, _, h => by simp only [Nw] at h
  | .dict _, _, _, _, _, _, h => by simp only [Nw] at h
theorem NwAll.to {M M' : Nat} {H H' : Hp} (hM : M ≤ M') : ∀ (ds : List PyData) (B B' : Addr → Prop) (vs : List V), (∀ a, B' a → B a) → (∀ a o, ¬ B a → H a = some o → H' a = some o) → NwAll M H ds B vs → NwAll M' H' ds B' vs
  | [], _, _, _, _, _, h => by simpa only [NwAll] using h
  | d :: ds, B, B', vs, hB, hH, h => by
    simp only [NwAll] at h ⊢
    obtain ⟨v, ws, e, h1, h2⟩ := h
    exact ⟨v, ws, e, Nw.to hM d B B' v hB hH h1, NwAll.to hM ds B B' ws hB hH h2⟩
end
theorem dp_xs {K : PySem.W.Frag} {H : Hp} : ∀ k : Nat, DpAll K H (List.replicate k (.str "x")) (List.replicate k (.str "x"))
  | 0 => .nil
  | k + 1 => .cons (.str _) (dp_xs k)
mutual
theorem Nw.some {K : PySem.W.Frag} {M : Nat} {H : Hp} : ∀ (d : PyData) (B : Addr → Prop) (v : V), Nw M H d B v → ∃ e, Dp K H v e ∧ isL e = isL d
  | .none, _, v, h => by simp only [Nw] at h; subst h; exact ⟨.none, .non, rfl⟩
  | .str x, _, v, h => by simp only [Nw] at h; subst h; exact ⟨.str x, .str x, rfl⟩
  | .list ds, B, v, h => by
    simp only [Nw] at h
    obtain ⟨a, vs, k, rfl, n, ha, hk, hA⟩ := h
    obtain ⟨es, he⟩ := NwAll.some ds _ vs hA
    exact ⟨.list (es ++ List.replicate k (.str "x")), .lst (SqL.of ha) (DpAll.append he (dp_xs k)), rfl⟩
  | .bool _, _, _, h => by simp only [Nw] at h
  | .int _, _, _, h => by simp only [Nw] at h
  | .tuple _, _, _, h => by simp only [Nw] at h
  | .dict _, _, _, h => by simp only [Nw] at h
theorem NwAll.some {K : PySem.W.Frag} {M : Nat} {H : Hp} : ∀ (ds : List PyData) (B : Addr → Prop) (vs : List V), NwAll M H ds B vs → ∃ es, DpAll K H vs es
  | [], _, vs, h => by simp only [NwAll] at h; subst h; exact ⟨[], .nil⟩
  | d :: ds, B, vs, h => by
    simp only [NwAll] at h
    obtain ⟨v, ws, rfl, h1, h2⟩ := h
    obtain ⟨e, he, _⟩ := Nw.some (K := K) d B v h1
    obtain ⟨es, hes⟩ := NwAll.some (K := K) ds B ws h2
    exact ⟨e :: es, .cons he hes⟩
end
mutual
theorem Nw.dp {K : PySem.W.Frag} {H : Hp} : ∀ (d : PyData) (B : Addr → Prop) (v : V), Nw 0 H d B v → Dp K H v d
  | .none, _, v, h => by simp only [Nw] at h; subst h; exact .non
  | .str x, _, v, h => by simp only [Nw] at h; subst h; exact .str x
  | .list ds, B, v, h => by
    simp only [Nw] at h
    obtain ⟨a, vs, k, rfl, n, ha, hk, hA⟩ := h
    obtain rfl : k = 0 := by omega
    rw [List.replicate_zero, List.append_nil] at ha
    exact .lst (SqL.of ha) (NwAll.dp ds _ vs hA)
  | .bool _, _, _, h => by simp only [Nw] at h
  | .int _, _, _, h => by simp only [Nw] at h
  | .tuple _, _, _, h => by simp only [Nw] at h
  | .dict _, _, _, h => by simp only [Nw] at h
theorem NwAll.dp {K : PySem.W.Frag} {H : Hp} : ∀ (ds : List PyData) (B : Addr → Prop) (vs : List V), NwAll 0 H ds B vs → DpAll K H vs ds
  | [], _, vs, h => by simp only [NwAll] at h; subst h; exact .nil
  | d :: ds, B, vs, h => by
    simp only [NwAll] at h
    obtain ⟨v, ws, rfl, h1, h2⟩ := h
    exact .cons (Nw.dp d B v h1) (NwAll.dp ds B ws h2)
end
section
variable {M : Nat} {H H' : Hp} {B : Addr → Prop}
theorem NwAll.len : ∀ {ds : List PyData} {vs : List V}, NwAll M H ds B vs → vs.length = ds.length
  | [], vs, h => by simp only [NwAll] at h; rw [h]; rfl
  | d :: ds, vs, h => by
    simp only [NwAll] at h
    obtain ⟨v, ws, rfl, h1, h2⟩ := h
    simp only [List.length_cons, NwAll.len h2]
theorem NwAll.get : ∀ {ds : List PyData} {vs : List V} {i : Nat} {v : V}, NwAll M H ds B vs → vs[i]? = Option.some v → ∃ d, ds[i]? = Option.some d ∧ Nw M H d B v
  | [], vs, i, v, h, e => by simp only [NwAll] at h; rw [h] at e; simp at e
  | d :: ds, vs, 0, v, h, e => by
    simp only [NwAll] at h
    obtain ⟨u, ws, rfl, h1, h2⟩ := h
    simp at e
    subst e
    exact ⟨d, rfl, h1⟩
  | d :: ds, vs, i + 1, v, h, e => by
    simp only [NwAll] at h
    obtain ⟨u, ws, rfl, h1, h2⟩ := h
    obtain ⟨c, e1, e2⟩ := NwAll.get (i := i) (v := v) h2 (by simpa using e)
    exact ⟨c, by simpa using e1, e2⟩
theorem NwAll.append : ∀ {ds es : List PyData} {vs ws : List V}, NwAll M H ds B vs → NwAll M H es B ws → NwAll M H (ds ++ es) B (vs ++ ws)
  | [], es, vs, ws, h, g => by simp only [NwAll] at h; rw [h]; exact g
  | d :: ds, es, vs, ws, h, g => by
    simp only [NwAll] at h
    obtain ⟨v, us, rfl, h1, h2⟩ := h
    show NwAll M H (d :: (ds ++ es)) B (v :: (us ++ ws))
    simp only [NwAll]
    exact ⟨v, us ++ ws, rfl, h1, NwAll.append h2 g⟩
theorem NwAll.one {d : PyData} {v : V} (h : Nw M H d B v) : NwAll M H [d] B [v] := by
  simp only [NwAll]
  exact ⟨v, [], rfl, h, rfl⟩
theorem NwAll.xs : ∀ k : Nat, NwAll M H (List.replicate k (.str "x")) B (List.replicate k (.str "x"))
  | 0 => by rw [List.replicate_zero, List.replicate_zero]; simp only [NwAll]
  | k + 1 => by
    rw [List.replicate_succ, List.replicate_succ]
    simp only [NwAll]
    exact ⟨_, _, rfl, by simp only [Nw], NwAll.xs k⟩
end
/-- from H to H' some lists outside C have got up to k 'x' more -/
def Evo (C : Addr → Prop) (k : Nat) (H H' : Hp) : Prop := ∀ a o, H a = Option.some o → H' a = Option.some o ∨ (¬ C a ∧ ∃ vs j, o = .lst vs ∧ j ≤ k ∧ H' a = Option.some (.lst (vs ++ List.replicate j (.str "x"))))
section
variable {C C' : Addr → Prop} {k j : Nat} {H H1 H2 : Hp}
theorem Evo.same (s : Same H H1) : Evo C k H H1 := fun a o e => .inl (s a o e)
theorem Evo.trans (x : Evo C k H H1) (y : Evo C j H1 H2) : Evo C (k + j) H H2 := by
  intro a o e
  rcases x a o e with e1 | ⟨n, vs, i, rfl, hi, e1⟩
  · rcases y a o e1 with e2 | ⟨n, vs, i, rfl, hi, e2⟩
    · exact .inl e2
    · exact .inr ⟨n, vs, i, rfl, by omega, e2⟩
  · rcases y a _ e1 with e2 | ⟨_, vs2, i2, e0, hi2, e2⟩
    · exact .inr ⟨n, vs, i, rfl, by omega, e2⟩
    · injection e0 with e0
      subst e0
      refine .inr ⟨n, vs, i + i2, rfl, by omega, ?_⟩
      rw [e2, List.append_assoc, List.replicate_append_replicate]
theorem Evo.weak (x : Evo C k H H1) (hC : ∀ a, C' a → C a) (hk : k ≤ j) : Evo C' j H H1 := fun a o e =>
  (x a o e).imp id fun ⟨n, vs, i, e1, hi, e2⟩ => ⟨fun z => n (hC a z), vs, i, e1, by omega, e2⟩
theorem Evo.keep (x : Evo C k H H1) {a : Addr} {o : HO} (hC : C a) (e : H a = Option.some o) : H1 a = Option.some o := (x a o e).elim id fun z => absurd hC z.1
theorem Evo.old {H0 : Hp} (x : Evo (fun a => H0 a ≠ none) k H H1) (s : Same H0 H) : Same H0 H1 := fun a o e => x.keep (by rw [e]; simp) (s a o e)
end
mutual
theorem Nw.evo {M k : Nat} {C : Addr → Prop} {H H' : Hp} (x : Evo C k H H') : ∀ (d : PyData) (B : Addr → Prop) (v : V), Nw M H d B v → Nw (M + k) H' d B v
  | .none, _, _, h => by simpa only [Nw] using h
  | .str _, _, _, h => by simpa only [Nw] using h
  | .list ds, B, v, h => by
    simp only [Nw] at h ⊢
    obtain ⟨a, vs, i, e, n, ha, hk, hA⟩ := h
    have hA' := NwAll.evo x ds _ vs hA
    rcases x a _ ha with e1 | ⟨_, ws, j, e0, hj, e1⟩
    · exact ⟨a, vs, i, e, n, e1, by omega, hA'⟩
    · injection e0 with e0
      subst e0
      refine ⟨a, vs, i + j, e, n, ?_, by omega, hA'⟩
      rw [e1, List.append_assoc, List.replicate_append_replicate]
  | .bool _, _, _, h => by simp only [Nw] at h
  | .int _, _, _, h => by simp only [Nw] at h
  | .tuple _, _, _, h => by simp only [Nw] at h
  | .dict _, _, _, h => by simp only [Nw] at h
theorem NwAll.evo {M k : Nat} {C : Addr → Prop} {H H' : Hp} (x : Evo C k H H') : ∀ (ds : List PyData) (B : Addr → Prop) (vs : List V), NwAll M H ds B vs → NwAll (M + k) H' ds B vs
  | [], _, _, h => by simpa only [NwAll] using h
  | d :: ds, B, vs, h => by
    simp only [NwAll] at h ⊢
    obtain ⟨v, ws, e, h1, h2⟩ := h
    exact ⟨v, ws, e, Nw.evo x d B v h1, NwAll.evo x ds B ws h2⟩
end
mutual
/-- how many lists -/
def nl : PyData → Nat
  | .list ds => 1 + nlAll ds
  | _ => 0
def nlAll : List PyData → Nat
  | [] => 0
  | d :: ds => nl d + nlAll ds
end
theorem nlAll_append : ∀ (xs ys : List PyData), nlAll (xs ++ ys) = nlAll xs + nlAll ys
  | [], ys => by simp [nlAll]
  | x :: xs, ys => by simp only [List.cons_append, nlAll, nlAll_append xs ys]; omega
theorem nlAll_xs : ∀ k : Nat, nlAll (List.replicate k (.str "x")) = 0
  | 0 => rfl
  | k + 1 => by rw [List.replicate_succ]; simp [nlAll, nl, nlAll_xs k]
theorem nl_take {xs : List PyData} {i : Nat} {d : PyData} (h : xs[i]? = Option.some d) : nlAll (xs.take (i + 1)) = nlAll (xs.take i) + nl d := by
  rw [List.take_add_one, h, nlAll_append]
  simp [nlAll]
theorem nl_take_le (xs : List PyData) (i : Nat) : nlAll (xs.take i) ≤ nlAll xs := by
  have h := nlAll_append (xs.take i) (xs.drop i)
  rw [List.take_append_drop] at h
  omega
mutual
theorem nl_le : ∀ d : PyData, nl d ≤ szD d
  | .list ds => by have := nlAll_le ds; simp only [nl, szD]; omega
  | .none => by simp [nl]
  | .str _ => by simp [nl]
  | .bool _ => by simp [nl]
  | .int _ => by simp [nl]
  | .tuple _ => by simp [nl]
  | .dict _ => by simp [nl]
theorem nlAll_le : ∀ ds : List PyData, nlAll ds ≤ szAll ds
  | [] => by simp [nlAll]
  | d :: ds => by have := nl_le d; have := nlAll_le ds; simp only [nlAll, szAll]; omega
end
end Tx

namespace Tx
open PySem PySem.Spec PyProof.Rows L2
/-! ## Places as data -/
/-- (i,) + place -/
theorem dp_cons {K : PySem.W.Frag} {H : Hp} {i : Nat} {p : List Nat} {xs : List V} (h : DpAll K H xs (p.map fun (n : Nat) => PyData.int (n : Int))) : DpAll K H (.int (i : Int) :: xs) ((i :: p).map fun (n : Nat) => PyData.int (n : Int)) := .cons (.int _) h
theorem plD_shaped (p : List Nat) : SeqAt.shaped (plD p) = true := by
  have h1 : ∀ p : List Nat, PyData.canLayAll0 (p.map fun (n : Nat) => PyData.int (n : Int)) = true := fun p => by
    induction p with
    | nil => rfl
    | cons n p ih => simp only [List.map_cons, PyData.canLayAll0, PyData.canLay0, ih, Bool.and_self]
  have h2 : ∀ p : List Nat, PyData.depthAll (p.map fun (n : Nat) => PyData.int (n : Int)) = 0 := fun p => by
    induction p with
    | nil => rfl
    | cons n p ih => simp only [List.map_cons, PyData.depthAll, PyData.depth, ih]; rfl
  unfold SeqAt.shaped plD
  simp only [PyData.canLay0, PyData.depth, h1, h2]
  decide
theorem eqv_pl_nil (p : List Nat) : PyData.eqv (plD p) (.tuple []) = p.isEmpty := by
  cases p with
  | nil => simp [plD, PyData.eqv, PyData.eqvAll]
  | cons n p => simp [plD, PyData.eqv, PyData.eqvAll]
theorem cutV_from1 (xs : List V) : cutV xs (some 1) none = xs.drop 1 := by
  unfold cutV
  have e : HT.sIx xs.length 0 (some 1) = min 1 xs.length := HT.sIx_nat xs.length 0 1
  rw [HT.sIx_none, e]
  cases xs with
  | nil => rfl
  | cons x xs =>
    have : min 1 (x :: xs).length = 1 := by simp
    rw [this, List.drop_one, List.tail_cons]
    exact List.take_of_length_le (by simp)
end Tx

namespace Tx
open PySem PySem.Spec PyProof.Rows L2
/-! ## The items of a value, as data -/
def sgD (z : Str) : List PyData := z.cps.toList.map fun c => PyData.str ⟨#[c]⟩
/-- the items of a value -/
def itD : PyData → List PyData
  | .list ds => ds
  | .str z => sgD z
  | _ => []
theorem ltr_sgD {z : Str} (h : ltr z = true) {d : PyData} (m : d ∈ sgD z) : Val 0 2 d := by
  obtain ⟨c, hc, rfl⟩ := List.mem_map.mp m
  obtain ⟨i, hi⟩ := List.getElem?_of_mem hc
  exact ⟨by simpa only [isVal] using ltr_get h hi, by simp [PyData.depth], by simp only [szD]; exact Nat.le_refl _⟩
theorem dp_sgn {K : PySem.W.Frag} {H : Hp} (z : Str) : DpAll K H (sgn z) (sgD z) := by
  unfold sgn sgD
  induction z.cps.toList with
  | nil => exact .nil
  | cons c l ih => exact .cons (.str _) ih
theorem Val.items {n m : Nat} {d : PyData} (h : Val n m d) (m2 : 2 ≤ m) {e : PyData} (he : e ∈ itD d) : Val n m e := by
  cases d with
  | list ds => exact (h.item he).mono (by omega) (by omega)
  | str z => exact (ltr_sgD (by simpa only [isVal] using h.val) he).mono (by omega) (by omega)
  | none => simp [itD] at he
  | bool _ => simp [itD] at he
  | int _ => simp [itD] at he
  | tuple _ => simp [itD] at he
  | dict _ => simp [itD] at he
theorem szAll_sgD (z : Str) : szAll (sgD z) = 2 * z.length := by
  show _ = 2 * z.cps.size
  rw [← Array.length_toList]
  unfold sgD
  induction z.cps.toList with
  | nil => rfl
  | cons c l ih =>
    simp only [List.map_cons, szAll, List.length_cons, ih, szD]
    show 1 + 1 + _ = _
    omega
theorem Val.itemsL {n m : Nat} {d : PyData} (h : Val n m d) (m2 : 2 ≤ m) : Val (n + 1) (2 * m + 1) (.list (itD d)) := by
  refine ⟨?_, ?_, ?_⟩
  · simp only [isVal]; exact isValAll_iff.mpr fun e he => (h.items m2 he).val
  · have := depthAll_le (n := n) (xs := itD d) fun e he => (h.items m2 he).deep
    simp only [PyData.depth]; omega
  · have hs := h.size
    simp only [szD]
    cases d with
    | list ds => simp only [szD] at hs; simp only [itD]; omega
    | str z => simp only [szD] at hs; simp only [itD, szAll_sgD]; omega
    | none => simp [itD, szAll]
    | bool _ => simp [itD, szAll]
    | int _ => simp [itD, szAll]
    | tuple _ => simp [itD, szAll]
    | dict _ => simp [itD, szAll]
theorem list_of {K : PySem.W.Frag} {H : Hp} {x : V} {d : PyData} (hd : Dp K H x d) (vd : Val 20 100000 d) (ne : d ≠ .none) :
    (∃ p ys, x = V.ref p ∧ SqL K H p ys ∧ DpAll K H ys (itD d)) ∨ (∃ z : Str, x = V.str z ∧ z.length ≤ sizeLine ∧ DpAll K H (sgn z) (itD d)) := by
  have val := vd.val
  have sz := vd.size
  cases hd with
  | non => exact absurd rfl ne
  | bl _ => simp [isVal] at val
  | int _ => simp [isVal] at val
  | str z =>
    simp only [szD] at sz
    exact .inr ⟨z, rfl, by rw [sizeLine_eq]; omega, dp_sgn z⟩
  | lst hs ha => exact .inl ⟨_, _, rfl, hs, ha⟩
  | tup _ _ => simp [isVal] at val
end Tx

namespace Tx
open PySem PySem.Spec PyProof.Rows L2
/-! ## Places of values, without the program -/
theorem cutD_mem {α : Type} {xs : List α} {lo hi : Option Int} {x : α} (h : x ∈ cutD xs lo hi) : x ∈ xs := List.mem_of_mem_drop (List.mem_of_mem_take h)
theorem cutD_len {α : Type} (xs : List α) (lo hi : Option Int) : (cutD xs lo hi).length ≤ xs.length := by
  unfold cutD
  rw [List.length_take, List.length_drop]
  omega
theorem cutD_init {α : Type} (xs : List α) (y : α) : cutD (xs ++ [y]) none (some (-1)) = xs := by
  unfold cutD
  have e : HT.sIx (xs ++ [y]).length (xs ++ [y]).length (some (-1)) = xs.length := by
    unfold HT.sIx
    simp only
    rw [if_pos (by decide), List.length_append]
    simp
    omega
  rw [HT.sIx_none, e, List.drop_zero, Nat.sub_zero, List.take_left]
theorem cutD_from1 {α : Type} (xs : List α) : cutD xs (some 1) none = xs.drop 1 := by
  unfold cutD
  have e : HT.sIx xs.length 0 (some 1) = min 1 xs.length := HT.sIx_nat xs.length 0 1
  rw [HT.sIx_none, e]
  cases xs with
  | nil => rfl
  | cons x xs =>
    have : min 1 (x :: xs).length = 1 := by simp
    rw [this, List.drop_one, List.tail_cons]
    exact List.take_of_length_le (by simp)
def isSplit : PyData → Bool
  | .list _ => true
  | .str z => decide (1 < z.length)
  | _ => false
def isIdx (e : PyData) (n : Nat) : Bool :=
  match e with
  | .int i => decide (0 ≤ i) && decide (i < (n : Int))
  | _ => false
/-- the part of d at the index e, if there is one -/
def kid (d e : PyData) : Option PyData :=
  if isSplit d = true then
    match e with
    | .int i => if 0 ≤ i then (itD d)[i.toNat]? else none
    | _ => none
  else none
/-- the parts below d on the way es -/
def pathD : PyData → List PyData → Option (List PyData)
  | _, [] => some []
  | d, e :: es => (kid d e).bind fun k => (pathD k es).map (k :: ·)
/-- all parts on the way, nothing if there is none -/
def ledD (d : PyData) : PyData → List PyData
  | .tuple es => match pathD d es with
    | some ps => d :: ps
    | none => []
  | _ => []
theorem kid_mem {d e k : PyData} (h : kid d e = some k) : k ∈ itD d := by
  unfold kid at h
  split at h
  · split at h
    · split at h
      · exact List.mem_of_getElem? h
      · cases h
    · cases h
  · cases h
theorem path_val {n m : Nat} (m2 : 2 ≤ m) : ∀ (es : List PyData) {d : PyData} {ps : List PyData}, Val n m d → pathD d es = some ps → ∀ x ∈ ps, Val n m x
  | [], d, ps, _, h, x, hx => by
    simp only [pathD] at h
    cases h
    cases hx
  | e :: es, d, ps, vd, h, x, hx => by
    simp only [pathD] at h
    obtain ⟨k, h1, h2⟩ := Option.bind_eq_some_iff.mp h
    obtain ⟨qs, h3, rfl⟩ := Option.map_eq_some_iff.mp h2
    have vk := vd.items m2 (kid_mem h1)
    cases hx with
    | head => exact vk
    | tail _ hx => exact path_val m2 es vk h3 x hx
theorem led_val {n m : Nat} (m2 : 2 ≤ m) {d e : PyData} (vd : Val n m d) : ∀ x ∈ ledD d e, Val n m x := by
  intro x hx
  unfold ledD at hx
  split at hx
  · split at hx
    · rename_i ps h
      cases hx with
      | head => exact vd
      | tail _ hx => exact path_val m2 _ vd h x hx
    · cases hx
  · cases hx
theorem path_len : ∀ (es : List PyData) {d : PyData} {ps : List PyData}, pathD d es = some ps → ps.length = es.length
  | [], d, ps, h => by
    simp only [pathD] at h
    cases h
    rfl
  | e :: es, d, ps, h => by
    simp only [pathD] at h
    obtain ⟨k, h1, h2⟩ := Option.bind_eq_some_iff.mp h
    obtain ⟨qs, h3, rfl⟩ := Option.map_eq_some_iff.mp h2
    simp only [List.length_cons, path_len es h3]
theorem kid_idx {d e : PyData} {n : Nat} (hn : (itD d).length = n) (h : isSplit d = true) : (kid d e).isSome = isIdx e n := by
  unfold kid isIdx
  rw [if_pos h]
  cases e with
  | int i =>
    simp only
    by_cases h0 : 0 ≤ i
    · rw [if_pos h0, decide_eq_true h0, Bool.true_and]
      by_cases h1 : i < (n : Int)
      · rw [decide_eq_true h1, List.getElem?_eq_getElem (by omega)]
        rfl
      · rw [decide_eq_false h1, List.getElem?_eq_none (by omega)]
        rfl
    · rw [if_neg h0, decide_eq_false h0]
      rfl
  | _ => rfl
theorem kid_at {d e k : PyData} (h : kid d e = some k) : ∃ j : Int, e = .int j ∧ 0 ≤ j ∧ (itD d)[j.toNat]? = some k := by
  unfold kid at h
  split at h
  · split at h
    · rename_i j
      split at h
      · rename_i j0; exact ⟨j, rfl, j0, h⟩
      · cases h
    · cases h
  · cases h
theorem atI_at {α : Type} {xs : List α} {j : Int} {v : α} (h0 : 0 ≤ j) (h : xs[j.toNat]? = some v) : atI xs j = some v := by
  obtain ⟨n, rfl⟩ := Int.eq_ofNat_of_zero_le h0
  exact atI_nat h
/-- the last part but one is a text -/
def tornW (W : List PyData) : Bool :=
  match W.reverse with
  | _ :: b :: _ => isS b
  | _ => false
theorem vals_shaped {W : List PyData} (h : ∀ x ∈ W, Val 20 100000 x) : SeqAt.shaped (.list W) = true := by
  unfold SeqAt.shaped
  have h1 : fine (.list W) = true := by simp only [fine]; exact fineAll_iff.mpr fun x hx => val_fine x (h x hx).val
  rw [fine_lay _ h1, Bool.true_and]
  refine decide_eq_true (Nat.le_trans (m := 21) ?_ (by decide))
  have := depthAll_le (n := 20) (xs := W) fun x hx => (h x hx).deep
  simp only [PyData.depth]
  omega
theorem eqv_nil (W : List PyData) : PyData.eqv (.list W) (.list []) = W.isEmpty := by
  cases W with
  | nil => simp [PyData.eqv, PyData.eqvAll]
  | cons n p => simp [PyData.eqv, PyData.eqvAll]
theorem atI_m2 {α : Type} (xs : List α) (u v : α) : atI (xs ++ [u, v]) (-2) = some u := by
  have hl : (xs ++ [u, v]).length = xs.length + 2 := by simp
  have e : ixN (xs ++ [u, v]).length (-2) = some xs.length := by
    unfold ixN
    rw [hl]
    simp
    omega
  unfold atI
  rw [e]
  simp
theorem last2 {α : Type} : ∀ {xs : List α}, 1 < xs.length → ∃ ys u v, xs = ys ++ [u, v] := by
  intro xs h
  refine ⟨xs.take (xs.length - 2), xs[xs.length - 2]'(by omega), xs[xs.length - 1]'(by omega), ?_⟩
  have e1 : xs.drop (xs.length - 2) = xs[xs.length - 2]'(by omega) :: xs.drop (xs.length - 2 + 1) := List.drop_eq_getElem_cons (by omega)
  have e2 : xs.drop (xs.length - 2 + 1) = xs[xs.length - 2 + 1]'(by omega) :: xs.drop (xs.length - 2 + 1 + 1) := List.drop_eq_getElem_cons (by omega)
  have e3 : xs.drop (xs.length - 2 + 1 + 1) = [] := List.drop_eq_nil_of_le (by omega)
  have e4 : xs[xs.length - 2 + 1]'(by omega) = xs[xs.length - 1]'(by omega) := by congr 1; omega
  rw [e2, e3, e4] at e1
  rw [← e1, List.take_append_drop]
theorem tornW_two (xs : List PyData) (u v : PyData) : tornW (xs ++ [u, v]) = isS u := by
  unfold tornW
  simp
theorem tornW_short {xs : List PyData} (h : xs.length ≤ 1) : tornW xs = false := by
  match xs, h with
  | [], _ => rfl
  | [_], _ => rfl
def putW : List Nat → PyData → PyData
  | [], d => .list [d]
  | i :: p, .list xs => .list (xs.mapIdx fun j x => if j = i then putW p x else x)
  | _ :: _, d => d
/-- a place that goes through lists alone -/
def Whole : List Nat → PyData → Prop
  | [], _ => True
  | i :: p, .list ds => ∃ x, ds[i]? = some x ∧ Whole p x
  | _ :: _, _ => False
/-- a place of a letter of a text of two letters or more -/
def Torn : List Nat → PyData → Prop
  | i :: p, .list ds => ∃ x, ds[i]? = some x ∧ Torn p x
  | i :: p, .str z => p = [] ∧ i < z.length ∧ 1 < z.length
  | _, _ => False
def intsD (p : List Nat) : List PyData := p.map fun (n : Nat) => PyData.int (n : Int)
theorem kid_list {ds : List PyData} {i : Nat} {x : PyData} (h : ds[i]? = some x) : kid (.list ds) (.int (i : Int)) = some x := by
  unfold kid
  rw [if_pos (show isSplit (.list ds) = true from rfl)]
  show (if (0 : Int) ≤ (i : Int) then (itD (.list ds))[(i : Int).toNat]? else none) = some x
  rw [if_pos (by omega)]
  exact h
theorem kid_str {z : Str} {i : Nat} (h : i < z.length) (h1 : 1 < z.length) : ∃ c, kid (.str z) (.int (i : Int)) = some (.str ⟨#[c]⟩) := by
  unfold kid
  rw [if_pos (show isSplit (.str z) = true from decide_eq_true h1)]
  show ∃ c, (if (0 : Int) ≤ (i : Int) then (itD (.str z))[(i : Int).toNat]? else none) = some (.str ⟨#[c]⟩)
  rw [if_pos (by omega)]
  have hi : i < z.cps.toList.length := by rw [Array.length_toList]; exact h
  refine ⟨z.cps.toList[i], ?_⟩
  show (sgD z)[i]? = _
  unfold sgD
  rw [List.getElem?_map, List.getElem?_eq_getElem hi]
  rfl
theorem whole_path : ∀ (p : List Nat) {d : PyData}, Whole p d → ∃ ps, pathD d (intsD p) = some ps ∧ tornW (d :: ps) = false
  | [], d, _ => ⟨[], rfl, rfl⟩
  | i :: p, d, h => by
    cases d with
    | list ds =>
      obtain ⟨x, e, hx⟩ := h
      obtain ⟨ps, h1, h2⟩ := whole_path p hx
      refine ⟨x :: ps, ?_, ?_⟩
      · show (kid (.list ds) (.int (i : Int))).bind (fun k => (pathD k (intsD p)).map (k :: ·)) = _
        rw [kid_list e]
        show (pathD x (intsD p)).map (x :: ·) = _
        rw [h1]
        rfl
      · by_cases hl : ps = []
        · subst hl; rfl
        · have : 1 < (x :: ps).length := by
            have := List.length_pos_iff.mpr hl
            simp only [List.length_cons]; omega
          obtain ⟨xs, u, v, e2⟩ := last2 this
          rw [e2] at h2 ⊢
          rw [tornW_two] at h2
          show tornW ((PyData.list ds :: xs) ++ [u, v]) = false
          rw [tornW_two]
          exact h2
    | none => exact False.elim h
    | bool _ => exact False.elim h
    | int _ => exact False.elim h
    | str _ => exact False.elim h
    | tuple _ => exact False.elim h
    | dict _ => exact False.elim h
theorem torn_path : ∀ (p : List Nat) {d : PyData}, Torn p d → (∃ ps, pathD d (intsD p) = some ps ∧ tornW (d :: ps) = true ∧ ps ≠ []) ∧ pathD d (intsD p ++ [.int 0]) = none
  | [], d, h => by cases d <;> exact False.elim h
  | i :: p, d, h => by
    cases d with
    | list ds =>
      obtain ⟨x, e, hx⟩ := h
      obtain ⟨⟨ps, h1, h2, h3⟩, h4⟩ := torn_path p hx
      refine ⟨⟨x :: ps, ?_, ?_, by simp⟩, ?_⟩
      · show (kid (.list ds) (.int (i : Int))).bind (fun k => (pathD k (intsD p)).map (k :: ·)) = _
        rw [kid_list e]
        show (pathD x (intsD p)).map (x :: ·) = _
        rw [h1]
        rfl
      · have : 1 < (x :: ps).length := by
          have := List.length_pos_iff.mpr h3
          simp only [List.length_cons]; omega
        obtain ⟨xs, u, v, e2⟩ := last2 this
        rw [e2] at h2 ⊢
        rw [tornW_two] at h2
        show tornW ((PyData.list ds :: xs) ++ [u, v]) = true
        rw [tornW_two]
        exact h2
      · show (kid (.list ds) (.int (i : Int))).bind (fun k => (pathD k (intsD p ++ [.int 0])).map (k :: ·)) = _
        rw [kid_list e]
        show (pathD x (intsD p ++ [.int 0])).map (x :: ·) = _
        rw [h4]
        rfl
    | str z =>
      obtain ⟨rfl, h1, h2⟩ := h
      obtain ⟨cc, hk⟩ := kid_str h1 h2
      refine ⟨⟨[.str ⟨#[cc]⟩], ?_, rfl, by simp⟩, ?_⟩
      · show (kid (.str z) (.int (i : Int))).bind (fun k => (pathD k []).map (k :: ·)) = _
        rw [hk]
        rfl
      · show (kid (.str z) (.int (i : Int))).bind (fun k => (pathD k [.int 0]).map (k :: ·)) = _
        rw [hk]
        rfl
    | none => exact False.elim h
    | bool _ => exact False.elim h
    | int _ => exact False.elim h
    | tuple _ => exact False.elim h
    | dict _ => exact False.elim h
theorem path_bad {e : PyData} (h : ∀ k, kid k e = none) : ∀ (es : List PyData) (d : PyData), pathD d (es ++ [e]) = none
  | [], d => by
    show (kid d e).bind _ = none
    rw [h]
    rfl
  | x :: es, d => by
    show (kid d x).bind (fun k => (pathD k (es ++ [e])).map (k :: ·)) = none
    cases kid d x with
    | none => rfl
    | some k =>
      show (pathD k (es ++ [e])).map (k :: ·) = none
      rw [path_bad h es k]
      rfl
theorem kid_neg {i : Int} (h : i < 0) (k : PyData) : kid k (.int i) = none := by
  unfold kid
  split
  · show (if 0 ≤ i then _ else none) = none
    rw [if_neg (by omega)]
  · rfl
theorem kid_far {n : Nat} {d : PyData} (h : (itD d).length ≤ n) : kid d (.int (n : Int)) = none := by
  unfold kid
  split
  · show (if (0 : Int) ≤ (n : Int) then (itD d)[(n : Int).toNat]? else none) = none
    rw [if_pos (by omega)]
    exact List.getElem?_eq_none h
  · rfl
/-- no place of d, or a torn one -/
def Bad (d e : PyData) : Prop := ledD d e = [] ∨ tornW (ledD d e) = true
theorem led_of {d : PyData} {es ps : List PyData} (h : pathD d es = some ps) : ledD d (.tuple es) = d :: ps := by
  unfold ledD
  simp only
  rw [h]
theorem led_none {d : PyData} {es : List PyData} (h : pathD d es = none) : ledD d (.tuple es) = [] := by
  unfold ledD
  simp only
  rw [h]
theorem whole_len : ∀ {p : List Nat} {d : PyData}, Whole p d → p.length ≤ d.depth
  | [], _, _ => Nat.zero_le _
  | i :: p, d, h => by
    cases d with
    | list ds =>
      obtain ⟨x, e, hx⟩ := h
      have := whole_len hx
      have := depth_mem (List.mem_of_getElem? e)
      simp only [List.length_cons, PyData.depth]
      omega
    | none => exact False.elim h
    | bool _ => exact False.elim h
    | int _ => exact False.elim h
    | str _ => exact False.elim h
    | tuple _ => exact False.elim h
    | dict _ => exact False.elim h
theorem torn_len : ∀ {p : List Nat} {d : PyData}, Torn p d → p.length ≤ d.depth + 1
  | [], _, _ => Nat.zero_le _
  | i :: p, d, h => by
    cases d with
    | list ds =>
      obtain ⟨x, e, hx⟩ := h
      have := torn_len hx
      have := depth_mem (List.mem_of_getElem? e)
      simp only [List.length_cons, PyData.depth]
      omega
    | str z =>
      obtain ⟨rfl, _⟩ := h
      simp
    | none => exact False.elim h
    | bool _ => exact False.elim h
    | int _ => exact False.elim h
    | tuple _ => exact False.elim h
    | dict _ => exact False.elim h
theorem szAll_take_succ {ds : List PyData} {i : Nat} {d : PyData} (h : ds[i]? = some d) : szAll (ds.take (i + 1)) = szAll (ds.take i) + szD d := by
  rw [List.take_add_one, h, szAll_append]
  simp [szAll]
theorem szAll_take_le (ds : List PyData) (i : Nat) : szAll (ds.take i) ≤ szAll ds := by
  have e := congrArg szAll (List.take_append_drop i ds)
  rw [szAll_append] at e
  omega
theorem mapIdx_set {ds : List PyData} {i : Nat} {x y : PyData} (h : ds[i]? = some x) (f : PyData → PyData) (hf : f x = y) : (ds.mapIdx fun j z => if j = i then f z else z) = ds.set i y := by
  apply List.ext_getElem?
  intro j
  rw [List.getElem?_mapIdx, List.getElem?_set]
  by_cases e : i = j
  · subst e
    rw [if_pos rfl, h]
    have hi : i < ds.length := (List.getElem?_eq_some_iff.mp h).1
    rw [if_pos hi]
    simp [hf]
  · rw [if_neg e]
    cases ds[j]? with
    | none => rfl
    | some z => simp [Ne.symm e]
theorem szAll_set {ds : List PyData} {i : Nat} {x y : PyData} (h : ds[i]? = some x) : szAll (ds.set i y) + szD x = szAll ds + szD y := by
  induction ds generalizing i with
  | nil => simp at h
  | cons a ds ih =>
    cases i with
    | zero =>
      simp at h
      subst h
      simp only [List.set_cons_zero, szAll]
      omega
    | succ i =>
      have := ih (by simpa using h)
      simp only [List.set_cons_succ, szAll]
      omega
theorem put_val : ∀ (p : List Nat) {d : PyData}, Whole p d → isVal d = true → isVal (putW p d) = true ∧ (putW p d).depth ≤ d.depth + 1 ∧ szD (putW p d) = szD d + 1
  | [], d, _, h => by
    simp only [putW, isVal, isValAll, h, PyData.depth, PyData.depthAll, szD, szAll]
    exact ⟨rfl, by omega, by omega⟩
  | i :: p, d, wh, h => by
    cases d with
    | list ds =>
      obtain ⟨x, e, hx⟩ := wh
      simp only [isVal] at h
      obtain ⟨h1, h2, h3⟩ := put_val p hx (isValAll_iff.mp h x (List.mem_of_getElem? e))
      rw [putW, mapIdx_set e (putW p) rfl]
      have hm := depth_mem (List.mem_of_getElem? e)
      refine ⟨?_, ?_, ?_⟩
      · simp only [isVal]
        refine isValAll_iff.mpr fun z hz => ?_
        rcases List.mem_or_eq_of_mem_set hz with hz | rfl
        · exact isValAll_iff.mp h z hz
        · exact h1
      · simp only [PyData.depth]
        have := depthAll_le (n := PyData.depthAll ds + 1) (xs := ds.set i (putW p x)) fun z hz => by
          rcases List.mem_or_eq_of_mem_set hz with hz | rfl
          · have := depth_mem hz; omega
          · omega
        omega
      · have := szAll_set (y := putW p x) e
        simp only [szD]
        omega
    | none => exact False.elim wh
    | bool _ => exact False.elim wh
    | int _ => exact False.elim wh
    | str _ => exact False.elim wh
    | tuple _ => exact False.elim wh
    | dict _ => exact False.elim wh
theorem Val.put {n m : Nat} {d : PyData} {p : List Nat} (h : Val n m d) (wh : Whole p d) : Val (n + 1) (m + 1) (putW p d) := by
  obtain ⟨h1, h2, h3⟩ := put_val p wh h.val
  have := h.deep
  have := h.size
  exact ⟨h1, by omega, by omega⟩
theorem whole_lt : ∀ {p : List Nat} {d : PyData}, Whole p d → ∀ k ∈ p, k < szD d
  | [], _, _, k, hk => by cases hk
  | i :: p, d, h, k, hk => by
    cases d with
    | list ds =>
      obtain ⟨x, e, hx⟩ := h
      have h1 : i < ds.length := (List.getElem?_eq_some_iff.mp e).1
      have h2 := len_le_szAll ds
      have h3 := szD_mem (List.mem_of_getElem? e)
      simp only [szD]
      cases hk with
      | head => omega
      | tail _ hk => have := whole_lt hx k hk; omega
    | none => exact False.elim h
    | bool _ => exact False.elim h
    | int _ => exact False.elim h
    | str _ => exact False.elim h
    | tuple _ => exact False.elim h
    | dict _ => exact False.elim h
theorem torn_lt : ∀ {p : List Nat} {d : PyData}, Torn p d → ∀ k ∈ p, k < szD d
  | [], _, _, k, hk => by cases hk
  | i :: p, d, h, k, hk => by
    cases d with
    | list ds =>
      obtain ⟨x, e, hx⟩ := h
      have h1 : i < ds.length := (List.getElem?_eq_some_iff.mp e).1
      have h2 := len_le_szAll ds
      have h3 := szD_mem (List.mem_of_getElem? e)
      simp only [szD]
      cases hk with
      | head => omega
      | tail _ hk => have := torn_lt hx k hk; omega
    | str z =>
      obtain ⟨rfl, h1, _⟩ := h
      simp only [szD]
      cases hk with
      | head => omega
      | tail _ hk => cases hk
    | none => exact False.elim h
    | bool _ => exact False.elim h
    | int _ => exact False.elim h
    | tuple _ => exact False.elim h
    | dict _ => exact False.elim h
/-- a thing to be refused that can be shown -/
structure Odd (d e : PyData) : Prop where
  bad : Bad d e
  fine : fine e = true
  deep : e.depth ≤ 2
  wt : wt e ≤ 1000000
  short : ∀ es, e = .tuple es → es.length ≤ 1000
theorem int_fine {i : Int} (h : i.natAbs ≤ 1000000) : fine (.int i) = true := by
  simp only [Tx.fine, decide_eq_true_eq]
  by_cases z : i.natAbs = 0
  · rw [z]; decide
  · have e : (1000000 : Nat) < 2 ^ 20 := by decide
    have := (Nat.log2_lt z).mpr (show i.natAbs < 2 ^ 20 by omega)
    omega
theorem ints_fine {es : List PyData} (h : ∀ e ∈ es, ∃ i : Int, e = .int i ∧ i.natAbs ≤ 1000000) : fineAll es = true ∧ PyData.depthAll es = 0 ∧ wtAll es = 2002 * es.length := by
  induction es with
  | nil => exact ⟨rfl, rfl, rfl⟩
  | cons e es ih =>
    obtain ⟨h1, h2, h3⟩ := ih fun e he => h e (List.mem_cons_of_mem _ he)
    obtain ⟨i, rfl, hi⟩ := h e List.mem_cons_self
    refine ⟨?_, ?_, ?_⟩
    · simp only [fineAll, int_fine hi, h1, Bool.and_self]
    · simp only [PyData.depthAll, PyData.depth, h2]; rfl
    · simp only [wtAll, Tx.wt, h3, List.length_cons]; omega
theorem odd_tup {d : PyData} {es : List PyData} (b : Bad d (.tuple es)) (h : ∀ e ∈ es, ∃ i : Int, e = .int i ∧ i.natAbs ≤ 1000000) (hl : es.length ≤ 100) : Odd d (.tuple es) := by
  obtain ⟨h1, h2, h3⟩ := ints_fine h
  refine ⟨b, ?_, ?_, ?_, fun es' e => ?_⟩
  · simp only [Tx.fine]; exact h1
  · simp only [PyData.depth]; omega
  · simp only [Tx.wt]; omega
  · injection e with e; subst e; omega
theorem mem_ints {p : List Nat} (h : ∀ k ∈ p, k < 1000) : ∀ e ∈ intsD p, ∃ i : Int, e = .int i ∧ i.natAbs ≤ 1000000 := fun e he => by
  obtain ⟨k, hk, rfl⟩ := List.mem_map.mp he
  have := h k hk
  exact ⟨k, rfl, by omega⟩
section
variable {d : PyData} {p : List Nat} (vd : Val 12 400 d)
include vd
theorem odd_torn (h : Torn p d) : Odd d (plD p) := by
  obtain ⟨⟨ps, h1, h2, _⟩, _⟩ := torn_path p h
  have hl := torn_len h
  have := vd.deep
  refine odd_tup (es := intsD p) (.inr (by rw [led_of h1]; exact h2)) (mem_ints fun k hk => by have := torn_lt h k hk; have := vd.size; omega) (by unfold intsD; rw [List.length_map]; omega)
theorem odd_more (h : Torn p d) : Odd d (.tuple (intsD p ++ [.int 0])) := by
  obtain ⟨_, h4⟩ := torn_path p h
  have hl := torn_len h
  have := vd.deep
  refine odd_tup (.inl (led_none h4)) (fun e he => ?_) (by unfold intsD; rw [List.length_append, List.length_map]; show p.length + 1 ≤ 100; omega)
  rcases List.mem_append.mp he with he | he
  · exact mem_ints (fun k hk => by have := torn_lt h k hk; have := vd.size; omega) e he
  · rw [List.mem_singleton.mp he]; exact ⟨0, rfl, by decide⟩
theorem odd_list (h : Whole p d) : Odd d (.list (intsD p)) := by
  have hl := whole_len h
  have := vd.deep
  obtain ⟨h1, h2, h3⟩ := ints_fine (mem_ints (p := p) fun k hk => by have := whole_lt h k hk; have := vd.size; omega)
  have il : (intsD p).length = p.length := by unfold intsD; rw [List.length_map]
  refine ⟨.inl rfl, ?_, ?_, ?_, fun es e => nomatch e⟩
  · simp only [Tx.fine]; exact h1
  · simp only [PyData.depth]; omega
  · simp only [Tx.wt]; omega
theorem odd_neg {q : List Nat} {k : Nat} (hq : ∀ x ∈ q, x < 1000) (hk : k < 1000) (hl : q.length ≤ 50) : Odd d (.tuple (intsD q ++ [.int ((k : Int) - 1000)])) := by
  refine odd_tup (.inl (led_none (path_bad (kid_neg (by omega)) _ _))) (fun e he => ?_) (by unfold intsD; rw [List.length_append, List.length_map]; show q.length + 1 ≤ 100; omega)
  rcases List.mem_append.mp he with he | he
  · exact mem_ints hq e he
  · rw [List.mem_singleton.mp he]; exact ⟨_, rfl, by omega⟩
theorem odd_400 : Odd d (.tuple [.int 400]) := by
  have sz := vd.size
  have hl : (itD d).length ≤ 400 := by
    cases d with
    | list ds => simp only [szD] at sz; have := len_le_szAll ds; simp only [itD]; omega
    | str z =>
      simp only [szD] at sz
      have : (sgD z).length = z.length := by unfold sgD; rw [List.length_map, Array.length_toList]; rfl
      simp only [itD]; omega
    | none => simp [itD]
    | bool _ => simp [itD]
    | int _ => simp [itD]
    | tuple _ => simp [itD]
    | dict _ => simp [itD]
  refine odd_tup (.inl (led_none ?_)) (fun e he => by rw [List.mem_singleton.mp he]; exact ⟨400, rfl, by decide⟩) (by decide)
  show (kid d (.int ((400 : Nat) : Int))).bind _ = none
  rw [kid_far hl]
  rfl
omit vd in
theorem kid_other {e : PyData} (h : ∀ i, e ≠ .int i) (k : PyData) : kid k e = none := by
  unfold kid
  split
  · split
    · exact absurd rfl (h _)
    · rfl
  · rfl
omit vd in
theorem odd_one {e : PyData} (h : ∀ k, kid k e = none) (f : fine e = true) (dd : e.depth ≤ 1) (ww : wt e ≤ 900000) : Odd d (.tuple [e]) := by
  refine ⟨.inl (led_none (path_bad h [] d)), ?_, ?_, ?_, fun es z => ?_⟩
  · simp only [Tx.fine, fineAll, f, Bool.and_self]
  · simp only [PyData.depth, PyData.depthAll]; omega
  · simp only [Tx.wt, wtAll]; omega
  · injection z with z; subst z; simp
omit vd in
theorem odd_not {e : PyData} (h : isT e = false) (f : fine e = true) (dd : e.depth ≤ 2) (ww : wt e ≤ 900000) : Odd d e := by
  refine ⟨.inl ?_, f, dd, by omega, fun es z => ?_⟩
  · cases e <;> first | rfl | cases h
  · subst z; cases h
end
theorem Odd.ok {d e : PyData} (h : Odd d e) : Ok (.tuple [.str "no", e, .bool true]) := by
  have h1 := h.deep
  have h2 := h.wt
  refine ⟨?_, ?_, ?_⟩
  · simp only [Tx.fine, fineAll, h.fine, Bool.and_true]; decide +kernel
  · simp only [PyData.depth, PyData.depthAll]; omega
  · have e : (Str.length "no") = 2 := by decide
    simp only [Tx.wt, wtAll, e]; omega
end Tx

namespace Tx
open PySem PySem.Spec PyProof.Rows L2
/-! ## The program's copied -/
abbrev sCopied : Stmt := top 6
theorem scCopied : FnScope ["value", "one"] ["value"] (defScope sCopied) := ⟨rfl, rfl, rfl, by decide +kernel, rfl, by decide +kernel, by decide +kernel⟩
/-- copied(v): a new thing of new lists -/
def spCopied (K : PySem.W.Frag) (n : Nat) : Sp := fun vs H Q _ => ∃ (v : V) (d : PyData), vs = [v] ∧ Dp K H v d ∧ isVal d = true ∧ d.depth < n ∧ szD d ≤ 1000000 ∧
  ∀ u H', Same H H' → Nw 0 H' d (fun a => H a ≠ none) u → Q u H'
section
variable {P : Program} {w : World} {K : PySem.W.Frag} {mg : Str → Option Value} {base : Heap}
theorem d_copied (h : Has K mg "copied" sCopied) (B : Bi mg) : ∀ n, Dfn P w K mg base CX0 n "copied" ["value"] (spCopied K n)
  | 0 => dfn_none h (fun _ _ _ _ _ _ us hl => match us, hl with | [_], _ => rfl) fun vs H Q E z => by
    obtain ⟨_, _, _, _, _, z, _⟩ := z
    omega
  | n + 1 => by
    have D_copied := d_copied h B n
    refine dfn0 h B scCopied (fun _ _ _ _ _ _ us hl => match us, hl with | [_], _ => rfl) (fun vs H Q E h => ?_) (fun f cv A out s H vs Q E c h => ?_)
    · obtain ⟨v, d, rfl, _⟩ := h
      rfl
    obtain ⟨v, d, rfl, hd, val, dn, sz, q⟩ := h
    refine ⟨_, (pss_cons (ps_if (pt_val (pe_callB (call_isD (T := "list")) (by rfl) c.b.isinstance (by decide +kernel) (pa_cons (pv 0) (pa_cons (pe_bltn (v := .ty "list") (by rfl) c.b.list (by decide +kernel) rfl) pa_nil)))) (pss_one (ps_ret (pe_lc (own := [("one", 1)]) (g := (gName 1)) (tt := tYes) rfl scCopied.nd (pi_list (pv 0)) (blkOk_by (own := [("one", 1)]) (N := ["value", "one"]) (sc := defScope sCopied) (by decide +kernel)) (fun _ _ _ _ _ => (pg_name (i := 1) scCopied.nd rfl (Or.inl rfl))) (fun _ _ _ _ _ => pts_nil) (fun _ _ _ _ _ => (pe_d D_copied c (by omega) (by rfl) (pa_cons (pv 1) pa_nil)))))) pss_nil)
    (pss_one (ps_ret (pv 0)))), ?_⟩
    refine ⟨_, rfl, _, d, _, rfl, hd, kit_list _, _, rfl, ?_⟩
    cases d with
    | none =>
      cases hd
      exact iteF ⟨_, rfl, q _ _ (Same.refl _) (by simp only [Nw])⟩
    | str x =>
      cases hd
      exact iteF ⟨_, rfl, q _ _ (Same.refl _) (by simp only [Nw])⟩
    | list ds =>
      refine iteT ?_
      cases hd with
      | @lst a xs _ hs ha =>
      have sx : szD (.list ds) = 1 + szAll ds := by simp [szD]
      have hlen := DpAll.length ha
      have hle := len_le_szAll ds
      simp only [PyData.depth] at dn
      simp only [isVal] at val
      refine ⟨_, rfl, a, rfl, ⟨_, hs⟩, fun L hL => ?_⟩
      refine lc_list (K := K) (a := a) (xs := xs) (fun i H' => Same H H' ∧ ∃ us, H' L = some (.lst us) ∧ NwAll 0 H' (ds.take i) (fun x => H x ≠ none ∨ x = L) us)
        ⟨same_new hL _, [], upd_same, by rw [List.take_zero]; simp only [NwAll]⟩ (fun i H' _ z => z.1.seq hs) ?_ ?_
      · rintro i x H1 hx ⟨sm, us, hL1, hN⟩
        obtain ⟨d, e1, e2⟩ := DpAll.get ha hx
        have hm := List.mem_of_getElem? e1
        have hi : i < ds.length := (List.getElem?_eq_some_iff.mp e1).1
        have hul := hN.len
        rw [List.length_take] at hul
        refine ⟨rfl, _, rfl, _, d, rfl, dp_mono sm d _ e2, isValAll_iff.mp val d hm, ?_, ?_, fun u H2 sm2 hu => ?_⟩
        · have := depth_mem hm
          omega
        · have := szD_mem hm
          omega
        have up : ∀ (a : Addr) (o : HO), ¬ (H a ≠ none ∨ a = L) → H2 a = some o → upd H2 L (.lst (us ++ [u])) a = some o := fun a o n e => by
          rw [upd_ne fun z => n (.inr z)]; exact e
        refine ⟨us, sm2 _ _ hL1, ?_, (fun b o e => ?_), us ++ [u], upd_same, ?_⟩
        · rw [sizeLine_eq]
          omega
        · rw [upd_ne (ne_of_none e hL)]
          exact sm2 _ _ (sm _ _ e)
        · rw [List.take_add_one, e1]
          refine NwAll.append (NwAll.to (Nat.le_refl _) _ _ _ _ (fun _ z => z) (fun a o n e => up a o n (sm2 _ _ e)) hN) (NwAll.one (Nw.to (Nat.le_refl _) d _ _ u (fun a z => ?_) (fun a o n e => ?_) hu))
          · rcases z with z | z
            · cases q : H a with
              | none => exact absurd q z
              | some o => rw [sm _ _ q]; simp
            · rw [z, hL1]; simp
          · rw [upd_ne fun z => n (by rw [z, hL1]; simp)]; exact e
      · rintro H1 ⟨sm, us, hL1, hN⟩
        rw [hlen, List.take_length] at hN
        refine q _ _ sm ?_
        simp only [Nw]
        exact ⟨L, us, 0, rfl, fun z => z hL, by rw [List.replicate_zero, List.append_nil]; exact hL1, Nat.le_refl _, hN⟩
    | bool _ => simp [isVal] at val
    | int _ => simp [isVal] at val
    | tuple _ => simp [isVal] at val
    | dict _ => simp [isVal] at val
end
end Tx

namespace Tx
open PySem PySem.Spec PyProof.Rows L2
abbrev sSpoil : Stmt := top 20
theorem scSpoil : FnScope ["_law_value_here", "_law_one"] ["_law_value_here"] (defScope sSpoil) := ⟨rfl, rfl, rfl, by decide +kernel, rfl, by decide +kernel, by decide +kernel⟩
def spSpoil (n : Nat) : Sp := fun vs H Q _ => ∃ (v : V) (d : PyData) (C : Addr → Prop) (M : Nat), vs = [v] ∧ Nw M H d C v ∧ d.depth < n ∧ szD d ≤ 1000000 ∧ M + nl d ≤ 1000000 ∧
  ∀ H', Evo C (nl d) H H' → Q .non H'
section
variable {P : Program} {w : World} {K : PySem.W.Frag} {mg : Str → Option Value} {base : Heap}
theorem d_spoil (h : Has K mg "_law_spoil" sSpoil) (B : Bi mg) : ∀ n, Dfn P w K mg base CX0 n "_law_spoil" ["_law_value_here"] (spSpoil n)
  | 0 => dfn_none h (fun _ _ _ _ _ _ us hl => match us, hl with | [_], _ => rfl) fun vs H Q E z => by
    obtain ⟨_, _, _, _, _, _, z, _⟩ := z
    omega
  | n + 1 => by
    have D_law_spoil := d_spoil h B n
    refine dfn0 h B scSpoil (fun _ _ _ _ _ _ us hl => match us, hl with | [_], _ => rfl) (fun vs H Q E h => ?_) (fun f cv A out s H vs Q E c h => ?_)
    · obtain ⟨v, d, C, M, rfl, _⟩ := h
      rfl
    obtain ⟨v, d, C, M, rfl, hN, dn, sz, hM, q⟩ := h
    refine ⟨_, (pss_one (ps_if (pt_val (pe_callB (call_isD (T := "list")) (by rfl) c.b.isinstance (by decide +kernel) (pa_cons (pv 0) (pa_cons (pe_bltn (v := .ty "list") (by rfl) c.b.list (by decide +kernel) rfl) pa_nil)))) (pss_cons (ps_for PassesOwn.never rfl (pi_list (pv 0)) (pg_name (i := 1) scSpoil.nd rfl (Or.inl rfl))
    (pss_one (ps_expr (pe_d D_law_spoil c (by omega) (by rfl) (pa_cons (pv 1) pa_nil)))))
    (pss_one (ps_expr (pe_bm PySem.F.plainAttrs_list PySem.F.slot_list_append PySem.F.type_list_append mt_append (pv 0) (pa_cons pe_str pa_nil))))) pss_nil)), ?_⟩
    obtain ⟨e, he, el⟩ := Nw.some (K := K) d C v hN
    refine ⟨_, rfl, _, e, _, rfl, he, kit_list _, _, rfl, ?_⟩
    rw [el]
    cases d with
    | none => exact iteF (q _ (Evo.same (Same.refl _)))
    | str x => exact iteF (q _ (Evo.same (Same.refl _)))
    | list ds =>
      refine iteT ?_
      simp only [Nw] at hN
      obtain ⟨a, vs, k, rfl, nC, ha, hk, hA⟩ := hN
      simp only [nl] at hM q
      simp only [szD] at sz
      simp only [PyData.depth] at dn
      have hle := len_le_szAll ds
      have hvl := hA.len
      have hAll := NwAll.append hA (NwAll.xs (M := M) (H := H) (B := fun x => C x ∨ x = a) k)
      have nE : nlAll (ds ++ List.replicate k (.str "x")) = nlAll ds := by rw [nlAll_append, nlAll_xs]; rfl
      have sqa : ∀ H', Evo (fun x => C x ∨ x = a) (nlAll ds) H H' → H' a = some (.lst (vs ++ List.replicate k (.str "x"))) := fun H' ev => ev.keep (.inr rfl) ha
      have lenE : (vs ++ List.replicate k (V.str "x")).length = (ds ++ List.replicate k (PyData.str "x")).length := hAll.len
      have up : ∀ {H' : Hp} (i : Nat), Evo (fun x => C x ∨ x = a) (nlAll ((ds ++ List.replicate k (PyData.str "x")).take i)) H H' → Evo (fun x => C x ∨ x = a) (nlAll ds) H H' := fun i ev =>
        ev.weak (fun _ z => z) (by rw [← nE]; exact nl_take_le _ _)
      refine ⟨_, rfl, a, rfl, ⟨_, SqL.of ha⟩, ?_⟩
      refine for_list (K := K) (a := a) (xs := vs ++ List.replicate k (V.str "x")) (fun i σ H' => ∃ u : Option V, σ = [some (.ref a), u] ∧ Evo (fun x => C x ∨ x = a) (nlAll ((ds ++ List.replicate k (PyData.str "x")).take i)) H H')
        ⟨none, rfl, Evo.same (Same.refl _)⟩ (fun i σ H' _ ⟨_, _, ev⟩ => SqL.of (sqa H' (up i ev))) ?_ ?_
      · rintro i x σ H1 hx ⟨u, rfl, ev⟩
        obtain ⟨d, e1, e2⟩ := hAll.get hx
        have hm := List.mem_of_getElem? e1
        have ht := nl_take e1
        have hl := nl_take_le (ds ++ List.replicate k (PyData.str "x")) (i + 1)
        rw [nE] at hl
        refine ⟨_, rfl, x, d, _, _, rfl, Nw.evo ev d _ x e2, ?_, ?_, by omega, fun H2 ev2 => ⟨_, rfl, ?_⟩⟩
        · rcases List.mem_append.mp hm with hm | hm
          · have := depth_mem hm
            omega
          · rw [List.eq_of_mem_replicate hm]
            simp only [PyData.depth]
            omega
        · rcases List.mem_append.mp hm with hm | hm
          · have := szD_mem hm
            omega
          · rw [List.eq_of_mem_replicate hm]
            decide
        · rw [ht]
          exact ev.trans ev2
      · rintro σ H1 ⟨u, rfl, ev⟩
        rw [lenE, List.take_length, nE] at ev
        have hs1 := sqa H1 ev
        refine ⟨_, rfl, .inl ⟨rfl, _, SqL.of hs1⟩, a, _, _, rfl, rfl, hs1, ?_, ?_⟩
        · rw [List.length_append, List.length_replicate, hvl, sizeLine_eq]
          omega
        refine q _ ?_
        have e1 : Evo C 1 H1 (upd H1 a (.lst (vs ++ List.replicate k (.str "x") ++ [.str "x"]))) := by
          intro b o e
          by_cases z : b = a
          · subst z
            rw [hs1] at e
            cases e
            exact .inr ⟨nC, _, 1, rfl, Nat.le_refl _, upd_same⟩
          · exact .inl (by rw [upd_ne z]; exact e)
        exact ((ev.weak (fun _ z => .inl z) (Nat.le_refl _)).trans e1).weak (fun _ z => z) (by omega)
    | bool _ => simp only [Nw] at hN
    | int _ => simp only [Nw] at hN
    | tuple _ => simp only [Nw] at hN
    | dict _ => simp only [Nw] at hN
end
end Tx

namespace Tx
open PySem PySem.Spec PyProof.Rows L2
/-! ## New things of new lists: from the kit's rules to cells; what spoils them -/
section
variable {K : PySem.W.Frag}
mutual
theorem nw_rp {H N : Hp} : ∀ (d : PyData) (B : Addr → Prop) (v : V), Nw 0 H d B v → (∀ a o, ¬ B a → H a = some o → N a = some o) → Rp K N v d
  | .none, _, _, h, _ => by simp only [Nw] at h; subst h; exact .non
  | .str x, _, _, h, _ => by simp only [Nw] at h; subst h; exact .str x
  | .list ds, B, v, h, k => by
    simp only [Nw] at h
    obtain ⟨a, vs, i, rfl, n, ha, hi, hA⟩ := h
    obtain rfl : i = 0 := by omega
    rw [List.replicate_zero, List.append_nil] at ha
    exact .lst (k a _ n ha) (nwAll_rp ds _ vs hA fun b o nb hb => k b o (fun z => nb (.inl z)) hb)
  | .bool _, _, _, h, _ => by simp only [Nw] at h
  | .int _, _, _, h, _ => by simp only [Nw] at h
  | .tuple _, _, _, h, _ => by simp only [Nw] at h
  | .dict _, _, _, h, _ => by simp only [Nw] at h
theorem nwAll_rp {H N : Hp} : ∀ (ds : List PyData) (B : Addr → Prop) (vs : List V), NwAll 0 H ds B vs → (∀ a o, ¬ B a → H a = some o → N a = some o) → RpAll K N vs ds
  | [], _, _, h, _ => by simp only [NwAll] at h; subst h; exact .nil
  | d :: ds, B, vs, h, k => by
    simp only [NwAll] at h
    obtain ⟨v, ws, rfl, h1, h2⟩ := h
    exact .cons (nw_rp d B v h1 k) (nwAll_rp ds B ws h2 k)
end
open Classical in
/-- what is new in H' -/
noncomputable def newIn (H H' : Hp) : Hp := fun a => if H a = none then H' a else none
theorem newIn_some {H H' : Hp} {a : Addr} {o : HO} (h : H a = none) (e : H' a = some o) : newIn H H' a = some o := by unfold newIn; rw [if_pos h]; exact e
theorem newIn_new {H H' : Hp} {b : Addr} (h : newIn H H' b ≠ none) : H b = none := by
  unfold newIn at h
  split at h
  · assumption
  · exact absurd rfl h
theorem newIn_same {H H' : Hp} : Same (newIn H H') H' := fun a o e => by
  unfold newIn at e
  split at e
  · exact e
  · cases e
theorem nw_tm {J H H' : Hp} {ω : Wd} {q : DQ} {Q : VK} {v : V} {d : PyData} (w : Rw K J H ω) (s : Same H H') (cq : CovQ K J H ω q Q) (h : Nw 0 H' d (fun a => H a ≠ none) v) (val : isVal d = true) (z : ∀ u ω', Tm ω u d ω' → q u ω') : Q v H' := by
  obtain ⟨g1, w1⟩ := same_grow w s
  exact tm_cov (N := newIn H H') w g1 w1 cq (fun b nb => newIn_new nb) newIn_same (nw_rp d _ v h fun a o n e => newIn_some (Classical.not_not.mp n) e) val z
/-! ### the way back -/
mutual
theorem rp_fun {J : Hp} : ∀ (d e : PyData) (v : V), isVal d = true → isVal e = true → Rp K J v d → Rp K J v e → d = e
  | .none, e, _, _, he, h, g => by
    cases h
    cases g
    rfl
  | .str x, e, _, _, he, h, g => by
    cases h
    cases g
    rfl
  | .list ds, e, _, hd, he, h, g => by
    cases h with
    | lst hs ha =>
      cases g with
      | lst hs2 ha2 =>
        rw [hs] at hs2
        cases hs2
        simp only [isVal] at hd he
        rw [rpAll_fun ds _ _ hd he ha ha2]
      | tup _ _ => simp [isVal] at he
      | ref _ => simp [isVal] at he
      | scr _ => simp [isVal] at he
      | pub _ => simp [isVal] at he
  | .bool _, _, _, hd, _, _, _ => by simp [isVal] at hd
  | .int _, _, _, hd, _, _, _ => by simp [isVal] at hd
  | .tuple _, _, _, hd, _, _, _ => by simp [isVal] at hd
  | .dict _, _, _, hd, _, _, _ => by simp [isVal] at hd
theorem rpAll_fun {J : Hp} : ∀ (ds es : List PyData) (vs : List V), isValAll ds = true → isValAll es = true → RpAll K J vs ds → RpAll K J vs es → ds = es
  | [], _, _, _, _, h, g => by cases h; cases g; rfl
  | d :: ds, es, _, hd, he, h, g => by
    cases h with
    | cons h1 h2 =>
      cases g with
      | @cons _ _ e es' g1 g2 =>
        simp only [isValAll, Bool.and_eq_true] at hd he
        rw [rp_fun d e _ hd.1 he.1 h1 g1, rpAll_fun ds es' _ hd.2 he.2 h2 g2]
end
mutual
theorem rp_nw {N H : Hp} (s : Same N H) : ∀ (d : PyData) (B : Addr → Prop) (v : V), isVal d = true → Rp K N v d → (∀ x, B x → N x = none ∨ ∃ d', isVal d' = true ∧ Rp K N (.ref x) d' ∧ d.depth < d'.depth) → Nw 0 H d B v
  | .none, _, _, _, h, _ => by cases h; simp only [Nw]
  | .str x, _, _, _, h, _ => by cases h; simp only [Nw]
  | .list ds, B, v, hv, h, hB => by
    cases h with
    | @lst a vs _ hs ha =>
      simp only [Nw]
      refine ⟨a, vs, 0, rfl, fun z => ?_, by rw [List.replicate_zero, List.append_nil]; exact s _ _ hs, Nat.le_refl _, rpAll_nw s ds _ vs (by simpa only [isVal] using hv) ha fun x hx => ?_⟩
      · rcases hB a z with e | ⟨d', h1, h2, h3⟩
        · rw [hs] at e; cases e
        · rw [rp_fun _ _ _ hv h1 (.lst hs ha) h2] at h3
          exact absurd h3 (Nat.lt_irrefl _)
      · rcases hx with hx | rfl
        · rcases hB x hx with e | ⟨d', h1, h2, h3⟩
          · exact .inl e
          · refine .inr ⟨d', h1, h2, ?_⟩
            simp only [PyData.depth] at h3
            omega
        · refine .inr ⟨.list ds, hv, .lst hs ha, ?_⟩
          simp only [PyData.depth]
          omega
  | .bool _, _, _, hd, _, _ => by simp [isVal] at hd
  | .int _, _, _, hd, _, _ => by simp [isVal] at hd
  | .tuple _, _, _, hd, _, _ => by simp [isVal] at hd
  | .dict _, _, _, hd, _, _ => by simp [isVal] at hd
theorem rpAll_nw {N H : Hp} (s : Same N H) : ∀ (ds : List PyData) (B : Addr → Prop) (vs : List V), isValAll ds = true → RpAll K N vs ds → (∀ x, B x → N x = none ∨ ∃ d', isVal d' = true ∧ Rp K N (.ref x) d' ∧ PyData.depthAll ds < d'.depth) → NwAll 0 H ds B vs
  | [], _, _, _, h, _ => by cases h; simp only [NwAll]
  | d :: ds, B, _, hv, h, hB => by
    simp only [isValAll, Bool.and_eq_true] at hv
    cases h with
    | @cons v vs _ _ h1 h2 =>
      simp only [NwAll]
      refine ⟨v, vs, rfl, rp_nw s d B v hv.1 h1 fun x hx => ?_, rpAll_nw s ds B vs hv.2 h2 fun x hx => ?_⟩
      · rcases hB x hx with e | ⟨d', g1, g2, g3⟩
        · exact .inl e
        · simp only [PyData.depthAll] at g3
          exact .inr ⟨d', g1, g2, by omega⟩
      · rcases hB x hx with e | ⟨d', g1, g2, g3⟩
        · exact .inl e
        · simp only [PyData.depthAll] at g3
          exact .inr ⟨d', g1, g2, by omega⟩
end
end
def dsCopied (n : Nat) : DSp := fun ts ω q _ => ∃ d, ts = [d] ∧ isVal d = true ∧ d.depth < n ∧ szD d ≤ 1000000 ∧ ∀ u ω', Tm ω u d ω' → q u ω'
/-- spoil(v), v a new thing -/
def dsSpoil (n : Nat) : DSp := fun ts ω q _ => ∃ v d ω0, ts = [v] ∧ Tm ω0 v d ω ∧ isVal d = true ∧ d.depth < n ∧ szD d ≤ 400000 ∧ q .none ω0
section
variable {P : Program} {w : World} {K : PySem.W.Frag} {mg : Str → Option Value} {base : Heap}
theorem dd_copied (h : Has K mg "copied" sCopied) (B : Bi mg) (n : Nat) : Dfn P w K mg base CX0 n "copied" ["value"] (spD K (dsCopied n)) := by
  refine (d_copied h B n).toD fun vs H Q E z => ?_
  obtain ⟨J, ω, ts, q, x, w, r, cq, cx, d, rfl, val, dn, sz, z⟩ := z
  cases r with
  | cons r1 r2 =>
  cases r2
  exact ⟨_, d, rfl, val_dp w.jh r1 val, val, dn, sz, fun u H' sm hu => nw_tm w sm cq hu val z⟩
end
end Tx

namespace Tx
open PySem PySem.Spec PyProof.Rows L2
section
variable {P : Program} {w : World} {K : PySem.W.Frag} {mg : Str → Option Value} {base : Heap}
theorem dd_spoil (h : Has K mg "_law_spoil" sSpoil) (B : Bi mg) (n : Nat) : Dfn P w K mg base CX0 n "_law_spoil" ["_law_value_here"] (spD K (dsSpoil n)) := by
  refine (d_spoil h B n).toD fun vs H Q E z => ?_
  obtain ⟨J, ω, ts, q, x, w, r, cq, cx, v, d, ω0, rfl, tm, val, dn, sz, z⟩ := z
  cases r with
  | @cons vv _ _ _ r1 r2 =>
  cases r2
  have hn := nl_le d
  rcases tm with ⟨nl0, rfl, rfl⟩ | ⟨a, N, rfl, n0, rfl, il⟩
  · refine ⟨_, v, fun _ => False, 0, rfl, ?_, dn, by omega, by omega, fun H' ev => ?_⟩
    · cases r1 with
      | non => simp only [Nw]
      | str x => simp only [Nw]
      | lst _ _ => cases nl0
      | _ => simp [isVal] at val
    · have e0 : nl v = 0 := by cases v <;> first | rfl | (simp [isVal] at val; done) | cases nl0
      have sm : Same H H' := fun b o e => by
        rcases ev b o e with z | ⟨_, ws, j, e1, hj, e2⟩
        · exact z
        · rw [e0] at hj
          obtain rfl : j = 0 := by omega
          rw [List.replicate_zero, List.append_nil] at e2
          rw [e1, e2]
      exact cq _ _ _ _ _ z (same_grow w sm).1 (same_grow w sm).2 .non
  · obtain rfl := rp_ref r1
    have hc : updW ω0 a (.tmp N d) a = some (.tmp N d) := updW_same
    obtain ⟨sN, rN, nN⟩ := w.cell a _ hc
    have tp := w.tmp a _ hc
    refine ⟨_, d, fun x => N x = none, 0, rfl, rp_nw sN d _ _ val rN fun x hx => .inl hx, dn, by omega, by omega, fun H' ev => ?_⟩
    have kp : ∀ b o, N b = none → H b = some o → H' b = some o := fun b o nb hb => ev.keep nb hb
    have dm : ∀ b, H b ≠ none → H' b ≠ none := fun b hb => by
      cases q : H b with
      | none => exact absurd q hb
      | some o =>
        rcases ev b o q with z | ⟨_, ws, j, e1, hj, e2⟩
        · rw [z]; simp
        · rw [e2]; simp
    have jn : ∀ b o, J b = some o → N b = none := fun b o e => by
      cases q : N b with
      | none => rfl
      | some u => rw [(tp b (show N b ≠ none by rw [q]; simp)).1] at e; cases e
    have g : Grow J H (updW ω0 a (.tmp N d)) J H' (delW (updW ω0 a (.tmp N d)) a) := ⟨Same.refl _, dm, fun b o hb fr => kp b o (priv_none (fr.2 a _ hc)) hb, fun _ _ _ j => j, fun b _ fr => fr_del fr⟩
    have w' : Rw K J H' (delW (updW ω0 a (.tmp N d)) a) := w.step (Same.refl _) (fun b o e => kp b o (jn b o e) (w.jh b o e)) (fun _ _ j => j) fun b m e => by
      obtain ⟨e, nb⟩ := delW_some e
      refine .inl ⟨e, fun b' o l hb' => kp b' o ?_ hb'⟩
      cases q : N b' with
      | none => rfl
      | some u =>
        obtain ⟨_, t2, t3⟩ := tp b' (show N b' ≠ none by rw [q]; simp)
        rcases l with rfl | nb'
        · rw [t2 nb] at e; cases e
        · exact absurd nb' (t3 b m nb e)
    rw [delW_updW n0] at g w'
    exact cq _ _ _ _ _ z g w' .non
end
end Tx

namespace Tx
open PySem PySem.Spec PyProof.Rows L2
/-! ## Classes over data: steps of the telling, methods, new instances, fields -/
/-- some state is told so -/
def Lw (ω : Wd) : Prop := ∃ K J H, Rw K J H ω
/-- a step of the telling alone -/
def Gh (ω ω1 : Wd) : Prop := ∀ K J H, Rw K J H ω → ∃ J1, Rw K J1 H ω1 ∧ Grow J H ω J1 H ω1
theorem Gh.refl {ω : Wd} : Gh ω ω := fun _ J _ w => ⟨J, w, Grow.refl⟩
theorem Gh.trans {ω ω1 ω2 : Wd} (a : Gh ω ω1) (b : Gh ω1 ω2) : Gh ω ω2 := fun K J H w => by
  obtain ⟨J1, w1, g1⟩ := a K J H w
  obtain ⟨J2, w2, g2⟩ := b K J1 H w1
  exact ⟨J2, w2, g1.trans g2⟩
theorem Gh.sub {ω ω1 : Wd} (s : SubW ω1 ω) : Gh ω ω1 := fun _ J _ w => ⟨J, w.sub s, s.grow⟩
section
variable {K : PySem.W.Frag} {J H : Hp} {ω : Wd} {a b C dx p : Addr} {f : Str} {ds : List PyData} {m : MO}
theorem Rw.ent (w : Rw K J H ω) (h : ω a = some (.ent C dx p f ds)) : p ≠ a ∧ ω p = none ∧ J p = none ∧ ∀ c m', c ≠ a → ω c = some m' → ¬ m'.priv p := by
  obtain ⟨e1, vs, e2, _⟩ := w.cell a _ h
  have ne : p ≠ a := fun e => by rw [e, e1] at e2; cases e2
  obtain ⟨t1, t2, t3⟩ := w.tmp a _ h p rfl
  exact ⟨ne, t2 ne, t1, t3⟩
theorem Lw.ent (l : Lw ω) (h : ω a = some (.ent C dx p f ds)) : p ≠ a ∧ ω p = none := by
  obtain ⟨K, J, H, w⟩ := l
  exact ⟨(w.ent h).1, (w.ent h).2.1⟩
/-- an instance and its list become two cells -/
def opn (ω : Wd) (a C dx p : Addr) (f : Str) (ds : List PyData) : Wd := updW (updW ω a (.ins C dx [(f, refD p)])) p (.lst ds)
theorem opn_p : opn ω a C dx p f ds p = some (.lst ds) := updW_same
theorem opn_a (n : p ≠ a) : opn ω a C dx p f ds a = some (.ins C dx [(f, refD p)]) := by
  unfold opn
  rw [updW_ne (Ne.symm n), updW_same]
theorem opn_ne (h1 : b ≠ a) (h2 : b ≠ p) : opn ω a C dx p f ds b = ω b := by
  unfold opn
  rw [updW_ne h2, updW_ne h1]
theorem Gh.open (h : ω a = some (.ent C dx p f ds)) : Gh ω (opn ω a C dx p f ds) := fun K J H w => by
  obtain ⟨ne, hp, jp, pp⟩ := w.ent h
  obtain ⟨e1, vs, e2, r⟩ := w.cell a _ h
  have ja := w.out a _ h
  refine ⟨J, w.step (Same.refl _) w.jh (fun _ _ j => j) fun b m e => ?_, Same.refl _, fun _ z => z, fun _ _ z _ => z, fun _ _ _ j => j, fun b _ z => ?_⟩
  · by_cases e3 : b = p
    · subst e3
      rw [opn_p] at e
      cases e
      refine .inr ⟨jp, ⟨vs, e2, r⟩, fun _ z => False.elim z, fun c m' nc ec => ⟨?_, fun _ z => False.elim z⟩⟩
      by_cases e4 : c = a
      · subst e4; rw [opn_a ne] at ec; cases ec; exact id
      · rw [opn_ne e4 nc] at ec; exact pp c m' e4 ec
    · by_cases e4 : b = a
      · subst e4
        rw [opn_a ne] at e
        cases e
        refine .inr ⟨ja, ⟨_, e1, .cons ⟨rfl, .ref p⟩ .nil⟩, fun _ z => False.elim z, fun c m' nc ec => ⟨?_, fun _ z => False.elim z⟩⟩
        by_cases e5 : c = p
        · subst e5; rw [opn_p] at ec; cases ec; exact id
        · rw [opn_ne nc e5] at ec; exact w.apart h nc ec
      · rw [opn_ne e4 e3] at e
        exact .inl ⟨e, fun _ _ _ z => z⟩
  · have n1 : b ≠ a := fr_ne0 h z
    have n2 : b ≠ p := fun e => z.2 a _ h e
    refine ⟨by rw [opn_ne n1 n2]; exact z.1, fun c m' ec => ?_⟩
    by_cases e5 : c = p
    · subst e5; rw [opn_p] at ec; cases ec; exact id
    · by_cases e4 : c = a
      · subst e4; rw [opn_a ne] at ec; cases ec; exact id
      · rw [opn_ne e4 e5] at ec; exact z.2 c m' ec
/-- and one again -/
def cls (ω : Wd) (a C dx p : Addr) (f : Str) (ds : List PyData) : Wd := updW (delW ω p) a (.ent C dx p f ds)
theorem cls_a : cls ω a C dx p f ds a = some (.ent C dx p f ds) := updW_same
theorem cls_ne (h1 : b ≠ a) (h2 : b ≠ p) : cls ω a C dx p f ds b = ω b := by
  unfold cls
  rw [updW_ne h1, delW_ne h2]
theorem cls_p (n : p ≠ a) : cls ω a C dx p f ds p = none := by
  unfold cls
  rw [updW_ne n, delW_same]
theorem Gh.close (ha : ω a = some (.ins C dx [(f, refD p)])) (hp : ω p = some (.lst ds)) : Gh ω (cls ω a C dx p f ds) := fun K J H w => by
  obtain ⟨gs, e1, r1⟩ := w.cell a _ ha
  obtain ⟨vs, e2, r⟩ := w.cell p _ hp
  have ne : p ≠ a := fun e => by rw [e, e1] at e2; cases e2
  have eg : gs = [(f, .ref p)] := by
    cases r1 with
    | cons h t =>
      cases t
      obtain ⟨h1, h2⟩ := h
      rename_i g
      obtain ⟨g1, g2⟩ := g
      simp only at h1 h2
      rw [h1, rp_ref h2]
  subst eg
  refine ⟨J, w.step (Same.refl _) w.jh (fun _ _ j => j) fun b m e => ?_, Same.refl _, fun _ z => z, fun _ _ z _ => z, fun _ _ _ j => j, fun b _ z => ?_⟩
  · by_cases e4 : b = a
    · subst e4
      rw [cls_a] at e
      cases e
      refine .inr ⟨w.out _ _ ha, ⟨e1, vs, e2, r⟩, fun b' pb => ?_, fun c m' nc ec => ?_⟩
      · rw [show b' = p from pb]
        exact ⟨w.out _ _ hp, fun _ => cls_p ne⟩
      · have cp : c ≠ p := fun e => by rw [e, cls_p ne] at ec; cases ec
        rw [cls_ne nc cp] at ec
        refine ⟨w.apart ha nc ec, fun b' pb => ?_⟩
        rw [show b' = p from pb]
        exact w.apart hp cp ec
    · have bp : b ≠ p := fun z => by rw [z, cls_p ne] at e; cases e
      rw [cls_ne e4 bp] at e
      exact .inl ⟨e, fun _ _ _ z => z⟩
  · have n1 : b ≠ a := fr_ne0 ha z
    have n2 : b ≠ p := fr_ne0 hp z
    refine ⟨by rw [cls_ne n1 n2]; exact z.1, fun c m' ec => ?_⟩
    by_cases e4 : c = a
    · subst e4; rw [cls_a] at ec; cases ec; exact n2
    · have cp : c ≠ p := fun e => by rw [e, cls_p ne] at ec; cases ec
      rw [cls_ne e4 cp] at ec
      exact z.2 c m' ec
/-- opened and closed again, the list another -/
theorem cls_opn {es : List PyData} (hp : ω p = none) (ne : p ≠ a) : cls (updW (opn ω a C dx p f ds) p (.lst es)) a C dx p f es = updW ω a (.ent C dx p f es) := by
  funext b
  by_cases e1 : b = a
  · rw [e1, cls_a, updW_same]
  · by_cases e2 : b = p
    · rw [e2, cls_p ne, updW_ne ne, hp]
    · rw [cls_ne e1 e2, updW_ne e2, opn_ne e1 e2, updW_ne e1]
theorem cls_opn0 (h : ω a = some (.ent C dx p f ds)) (hp : ω p = none) (ne : p ≠ a) : cls (opn ω a C dx p f ds) a C dx p f ds = ω := by
  funext b
  by_cases e1 : b = a
  · rw [e1, cls_a, h]
  · by_cases e2 : b = p
    · rw [e2, cls_p ne, hp]
    · rw [cls_ne e1 e2, opn_ne e1 e2]
end
theorem XdOk.gh {K : PySem.W.Frag} {H0 J J1 H : Hp} {ω ω1 : Wd} {d : Option Addr} {fs : List (Str × PyData)} (h : XdOk K H0 J H ω d fs) (g : Grow J H ω J1 H ω1) : XdOk K H0 J1 H ω1 d fs := by
  cases d with
  | none => exact h
  | some dd =>
    obtain ⟨a, b, c, gs, e, r⟩ := h
    have n : H dd ≠ none := by rw [e]; simp
    exact ⟨a, g.frj dd n c b, g.frw dd n c, gs, e, r.mono g.jj⟩
def dGhE (te : DTE) (ρ : DS) (ω : Wd) (q : DQ) (x : DXK) : Prop := Lw ω → ∃ ω1, Gh ω ω1 ∧ te ρ ω1 (fun r ω2 => Lw ω2 → ∃ ω3, Gh ω2 ω3 ∧ q r ω3) (fun C fs ω2 => Lw ω2 → ∃ ω3, Gh ω2 ω3 ∧ x C fs ω3)
def ghEnds (D : DEnds) : DEnds := ⟨fun ρ ω => Lw ω → ∃ ω1, Gh ω ω1 ∧ D.nx ρ ω1, fun r ω => Lw ω → ∃ ω1, Gh ω ω1 ∧ D.rt r ω1, fun ρ ω => Lw ω → ∃ ω1, Gh ω ω1 ∧ D.bk ρ ω1, fun ρ ω => Lw ω → ∃ ω1, Gh ω ω1 ∧ D.ct ρ ω1, fun C fs ρ ω => Lw ω → ∃ ω1, Gh ω ω1 ∧ D.xc C fs ρ ω1⟩
def dGhS (t : DTS) (D : DEnds) (ρ : DS) (ω : Wd) : Prop := Lw ω → ∃ ω1, Gh ω ω1 ∧ t (ghEnds D) ρ ω1
section
variable {W : WX} {X : Cx} {K : PySem.W.Frag} {e : Expr} {st : Stmt} {ss : List Stmt} {te : DTE} {t : DTS}
theorem CovQ.gh {J H : Hp} {ω : Wd} {q : DQ} {Q : VK} (c : CovQ K J H ω q Q) : CovQ K J H ω (fun r ω2 => Lw ω2 → ∃ ω3, Gh ω2 ω3 ∧ q r ω3) Q := fun r ω' v J' H' z g w rp => by
  obtain ⟨ω3, g3, z⟩ := z ⟨_, _, _, w⟩
  obtain ⟨J3, w3, k3⟩ := g3 _ _ _ w
  exact c _ _ _ _ _ z (g.trans k3) w3 (rp_mono k3.jj _ _ rp)
theorem CovX.gh {J H : Hp} {ω : Wd} {x : DXK} {E : XK} (c : CovX K J H ω x E) : CovX K J H ω (fun C fs ω2 => Lw ω2 → ∃ ω3, Gh ω2 ω3 ∧ x C fs ω3) E := fun C fs ω' d J' H' z g w xd => by
  obtain ⟨ω3, g3, z⟩ := z ⟨_, _, _, w⟩
  obtain ⟨J3, w3, k3⟩ := g3 _ _ _ w
  exact c _ _ _ _ _ _ z (g.trans k3) w3 (xd.gh k3)
theorem CovS.gh {J H : Hp} {ω : Wd} {DD : DEnds} {D : Ends} (c : CovS K J H ω W DD D) : CovS K J H ω W (ghEnds DD) D := by
  refine ⟨fun ρ' ω' σ' J' H' z g w s => ?_, fun ρ' ω' σ' J' H' z g w s => ?_, fun ρ' ω' σ' J' H' z g w s => ?_, c.rt.gh, fun C fs ρ' ω' d σ' J' H' z g w s xd => ?_⟩ <;>
  · obtain ⟨ω3, g3, z⟩ := z ⟨_, _, _, w⟩
    obtain ⟨J3, w3, k3⟩ := g3 _ _ _ w
    first
      | exact c.nx _ _ _ _ _ z (g.trans k3) w3 (s.mono k3.jj)
      | exact c.bk _ _ _ _ _ z (g.trans k3) w3 (s.mono k3.jj)
      | exact c.ct _ _ _ _ _ z (g.trans k3) w3 (s.mono k3.jj)
      | exact c.xc _ _ _ _ _ _ _ _ z (g.trans k3) w3 (s.mono k3.jj) (xd.gh k3)
theorem de_gh (h : DE W X K e te) : DE W X K e (dGhE te) := by
  obtain ⟨r, p, k⟩ := h
  refine ⟨r, p, fun σ H J ω ρ q x Q w s cq cx z => ?_⟩
  obtain ⟨ω1, g1, z1⟩ := z ⟨_, _, _, w⟩
  obtain ⟨J1, w1, k1⟩ := g1 _ _ _ w
  exact k σ H J1 ω1 ρ _ _ Q w1 (s.mono k1.jj) (cq.step k1).gh (cx.step k1).gh z1
theorem dss_gh (h : DSs W X K ss t) : DSs W X K ss (dGhS t) := by
  obtain ⟨r, p, k⟩ := h
  refine ⟨r, p, fun D DD σ H J ω ρ w s cs z => ?_⟩
  obtain ⟨ω1, g1, z1⟩ := z ⟨_, _, _, w⟩
  obtain ⟨J1, w1, k1⟩ := g1 _ _ _ w
  exact k D _ σ H J1 ω1 ρ w1 (s.mono k1.jj) (cs.step k1).gh z1
theorem ds_gh (h : DSt W X K st t) : DSt W X K st (dGhS t) := by
  obtain ⟨r, p, k⟩ := h
  refine ⟨r, p, fun D DD σ H J ω ρ w s cs z => ?_⟩
  obtain ⟨ω1, g1, z1⟩ := z ⟨_, _, _, w⟩
  obtain ⟨J1, w1, k1⟩ := g1 _ _ _ w
  exact k D _ σ H J1 ω1 ρ w1 (s.mono k1.jj) (cs.step k1).gh z1
/-- what is never reached -/
def dNever (_ : DEnds) (_ : DS) (_ : Wd) : Prop := False
theorem ds_never : DSt W X K st dNever := ⟨fun _ _ _ => False, ⟨fun _ _ _ _ _ _ z => False.elim z⟩, fun _ _ _ _ _ _ _ _ _ _ z => z⟩
end
end Tx

namespace Tx
open PySem PySem.Spec PyProof.Rows L2
/-! ## Methods, new instances, fields -/
/-- a method of the class at C -/
def HasM (K : PySem.W.Frag) (C : Addr) (m qual : Str) (st : Stmt) : Prop := ∃ (f : Addr) (fd : FuncData), Fun K m qual st f fd ∧ Meth K C m f
theorem hasM_of {K : PySem.W.Frag} {C f : Addr} {m qual : Str} {st : Stmt} {oc kV dc pm cd ct : Value} {od an : Option Addr} {sl : Array (Option Value)} (a : PySem.W.findIn K (.ref C) m = some (some (.ref f)))
    (l : K.lookup f = some ⟨oc, od, .func (PySem.W.fnOf m qual (defArgs st) (defBody st) (defScope st) .none kV dc pm an cd ct), sl⟩)
    (c : PySem.W.codeIn K cd qual = true) (k : PySem.W.keepIn K (.ref f) = true) (i : PySem.W.isFn K (.ref f) = true) : HasM K C m qual st := ⟨f, _, fun_mk l c k, a, i, k⟩
def BindsByQ (x qual : Str) (st : Stmt) (ps : List Str) : Prop := ∀ (kV doc pm : Value) (an : Option Addr) (cdv ct : Value) (us : List Value), us.length = ps.length →
  bindArgs (PySem.W.fnOf x qual (defArgs st) (defBody st) (defScope st) .none kV doc pm an cdv ct) ⟨us, []⟩ = pure (ps.zip us)
/-- a method and its promise -/
def Mfn (P : Program) (w : World) (K : PySem.W.Frag) (mg : Str → Option Value) (base : Heap) (CX : CXT) (k : Nat) (C : Addr) (m : Str) (ps : List Str) (sp : Sp) : Prop :=
  ∃ (f : Addr) (fd : FuncData), FnG P w K mg base CX k f fd ps sp ∧ Meth K C m f ∧ Binds K fd ps []
section
variable {P : Program} {w : World} {K : PySem.W.Frag} {mg : Str → Option Value} {base : Heap} {CX : CXT} {k : Nat} {C : Addr} {m qual : Str} {ps N : List Str} {sp : DSp} {st : Stmt}
theorem Mfn.mono {sp : Sp} {j : Nat} (D : Mfn P w K mg base CX j C m ps sp) (h : j ≤ k) : Mfn P w K mg base CX k C m ps sp := by
  obtain ⟨f, fd, F, r⟩ := D
  exact ⟨f, fd, F.mono h, r⟩
theorem mfnD (h : HasM K C m qual st) (B : Bi mg) (S : FnScope N ps (defScope st)) (bd : BindsByQ m qual st ps) (len : ∀ ts ω q xx, sp ts ω q xx → ts.length = ps.length)
    (body : ∀ (f : Addr) (cv : Value) (A : Around) (out : List Env) (s : Shared) (H : Hp) (E : XK), Ct mg (A.deeper (envOfC qual (defScope st) s.heap.objs.size f cv)) k →
      ∃ td, DSs W0 (cxOf CX0 P w K mg base N qual (defScope st) f cv A out s H E).nox K (defBody st) td ∧ ∀ ts ω q xx, sp ts ω q xx → td (endsD q X0) (startD N ts) ω) :
    Mfn P w K mg base CX0 (k + 1) C m ps (spD K sp) := by
  obtain ⟨f, fd, F, mt⟩ := h
  refine ⟨f, fd, okG F S (fun vs H Q E z => ?_) ?_, mt, F.binds bd⟩
  · obtain ⟨J, ω, ts, q, xx, w, r, _, _, z⟩ := z
    rw [r.length]
    exact len _ _ _ _ z
  intro cv A out s H vs Q E room gd ask
  obtain ⟨J, ω, ts, q, xx, w, r, cq, cx, z⟩ := ask
  obtain ⟨td, ⟨t, p, kk⟩, hb⟩ := body f cv A out s H E ⟨B, room, gd⟩
  exact ⟨t, p.nox, kk _ _ _ H J ω _ w (sl_start r) ⟨fun _ _ _ _ _ z g w _ => cq _ _ _ _ _ z g w .non, fun _ _ _ _ _ z _ _ _ => False.elim z, fun _ _ _ _ _ z _ _ _ => False.elim z, cq, fun _ _ _ _ _ _ _ _ z _ _ _ _ => False.elim z⟩ (hb ts ω q xx z)⟩
theorem mfnDX (h : HasM K C m qual st) (B : Bi mg) (S : FnScope N ps (defScope st)) (bd : BindsByQ m qual st ps) (len : ∀ ts ω q xx, sp ts ω q xx → ts.length = ps.length)
    (body : ∀ (f : Addr) (cv : Value) (A : Around) (out : List Env) (s : Shared) (H : Hp) (E : XK), Ct mg (A.deeper (envOfC qual (defScope st) s.heap.objs.size f cv)) k →
      ∃ td, DSs (fun cl d _ H => E cl d H) (cxOf (L2.CX P w) P w K mg base N qual (defScope st) f cv A out s H E) K (defBody st) td ∧ ∀ ts ω q xx, sp ts ω q xx → td (endsD q xx) (startD N ts) ω) :
    Mfn P w K mg base (L2.CX P w) (k + 1) C m ps (spD K sp) := by
  obtain ⟨f, fd, F, mt⟩ := h
  refine ⟨f, fd, okG F S (fun vs H Q E z => ?_) ?_, mt, F.binds bd⟩
  · obtain ⟨J, ω, ts, q, xx, w, r, _, _, z⟩ := z
    rw [r.length]
    exact len _ _ _ _ z
  intro cv A out s H vs Q E room gd ask
  obtain ⟨J, ω, ts, q, xx, w, r, cq, cx, z⟩ := ask
  obtain ⟨td, ⟨t, p, kk⟩, hb⟩ := body f cv A out s H E ⟨B, room, gd⟩
  exact ⟨t, p, kk _ _ _ H J ω _ w (sl_start r) ⟨fun _ _ _ _ _ z g w _ => cq _ _ _ _ _ z g w .non, fun _ _ _ _ _ z _ _ _ => False.elim z, fun _ _ _ _ _ z _ _ _ => False.elim z, cq, fun C fs _ ω' d _ J' H' z g w _ x => cx C fs ω' d J' H' z g w x⟩ (hb ts ω q xx z)⟩
end
/-- what a class of the text must have -/
structure ClsD (K : PySem.W.Frag) (mg : Str → Option Value) (x : Str) (C : Addr) : Prop where
  gC : mg x = some (.ref C)
  cl : Cls K C
  mks : PySem.W.makesIn K C = true
  kp : PySem.W.keepIn K (.ref C) = true
theorem clsD_of {K : PySem.W.Frag} {mg : Str → Option Value} {h : Heap} {x : Str} {C : Addr} (X : K.In h) (G : h.Ns mainGlobals mg) (a : PySem.W.nsIn K mainGlobals x = some (some (.ref C))) (pg : PySem.W.plainGet K C Str.empty = true) (hd : PySem.W.hasDictIn K C = true)
    (po : PySem.W.plainOver K C = true) (sa : PySem.W.findIn K (.ref C) "__setattr__" = some (some (.builtin "object.__setattr__"))) (mk : PySem.W.makesIn K C = true) (kp : PySem.W.keepIn K (.ref C) = true) : ClsD K mg x C :=
  ⟨PySem.W.mg_of X G a, ⟨pg, hd, po, sa⟩, mk, kp⟩
/-- a cell that is an instance of the class at C, without a field m -/
def isIns (C : Addr) (m : Str) : MO → Prop
  | .ins C' _ fs => C' = C ∧ fs.lookup m = none
  | .ent C' _ _ f _ => C' = C ∧ (m == f) = false
  | _ => False
theorem rpf_none {K : PySem.W.Frag} {J : Hp} {f : Str} : ∀ {gs : List (Str × V)} {fs : List (Str × PyData)}, RpF K J gs fs → fs.lookup f = none → gs.lookup f = none
  | _, _, .nil, _ => rfl
  | (a, u) :: gs, (b, v) :: fs, .cons h t, e => by
    obtain ⟨h1, h2⟩ := h
    simp only at h1 h2
    subst h1
    rw [List.lookup_cons] at e ⊢
    cases q : f == a with
    | true => rw [q] at e; cases e
    | false => rw [q] at e; exact rpf_none t e
section
variable {K : PySem.W.Frag} {J H : Hp} {ω : Wd} {a C : Addr} {m : Str} {o : MO}
theorem Rw.ins (w : Rw K J H ω) (h : ω a = some o) (i : isIns C m o) : ∃ dx fs, H a = some (.ins C dx fs) ∧ fs.lookup m = none := by
  cases o with
  | ins C' dx fs =>
    obtain ⟨rfl, l⟩ := i
    obtain ⟨gs, e, r⟩ := w.cell a _ h
    exact ⟨dx, gs, e, rpf_none r l⟩
  | ent C' dx p f ds =>
    obtain ⟨rfl, l⟩ := i
    obtain ⟨e, _⟩ := w.cell a _ h
    exact ⟨dx, _, e, by rw [List.lookup_cons, l]; rfl⟩
  | _ => exact False.elim i
end
section
variable {X : Cx} {CX : CXT} {k : Nat} {f C : Addr} {fd : FuncData} {ps : List Str} {sp : Sp} {E : L2.St → XK} {x m : Str} {p pos apos : Pos} {e o : Expr} {es : List Expr} {ta : TE} {t : TA} {A : Around}
theorem run_g {pins : List (Addr × Obj)} {σ : L2.St} {H : Hp} {s : Shared} {Q : VK} {us : List Value} {vs : List V} {E : XK} (F : FnG X.prog X.w X.K X.mg X.base CX k f fd ps sp) (hr : Room k A) (gd : A.guards = some []) (hb : Binds X.K fd ps [])
    (e0 : Env0 X.prog X.w X.K X.mg X.base A X.stack s H) (hx : PassesAt CX X σ E) (I : Inv X pins σ H s) (r : Vals vs us) (h : sp vs H Q E) : wpAny (model X.prog X.w) A (call (.ref f) us) (EP X pins σ Q) X.xe s := by
  have hl : (us ++ []).length = ps.length := by rw [List.append_nil, ← r.length]; exact F.len _ _ _ _ h
  have b := hb s us I.kIn hl
  rw [List.append_nil] at b
  refine wpAny_call (codeAny_mono (F.run A X.stack s H ⟨us, []⟩ us vs Q E hr gd e0 b r h) ?_)
  intro r s2 got
  match r, got with
  | .ok (.ret u), got => exact I.after got
  | .ok .next, got => exact False.elim got
  | .ok .brk, got => exact False.elim got
  | .ok .cont, got => exact False.elim got
  | .error er, got => exact hx pins H s er s2 I got
def tMethS (C : Addr) (m : Str) (sp : Sp) (E : L2.St → XK) (ta : TE) (t : TA) : TE := fun σ H Q => ta σ H fun x H1 => ∃ a dx fs, x = .ref a ∧ H1 a = some (.ins C dx fs) ∧ fs.lookup m = none ∧ t σ H1 fun vs H2 => sp (x :: vs) H2 Q (E σ)
theorem pe_methG {pl : Sem Bool} (he : PE X o ta) (c : Cls X.K C) (M : Mfn X.prog X.w X.K X.mg X.base CX k C m ps sp) (hr : Room k X.A) (gd : X.A.guards = some []) (hx : ∀ σ, PassesAt CX X σ (E σ)) (ha : PA X (e :: es) t)
    (hst : starEach (e :: es) X.env = (false, eval e X.env) :: starEach es X.env := by rfl) (hpl : (backTo pos (starEach es X.env)).any (·.1) = false := by rfl)
    (ht : eval (.Call (.Attribute o m apos) (e :: es) [] pos) X.env = (do
      let ov ← eval o X.env
      standAt apos.atName
      let (f, first) ← holding [ov] (getMethod ov m pl)
      callWith pos f first (backTo pos (starEach (e :: es) X.env)) (backToKw pos (keywordEach [] X.env))) := by rfl) :
    PE X (.Call (.Attribute o m apos) (e :: es) [] pos) (tMethS C m sp E ta t) := by
  obtain ⟨f, fd, F, hm, hb⟩ := M
  constructor
  intro pins s σ H Q I h
  refine PySem.W.methodCall_KW (pl := pl) (thn (he.run pins s σ H _ I h) fun u s1 ⟨x, H1, I1, rx, a, dx, fs, ex, ea, l, q⟩ => ?_) ht
  subst ex
  obtain rfl : u = Value.ref a := rx
  refine getmeth_ok I1 ea c hm l ?_
  refine PySem.W.callWith_K (first := [.ref a]) (h₀ := X.base) I.ok.mod.kin hm.kp (thn (ha.run pos pins s1 σ H1 _ I1 q) fun us s2 ⟨vs, H2, I2, r, q2⟩ => ⟨I2.kIn, ?_⟩) hst hpl
  exact run_g (us := .ref a :: us) (vs := .ref a :: vs) F hr gd hb I2.env0 (hx σ) I2 (.cons rfl r) q2
theorem pe_methG0 {pl : Sem Bool} (he : PE X o ta) (c : Cls X.K C) (M : Mfn X.prog X.w X.K X.mg X.base CX k C m ps sp) (hr : Room k X.A) (gd : X.A.guards = some []) (hx : ∀ σ, PassesAt CX X σ (E σ))
    (ht : eval (.Call (.Attribute o m apos) [] [] pos) X.env = (do
      let ov ← eval o X.env
      standAt apos.atName
      let (f, first) ← holding [ov] (getMethod ov m pl)
      callWith pos f first (backTo pos (starEach [] X.env)) (backToKw pos (keywordEach [] X.env))) := by rfl) :
    PE X (.Call (.Attribute o m apos) [] [] pos) (tMethS C m sp E ta tNil) := by
  obtain ⟨f, fd, F, hm, hb⟩ := M
  constructor
  intro pins s σ H Q I h
  refine PySem.W.methodCall_KW (pl := pl) (thn (he.run pins s σ H _ I h) fun u s1 ⟨x, H1, I1, rx, a, dx, fs, ex, ea, l, q⟩ => ?_) ht
  subst ex
  obtain rfl : u = Value.ref a := rx
  refine getmeth_ok I1 ea c hm l ?_
  exact PySem.W.callWith_K0 (first := [.ref a]) I1.kIn hm.kp (run_g (us := [.ref a]) (vs := [.ref a]) F hr gd hb I1.env0 (hx σ) I1 (.cons rfl .nil) q)
def tMakeS (C : Addr) (sp : Sp) (E : L2.St → XK) (t : TA) : TE := fun σ H Q => t σ H fun vs H1 => ∀ x dx, H1 x = none → H1 dx = none → dx ≠ x →
  sp (.ref x :: vs) (upd (upd H1 dx (.own x)) x (.ins C dx [])) (fun v H2 => v = .non ∧ Q (.ref x) H2) (E σ)
theorem pe_makeG (c : ClsD X.K X.mg x C) (M : Mfn X.prog X.w X.K X.mg X.base CX k C "__init__" ps sp) (hr : Room (k + 1) X.A) (gd : X.A.guards = some []) (hg : Gl X x) (hx : ∀ σ, PassesAt CX X σ (E σ)) (ha : PA X (e :: es) t)
    (hdb : (x == ("__debug__" : Str)) = false := by decide) (he : starEach (e :: es) X.env = (false, eval e X.env) :: starEach es X.env := by rfl) (hpl : (backTo pos (starEach es X.env)).any (·.1) = false := by rfl) :
    PE X (.Call (.Name x p) (e :: es) [] pos) (tMakeS C sp E t) := by
  obtain ⟨f, fd, F, hm, hb⟩ := M
  constructor
  intro pins s0 σ H0 Q I0 h0
  refine wpAny_Call_Name_kw (ld_glob I0 hg c.gC ?_ hdb)
  refine PySem.W.callWith_K (h₀ := X.base) I0.ok.mod.kin c.kp (thn (ha.run pos pins s0 σ H0 _ I0 h0) fun us s ⟨vs, H, I, r, h⟩ => ⟨I.kIn, ?_⟩) he hpl
  have hq := h (s.heap.objs.size + 1) s.heap.objs.size (I.hok.fresh (Nat.le_succ _)) (I.hok.fresh (Nat.le_refl _)) (Nat.ne_of_lt (Nat.lt_succ_self _))
  have I2 := Inv.made (C := C) I
  have r2 : Vals (V.ref (s.heap.objs.size + 1) :: vs) (Value.ref (s.heap.objs.size + 1) :: us) := .cons rfl r
  have hl : ((Value.ref (s.heap.objs.size + 1) :: us) ++ []).length = ps.length := by
    rw [List.append_nil, ← r2.length]
    exact F.len _ _ _ _ hq
  have b := hb _ (Value.ref (s.heap.objs.size + 1) :: us) I2.kIn hl
  rw [List.append_nil] at b
  refine wpAny_call (make_map (f := f) I.kIn c.mks hm.at_ (beq_iff_eq.mp hm.fn) (codeAny_mono (F.run _ X.stack _ _ ⟨Value.ref (s.heap.objs.size + 1) :: us, []⟩ (Value.ref (s.heap.objs.size + 1) :: us) _ _ (E σ) (hr.make C us []) gd
    (I2.env0.make C us []) b r2 hq) ?_))
  intro r s' got
  match r, got with
  | .ok (.ret u), got =>
    obtain ⟨v, H', I3, rv, ev, q3⟩ := I2.after got
    subst ev
    exact ⟨rv, ⟨V.ref (s.heap.objs.size + 1), H', I3, rfl, q3⟩⟩
  | .ok .next, got => exact False.elim got
  | .ok .brk, got => exact False.elim got
  | .ok .cont, got => exact False.elim got
  | .error er, got => exact hx σ pins _ _ er s' I2 got
end
/-- o.m(..) -/
def dMeth (C : Addr) (m : Str) (sp : DSp) (to : DTE) (ta : DTA) (ρ : DS) (ω : Wd) (q : DQ) (x : DXK) : Prop := to ρ ω (fun o ω1 => ∃ a mo, o = refD a ∧ ω1 a = some mo ∧ isIns C m mo ∧ ta ρ ω1 (fun ts ω2 => sp (o :: ts) ω2 q x) x) x
/-- C(..) -/
def dMake (C : Addr) (sp : DSp) (ta : DTA) (ρ : DS) (ω : Wd) (q : DQ) (x : DXK) : Prop := ta ρ ω (fun ts ω1 => ∀ a dx, ω1 a = none → sp (refD a :: ts) (updW ω1 a (.ins C dx [])) (fun v ω2 => v = .none ∧ q (refD a) ω2) x) x
def dFld (K : PySem.W.Frag) (te : DTE) (f : Str) (ρ : DS) (ω : Wd) (q : DQ) (x : DXK) : Prop := te ρ ω (fun o ω1 => ∃ a C dx fs v, o = refD a ∧ ω1 a = some (.ins C dx fs) ∧ Cls K C ∧ NoAttr K C f ∧ fs.lookup f = some v ∧ q v ω1) x
def putD (f : Str) (v : PyData) : List (Str × PyData) → List (Str × PyData)
  | [] => [(f, v)]
  | (g, u) :: r => if g = f then (g, v) :: r else (g, u) :: putD f v r
def dSetF (K : PySem.W.Frag) (to te : DTE) (f : Str) (D : DEnds) (ρ : DS) (ω : Wd) : Prop := te ρ ω (fun v ω1 => to ρ ω1 (fun o ω2 => ∃ a C dx fs, o = refD a ∧ ω2 a = some (.ins C dx fs) ∧ Cls K C ∧ NoAttr K C f ∧ fs.length < 1000 ∧ D.nx ρ (updW ω2 a (.ins C dx (putD f v fs)))) (xcOf D ρ)) (xcOf D ρ)
theorem rpf_put {K : PySem.W.Frag} {J : Hp} {f : Str} {u : V} {v : PyData} (h : Rp K J u v) : ∀ {gs : List (Str × V)} {fs : List (Str × PyData)}, RpF K J gs fs → RpF K J (putF f u gs) (putD f v fs)
  | _, _, .nil => .cons ⟨rfl, h⟩ .nil
  | (a, u') :: gs, (b, v') :: fs, .cons g t => by
    obtain ⟨h1, h2⟩ := g
    simp only at h1 h2
    subst h1
    unfold putF putD
    by_cases q : a = f
    · rw [if_pos q, if_pos q]; exact .cons ⟨rfl, h⟩ t
    · rw [if_neg q, if_neg q]; exact .cons ⟨rfl, h2⟩ (rpf_put h t)
theorem RpF.length {K : PySem.W.Frag} {J : Hp} : ∀ {gs : List (Str × V)} {fs : List (Str × PyData)}, RpF K J gs fs → gs.length = fs.length
  | _, _, .nil => rfl
  | _, _, .cons _ t => by rw [List.length_cons, List.length_cons, RpF.length t]
section
variable {W : WX} {X : Cx} {K : PySem.W.Frag} {j k : Nat} {ps : List Str} {sp : DSp} {x m f : Str} {C : Addr} {p pos apos pos' : Pos} {e o : Expr} {es : List Expr} {to te : DTE} {tA : DTA} {CX : CXT}
/-- no exception, or one that is wished for -/
def PX (CX : CXT) (X : Cx) (W : WX) : Prop := ∀ σ, PassesAt CX X σ (fun cl d H => W cl d σ H)
theorem px0 : PX CX0 X W := fun _ _ _ _ _ _ _ h => False.elim h
theorem pxX (tk : Takes X W) : PX (L2.CX X.prog X.w) X W := fun σ => passAt tk σ
theorem de_meth {pl : Sem Bool} (hK : X.K = K) (M : Mfn X.prog X.w X.K X.mg X.base CX j C m ps (spD K sp)) (cl : Cls K C) (c : Ct X.mg X.A k) (h : j ≤ k) (px : PX CX X W) (ho : DE W X K o to) (args : DAs W X K (e :: es) tA)
    (hst : starEach (e :: es) X.env = (false, eval e X.env) :: starEach es X.env := by rfl) (hpl : (backTo pos (starEach es X.env)).any (·.1) = false := by rfl)
    (ht : eval (.Call (.Attribute o m apos) (e :: es) [] pos) X.env = (do
      let ov ← eval o X.env
      standAt apos.atName
      let (f, first) ← holding [ov] (getMethod ov m pl)
      callWith pos f first (backTo pos (starEach (e :: es) X.env)) (backToKw pos (keywordEach [] X.env))) := by rfl) :
    DE W X K (.Call (.Attribute o m apos) (e :: es) [] pos) (dMeth C m sp to tA) := by
  subst hK
  obtain ⟨ro, po, ko⟩ := ho
  obtain ⟨t, pp, kk⟩ := args
  refine ⟨_, pe_methG (E := fun σ cl d H => W cl d σ H) po cl M (c.r.mono h) c.g px pp hst hpl ht, fun σ H J ω ρ q x Q w s cq cx z => ko σ H J ω ρ _ x _ w s (fun r ω1 v J1 H1 z1 g1 w1 rp => ?_) cx z⟩
  obtain ⟨a, mo, rfl, e1, i, z1⟩ := z1
  obtain rfl := rp_ref rp
  obtain ⟨dx, fs, e2, l⟩ := w1.ins e1 i
  refine ⟨a, dx, fs, rfl, e2, l, kk σ H1 J1 ω1 ρ _ x _ w1 (s.mono g1.jj) (fun ts ω2 vs J2 H2 z2 g2 w2 rps => ?_) (cx.step g1) z1⟩
  exact ⟨J2, ω2, _, q, x, w2, .cons (.ref a) rps, (cq.step g1).step g2, (cx.step g1).step g2, z2⟩
theorem de_meth0 {pl : Sem Bool} (hK : X.K = K) (M : Mfn X.prog X.w X.K X.mg X.base CX j C m ps (spD K sp)) (cl : Cls K C) (c : Ct X.mg X.A k) (h : j ≤ k) (px : PX CX X W) (ho : DE W X K o to)
    (ht : eval (.Call (.Attribute o m apos) [] [] pos) X.env = (do
      let ov ← eval o X.env
      standAt apos.atName
      let (f, first) ← holding [ov] (getMethod ov m pl)
      callWith pos f first (backTo pos (starEach [] X.env)) (backToKw pos (keywordEach [] X.env))) := by rfl) :
    DE W X K (.Call (.Attribute o m apos) [] [] pos) (dMeth C m sp to dNil) := by
  subst hK
  obtain ⟨ro, po, ko⟩ := ho
  refine ⟨_, pe_methG0 (E := fun σ cl d H => W cl d σ H) po cl M (c.r.mono h) c.g px ht, fun σ H J ω ρ q x Q w s cq cx z => ko σ H J ω ρ _ x _ w s (fun r ω1 v J1 H1 z1 g1 w1 rp => ?_) cx z⟩
  obtain ⟨a, mo, rfl, e1, i, z1⟩ := z1
  obtain rfl := rp_ref rp
  obtain ⟨dx, fs, e2, l⟩ := w1.ins e1 i
  exact ⟨a, dx, fs, rfl, e2, l, J1, ω1, _, q, x, w1, .cons (.ref a) .nil, cq.step g1, cx.step g1, z1⟩
theorem de_make (hK : X.K = K) (cl : ClsD K X.mg x C) (M : Mfn X.prog X.w X.K X.mg X.base CX j C "__init__" ps (spD K sp)) (c : Ct X.mg X.A k) (h : j + 1 ≤ k) (gl : Gl X x) (px : PX CX X W) (args : DAs W X K (e :: es) tA)
    (hdb : (x == ("__debug__" : Str)) = false := by decide) (he : starEach (e :: es) X.env = (false, eval e X.env) :: starEach es X.env := by rfl) (hpl : (backTo pos (starEach es X.env)).any (·.1) = false := by rfl) :
    DE W X K (.Call (.Name x p) (e :: es) [] pos) (dMake C sp tA) := by
  subst hK
  obtain ⟨t, pp, kk⟩ := args
  refine ⟨_, pe_makeG (E := fun σ cl d H => W cl d σ H) cl M (c.r.mono h) c.g gl px pp hdb he hpl, fun σ H J ω ρ q x Q w s cq cx z => kk σ H J ω ρ _ x _ w s (fun ts ω1 vs J1 H1 z1 g1 w1 rps => ?_) cx z⟩
  intro a dx ha hd ne
  have w2 := w1.junk hd (.own a)
  have ha2 : upd H1 dx (.own a) a = none := by rw [upd_ne (Ne.symm ne)]; exact ha
  have w3 := w2.own (m := .ins C dx []) (o := .ins C dx []) rfl ha2 ⟨[], upd_same, .nil⟩
  have g3 : Grow J H ω J1 (upd (upd H1 dx (.own a)) a (.ins C dx [])) (updW ω1 a (.ins C dx [])) := (g1.trans (Grow.junk hd _)).trans (Grow.own rfl ha2 _)
  refine ⟨J1, _, _, _, x, w3, .cons (.ref a) rps, fun r ω' v J' H' z' g' w' rp => ?_, cx.step g3, z1 a dx (w1.free ha).1⟩
  obtain ⟨rfl, z'⟩ := z'
  cases rp
  exact ⟨rfl, (cq.step g3) _ _ _ _ _ z' g' w' (.ref a)⟩
theorem de_fld (hK : X.K = K) (he : DE W X K e te) (hb : attributeBase e f X.env (eval e X.env) = eval e X.env := by rfl) : DE W X K (.Attribute e f pos) (dFld K te f) := by
  subst hK
  obtain ⟨ro, po, ko⟩ := he
  refine ⟨_, pe_fld po hb, fun σ H J ω ρ q x Q w s cq cx z => ko σ H J ω ρ _ x _ w s (fun r ω1 v J1 H1 z1 g1 w1 rp => ?_) cx z⟩
  obtain ⟨a, C, dx, fs, v, rfl, e1, cl, na, l, z1⟩ := z1
  obtain rfl := rp_ref rp
  obtain ⟨gs, e2, r2⟩ := w1.cell a _ e1
  obtain ⟨u, l2, r3⟩ := rpf_lookup r2 l
  exact ⟨a, C, dx, gs, u, rfl, e2, cl, na, l2, cq _ _ _ _ _ z1 g1 w1 r3⟩
theorem ds_fld (hK : X.K = K) (ho : DE W X K o to) (he : DE W X K e te) (hs : swapsWith e (some (.Attribute o f pos')) pos.line X.env = pure false := by rfl) : DSt W X K (.Assign [.Attribute o f pos'] e pos) (dSetF K to te f) := by
  subst hK
  obtain ⟨ro, po, ko⟩ := ho
  obtain ⟨re, pe, ke⟩ := he
  refine ⟨_, ps_fld po pe hs, fun D DD σ H J ω ρ w s cs z => ke σ H J ω ρ _ _ _ w s (fun r ω1 v J1 H1 z1 g1 w1 rp => ?_) (cs.x s) z⟩
  refine ko σ H1 J1 ω1 ρ _ _ _ w1 (s.mono g1.jj) (fun r2 ω2 v2 J2 H2 z2 g2 w2 rp2 => ?_) ((cs.x s).step g1) z1
  obtain ⟨a, C, dx, fs, rfl, e1, cl, na, l, z2⟩ := z2
  obtain rfl := rp_ref rp2
  obtain ⟨gs, e2, r2⟩ := w2.cell a _ e1
  refine ⟨a, C, dx, gs, rfl, e2, cl, na, by rw [r2.length]; exact l, cs.nx _ _ _ _ _ z2 ((g1.trans g2).trans (Grow.set e1 rfl _)) (w2.set e1 rfl ⟨_, upd_same, rpf_put (rp_mono g2.jj _ _ rp) r2⟩) (s.mono (g1.trans g2).jj)⟩
end
end Tx

namespace Tx
open PySem PySem.Spec PyProof.Rows L2
/-! ## Operators of a class of the text -/
section
variable {prog : Program} {w : World} {A : Around} {E : Value → Shared → Prop} {s : Shared} {K : PySem.W.Frag} {x C f : Addr} {ox : Obj} {od : Option Obj} {b tb : Value}
theorem slot_one (X : K.In s.heap) (I : PySem.W.InstAt s.heap x ox C od) (oC : PySem.W.subIn K (.ref C) (.type "object") = some true) {Q : Unit → Shared → Prop} (h : Q () s) : wpAny (model prog w) A (checkBuiltinCall "object.__ne__" ⟨[.ref x, b], []⟩) Q E s := by
  simp only [checkBuiltinCall, F.cmpKind_ne, F.cmpSplit_ne]
  refine wpAny_bind ?_
  unfold isInstance
  refine wpAny_bind (I.type.here ((PySem.W.looks_subIn X oC).here ?_))
  have ha := F.cmpArgs_ne (.ref x) b
  unfold argsOk at ha
  cases q : Manifest.signature? "object.__ne__" with
  | none => exact wpAny_pure h
  | some sg =>
    rw [q] at ha
    show wpAny _ _ (Bind.checkArgs "object.__ne__" sg ⟨[.ref x, b], []⟩) _ _ _
    rw [show Bind.checkArgs "object.__ne__" sg ⟨[.ref x, b], []⟩ = pure () from ha]
    exact wpAny_pure h
/-- a != b where the class has an own __eq__ and no own __ne__ -/
theorem ne_own {Q : Value → Shared → Prop} (hu : A.units + 1 < cLine) (X : K.In s.heap) (I : PySem.W.InstAt s.heap x ox C od) (hb : PySem.W.Looks (model prog w) s.heap (typeOf b) tb) (hn : PySem.W.notFirst K C tb = true)
    (ne : PySem.W.findIn K (.ref C) "__ne__" = some (some (.builtin "object.__ne__"))) (eq : PySem.W.findIn K (.ref C) "__eq__" = some (some (.ref f))) (hf : PySem.W.isFn K (.ref f) = true) (oC : PySem.W.subIn K (.ref C) (.type "object") = some true)
    (h : wpAny (model prog w) A.in1 (call (.ref f) [.ref x, b]) (fun v s' => ∃ r, v = .bool r ∧ Q (.bool (!r)) s') E s) : wpAny (model prog w) A (richCompare .NotEq (.ref x) b) Q E s := by
  have entry : wpAny (model prog w) A (call (.builtin "object.__ne__") ([.ref x] ++ [b])) (fun v s' => ∃ r, v = .bool r ∧ Q v s') E s := by
    refine wpAny_call (codeAny_call_builtin (by decide +kernel) F.cmpEntry_ne (slot_one X I oC ?_))
    unfold Builtin.«object.__ne__»
    refine wpAny_bind (m := slotArgs _ _ _) (wpAny_pure ?_)
    refine wpAny_bind (wpAny_cRoomFor hu ?_)
    refine wpAny_bind (PySem.W.ifBound_K X I eq hf (wpAny_mono h (fun v s1 ⟨r, e, q⟩ => ?_) fun _ _ z => z))
    subst e
    refine wpAny_bind (wpAny_truthy_bool ?_)
    exact wpAny_pure ⟨_, rfl, q⟩
  have cs : wpAny (model prog w) A (callSpecialIfBound? (.ref x) (cmpInfo .NotEq).2.1 [b]) (fun r s' => ∃ v, r = some (.bool v) ∧ Q (.bool v) s') E s := by
    unfold callSpecialIfBound? bindSpecialIfBound?
    refine wpAny_holding (wpAny_bind (wpAny_bind (wpAny_bind (I.type.here ((PySem.W.looks_findIn X ne).here ?_)))))
    refine wpAny_bind (wpAny_askSetting (wpAny_ite ?_))
    have bd : bindSpecial (.builtin "object.__ne__") (.ref x) = pure (.builtin "object.__ne__", [.ref x]) := rfl
    simp only [bd]
    have fin : wpAny (model prog w) A (call (.builtin "object.__ne__") ([.ref x] ++ [b]) >>= fun v => pure (some v)) (fun r s' => ∃ v, r = some (.bool v) ∧ Q (.bool v) s') E s := by
      refine wpAny_bind (wpAny_mono entry (fun v s1 ⟨r, e, q⟩ => ?_) fun _ _ z => z)
      subst e
      exact wpAny_pure ⟨_, rfl, q⟩
    split
    · exact wpAny_bind (wpAny_pure (wpAny_pure (by exact fin)))
    · exact wpAny_tryCatch (wpAny_bind (wpAny_pure (wpAny_pure (by exact fin))))
  have one : wpAny (model prog w) A (tryCompare (.ref x) (cmpInfo .NotEq).2.1 b) (fun r s' => ∃ v, r = some v ∧ Q v s') E s := by
    unfold tryCompare
    refine wpAny_bind (wpAny_mono cs (fun r s1 ⟨v, e, q⟩ => ?_) fun _ _ z => z)
    subst e
    exact wpAny_pure ⟨_, rfl, q⟩
  unfold richCompare
  simp only [oneThing_ref]
  refine wpAny_holding (wpAny_bind (wpAny_cRoomFor (by omega) ?_))
  refine wpAny_bind (I.type.here (wpAny_bind (hb.here ?_)))
  have last : wpAny (model prog w) A (tryCompare (.ref x) (cmpInfo .NotEq).2.1 b) (fun r s' => ∃ v, r = some v ∧ Q v s') E s := one
  split
  · rename_i q
    have e : PySem.W.subIn K tb (.ref C) = some false := by
      rcases Bool.or_eq_true_iff.mp hn with e | e
      · rw [beq_iff_eq.mp e] at q; simp at q
      · exact beq_iff_eq.mp e
    refine wpAny_bind ((PySem.W.looks_subIn X e).here ?_)
    simp only [Bool.false_eq_true, if_false]
    refine wpAny_bind (wpAny_mono last (fun r s1 ⟨v, e, hq⟩ => ?_) fun _ _ e => e)
    subst e
    exact wpAny_pure hq
  · refine wpAny_bind (wpAny_pure ?_)
    simp only [Bool.false_eq_true, if_false]
    refine wpAny_bind (wpAny_mono last (fun r s1 ⟨v, e, hq⟩ => ?_) fun _ _ e => e)
    subst e
    exact wpAny_pure hq
end
end Tx

namespace Tx
open PySem PySem.Spec PyProof.Rows L2
section
variable {prog : Program} {w : World} {A : Around} {E : Value → Shared → Prop} {s : Shared} {K : PySem.W.Frag} {x C f : Addr} {ox : Obj} {od : Option Obj} {b tb : Value}
theorem is_type_bool : isType (.type "bool") = pure true := by first | rfl | kernel_rfl | (unfold isType; rw [isSubtype_type]; kernel_rfl)
/-- bool(x), by an own __bool__ -/
theorem bool_own {Q : Value → Shared → Prop} (X : K.In s.heap) (I : PySem.W.InstAt s.heap x ox C od) (at_ : PySem.W.findIn K (.ref C) "__bool__" = some (some (.ref f))) (fn : PySem.W.isFn K (.ref f) = true)
    (h : wpAny (model prog w) A.in1.in1 (call (.ref f) [.ref x]) (fun r s1 => ∃ c, r = Value.bool c ∧ Q r s1) E s) : wpAny (model prog w) A (call (.type "bool") [.ref x]) Q E s := by
  refine callType_codes (Bi := Builtin.«object.__init__») (Q₁ := fun r s1 => ∃ c, r = Value.bool c ∧ Q r s1) F.called_bool (F.typeCall_bool_1 _) F.entry_object_init ?made ?next
  case next =>
    rintro v s1 ⟨c, rfl, q⟩
    exact ⟨rfl, F.args_object_init_2 _ _, object_init_meets F.called_bool.init.lookup F.called_bool.made (by decide) prog w A.in1 _ s1 ⟨rfl, rfl, q⟩⟩
  case made =>
    apply codeAny_of_tree
    show wpAny _ A.in1.in1 (checkBuiltinCall "bool.__new__" ⟨[.type "bool", .ref x], []⟩ >>= fun _ => again (.builtin "bool.__new__" ⟨[.type "bool", .ref x], []⟩)) _ _ s
    refine wpAny_bind (wpAny_of_eq (F.newCall_bool_1 _) (wpAny_pure ⟨plainId_quiet (by decide +kernel) _, codeAny_builtin F.entry_bool_new ?_⟩))
    rw [Around.under_plainId (by decide +kernel) _]
    unfold Builtin.«bool.__new__»
    refine wpAny_bind (wpAny_of_eq is_type_bool ?_)
    refine PySem.W.KFB.if_not rfl (wpAny_bind (wpAny_of_eq F.conv_sub_bool (PySem.W.KFB.if_not rfl ?_)))
    refine wpAny_bind (m := someArgs _ _ _ _) (wpAny_pure ?_)
    unfold truthy
    refine wpAny_bind (wpAny_bind (m := callSpecial? (.ref x) (Str.ofString "__bool__")) (PySem.W.special_fn X I at_ (beq_iff_eq.mp fn) (wpAny_mono h (fun v s1 ⟨c, e, q⟩ => ?_) fun _ _ z => z)))
    subst e
    exact wpAny_pure (wpAny_pure ⟨_, rfl, q⟩)
/-- what the fragment says of a built-in type that stands on the right of an operator -/
structure RightT (K : PySem.W.Frag) (C : Addr) (nm T : String) : Prop where
  op : ∃ o, PySem.W.findIn K (.type T) (PySem.dunder nm) = some o
  rop : ∃ o, PySem.W.findIn K (.type T) (dunderR nm) = some o
  sub : PySem.W.subIn K (.type T) (.ref C) = some false
structure OwnBin (K : PySem.W.Frag) (C : Addr) (nm : String) : Prop where
  first : PySem.W.selfFirst K C = true
  rop : ∃ o, PySem.W.findIn K (.ref C) (dunderR nm) = some o ∧ (o = none ∨ ∃ g : Addr, o = some (.ref g))
theorem bin_own {op : Operator} {T : String} {Q : Value → Shared → Prop} (X : K.In s.heap) (I : PySem.W.InstAt s.heap x ox C od) (ty : PySem.W.Looks (model prog w) s.heap (typeOf b) (.type T)) (O : OwnBin K C op.info.2) (R : RightT K C op.info.2 T)
    (at_ : PySem.W.findIn K (.ref C) (PySem.dunder op.info.2) = some (some (.ref f))) (fn : PySem.W.isFn K (.ref f) = true)
    (h : wpAny (model prog w) A (call (.ref f) [.ref x, b]) (PySem.W.CmpBack Q) E s) : wpAny (model prog w) A (binaryOp op (.ref x) b) Q E s := by
  obtain ⟨cd, rest, h1, h2⟩ := PySem.W.ksp_first O.first
  obtain ⟨⟨o1, r1⟩, ⟨o2, r2⟩, sub⟩ := R
  obtain ⟨o3, r3, r4⟩ := O.rop
  have go := PySem.W.ksp_try X I at_ fn h
  have k1 : PySem.W.Looks (model prog w) s.heap (fillsNumberSlot (.ref C) op.info.2) true := PySem.W.fills_K X h1 h2 at_
  have k2 := PySem.W.ksp_fillsT (M := model prog w) X r1 r2
  have k3 : PySem.W.Looks (model prog w) s.heap (isSubtype (.type T) (.ref C)) false := PySem.W.looks_subIn X sub
  have k4 : PySem.W.Looks (model prog w) s.heap (numberSlotInPython (.ref C) op.info.2) true := PySem.W.ksp_inPy X at_ r3 r4
  have k5 : PySem.W.Looks (model prog w) s.heap (numberSlotInPython (.type T) op.info.2) false := PySem.W.Looks.of_pure rfl
  have k6 : PySem.W.Looks (model prog w) s.heap (typeLookup (.type T) (dunderR op.info.2)) o2 := PySem.W.looks_findIn X r2
  have k7 : PySem.W.Looks (model prog w) s.heap (typeOf (.ref x)) (.ref C) := I.type
  generalize ((o1.isSome && !isSeqSlot o1) || (o2.isSome && !isSeqSlot o2)) = rt at k2
  have no : (Value.ref C == Value.type T) = false := Bool.eq_false_iff.mpr fun z => by cases beq_iff_eq.mp z
  clear h at_ r1 r2 r3 O
  obtain ⟨sy, nm, hi⟩ : ∃ sy nm, op.info = (sy, nm) := ⟨_, _, rfl⟩
  rw [hi] at go k1 k2 k4 k5 k6
  dsimp only at go k1 k2 k4 k5 k6
  obtain ⟨hp, g, d, tt, os⟩ := s
  simp only [binaryOp, hi]
  refine wpAny_holding (wpAny_bind ?_)
  unfold binaryOp1
  refine wpAny_bind (k7.at (wpAny_bind (ty.at (wpAny_bind (k1.at ?_)))))
  simp only [no, Bool.false_eq_true, if_false]
  cases rt <;>
  · ksp_lk
    refine wpAny_mono go (fun r s1 ⟨v, e, q⟩ => ?_) fun _ _ z => z
    subst e
    ksp_lk
    exact q
end
end Tx

namespace Tx
open PySem PySem.Spec PyProof.Rows L2
/-! ## Operators of a class over data -/
abbrev RM2 := PyData → PyData → Wd → DQ → Prop
abbrev RM1 := List PyData → Wd → DQ → Prop
def lift2M (K : PySem.W.Frag) (rd : RM2) : R2 := fun x y H Q => ∃ J ω dx dy q, Rw K J H ω ∧ Rp K J x dx ∧ Rp K J y dy ∧ CovQ K J H ω q Q ∧ rd dx dy ω q
def liftAM (K : PySem.W.Frag) (rd : RM1) : List V → Hp → VK → Prop := fun xs H Q => ∃ J ω ds q, Rw K J H ω ∧ RpAll K J xs ds ∧ CovQ K J H ω q Q ∧ rd ds ω q
def CovW (K : PySem.W.Frag) (J H : Hp) (ω : Wd) (q : Wd → Prop) (Q : Hp → Prop) : Prop := ∀ ω' J' H', q ω' → Grow J H ω J' H' ω' → Rw K J' H' ω' → Q H'
abbrev RMS := PyData → PyData → PyData → Wd → (Wd → Prop) → Prop
def liftSt (K : PySem.W.Frag) (rd : RMS) : TSet := fun o i v H Q => ∃ J ω dO dI dV q, Rw K J H ω ∧ Rp K J o dO ∧ Rp K J i dI ∧ Rp K J v dV ∧ CovW K J H ω q Q ∧ rd dO dI dV ω q
/-- the built-in type of data -/
def tyR (ω : Wd) (d : PyData) : Option String := match rsv ω d with
  | .none => some "NoneType"
  | .bool _ => some "bool"
  | .int _ => some "int"
  | .str _ => some "str"
  | .list _ => some "list"
  | _ => none
/-- an instance of the class at C -/
def InsD (C : Addr) (m : Str) (ω : Wd) (d : PyData) : Prop := ∃ a mo, d = refD a ∧ ω a = some mo ∧ isIns C m mo
/-- self.m(..) by an operator -/
def rmOwn (C : Addr) (m : Str) (ok : Wd → PyData → Prop) (sp : DSp) : RM2 := fun dx dy ω q => InsD C m ω dx ∧ ok ω dy ∧ sp [dx, dy] ω q X0
def RgtOk (K : PySem.W.Frag) (C : Addr) (nm : String) (ω : Wd) (d : PyData) : Prop := (∃ T, tyR ω d = some T ∧ RightT K C nm T) ∨ ∃ m, InsD C m ω d
def rmNe (C : Addr) (sp : DSp) : RM2 := fun dx dy ω q => InsD C "__eq__" ω dx ∧ (∃ m, InsD C m ω dy) ∧ sp [dx, dy] ω (fun r ω1 => ∃ b, r = .bool b ∧ q (.bool (!b)) ω1) X0
def rmEq (C : Addr) (sp : DSp) : RM2 := fun dx dy ω q => InsD C "__eq__" ω dx ∧ (∃ m, InsD C m ω dy) ∧ sp [dx, dy] ω q X0
def rmLen (C : Addr) (sp : DSp) : RM1 := fun ds ω q => ∃ d, ds = [d] ∧ InsD C "__len__" ω d ∧ sp [d] ω (fun r ω1 => ∃ n : Int, r = .int n ∧ 0 ≤ n ∧ n < 2 ^ 63 ∧ q r ω1) X0
def rmBool (C : Addr) (sp : DSp) : RM1 := fun ds ω q => ∃ d, ds = [d] ∧ InsD C "__bool__" ω d ∧ sp [d] ω (fun r ω1 => ∃ b, r = .bool b ∧ q r ω1) X0
def rsOwn (C : Addr) (sp : DSp) : RMS := fun dO dI dV ω q => InsD C "__setitem__" ω dO ∧ sp [dO, dI, dV] ω (fun _ ω1 => q ω1) X0
def rsList : RMS := fun dO dI dV ω q => ∃ (a : Addr) (xs : List PyData) (k : Int) (j : Nat), dO = refD a ∧ dI = .int k ∧ ω a = some (.lst xs) ∧ ixN xs.length k = some j ∧ q (updW ω a (.lst (xs.set j dV)))
section
variable {X : Cx} {K : PySem.W.Frag} {pins : List (Addr × Obj)} {σ : L2.St} {J H : Hp} {ω : Wd} {s : Shared} {a C dx : Addr} {fs : List (Str × V)} {v : V} {u : Value} {d : PyData} {m : Str} {j k : Nat} {ps : List Str} {sp : DSp} {A : Around}
theorem inst_at (I : L2.Inv X pins σ H s) (e : H a = some (.ins C dx fs)) : ∃ od, PySem.W.InstAt s.heap a (PySem.W.instObj C dx) C (some od) := by
  obtain ⟨mA, O, _⟩ := ins_get I.hok e
  obtain ⟨od, J, _⟩ := O.look
  exact ⟨od, J⟩
theorem insD_at (w : Rw K J H ω) (I : L2.Inv X pins σ H s) (r : Rp K J v d) (rv : RelV v u) (i : InsD C m ω d) : ∃ a dx od, v = .ref a ∧ u = .ref a ∧ PySem.W.InstAt s.heap a (PySem.W.instObj C dx) C (some od) := by
  obtain ⟨a, mo, rfl, e, i⟩ := i
  obtain rfl := rp_ref r
  obtain ⟨dx, fs, e2, _⟩ := w.ins e i
  obtain ⟨od, J⟩ := inst_at I e2
  exact ⟨a, dx, od, rfl, rv, J⟩
theorem looks_ty {M : Model} {T : String} (w : Rw K J H ω) (I : L2.Inv X pins σ H s) (r : Rp K J v d) (rv : RelV v u) (t : tyR ω d = some T) : PySem.W.Looks M s.heap (typeOf u) (.type T) := by
  unfold tyR at t
  cases e : rsv ω d with
  | none => rw [e] at t; cases t; rw [(rp_flat r).2.2.2 e] at rv; cases (show u = Value.none from rv); exact PySem.W.Looks.of_pure rfl
  | bool b => rw [e] at t; cases t; rw [(rp_flat r).2.2.1 b e] at rv; cases (show u = Value.bool b from rv); exact PySem.W.Looks.of_pure rfl
  | int i => rw [e] at t; cases t; rw [(rp_flat r).2.1 i e] at rv; obtain ⟨tk, rfl⟩ := (show ∃ t, u = Value.int i t from rv); exact PySem.W.Looks.of_pure rfl
  | str z => rw [e] at t; cases t; rw [(rp_flat r).1 z e] at rv; obtain ⟨tk, rfl⟩ := (show ∃ t, u = Value.str z t from rv); exact PySem.W.Looks.of_pure rfl
  | list xs =>
    rw [e] at t
    cases t
    obtain ⟨a, vs, rfl, ha, _⟩ := rp_list w r e
    cases (show u = Value.ref a from rv)
    obtain ⟨its, n, _, ho, _⟩ := I.lst ha
    exact (PySem.W.Looks.ld ho).andThen .now
  | tuple _ => rw [e] at t; cases t
  | dict _ => rw [e] at t; cases t
/-- the method runs -/
theorem own_run {f : Addr} {fd : FuncData} {us : List Value} {vs : List V} {ts : List PyData} {q : DQ} {Q : VK} (F : FnG X.prog X.w X.K X.mg X.base CX0 j f fd ps (spD K sp)) (hb : L2.Binds X.K fd ps []) (hr : Room j A) (gd : A.guards = some [])
    (e0 : Env0 X.prog X.w X.K X.mg X.base A X.stack s H) (I : L2.Inv X pins σ H s) (rel : Vals vs us) (w : Rw K J H ω) (rs : RpAll K J vs ts) (cq : CovQ K J H ω q Q) (z : sp ts ω q X0) : wpAny (model X.prog X.w) A (call (.ref f) us) (EP X pins σ Q) X.xe s :=
  run_g (E := fun _ _ _ => False) F hr gd hb e0 (fun _ _ _ _ _ _ h => False.elim h) I rel ⟨J, ω, ts, q, X0, w, rs, cq, (fun _ _ _ _ _ _ z => False.elim z), z⟩
theorem dm_bin {op : Operator} (hK : X.K = K) (M : Mfn X.prog X.w X.K X.mg X.base CX0 j C m ps (spD K sp)) (c : Ct X.mg X.A k) (h : j ≤ k) (O : OwnBin K C op.info.2) (hn : PySem.dunder op.info.2 = m := by rfl) : OpR X (binaryOp op) (lift2M K (rmOwn C m (RgtOk K C op.info.2) sp)) := by
  subst hK hn
  obtain ⟨f, fd, F, hm, hb⟩ := M
  intro pins s σ H x y v u Q I rx ry ⟨J, ω, dx, dy, q, w, r1, r2, cq, i1, i2, z⟩
  obtain ⟨a, d1, od, rfl, rfl, J1⟩ := insD_at w I r1 rx i1
  have run := own_run F hb (c.r.mono h) c.g I.env0 I (.cons rx (.cons ry .nil)) w (.cons r1 (.cons r2 .nil)) cq z
  have back : wpAny (model X.prog X.w) X.A (call (.ref f) [.ref a, u]) (PySem.W.CmpBack (EP X pins σ Q)) X.xe s := thn run fun v' s' ⟨z', H', I', rz, qz⟩ => SlX.cmpback rz ⟨z', H', I', rz, qz⟩
  rcases i2 with ⟨T, t, R⟩ | ⟨m, i2⟩
  · exact bin_own I.kIn J1 (looks_ty w I r2 ry t) O R hm.at_ hm.fn back
  · obtain ⟨b, d2, od2, rfl, rfl, J2⟩ := insD_at w I r2 ry i2
    obtain ⟨mm, hF⟩ := I.fr
    exact PySem.W.binop_K hF I.ok.mod.kin J1 J2.type O.first hm.at_ hm.fn back
theorem dm_inp {op : Operator} (hK : X.K = K) (M : Mfn X.prog X.w X.K X.mg X.base CX0 j C m ps (spD K sp)) (c : Ct X.mg X.A k) (h : j ≤ k) (O : PySem.W.selfFirst K C = true) (hn : dunderI op.info.2 = m := by rfl) : PIp X op (lift2M K (rmOwn C m (fun _ _ => True) sp)) := by
  subst hK hn
  obtain ⟨f, fd, F, hm, hb⟩ := M
  intro pins s σ H x y v u Q I rx ry ⟨J, ω, dx, dy, q, w, r1, r2, cq, i1, i2, z⟩
  obtain ⟨a, d1, od, rfl, rfl, J1⟩ := insD_at w I r1 rx i1
  have run := own_run F hb (c.r.mono h) c.g I.env0 I (.cons rx (.cons ry .nil)) w (.cons r1 (.cons r2 .nil)) cq z
  obtain ⟨mm, hF⟩ := I.fr
  exact PySem.W.ksp_inplace hF I.ok.mod.kin J1 O hm.at_ hm.fn (thn run fun v' s' ⟨z', H', I', rz, qz⟩ => SlX.cmpback rz ⟨z', H', I', rz, qz⟩)
theorem first_self : PySem.W.notFirst K C (.ref C) = true := by simp [PySem.W.notFirst]
theorem dm_eq (hK : X.K = K) (M : Mfn X.prog X.w X.K X.mg X.base CX0 j C "__eq__" ps (spD K sp)) (c : Ct X.mg X.A k) (h : j ≤ k) : OpR X (compareOp .Eq) (lift2M K (rmEq C sp)) := by
  subst hK
  obtain ⟨f, fd, F, hm, hb⟩ := M
  intro pins s σ H x y v u Q I rx ry ⟨J, ω, dx, dy, q, w, r1, r2, cq, i1, ⟨m2, i2⟩, z⟩
  obtain ⟨a, d1, od, rfl, rfl, J1⟩ := insD_at w I r1 rx i1
  have run := own_run F hb (c.r.mono h) c.g I.env0 I (.cons rx (.cons ry .nil)) w (.cons r1 (.cons r2 .nil)) cq z
  obtain ⟨b, d2, od2, rfl, rfl, J2⟩ := insD_at w I r2 ry i2
  obtain ⟨mm, hF⟩ := I.fr
  exact PySem.W.cmp_K (op := .Eq) c.r.units0 hF I.ok.mod.kin J1 J2.type first_self hm.at_ hm.fn (thn run fun v' s' ⟨z', H', I', rz, qz⟩ => SlX.cmpback rz ⟨z', H', I', rz, qz⟩)
theorem dm_ne (hK : X.K = K) (M : Mfn X.prog X.w X.K X.mg X.base CX0 j C "__eq__" ps (spD K sp)) (c : Ct X.mg X.A k) (h : j + 1 ≤ k) (ne : PySem.W.findIn K (.ref C) "__ne__" = some (some (.builtin "object.__ne__"))) (oC : PySem.W.subIn K (.ref C) (.type "object") = some true) :
    OpR X (compareOp .NotEq) (lift2M K (rmNe C sp)) := by
  subst hK
  obtain ⟨f, fd, F, hm, hb⟩ := M
  intro pins s σ H x y v u Q I rx ry ⟨J, ω, dx, dy, q, w, r1, r2, cq, i1, ⟨m2, i2⟩, z⟩
  obtain ⟨a, d1, od, rfl, rfl, J1⟩ := insD_at w I r1 rx i1
  have cq2 : CovQ X.K J H ω (fun r ω1 => ∃ b, r = .bool b ∧ q (.bool (!b)) ω1) (fun v' H' => ∃ b, v' = .bl b ∧ Q (.bl (!b)) H') := fun r ω' v' J' H' ⟨b, e, z⟩ g w' rp => by
    subst e
    cases rp
    exact ⟨b, rfl, cq _ _ _ _ _ z g w' (.bl _)⟩
  have run := own_run F hb (c.r.mono h).in1 c.g I.env0.in1 I (.cons rx (.cons ry .nil)) w (.cons r1 (.cons r2 .nil)) cq2 z
  obtain ⟨b, d2, od2, rfl, rfl, J2⟩ := insD_at w I r2 ry i2
  refine ne_own (by have := c.r.units; omega) I.kIn J1 J2.type first_self ne hm.at_ hm.fn oC (thn run fun v' s' ⟨z', H', I', rz, b', e, qz⟩ => ?_)
  subst e
  exact ⟨b', rz, .bl (!b'), H', I', rfl, qz⟩
theorem dc_lenO (hK : X.K = K) (M : Mfn X.prog X.w X.K X.mg X.base CX0 j C "__len__" ps (spD K sp)) (c : Ct X.mg X.A k) (h : j + 1 ≤ k) : CallR X (.builtin "len") (liftAM K (rmLen C sp)) := by
  subst hK
  obtain ⟨f, fd, F, hm, hb⟩ := M
  intro pins s σ H xs us Q I rel ⟨J, ω, ds, q, w, rs, cq, d, e, i1, z⟩
  subst e
  cases rs with
  | cons r1 r2 =>
  cases r2
  obtain ⟨u, rfl, rx⟩ := vals1 rel
  obtain ⟨a, d1, od, rfl, rfl, J1⟩ := insD_at w I r1 rx i1
  have cq2 : CovQ X.K J H ω (fun r ω1 => ∃ n : Int, r = .int n ∧ 0 ≤ n ∧ n < 2 ^ 63 ∧ q r ω1) (fun v' H' => ∃ n : Int, v' = .int n ∧ 0 ≤ n ∧ n < 2 ^ 63 ∧ Q (.int n) H') := fun r ω' v' J' H' ⟨n, e, h0, h1, z⟩ g w' rp => by
    subst e
    cases rp
    exact ⟨n, rfl, h0, h1, cq _ _ _ _ _ z g w' (.int _)⟩
  have run := own_run F hb (c.r.mono h).in1 c.g I.env0.in1 I rel w (.cons r1 .nil) cq2 z
  obtain ⟨mm, hF⟩ := I.fr
  refine PySem.W.len_K hF I.ok.mod.kin J1 hm.at_ hm.fn (thn run fun v' s' ⟨z', H', I', rz, n, e, h0, h1, qz⟩ => ?_)
  subst e
  obtain ⟨tk, rfl⟩ := (show ∃ t, v' = Value.int n t from rz)
  exact ⟨⟨h0, h1⟩, .int n, H', I'.tok _, ⟨_, rfl⟩, qz⟩
theorem dc_boolO (hK : X.K = K) (M : Mfn X.prog X.w X.K X.mg X.base CX0 j C "__bool__" ps (spD K sp)) (c : Ct X.mg X.A k) (h : j + 2 ≤ k) : CallR X (.type "bool") (liftAM K (rmBool C sp)) := by
  subst hK
  obtain ⟨f, fd, F, hm, hb⟩ := M
  intro pins s σ H xs us Q I rel ⟨J, ω, ds, q, w, rs, cq, d, e, i1, z⟩
  subst e
  cases rs with
  | cons r1 r2 =>
  cases r2
  obtain ⟨u, rfl, rx⟩ := vals1 rel
  obtain ⟨a, d1, od, rfl, rfl, J1⟩ := insD_at w I r1 rx i1
  have cq2 : CovQ X.K J H ω (fun r ω1 => ∃ b, r = .bool b ∧ q r ω1) (fun v' H' => ∃ b, v' = .bl b ∧ Q (.bl b) H') := fun r ω' v' J' H' ⟨b, e, z⟩ g w' rp => by
    subst e
    cases rp
    exact ⟨b, rfl, cq _ _ _ _ _ z g w' (.bl _)⟩
  have run := own_run F hb (c.r.mono h).in1.in1 c.g I.env0.in1.in1 I rel w (.cons r1 .nil) cq2 z
  refine bool_own I.kIn J1 hm.at_ hm.fn (thn run fun v' s' ⟨z', H', I', rz, b, e, qz⟩ => ?_)
  subst e
  exact ⟨b, rz, .bl b, H', I', rz, qz⟩
theorem set_own (hK : X.K = K) (M : Mfn X.prog X.w X.K X.mg X.base CX0 j C "__setitem__" ps (spD K sp)) (c : Ct X.mg X.A k) (h : j ≤ k) (nq : PySem.W.noSeq K C = true) : PSet X (liftSt K (rsOwn C sp)) := by
  subst hK
  obtain ⟨f, fd, F, hm, hb⟩ := M
  intro pins s σ H o i v ov iv u Q I ro ri rv ⟨J, ω, dO, dI, dV, q, w, r1, r2, r3, cq, i1, z⟩
  obtain ⟨a, d1, od, rfl, rfl, J1⟩ := insD_at w I r1 ro i1
  have cq2 : CovQ X.K J H ω (fun _ ω1 => q ω1) (fun _ H' => Q H') := fun r ω' v' J' H' z g w' _ => cq _ _ _ z g w'
  have run := own_run F hb (c.r.mono h) c.g I.env0 I (.cons ro (.cons ri (.cons rv .nil))) w (.cons r1 (.cons r2 (.cons r3 .nil))) cq2 z
  obtain ⟨mm, hF⟩ := I.fr
  exact PySem.W.ksp_setItem hF I.ok.mod.kin J1 nq hm.at_ hm.fn (thn run fun v' s' ⟨z', H', I', rz, qz⟩ => ⟨H', I', qz⟩)
theorem set_listO : PSet X (liftSt K rsList) := by
  intro pins s σ H o i v ov iv u Q I ro ri rv ⟨J, ω, dO, dI, dV, q, w, r1, r2, r3, cq, a, xs, k, jj, e1, e2, e3, e4, z⟩
  subst e1 e2
  obtain rfl := rp_ref r1
  cases r2
  obtain ⟨vs, h1, h2⟩ := w.cell a _ e3
  refine set_list pins s σ H _ _ v ov iv u Q I ro ri rv ⟨a, vs, k, jj, rfl, rfl, h1, by rw [h2.length]; exact e4, cq _ _ _ z (Grow.set e3 rfl _) (w.set e3 rfl ⟨_, upd_same, h2.set jj r3⟩)⟩
end
end Tx

namespace Tx
open PySem PySem.Spec PyProof.Rows L2
/-! ## Rules: own operators, own lists that a comprehension makes -/
def dOpM (rd : RM2) (ta tb : DTE) (ρ : DS) (ω : Wd) (q : DQ) (x : DXK) : Prop := ta ρ ω (fun a ω1 => tb ρ ω1 (fun b ω2 => rd a b ω2 q) x) x
def dCBM (rd : RM1) (ta : DTA) (ρ : DS) (ω : Wd) (q : DQ) (x : DXK) : Prop := ta ρ ω (fun as ω1 => rd as ω1 q) x
def dAug (i : Nat) (te : DTE) (rd : RM2) (D : DEnds) (ρ : DS) (ω : Wd) : Prop := match ρ[i]? with
  | some (some d) => te ρ ω (fun r ω1 => rd d r ω1 fun v ω2 => D.nx (ρ.set i (some v)) ω2) (xcOf D ρ)
  | _ => False
def dSetS (to ti te : DTE) (rd : RMS) (D : DEnds) (ρ : DS) (ω : Wd) : Prop := te ρ ω (fun v ω1 => to ρ ω1 (fun o ω2 => ti ρ ω2 (fun i ω3 => rd o i v ω3 fun ω4 => D.nx ρ ω4) (xcOf D ρ)) (xcOf D ρ)) (xcOf D ρ)
/-- isinstance(x, C), C a class of the text -/
inductive TyD (K : PySem.W.Frag) (ω : Wd) : PyData → Value → Prop
  | data {d : PyData} (h : match rsv ω d with
      | .dict _ => False
      | _ => True) : TyD K ω d (.type (tyN (rsv ω d)))
  | ins {C : Addr} {m : Str} {d : PyData} (i : InsD C m ω d) (cl : Cls K C) (ha : PySem.W.findIn K (.ref C) "__class__" = some (some (.builtin "object.__class__")))
      (hn : PySem.W.specialIn K (.builtin "object.__class__") "__get__" = some (some (.builtin "getset_descriptor.__get__"))) (htk : PySem.W.takesIn K (.builtin "object.__class__") = some true)
      (hm : PySem.W.mroIn K C (.type "object") = some true) : TyD K ω d (.ref C)
def dIsC (K : PySem.W.Frag) (C : Addr) (te : DTE) (ρ : DS) (ω : Wd) (q : DQ) (x : DXK) : Prop := te ρ ω (fun r ω1 => ∃ t b, TyD K ω1 r t ∧ PySem.W.kitOne K t (.ref C) = some b ∧ q (.bool b) ω1) x
/-- a list that becomes data -/
def dFrzE (te : DTE) (ρ : DS) (ω : Wd) (q : DQ) (x : DXK) : Prop := te ρ ω (fun v ω1 => ∃ a ds, v = refD a ∧ ω1 a = some (.lst ds) ∧ q (.list ds) (delW ω1 a)) x
/-- a + b, both lists, a list of one's own -/
def rmCat : RM2 := fun a b ω q => ∃ xs ys, rsv ω a = .list xs ∧ rsv ω b = .list ys ∧ xs.length + ys.length ≤ sizeLine ∧ ∀ p, ω p = none → q (refD p) (updW ω p (.lst (xs ++ ys)))
theorem dm_cat {X : Cx} {K : PySem.W.Frag} (hK : X.K = K) : OpR X (binaryOp .Add) (lift2M K rmCat) := by
  subst hK
  intro pins s σ H x y v u Q I rx ry ⟨J, ω, dx, dy, q, w, hx, hy, c, xs, ys, ex, ey, l, z⟩
  obtain ⟨a, vs, rfl, ha, ra⟩ := rp_list w hx ex
  obtain ⟨b, ws, rfl, hb, rb⟩ := rp_list w hy ey
  exact op_cat pins s σ H _ _ v u Q I rx ry ⟨a, b, vs, ws, rfl, rfl, ha, hb, by rw [ra.length, rb.length]; exact l, fun p hp => c _ _ _ _ _ (z p (w.free hp).1) (Grow.own rfl hp _) (w.own rfl hp ⟨_, upd_same, ra.append rb⟩) (.ref p)⟩
section
variable {W : WX} {X : Cx} {K : PySem.W.Frag} {a b e o i t : Expr} {es : List Expr} {ta tb te to ti : DTE} {tA : DTA} {pos p pos' : Pos}
theorem dOpM_run {ra rb : TE} {rd : RM2} {σ : L2.St} {H J : Hp} {ω : Wd} {ρ : DS} {q : DQ} {x : DXK} {Q : VK}
    (ka : ∀ σ H J ω ρ q x Q, Rw K J H ω → Sl K J σ ρ → CovQ K J H ω q Q → CovX K J H ω x (fun c d H => W c d σ H) → ta ρ ω q x → ra σ H Q) (kb : ∀ σ H J ω ρ q x Q, Rw K J H ω → Sl K J σ ρ → CovQ K J H ω q Q → CovX K J H ω x (fun c d H => W c d σ H) → tb ρ ω q x → rb σ H Q)
    (w : Rw K J H ω) (s : Sl K J σ ρ) (cq : CovQ K J H ω q Q) (cx : CovX K J H ω x (fun c d H => W c d σ H)) (z : dOpM rd ta tb ρ ω q x) : tOp (lift2M K rd) ra rb σ H Q :=
  ka σ H J ω ρ _ x _ w s (fun r1 ω1 v1 J1 H1 z1 g1 w1 rp1 => kb σ H1 J1 ω1 ρ _ x _ w1 (s.mono g1.jj) (fun r2 ω2 v2 J2 H2 z2 g2 w2 rp2 => ⟨J2, ω2, r1, r2, q, w2, rp_mono g2.jj _ _ rp1, rp2, (cq.step g1).step g2, z2⟩) (cx.step g1) z1) cx z
theorem de_opM {op : Operator} {rd : RM2} (ho : OpR X (binaryOp op) (lift2M K rd)) (ha : DE W X K a ta) (hb : DE W X K b tb) : DE W X K (.BinOp a op b pos) (dOpM rd ta tb) := by
  obtain ⟨ra, pa, ka⟩ := ha
  obtain ⟨rb, pb, kb⟩ := hb
  exact ⟨_, pe_op ho pa pb, fun σ H J ω ρ q x Q w s cq cx z => dOpM_run ka kb w s cq cx z⟩
theorem de_cmpM {op : CmpOp} {rd : RM2} (ho : OpR X (compareOp op) (lift2M K rd)) (ha : DE W X K a ta) (hb : DE W X K b tb) (hm : behindInMarks op b = false) : DE W X K (.Compare a [op] [b] pos) (dOpM rd ta tb) := by
  obtain ⟨ra, pa, ka⟩ := ha
  obtain ⟨rb, pb, kb⟩ := hb
  exact ⟨_, pe_cmpR ho pa pb hm, fun σ H J ω ρ q x Q w s cq cx z => dOpM_run ka kb w s cq cx z⟩
theorem dt_cmpM {op : CmpOp} {rd : RM2} (ho : OpR X (compareOp op) (lift2M K rd)) (ha : DE W X K a ta) (hb : DE W X K b tb) (hm : behindInMarks op b = false) : DT W X K (.Compare a [op] [b] pos) (dTest (dOpM rd ta tb)) := by
  obtain ⟨ra, pa, ka⟩ := ha
  obtain ⟨rb, pb, kb⟩ := hb
  exact ⟨_, pt_cmpR ho pa pb hm, fun σ H J ω ρ q x Q w s cq cx z => dOpM_run ka kb w s (covT_test cq) cx z⟩
theorem de_callBM {x : Str} {id : String} {rd : RM1} (hc : CallR X (.builtin id) (liftAM K rd)) (hg : Gl X x) (hm : X.mg x = none) (hv : bootBuiltins x = some (.builtin id)) (ha : DAs W X K (e :: es) tA) (hn : x ≠ "__name__" := by decide) (hdb : (x == ("__debug__" : Str)) = false := by decide)
    (he : starEach (e :: es) X.env = (false, eval e X.env) :: starEach es X.env := by rfl) (hpl : (backTo pos (starEach es X.env)).any (·.1) = false := by rfl) : DE W X K (.Call (.Name x p) (e :: es) [] pos) (dCBM rd tA) := by
  obtain ⟨ra, pa, ka⟩ := ha
  exact ⟨_, pe_callB hc hg hm hv pa hn hdb he hpl, fun σ H J ω ρ q x Q w s cq cx z => ka σ H J ω ρ _ x _ w s (fun rs ω1 vs J1 H1 z1 g1 w1 rps => ⟨J1, ω1, rs, q, w1, rps, cq.step g1, z1⟩) cx z⟩
theorem de_callTyM {x : Str} {T : String} {rd : RM1} (hc : CallR X (.type T) (liftAM K rd)) (hg : Gl X x) (hm : X.mg x = none) (hv : bootBuiltins x = some (.type T)) (ha : DAs W X K (e :: es) tA) (hn : x ≠ "__name__" := by decide) (hdb : (x == ("__debug__" : Str)) = false := by decide)
    (he : starEach (e :: es) X.env = (false, eval e X.env) :: starEach es X.env := by rfl) (hpl : (backTo pos (starEach es X.env)).any (·.1) = false := by rfl) : DE W X K (.Call (.Name x p) (e :: es) [] pos) (dCBM rd tA) := by
  obtain ⟨ra, pa, ka⟩ := ha
  exact ⟨_, pe_callTy hc hg hm hv pa hn hdb he hpl, fun σ H J ω ρ q x Q w s cq cx z => ka σ H J ω ρ _ x _ w s (fun rs ω1 vs J1 H1 z1 g1 w1 rps => ⟨J1, ω1, rs, q, w1, rps, cq.step g1, z1⟩) cx z⟩
theorem ds_aug {n : Nat} {x : Str} {op : Operator} {rd : RM2} (hN : X.N.Nodup) (hi : X.N[n]? = some x) (hx : Loc X.env.scope x) (he : DE W X K e te) (ho : PIp X op (lift2M K rd)) (hf : X.fn x = true ∨ X.env.scope.names.lookup x = some .local := by first | exact .inl rfl | exact .inr rfl | assumption) :
    DSt W X K (.AugAssign (.Name x pos') op e pos) (dAug n te rd) := by
  obtain ⟨r, pe, k⟩ := he
  refine ⟨_, ps_aug hN hi hx pe ho hf, fun D DD σ H J ω ρ w s cs z => ?_⟩
  obtain ⟨v, d, h1, h2, z⟩ := s.var (q := fun d => te ρ ω (fun r ω1 => rd d r ω1 fun v ω2 => DD.nx (ρ.set n (some v)) ω2) (xcOf DD ρ)) z
  refine ⟨v, h1, k σ H J ω ρ _ _ _ w s (fun r ω1 v1 J1 H1 z1 g1 w1 rp => ?_) (cs.x s) z⟩
  refine ⟨J1, ω1, d, r, _, w1, rp_mono g1.jj _ _ h2, rp, fun r2 ω2 v2 J2 H2 z2 g2 w2 rp2 => ?_, z1⟩
  exact cs.nx _ _ _ _ _ z2 (g1.trans g2) w2 ((s.mono (g1.trans g2).jj).set n rp2)
theorem ds_setS {rd : RMS} {pos2 : Pos} (ho : DE W X K o to) (hi : DE W X K i ti) (he : DE W X K e te) (hset : PSet X (liftSt K rd))
    (ha : ∀ v, assign (.Subscript o i pos2) X.env v = (do
      let ov ← holding [v] (eval o X.env)
      let iv ← holding [v, ov] (eval i X.env)
      standAt pos2
      holding [v, ov, iv] (setItem ov iv v)
      release [v, ov, iv] []) := by intro _; rfl)
    (hs : swapsWithSole [.Subscript o i pos2] e pos.line X.env = pure false := by rfl) (hw : swappedStores [.Subscript o i pos2] e X.env = pure none := by rfl) (h1 : (assignEach [.Subscript o i pos2] X.env).map (·.2) = [assign (.Subscript o i pos2) X.env] := by rfl) :
    DSt W X K (.Assign [.Subscript o i pos2] e pos) (dSetS to ti te rd) := by
  obtain ⟨ro, po, ko⟩ := ho
  obtain ⟨ri, pi, ki⟩ := hi
  obtain ⟨re, pe, ke⟩ := he
  refine ⟨_, ps_asg pe (pg_sub po pi hset ha) hs hw h1, fun D DD σ H J ω ρ w s cs z => ke σ H J ω ρ _ _ _ w s (fun r ω1 v J1 H1 z1 g1 w1 rp => ?_) (cs.x s) z⟩
  refine ko σ H1 J1 ω1 ρ _ _ _ w1 (s.mono g1.jj) (fun r2 ω2 v2 J2 H2 z2 g2 w2 rp2 => ?_) ((cs.x s).step g1) z1
  refine ki σ H2 J2 ω2 ρ _ _ _ w2 (s.mono (g1.trans g2).jj) (fun r3 ω3 v3 J3 H3 z3 g3 w3 rp3 => ?_) ((cs.x s).step (g1.trans g2)) z2
  refine ⟨J3, ω3, r2, r3, r, _, w3, rp_mono g3.jj _ _ rp2, rp3, rp_mono (g2.trans g3).jj _ _ rp, fun ω4 J4 H4 z4 g4 w4 => ?_, z3⟩
  exact cs.nx _ _ _ _ _ z4 (((g1.trans g2).trans g3).trans g4) w4 (s.mono (((g1.trans g2).trans g3).trans g4).jj)
theorem tyD_x {J H : Hp} {ω : Wd} {v : V} {d : PyData} {t : Value} (w : Rw K J H ω) (r : Rp K J v d) (h : TyD K ω d t) : TyX K H v t := by
  cases h with
  | data h => exact tyx_rp w r h
  | ins i cl ha hn htk hm =>
    obtain ⟨a, mo, rfl, e, i⟩ := i
    obtain rfl := rp_ref r
    obtain ⟨dx, fs, e2, _⟩ := w.ins e i
    exact .base (.ins e2 cl ha hn htk hm)
theorem de_isC {C : Addr} (hK : X.K = K) (hg : Gl X "isinstance") (hm : X.mg "isinstance" = none) (ha : DE W X K a ta) (ht : PE X t (tC (.ref C)))
    (he : starEach (a :: [t]) X.env = (false, eval a X.env) :: starEach [t] X.env := by rfl) (he2 : starEach [t] X.env = (false, eval t X.env) :: starEach [] X.env := by rfl) (hpl : (backTo pos (starEach [t] X.env)).any (·.1) = false := by rfl) :
    DE W X K (.Call (.Name "isinstance" p) [a, t] [] pos) (dIsC K C ta) := by
  subst hK
  obtain ⟨ra, pa, ka⟩ := ha
  refine ⟨_, pe_callB call_isi hg hm (by decide +kernel) (pa_cons pa (pa_cons ht pa_nil he2) he) (by decide) (by decide) he hpl, fun σ H J ω ρ q x Q w s cq cx z => ka σ H J ω ρ _ x _ w s (fun r ω1 v J1 H1 z1 g1 w1 rp => ?_) cx z⟩
  obtain ⟨t', b', ty, kt, z1⟩ := z1
  exact ⟨v, .ref C, t', .ref C, b', rfl, .own C, tyD_x w1 rp ty, kt, (cq.step g1).now w1 z1 (.bl _)⟩
theorem de_frzE (h : DE W X K e te) : DE W X K e (dFrzE te) := by
  obtain ⟨r, p, k⟩ := h
  refine ⟨r, p, fun σ H J ω ρ q x Q w s cq cx z => k σ H J ω ρ _ x Q w s (fun v ω1 u J1 H1 z1 g1 w1 rp => ?_) cx z⟩
  obtain ⟨a, ds, rfl, e1, z1⟩ := z1
  obtain rfl := rp_ref rp
  obtain ⟨vs, h3, h4⟩ := w1.cell a _ e1
  exact cq _ _ _ _ _ z1 (g1.trans (Grow.fix w1 e1 h3)) (w1.fix e1 h3) (.lst upd_same (rpAll_mono (same_new (w1.out _ _ e1) _) _ _ h4))
end
end Tx

namespace Tx
open PySem PySem.Spec PyProof.Rows L2
/-! ## Comprehensions that make a list of one's own; walks over one -/
def WalkP (K : PySem.W.Frag) (J : Hp) (I : It) (xs : List PyData) (P : Wd → Prop) : Prop := ∃ G Y, Walk I xs.length G Y ∧ (∀ J' H' ω', Same J J' → Rw K J' H' ω' → P ω' → G H') ∧
  ∀ i H v H' J' ω', i < xs.length → Same J J' → Rw K J' H ω' → P ω' → Y i H v H' → (H' = H ∧ ∃ d, xs[i]? = some d ∧ Rp K J' v d) ∨ ∃ T us ds, v = .ref T ∧ H T = none ∧ H' = upd H T (.tup us) ∧ RpAll K J' us ds ∧ xs[i]? = some (.tuple ds)
abbrev DTIo := DS → Wd → (List PyData → (Wd → Prop) → Wd → Prop) → DXK → Prop
structure DIo (W : WX) (X : Cx) (K : PySem.W.Frag) (tg iter : Expr) (di : DTIo) : Prop where
  ex : ∃ wi : TI, PI X tg iter wi ∧ ∀ σ H J ω ρ (k : List PyData → (Wd → Prop) → Wd → Prop) x (R : It → Hp → Prop), Rw K J H ω → Sl K J σ ρ → (∀ xs P ω1 J1 H1 I, k xs P ω1 → Grow J H ω J1 H1 ω1 → Rw K J1 H1 ω1 → WalkP K J1 I xs P → R I H1) →
    CovX K J H ω x (fun c d H => W c d σ H) → di ρ ω k x → wi σ H R
def dioD (di : DTI) (ρ : DS) (ω : Wd) (k : List PyData → (Wd → Prop) → Wd → Prop) (x : DXK) : Prop := di ρ ω (fun xs ω1 => k xs (fun _ => True) ω1) x
def dioO (te : DTE) (ρ : DS) (ω : Wd) (k : List PyData → (Wd → Prop) → Wd → Prop) (x : DXK) : Prop := te ρ ω (fun r ω1 => ∃ a xs, r = refD a ∧ ω1 a = some (.lst xs) ∧ k xs (fun ω' => ω' a = some (.lst xs)) ω1) x
section
variable {K : PySem.W.Frag} {J : Hp} {I : It} {xs : List PyData} {P : Wd → Prop}
theorem WalkD.p (h : WalkD K J I xs) : WalkP K J I xs P := by
  obtain ⟨G, Y, w, g, y⟩ := h
  refine ⟨G, Y, w, fun J' H' ω' s r _ => g J' H' s r.jh, fun i H v H' J' ω' hi s r _ z => ?_⟩
  rcases y i H v H' hi z with ⟨e, d, e1, e2⟩ | ⟨T, us, ds, e1, e2, e3, e4, e5⟩
  · exact .inl ⟨e, d, e1, rp_mono s _ _ e2⟩
  · exact .inr ⟨T, us, ds, e1, e2, e3, rpAll_mono s _ _ e4, e5⟩
theorem walk_own {a : Addr} {n : Nat} : Walk (Itl K a) n (fun H => ∃ vs, H a = some (.lst vs) ∧ vs.length = n) (fun i H v H' => H' = H ∧ ∀ vs, H a = some (.lst vs) → vs[i]? = some v) := by
  refine ⟨fun i H hi ⟨vs, e, l⟩ => ?_, fun H ⟨vs, e, l⟩ => ⟨vs, SqL.of e, by omega⟩, fun i H x H' hi _ y => ⟨y.1, fun vs e => y.2 vs (SqL.of e)⟩⟩
  have : i < vs.length := by omega
  exact ⟨vs, vs[i], SqL.of e, List.getElem?_eq_getElem this⟩
theorem walkP_own {a : Addr} : WalkP K J (Itl K a) xs (fun ω => ω a = some (.lst xs)) := by
  refine ⟨_, _, walk_own, fun J' H' ω' _ r p => ?_, fun i H v H' J' ω' hi _ r p y => .inl ⟨y.1, ?_⟩⟩
  · obtain ⟨vs, e, ra⟩ := r.cell a _ p
    exact ⟨vs, e, ra.length⟩
  · obtain ⟨vs, e, ra⟩ := r.cell a _ p
    exact ra.get (y.2 vs e)
end
section
variable {W : WX} {X : Cx} {K : PySem.W.Frag} {tg e : Expr} {te : DTE} {di : DTI}
theorem dio_d (h : DI W X K tg e di) : DIo W X K tg e (dioD di) := by
  obtain ⟨wi, p, k⟩ := h
  exact ⟨wi, p, fun σ H J ω ρ kk x R w s c cx z => k σ H J ω ρ _ x R w s (fun xs ω1 J1 H1 I z1 g1 w1 wd => c _ _ _ _ _ _ z1 g1 w1 wd.p) cx z⟩
theorem dio_o (hK : X.K = K) (h : DE W X K e te) : DIo W X K tg e (dioO te) := by
  subst hK
  obtain ⟨t, p, k⟩ := h
  refine ⟨_, pi_data p, fun σ H J ω ρ kk x R w s c cx z => k σ H J ω ρ _ x _ w s (fun r ω1 v J1 H1 z1 g1 w1 rp => ?_) cx z⟩
  obtain ⟨a, xs, rfl, e1, z1⟩ := z1
  obtain rfl := rp_ref rp
  obtain ⟨vs, e2, _⟩ := w1.cell a _ e1
  exact .inl ⟨a, rfl, ⟨vs, SqL.of e2⟩, c _ _ _ _ _ _ z1 g1 w1 walkP_own⟩
end
def lcBody (gd : DTG) (tt : DTT) (te : DTE) (vs : List Nat) (ρ : DS) (q : DQ) (xs : List PyData) (P : Wd → Prop) (ω1 : Wd) : Prop := xs.length ≤ sizeLine ∧ ∃ Inv : Nat → List PyData → Wd → Prop, Inv 0 [] ω1 ∧ (∀ i acc ω2, Inv i acc ω2 → P ω2) ∧
  (∀ i y acc ω2, xs[i]? = some y → Inv i acc ω2 → acc.length ≤ i → gd y (wipeD ρ vs) fun ρ' => tt ρ' ω2 (fun b ω3 => if b = true then te ρ' ω3 (fun r ω4 => Inv (i + 1) (acc ++ [r]) ω4) X0 else Inv (i + 1) acc ω3) X0) ∧
  ∀ acc ω2, acc.length ≤ xs.length → Inv xs.length acc ω2 → ∀ p, ω2 p = none → q (refD p) (updW ω2 p (.lst acc))
def dLcO (di : DTIo) (gd : DTG) (tt : DTT) (te : DTE) (vs : List Nat) (ρ : DS) (ω : Wd) (q : DQ) (x : DXK) : Prop := di ρ ω (lcBody gd tt te vs ρ q) x
section
variable {K : PySem.W.Frag} {J J1 H H1 : Hp} {ω ω1 : Wd} {D : Addr} {us : List V} {acc : List PyData}
theorem Rw.own2 (w : Rw K J H ω) (hj : J D = none) (hw : Fr ω D) (h : H D = some (.lst us)) (r : RpAll K J us acc) : Rw K J H (updW ω D (.lst acc)) := by
  refine w.step (Same.refl _) w.jh (fun _ _ j => j) fun b m e => ?_
  by_cases z : b = D
  · subst z
    rw [updW_same] at e
    cases e
    refine .inr ⟨hj, ⟨us, h, r⟩, fun _ z => False.elim z, fun c m' nc ec => ⟨?_, fun _ z => False.elim z⟩⟩
    rw [updW_ne nc] at ec
    exact hw.2 c m' ec
  · rw [updW_ne z] at e
    exact .inl ⟨e, fun _ _ _ y => y⟩
theorem Grow.own2 (g : Grow J H ω J1 H1 ω1) (hD : H D = none) : Grow J H ω J1 H1 (updW ω1 D (.lst acc)) :=
  ⟨g.jj, g.dom, g.keep, g.frj, fun a h z => fr_upd rfl (g.frw a h z) (ne_new h hD)⟩
end
section
variable {W : WX} {X : Cx} {K : PySem.W.Frag} {elt tg iter : Expr} {ifs : List Expr} {scope : Scope} {own : List (Str × Nat)} {pos : Pos} {is : List Nat} {di : DTIo} {gd : DTG} {tt : DTT} {te : DTE}
theorem lcO_run {wi : TI} (hi : ∀ σ H J ω ρ (k : List PyData → (Wd → Prop) → Wd → Prop) x (R : It → Hp → Prop), Rw K J H ω → Sl K J σ ρ → (∀ xs P ω1 J1 H1 I, k xs P ω1 → Grow J H ω J1 H1 ω1 → Rw K J1 H1 ω1 → WalkP K J1 I xs P → R I H1) →
    CovX K J H ω x (fun c d H => W c d σ H) → di ρ ω k x → wi σ H R) {vs : List Nat} (his : ∀ i ∈ is, i ∈ vs)
    {σ : L2.St} {H J : Hp} {ω : Wd} {ρ : DS} {q : DQ} {x : DXK} {Q : VK} (w : Rw K J H ω) (s : Sl K J σ ρ) (cq : CovQ K J H ω q Q) (cx : CovX K J H ω x (fun c d H => W c d σ H)) (z : dLcO di gd tt te vs ρ ω q x) :
    tLc wi (liftG K is gd) (liftT K W0 tt) (liftE K W0 te) vs σ H Q := by
  refine hi σ H J ω ρ _ x _ w s (fun xs P ω1 J1 H1 I z1 g1 w1 wd => ?_) cx z
  intro D hD
  obtain ⟨hz, Inv, i0, iP, step, fin⟩ := z1
  obtain ⟨G, Y, wk, hG, hY⟩ := wd
  have hjD : J1 D = none := w1.jh.free hD
  have s1 := s.mono g1.jj
  refine lc_it wk (fun i H' => ∃ J' ω' acc us, Grow J1 H1 ω1 J' H' ω' ∧ Rw K J' H' ω' ∧ H' D = some (.lst us) ∧ J' D = none ∧ Fr ω' D ∧ RpAll K J' us acc ∧ acc.length ≤ i ∧ Inv i acc ω') ?_ ?_ ?_ ?_
  · exact ⟨J1, ω1, [], [], Grow.junk hD _, w1.junk hD _, upd_same, hjD, w1.free hD, .nil, Nat.le_refl _, i0⟩
  · rintro i H' _ ⟨J', ω', acc, us, g, w', _, _, _, _, _, iv⟩
    exact hG J' H' ω' g.jj w' (iP _ _ _ iv)
  · rintro i v H2 H2' hi ⟨J2, ω2, acc, us, g2, w2, hD2, jD2, oD2, ra, al, inv⟩ y
    have go : ∀ (d : PyData) (J3 H3 : Hp), xs[i]? = some d → Grow J2 H2 ω2 J3 H3 ω2 → Rw K J3 H3 ω2 → Rp K J3 v d → liftG K is gd v (wipe σ vs) H3 fun σ2 H2 => wipe σ2 vs = wipe σ vs ∧ liftT K W0 tt σ2 H2 fun b H3 =>
        if b = true then liftE K W0 te σ2 H3 fun y H4 => ∃ acc, H4 D = some (.lst acc) ∧ acc.length < sizeLine ∧ (∃ J' ω' acc' us, Grow J1 H1 ω1 J' (upd H4 D (.lst (acc ++ [y]))) ω' ∧ Rw K J' (upd H4 D (.lst (acc ++ [y]))) ω' ∧ upd H4 D (.lst (acc ++ [y])) D = some (.lst us) ∧ J' D = none ∧ Fr ω' D ∧ RpAll K J' us acc' ∧ acc'.length ≤ i + 1 ∧ Inv (i + 1) acc' ω')
        else ∃ J' ω' acc us, Grow J1 H1 ω1 J' H3 ω' ∧ Rw K J' H3 ω' ∧ H3 D = some (.lst us) ∧ J' D = none ∧ Fr ω' D ∧ RpAll K J' us acc ∧ acc.length ≤ i + 1 ∧ Inv (i + 1) acc ω' := by
      intro d J3 H3 e3 g3 w3 r3
      have hD3 := g3.keep D _ hD2 oD2
      have nD2 : H2 D ≠ none := by rw [hD2]; simp
      have jD3 := g3.frj D nD2 oD2 jD2
      refine ⟨J3, ω2, wipeD ρ vs, d, _, w3, (s1.mono (g2.jj.trans g3.jj)).wipe vs, r3, fun ρ' σ' z4 s4 ew => ⟨(ew vs his).trans (wipe_wipe σ vs), ?_⟩, step i d acc ω2 e3 inv al⟩
      refine ⟨J3, ω2, ρ', _, X0, w3, s4, fun b ω5 J5 H5 z5 g5 w5 => ?_, (fun _ _ _ _ _ _ z => False.elim z), z4⟩
      have nD3 : H3 D ≠ none := by rw [hD3]; simp
      have hD5 := g5.keep D _ hD3 oD2
      have jD5 := g5.frj D nD3 oD2 jD3
      have oD5 := g5.frw D nD3 oD2
      have nD5 : H5 D ≠ none := by rw [hD5]; simp
      cases b with
      | false =>
        refine iteF ⟨J5, ω5, acc, us, (g2.trans g3).trans g5, w5, hD5, jD5, oD5, rpAll_mono (g3.jj.trans g5.jj) _ _ ra, by omega, by simpa using z5⟩
      | true =>
        refine iteT ⟨J5, ω5, ρ', _, X0, w5, s4.mono g5.jj, fun r ω6 y J6 H6 z6 g6 w6 r6 => ?_, (fun _ _ _ _ _ _ z => False.elim z), by simpa using z5⟩
        have hD6 := g6.keep D _ hD5 oD5
        have jD6 := g6.frj D nD5 oD5 jD5
        have oD6 := g6.frw D nD5 oD5
        have ul := ra.length
        refine ⟨us, hD6, by omega, J6, ω6, acc ++ [r], us ++ [y], (((g2.trans g3).trans g5).trans g6).loc hD _, w6.loc jD6 oD6 _, upd_same, jD6, oD6, RpAll.append (rpAll_mono ((g3.jj.trans g5.jj).trans g6.jj) _ _ ra) (.one r6), by rw [List.length_append]; simp; omega, z6⟩
    rcases hY i H2 v H2' J2 ω2 hi g2.jj w2 (iP _ _ _ inv) y with ⟨rfl, d, e1, e2⟩ | ⟨T, us2, ds, rfl, hT, rfl, e1, e2⟩
    · exact go d J2 _ e1 Grow.refl w2 e2
    · exact go (.tuple ds) _ _ e2 (Grow.frz w2 hT _) (w2.frz hT _) (.tup (SqT.of upd_same) (rpAll_mono (same_new (w2.jh.free hT) _) _ _ e1))
  · rintro H2 ⟨J2, ω2, acc, us, g2, w2, hD2, jD2, oD2, ra, al, inv⟩
    exact (cq.step g1) _ _ _ _ _ (fin acc ω2 al inv D oD2.1) (g2.own2 hD) (w2.own2 jD2 oD2 hD2 ra) (.ref D)
theorem de_lcO (hc : X.calm = true) (hN : X.N.Nodup) (hi : DIo W X K tg iter di) (ok : BlkOk X.N X.env.scope scope own)
    (hg : ∀ (s : Shared) (H : Hp) (C : Addr) (cl : List (Str × Addr)) (fp : List Addr), DG (X.blk s H scope (compEnvC scope cl C X.env) fp) K tg is gd)
    (ht : ∀ (s : Shared) (H : Hp) (C : Addr) (cl : List (Str × Addr)) (fp : List Addr), DTs W0 (X.blk s H scope (compEnvC scope cl C X.env) fp) K ifs tt)
    (he : ∀ (s : Shared) (H : Hp) (C : Addr) (cl : List (Str × Addr)) (fp : List Addr), DE W0 (X.blk s H scope (compEnvC scope cl C X.env) fp) K elt te)
    (his : ∀ i ∈ is, i ∈ own.map (·.2) := by decide) (hs : ∀ x, foldedSetIterable iter X.env x = pure x := by intro _; rfl) :
    DE W X K (.ListComp elt [⟨tg, iter, ifs, 0⟩] scope pos) (dLcO di gd tt te (own.map (·.2))) := by
  obtain ⟨wi, p, k⟩ := hi
  exact ⟨_, pe_lc hc hN p ok hg (fun s H C cl fp => (ht s H C cl fp).ps) (fun s H C cl fp => (he s H C cl fp).pe) hs, fun σ H J ω ρ q x Q w s cq cx z => lcO_run k his w s cq cx z⟩
end
end Tx

namespace Tx
open PySem PySem.Spec PyProof.Rows L2
/-! ## A range of far bounds that has nothing; operators from the right -/
theorem turn_none {P : Program} {w : World} {K : PySem.W.Frag} {tg : Expr} (it : Addr) : Turn P w K tg (Itr 0 0) [it] it (fun _ h => ∃ x l st, IsLongIter h it x l st ∧ l ≤ 0) where
  mem := List.mem_singleton.mpr rfl
  obj := fun i h ⟨x, l, st, e, _⟩ b hb => by
    rw [List.mem_singleton.mp hb]
    exact ⟨_, e, fun v z => by
      have z2 : Data.fields _ = Data.cell v := z
      cases z2⟩
  keep := fun i h h' ⟨x, l, st, e, le⟩ k => ⟨x, l, st, k it (List.mem_singleton.mpr rfl) _ e, le⟩
  item := fun X _ _ _ _ i pins s σ H E _ _ _ go => absurd (show i < 0 from go) (Nat.not_lt_zero i)
  done := by
    intro X hP hw hK hc i pins s σ H E I hf ⟨x, l, st, e, le⟩ _
    subst hP hw hK
    obtain ⟨f0, f1, f2, f3, f4, f5⟩ := hf it (List.mem_singleton.mpr rfl)
    exact wpAny_pyNext_long_end (I.ok.hd hc) e le fun h' eb => ⟨rfl, I.turned (t' := s.toks) (fun b o hb e => eb b o hb e) f0 f1 f3 f4 f5⟩
  self := fun _ _ _ _ _ ⟨x, l, st, e, _⟩ h => wpAny_pyIter_longiter e h
def farLow (n : Int) : Prop := Builtin.Range.small 0 n 1 = false ∧ Builtin.Range.rangeSize 0 n 1 ≤ 0
def iRngW (ta : TA) : TI := fun σ H R => ta σ H fun vs H1 => ∃ j : Int, vs = [.int j] ∧ ((-(2 ^ 62) ≤ j ∧ j < 2 ^ 62) ∨ farLow j) ∧ R (Itr 0 j.toNat) H1
section
variable {X : Cx} {tg : Expr}
theorem pi_rangeW {a : Expr} {ta : TA} {p pos : Pos} (hg : Gl X "range") (hm : X.mg "range" = none) (ha : PA X [a] ta) (low : ∀ n, farLow n → n ≤ 0) (hs : starEach [a] X.env = [(false, eval a X.env)] := by rfl) : PI X tg (.Call (.Name "range" p) [a] [] pos) (iRngW ta) := by
  constructor
  intro pins s σ H R I h
  refine Call_ (ld_blt I hg hm boot_range (PyProof.Rows.callWith_type1 (thn (ha.run pos pins s σ H _ I h) fun us s1 ⟨vs, H1, I1, r1, j, e, d, q⟩ => ?_) hs rfl))
  subst e
  obtain ⟨u, rfl, t, rfl⟩ := vals1 r1
  refine call_range_1 ?_
  rcases d with ⟨q1, q2⟩ | fl
  · exact range_it I1 (by omega) (by omega) q1 q2 (by simpa using q)
  · have jl := low j fl
    refine wpAny_pyIter_longrange (IsRange.new ..) fl.1 ?_
    have I2 : L2.Inv X pins σ H1 { s1 with heap := s1.heap.push { cls := .type "range", data := .fields #[.int 0 s1.toks, .int j t, .int 1 (s1.toks + 1)] }, toks := s1.toks + 1 + 1 } := I1.kept fun b o e => Heap.get?_push_of_some _ e
    refine pi_one (tk := s1.toks + 1 + 1) I2 _ (turn_none _) ⟨_, _, _, Heap.get?_push_size _ rfl, fl.2⟩ ?_
    rw [show j.toNat = 0 by omega] at q
    exact q
end
section
variable {prog : Program} {w : World} {A : Around} {E : Value → Shared → Prop} {s : Shared} {K : PySem.W.Frag} {x C f : Addr} {ox : Obj} {od : Option Obj} {a : Value}
/-- a built-in type on the left that has no such operator of numbers -/
structure LeftT (K : PySem.W.Frag) (C : Addr) (nm T : String) : Prop where
  op : ∃ o p, PySem.W.findIn K (.type T) (PySem.dunder nm) = some o ∧ PySem.W.findIn K (.type T) (dunderR nm) = some p ∧ ((o.isSome && !isSeqSlot o) || (p.isSome && !isSeqSlot p)) = false
theorem ref_own {op : Operator} {T : String} {g : Addr} {Q : Value → Shared → Prop} (X : K.In s.heap) (I : PySem.W.InstAt s.heap x ox C od) (ty : PySem.W.Looks (model prog w) s.heap (typeOf a) (.type T)) (sf : PySem.W.selfFirst K C = true) (R : LeftT K C op.info.2 T)
    (has : PySem.W.findIn K (.ref C) (PySem.dunder op.info.2) = some (some (.ref g))) (at_ : PySem.W.findIn K (.ref C) (dunderR op.info.2) = some (some (.ref f))) (fn : PySem.W.isFn K (.ref f) = true)
    (h : wpAny (model prog w) A (call (.ref f) [.ref x, a]) (PySem.W.CmpBack Q) E s) : wpAny (model prog w) A (binaryOp op a (.ref x)) Q E s := by
  obtain ⟨cd, rest, h1, h2⟩ := PySem.W.ksp_first sf
  obtain ⟨⟨o1, o2, r1, r2, no⟩⟩ := R
  have go := PySem.W.ksp_try X I at_ fn h
  have k1 : PySem.W.Looks (model prog w) s.heap (fillsNumberSlot (.ref C) op.info.2) true := PySem.W.fills_K X h1 h2 has
  have k2 : PySem.W.Looks (model prog w) s.heap (fillsNumberSlot (.type T) op.info.2) false := no ▸ PySem.W.ksp_fillsT (M := model prog w) X r1 r2
  have k3 : PySem.W.Looks (model prog w) s.heap (typeOf (.ref x)) (.ref C) := I.type
  have ne : (Value.type T == Value.ref C) = false := Bool.eq_false_iff.mpr fun z => by cases beq_iff_eq.mp z
  clear h at_ has r1 r2
  obtain ⟨sy, nm, hi⟩ : ∃ sy nm, op.info = (sy, nm) := ⟨_, _, rfl⟩
  rw [hi] at go k1 k2
  dsimp only at go k1 k2
  obtain ⟨hp, gg, d, tt, os⟩ := s
  simp only [binaryOp, hi]
  refine wpAny_holding (wpAny_bind ?_)
  unfold binaryOp1
  refine wpAny_bind (ty.at (wpAny_bind (k3.at (wpAny_bind (k2.at ?_)))))
  simp only [ne, Bool.false_eq_true, if_false]
  ksp_lk
  refine wpAny_mono go (fun r s1 ⟨v, e, q⟩ => ?_) fun _ _ z => z
  subst e
  ksp_lk
  exact q
theorem int_no {dx : Addr} {i : Int} {t : Tok} (I : PySem.W.InstAt s.heap x (PySem.W.instObj C dx) C od) : wpAny (model prog w) A (tryMethod (.int i t) (PySem.dunder "mul") (.ref x)) (fun r s' => r = none ∧ s' = s) E s := by
  unfold tryMethod
  refine wpAny_bind (wpAny_callSpecial?_slot (name := PySem.dunder "mul") (typeIs_int s i t) F.slot_int_mul (wpAny_call_entry F.slot_int_mul (typeIs_int s i t) F.entry_int_mul ?_ (F.args_int_mul_2 _ _)))
  unfold Builtin.«int.__mul__» Builtin.Int.intBinary
  have hx := I.at_
  obtain ⟨hp, gg, d, tt, os⟩ := s
  repeat (first | (with_reducible refine wpAny_loadPart_at hx ?_) | (with_reducible refine wpAny_load hx ?_) | wp_step)
  exact ⟨_, rfl, wpAny_pure ⟨rfl, rfl⟩⟩
theorem ref_int {g dx : Addr} {i : Int} {t : Tok} {o1 o2 : Option Value} {Q : Value → Shared → Prop} (X : K.In s.heap) (I : PySem.W.InstAt s.heap x (PySem.W.instObj C dx) C od) (sf : PySem.W.selfFirst K C = true)
    (r1 : PySem.W.findIn K (.type "int") (PySem.dunder "mul") = some o1) (r2 : PySem.W.findIn K (.type "int") (dunderR "mul") = some o2) (sub : PySem.W.subIn K (.ref C) (.type "int") = some false)
    (has : PySem.W.findIn K (.ref C) (PySem.dunder "mul") = some (some (.ref g))) (at_ : PySem.W.findIn K (.ref C) (dunderR "mul") = some (some (.ref f))) (fn : PySem.W.isFn K (.ref f) = true)
    (h : wpAny (model prog w) A (call (.ref f) [.ref x, .int i t]) (PySem.W.CmpBack Q) E s) : wpAny (model prog w) A (binaryOp .Mult (.int i t) (.ref x)) Q E s := by
  obtain ⟨cd, rest, h1, h2⟩ := PySem.W.ksp_first sf
  have go := PySem.W.ksp_try X I at_ fn h
  have no := int_no (prog := prog) (w := w) (A := A) (E := E) (i := i) (t := t) I
  have k1 : PySem.W.Looks (model prog w) s.heap (fillsNumberSlot (.ref C) "mul") true := PySem.W.fills_K X h1 h2 has
  have k2 := PySem.W.ksp_fillsT (M := model prog w) (nm := "mul") (T := "int") X r1 r2
  have k3 : PySem.W.Looks (model prog w) s.heap (typeOf (.ref x)) (.ref C) := I.type
  have k4 : PySem.W.Looks (model prog w) s.heap (typeOf (.int i t)) (.type "int") := PySem.W.Looks.of_pure rfl
  have k5 : PySem.W.Looks (model prog w) s.heap (isSubtype (.ref C) (.type "int")) false := PySem.W.looks_subIn X sub
  have k6 : PySem.W.Looks (model prog w) s.heap (numberSlotInPython (.type "int") "mul") false := PySem.W.Looks.of_pure rfl
  have ne : (Value.type "int" == Value.ref C) = false := Bool.eq_false_iff.mpr fun z => by cases beq_iff_eq.mp z
  generalize ((o1.isSome && !isSeqSlot o1) || (o2.isSome && !isSeqSlot o2)) = lf at k2
  clear h at_ has r1 r2
  obtain ⟨hp, gg, d, tt, os⟩ := s
  simp only [binaryOp, Operator.info]
  refine wpAny_holding (wpAny_bind ?_)
  unfold binaryOp1
  refine wpAny_bind (k4.at (wpAny_bind (k3.at (wpAny_bind (k2.at ?_)))))
  simp only [ne, Bool.false_eq_true, if_false]
  cases lf with
  | false =>
    ksp_lk
    refine wpAny_mono go (fun r s1 ⟨v, e, q⟩ => ?_) fun _ _ z => z
    subst e
    ksp_lk
    exact q
  | true =>
    ksp_lk
    refine wpAny_mono no (fun r s1 ⟨e1, e2⟩ => ?_) fun _ _ z => z
    subst e1 e2
    ksp_lk
    refine wpAny_mono go (fun r s1 ⟨v, e, q⟩ => ?_) fun _ _ z => z
    subst e
    ksp_lk
    exact q
end
end Tx

namespace Tx
open PySem PySem.Spec PyProof.Rows L2
/-! ## Comprehensions of two clauses -/
def liftIo (K : PySem.W.Frag) (W : WX) (di : DTIo) : TI := fun σ H R => ∃ J ω ρ k x, Rw K J H ω ∧ Sl K J σ ρ ∧ (∀ xs P ω1 J1 H1 I, k xs P ω1 → Grow J H ω J1 H1 ω1 → Rw K J1 H1 ω1 → WalkP K J1 I xs P → R I H1) ∧ CovX K J H ω x (fun c d H => W c d σ H) ∧ di ρ ω k x
theorem DIo.pi {W : WX} {X : Cx} {K : PySem.W.Frag} {tg iter : Expr} {di : DTIo} (h : DIo W X K tg iter di) : PI X tg iter (liftIo K W di) := by
  obtain ⟨wi, p, k⟩ := h
  exact ⟨fun pins s σ H R I ⟨J, ω, ρ, kk, x, w, sl, c, cx, z⟩ => p.run pins s σ H R I (k σ H J ω ρ kk x R w sl c cx z)⟩
/-- the second clause's loop -/
def lcIn (gd1 : DTG) (te : DTE) (vs1 : List Nat) (ρ : DS) (acc : List PyData) (nx : List PyData → Wd → Prop) (xs : List PyData) (P : Wd → Prop) (ω : Wd) : Prop := ∃ Inv1 : Nat → List PyData → Wd → Prop, Inv1 0 acc ω ∧ (∀ j a ω2, Inv1 j a ω2 → P ω2) ∧
  (∀ j y a ω2, xs[j]? = some y → Inv1 j a ω2 → gd1 y (wipeD ρ vs1) fun ρ' => te ρ' ω2 (fun r ω3 => a.length < sizeLine ∧ Inv1 (j + 1) (a ++ [r]) ω3) X0) ∧ ∀ a ω2, Inv1 xs.length a ω2 → nx a ω2
def lcOut (gd : DTG) (di1 : DTIo) (gd1 : DTG) (te : DTE) (vs vs1 : List Nat) (ρ : DS) (q : DQ) (xs : List PyData) (P : Wd → Prop) (ω1 : Wd) : Prop := ∃ Inv : Nat → List PyData → Wd → Prop, Inv 0 [] ω1 ∧ (∀ i acc ω2, Inv i acc ω2 → P ω2) ∧
  (∀ i y acc ω2, xs[i]? = some y → Inv i acc ω2 → gd y (wipeD ρ vs) fun ρ' => di1 ρ' ω2 (lcIn gd1 te vs1 ρ' acc (fun a ω3 => Inv (i + 1) a ω3)) X0) ∧
  ∀ acc ω2, Inv xs.length acc ω2 → ∀ p, ω2 p = none → q (refD p) (updW ω2 p (.lst acc))
def dLc2 (di : DTIo) (gd : DTG) (di1 : DTIo) (gd1 : DTG) (te : DTE) (vs vs1 : List Nat) (ρ : DS) (ω : Wd) (q : DQ) (x : DXK) : Prop := di ρ ω (lcOut gd di1 gd1 te vs vs1 ρ q) x
section
variable {W : WX} {X : Cx} {K : PySem.W.Frag} {elt tg iter tg1 iter1 : Expr} {scope : Scope} {own : List (Str × Nat)} {pos : Pos} {is is1 vs1 : List Nat} {di di1 : DTIo} {gd gd1 : DTG} {te : DTE}
theorem lc2_run {wi : TI} (hi : ∀ σ H J ω ρ (k : List PyData → (Wd → Prop) → Wd → Prop) x (R : It → Hp → Prop), Rw K J H ω → Sl K J σ ρ → (∀ xs P ω1 J1 H1 I, k xs P ω1 → Grow J H ω J1 H1 ω1 → Rw K J1 H1 ω1 → WalkP K J1 I xs P → R I H1) →
    CovX K J H ω x (fun c d H => W c d σ H) → di ρ ω k x → wi σ H R) {vs : List Nat} (his : ∀ i ∈ is, i ∈ vs) (his1 : ∀ i ∈ is1, i ∈ vs1)
    {σ : L2.St} {H J : Hp} {ω : Wd} {ρ : DS} {q : DQ} {x : DXK} {Q : VK} (w : Rw K J H ω) (s : Sl K J σ ρ) (cq : CovQ K J H ω q Q) (cx : CovX K J H ω x (fun c d H => W c d σ H)) (z : dLc2 di gd di1 gd1 te vs vs1 ρ ω q x) :
    tLc2 wi (liftG K is gd) (liftT K W0 dYes) (liftIo K W0 di1) (liftG K is1 gd1) (liftT K W0 dYes) (liftE K W0 te) vs vs1 σ H Q := by
  refine hi σ H J ω ρ _ x _ w s (fun xs P ω1 J1 H1 I z1 g1 w1 wd => ?_) cx z
  intro D hD
  obtain ⟨Inv, i0, iP, step, fin⟩ := z1
  obtain ⟨G, Y, wk, hG, hY⟩ := wd
  have hjD : J1 D = none := w1.jh.free hD
  have s1 := s.mono g1.jj
  let St : (List PyData → Wd → Prop) → Hp → Prop := fun inv H' => ∃ J' ω' acc us, Grow J1 H1 ω1 J' H' ω' ∧ Rw K J' H' ω' ∧ H' D = some (.lst us) ∧ J' D = none ∧ Fr ω' D ∧ RpAll K J' us acc ∧ inv acc ω'
  refine ⟨fun i m H' => m = xs.length - i ∧ i ≤ xs.length ∧ St (Inv i) H', ⟨xs.length, by simp, Nat.zero_le _, J1, ω1, [], [], Grow.junk hD _, w1.junk hD _, upd_same, hjD, w1.free hD, .nil, i0⟩, ?_⟩
  rintro i m H2 ⟨rfl, hi, J2, ω2, acc, us, g2, w2, hD2, jD2, oD2, ra, inv⟩
  have hg := hG J2 H2 ω2 g2.jj w2 (iP _ _ _ inv)
  by_cases hge : xs.length ≤ i
  · obtain rfl : i = xs.length := by omega
    refine .inl ⟨wk.stops H2 hg, (cq.step g1) _ _ _ _ _ (fin acc ω2 inv D oD2.1) (g2.own2 hD) (w2.own2 jD2 oD2 hD2 ra) (.ref D)⟩
  have hlt : i < xs.length := by omega
  refine .inr ⟨wk.goes i H2 hlt hg, St (Inv (i + 1)), fun H' st => ⟨xs.length - (i + 1), by omega, rfl, hlt, st⟩, fun v H2' y => ?_⟩
  have y := wk.yields i H2 v H2' hlt hg y
  have go : ∀ (d : PyData) (J3 H3 : Hp), xs[i]? = some d → Grow J2 H2 ω2 J3 H3 ω2 → Rw K J3 H3 ω2 → Rp K J3 v d → liftG K is gd v (wipe σ vs) H3 fun σ2 H2 => wipe σ2 vs = wipe σ vs ∧ liftT K W0 dYes σ2 H2 fun b H3 =>
      if b = true then liftIo K W0 di1 σ2 H3 fun I1 H4 => ∃ W1 : Nat → Nat → Hp → Prop, (∃ m, W1 0 m H4) ∧ ∀ j k H, W1 j k H →
        (I1.stop j H ∧ St (Inv (i + 1)) H) ∨ (I1.go j H ∧ ∃ Nx1 : Hp → Prop, (∀ H', Nx1 H' → ∃ k', k' < k ∧ W1 (j + 1) k' H') ∧ ∀ x H', I1.yld j H x H' → liftG K is1 gd1 x (wipe σ2 vs1) H' fun σ3 H5 => wipe σ3 vs1 = wipe σ2 vs1 ∧ liftT K W0 dYes σ3 H5 fun b H6 =>
          if b = true then liftE K W0 te σ3 H6 fun y H7 => ∃ acc, H7 D = some (.lst acc) ∧ acc.length < sizeLine ∧ Nx1 (upd H7 D (.lst (acc ++ [y]))) else Nx1 H6)
      else St (Inv (i + 1)) H3 := by
    intro d J3 H3 e3 g3 w3 r3
    have hD3 := g3.keep D _ hD2 oD2
    have nD2 : H2 D ≠ none := by rw [hD2]; simp
    have jD3 := g3.frj D nD2 oD2 jD2
    have nD3 : H3 D ≠ none := by rw [hD3]; simp
    refine ⟨J3, ω2, wipeD ρ vs, d, _, w3, (s1.mono (g2.jj.trans g3.jj)).wipe vs, r3, fun ρ' σ' z4 s4 ew => ⟨(ew vs his).trans (wipe_wipe σ vs), ?_⟩, step i d acc ω2 e3 inv⟩
    refine ⟨J3, ω2, ρ', fun b ω' => b = true ∧ ω' = ω2, X0, w3, s4, fun b ω5 J5 H5 z5 g5 w5 => ?_, (fun _ _ _ _ _ _ z => False.elim z), ⟨rfl, rfl⟩⟩
    obtain ⟨rfl, rfl⟩ := z5
    have hD5 := g5.keep D _ hD3 oD2
    have jD5 := g5.frj D nD3 oD2 jD3
    have nD5 : H5 D ≠ none := by rw [hD5]; simp
    refine iteT ⟨J5, ω5, ρ', _, X0, w5, s4.mono g5.jj, fun xs1 P1 ω6 J6 H6 I1 z6 g6 w6 wd1 => ?_, (fun _ _ _ _ _ _ z => False.elim z), z4⟩
    obtain ⟨Inv1, i1, iP1, step1, fin1⟩ := z6
    obtain ⟨G1, Y1, wk1, hG1, hY1⟩ := wd1
    have hD6 := g6.keep D _ hD5 oD2
    have jD6 := g6.frj D nD5 oD2 jD5
    have oD6 := g6.frw D nD5 oD2
    have s6 := (s4.mono g5.jj).mono g6.jj
    let St1 : (List PyData → Wd → Prop) → Hp → Prop := fun inv H' => ∃ J' ω' acc us, Same J6 J' ∧ Grow J1 H1 ω1 J' H' ω' ∧ Rw K J' H' ω' ∧ H' D = some (.lst us) ∧ J' D = none ∧ Fr ω' D ∧ RpAll K J' us acc ∧ inv acc ω'
    have ga := ((g2.trans g3).trans g5).trans g6
    refine ⟨fun j m H' => m = xs1.length - j ∧ j ≤ xs1.length ∧ St1 (Inv1 j) H', ⟨xs1.length, by simp, Nat.zero_le _, J6, ω6, acc, us, Same.refl _, ga, w6, hD6, jD6, oD6, rpAll_mono ((g3.jj.trans g5.jj).trans g6.jj) _ _ ra, i1⟩, ?_⟩
    rintro j m H7 ⟨rfl, hj, J7, ω7, acc7, us7, h7, g7, w7, hD7, jD7, oD7, ra7, inv7⟩
    have hg1 := hG1 J7 H7 ω7 h7 w7 (iP1 _ _ _ inv7)
    by_cases hge1 : xs1.length ≤ j
    · obtain rfl : j = xs1.length := by omega
      exact .inl ⟨wk1.stops H7 hg1, J7, ω7, acc7, us7, g7, w7, hD7, jD7, oD7, ra7, fin1 _ _ inv7⟩
    have hl1 : j < xs1.length := by omega
    refine .inr ⟨wk1.goes j H7 hl1 hg1, St1 (Inv1 (j + 1)), fun H' st => ⟨xs1.length - (j + 1), by omega, rfl, hl1, st⟩, fun v1 H7' y1 => ?_⟩
    have y1 := wk1.yields j H7 v1 H7' hl1 hg1 y1
    have go1 : ∀ (d : PyData) (J8 H8 : Hp), xs1[j]? = some d → Grow J7 H7 ω7 J8 H8 ω7 → Rw K J8 H8 ω7 → Rp K J8 v1 d → liftG K is1 gd1 v1 (wipe σ' vs1) H8 fun σ3 H5 => wipe σ3 vs1 = wipe σ' vs1 ∧ liftT K W0 dYes σ3 H5 fun b H6 =>
        if b = true then liftE K W0 te σ3 H6 fun y H7 => ∃ acc, H7 D = some (.lst acc) ∧ acc.length < sizeLine ∧ St1 (Inv1 (j + 1)) (upd H7 D (.lst (acc ++ [y]))) else St1 (Inv1 (j + 1)) H6 := by
      intro d J8 H8 e8 g8 w8 r8
      have nD7 : H7 D ≠ none := by rw [hD7]; simp
      have hD8 := g8.keep D _ hD7 oD7
      have jD8 := g8.frj D nD7 oD7 jD7
      have nD8 : H8 D ≠ none := by rw [hD8]; simp
      refine ⟨J8, ω7, wipeD ρ' vs1, d, _, w8, ((s6.mono h7).mono g8.jj).wipe vs1, r8, fun ρ'' σ'' z9 s9 ew => ⟨(ew vs1 his1).trans (wipe_wipe σ' vs1), ?_⟩, step1 j d acc7 ω7 e8 inv7⟩
      refine ⟨J8, ω7, ρ'', fun b ω' => b = true ∧ ω' = ω7, X0, w8, s9, fun b ω9 J9 H9 z10 g9 w9 => ?_, (fun _ _ _ _ _ _ z => False.elim z), ⟨rfl, rfl⟩⟩
      obtain ⟨rfl, rfl⟩ := z10
      have hD9 := g9.keep D _ hD8 oD7
      have jD9 := g9.frj D nD8 oD7 jD8
      have nD9 : H9 D ≠ none := by rw [hD9]; simp
      refine iteT ⟨J9, ω9, ρ'', _, X0, w9, s9.mono g9.jj, fun r ω10 y J10 H10 z10 g10 w10 r10 => ?_, (fun _ _ _ _ _ _ z => False.elim z), z9⟩
      obtain ⟨hlen, z10⟩ := z10
      have hD10 := g10.keep D _ hD9 oD7
      have jD10 := g10.frj D nD9 oD7 jD9
      have oD10 := g10.frw D nD9 oD7
      have sm := (g8.jj.trans g9.jj).trans g10.jj
      refine ⟨us7, hD10, by rw [ra7.length]; exact hlen, J10, ω10, acc7 ++ [r], us7 ++ [y], h7.trans sm, (((g7.trans g8).trans g9).trans g10).loc hD _, w10.loc jD10 oD10 _, upd_same, jD10, oD10, RpAll.append (rpAll_mono sm _ _ ra7) (.one r10), z10⟩
    rcases hY1 j H7 v1 H7' J7 ω7 hl1 h7 w7 (iP1 _ _ _ inv7) y1 with ⟨rfl, d, e1, e2⟩ | ⟨T, us2, ds, rfl, hT, rfl, e1, e2⟩
    · exact go1 d J7 _ e1 Grow.refl w7 e2
    · exact go1 (.tuple ds) _ _ e2 (Grow.frz w7 hT _) (w7.frz hT _) (.tup (SqT.of upd_same) (rpAll_mono (same_new (w7.jh.free hT) _) _ _ e1))
  rcases hY i H2 v H2' J2 ω2 hlt g2.jj w2 (iP _ _ _ inv) y with ⟨rfl, d, e1, e2⟩ | ⟨T, us2, ds, rfl, hT, rfl, e1, e2⟩
  · exact go d J2 _ e1 Grow.refl w2 e2
  · exact go (.tuple ds) _ _ e2 (Grow.frz w2 hT _) (w2.frz hT _) (.tup (SqT.of upd_same) (rpAll_mono (same_new (w2.jh.free hT) _) _ _ e1))
theorem de_lc2 (hc : X.calm = true) (hN : X.N.Nodup) (hi : DIo W X K tg iter di) (ok : BlkOk X.N X.env.scope scope own) (hv : ∀ i ∈ vs1, i ∈ own.map (·.2))
    (hg : ∀ (s : Shared) (H : Hp) (C : Addr) (cl : List (Str × Addr)) (fp : List Addr), DG (X.blk s H scope (compEnvC scope cl C X.env) fp) K tg is gd)
    (hi1 : ∀ (s : Shared) (H : Hp) (C : Addr) (cl : List (Str × Addr)) (fp : List Addr), DIo W0 (X.blk s H scope (compEnvC scope cl C X.env) fp) K tg1 iter1 di1)
    (hg1 : ∀ (s : Shared) (H : Hp) (C : Addr) (cl : List (Str × Addr)) (fp : List Addr), DG (X.blk s H scope (compEnvC scope cl C X.env) fp) K tg1 is1 gd1)
    (he : ∀ (s : Shared) (H : Hp) (C : Addr) (cl : List (Str × Addr)) (fp : List Addr), DE W0 (X.blk s H scope (compEnvC scope cl C X.env) fp) K elt te)
    (his : ∀ i ∈ is, i ∈ own.map (·.2) := by decide) (his1 : ∀ i ∈ is1, i ∈ vs1 := by decide) (hs : ∀ x, foldedSetIterable iter X.env x = pure x := by intro _; rfl) (hs1 : ∀ env x, foldedSetIterable iter1 env x = pure x := by intro _ _; rfl) :
    DE W X K (.ListComp elt [⟨tg, iter, [], 0⟩, ⟨tg1, iter1, [], 0⟩] scope pos) (dLc2 di gd di1 gd1 te (own.map (·.2)) vs1) := by
  obtain ⟨wi, p, k⟩ := hi
  exact ⟨_, pe_lc2 hc hN p ok hv hg (fun s H C cl fp => (dts_nil (W := W0)).ps) (fun s H C cl fp => (hi1 s H C cl fp).pi) hg1 (fun s H C cl fp => (dts_nil (W := W0)).ps) (fun s H C cl fp => (he s H C cl fp).pe) hs hs1, fun σ H J ω ρ q x Q w s cq cx z => lc2_run k his his1 w s cq cx z⟩
end
end Tx

namespace Tx
open PySem PySem.Spec PyProof.Rows L2
/-! ## int * int and list * int; powers; an instance on the right; ranges -/
def mulAD : RD2 := fun x y ω Q => match rsv ω x, y with
  | .int i, .int j => CMul i j ∧ Q (.int (i * j))
  | .list xs, .int k => -(2 ^ 63) ≤ k ∧ k < 2 ^ 63 ∧ xs.length * k.toNat ≤ sizeLine ∧ Q (.list (List.replicate k.toNat xs).flatten)
  | _, _ => False
def rmR (C : Addr) (sp : DSp) : RM2 := fun dx dy ω q => (∃ i, dx = .int i) ∧ InsD C "__rmul__" ω dy ∧ sp [dy, dx] ω q X0
/-- what the fragment says of int on the left of a class that multiplies -/
structure LeftI (K : PySem.W.Frag) (C : Addr) : Prop where
  first : PySem.W.selfFirst K C = true
  op : ∃ o, PySem.W.findIn K (.type "int") (PySem.dunder "mul") = some o
  rop : ∃ o, PySem.W.findIn K (.type "int") (dunderR "mul") = some o
  sub : PySem.W.subIn K (.ref C) (.type "int") = some false
  has : ∃ g : Addr, PySem.W.findIn K (.ref C) (PySem.dunder "mul") = some (some (.ref g))
def diRangeW (ta : DTA) (ρ : DS) (ω : Wd) (k : List PyData → Wd → Prop) (x : DXK) : Prop := ta ρ ω (fun rs ω1 => match rs with
  | [.int n] => ((-(2 ^ 62) ≤ n ∧ n < 2 ^ 62) ∨ farLow n) ∧ k ((List.range n.toNat).map fun i => .int ((i : Nat) : Int)) ω1
  | _ => False) x
section
variable {X : Cx} {K : PySem.W.Frag}
theorem do_mulA (hK : X.K = K) : OpR X (binaryOp .Mult) (lift2 K mulAD) := by
  subst hK
  intro pins s σ H x y v u Q I rx ry ⟨J, ω, dx, dy, q, w, hx, hy, c, z⟩
  unfold mulAD at z
  split at z
  · rename_i i j ex
    obtain rfl := (rp_flat (ω := ω) hx).2.1 _ ex
    cases hy
    exact op_mul pins s σ H _ _ v u Q I rx ry ⟨i, j, rfl, rfl, z.1, c.now w z.2 (.int _)⟩
  · rename_i xs k ex
    obtain ⟨a, vs, rfl, ha, ra⟩ := rp_list w hx ex
    cases hy
    exact op_rep pins s σ H _ _ v u Q I rx ry ⟨a, k, vs, rfl, rfl, ha, z.1, z.2.1, by rw [ra.length]; exact z.2.2.1, fun p hp => c.newL w z.2.2.2 (ra.rep _) hp⟩
  · exact False.elim z
def notBD : RD2 := fun x y _ Q => ∃ a b, x = .bool a ∧ y = .bool b ∧ Q (.bool (!decide (a = b)))
theorem do_isnotB (hK : X.K = K) : OpR X (compareOp .IsNot) (lift2 K notBD) := by
  intro pins s σ H x y v u Q I rx ry ⟨J, ω, dx, dy, q, w, hx, hy, c, a, b, e1, e2, z⟩
  subst e1 e2
  cases hx
  cases hy
  exact op_isnot_bl pins s σ H _ _ v u Q I rx ry ⟨a, b, rfl, rfl, c.now w z (.bl _)⟩
theorem do_pow (hK : X.K = K) : OpR X (binaryOp .Pow) (lift2 K (intD CPow fun i j => .int (i ^ j.toNat))) := do_int op_pow hK (fun _ _ h => h) fun _ _ _ => .int _
theorem dm_rmul {C : Addr} {j k : Nat} {ps : List Str} {sp : DSp} (hK : X.K = K) (M : Mfn X.prog X.w X.K X.mg X.base CX0 j C "__rmul__" ps (spD K sp)) (c : Ct X.mg X.A k) (h : j ≤ k) (L : LeftI K C) (hn : dunderR "mul" = "__rmul__" := by rfl) : OpR X (binaryOp .Mult) (lift2M K (rmR C sp)) := by
  subst hK
  obtain ⟨f, fd, F, hm, hb⟩ := M
  intro pins s σ H x y v u Q I rx ry ⟨J, ω, dx, dy, q, w, r1, r2, cq, ⟨i, e⟩, i2, z⟩
  subst e
  cases r1
  obtain ⟨t, rfl⟩ := (show ∃ t, v = Value.int i t from rx)
  obtain ⟨b, d2, od2, rfl, rfl, J2⟩ := insD_at w I r2 ry i2
  have run := own_run F hb (c.r.mono h) c.g I.env0 I (.cons ry (.cons rx .nil)) w (.cons r2 (.cons (.int i) .nil)) cq z
  obtain ⟨o1, h1⟩ := L.op
  obtain ⟨o2, h2⟩ := L.rop
  obtain ⟨g, h3⟩ := L.has
  exact ref_int I.kIn J2 L.first h1 h2 L.sub h3 (by rw [hn]; exact hm.at_) hm.fn (thn run fun v' s' ⟨z', H', I', rz, qz⟩ => SlX.cmpback rz ⟨z', H', I', rz, qz⟩)
variable {W : WX} {tg : Expr} {tA : DTA}
theorem far_low {n : Int} (h : farLow n) : n ≤ 0 := by
  have := h.2
  rw [rangeSize_one] at this
  split at this <;> omega
theorem di_rangeW {a : Expr} {p pos : Pos} (hg : Gl X "range") (hm : X.mg "range" = none) (ha : DAs W X K [a] tA) (hs : starEach [a] X.env = [(false, eval a X.env)] := by rfl) : DI W X K tg (.Call (.Name "range" p) [a] [] pos) (diRangeW tA) := by
  obtain ⟨t, pp, k⟩ := ha
  refine ⟨_, pi_rangeW hg hm pp (fun n h => far_low h) hs, fun σ H J ω ρ kk x R w s c cx z => k σ H J ω ρ _ x _ w s (fun rs ω1 vs J1 H1 z1 g1 w1 rps => ?_) cx z⟩
  split at z1
  · cases rps with
    | cons r1 r2 =>
      cases r1
      cases r2
      refine ⟨_, rfl, z1.1, c _ _ _ _ _ z1.2 g1 w1 ?_⟩
      have := walkD_range (K := K) (J := J1) (lo := 0) (n := Int.toNat (by assumption))
      simpa using this
  · exact False.elim z1
theorem far_k10 : farLow (0 - 10 ^ 20) := by
  refine ⟨by decide +kernel, ?_⟩
  rw [rangeSize_one]
  decide +kernel
end
end Tx

namespace Tx
open PySem PySem.Spec PyProof.Rows L2
/-! ## Places of values over data: is_index, is_split, led_to -/
/-- 0 thing, 1 many -/
abbrev sIsIndex : Stmt := top 5
theorem scIsIndex : FnScope ["thing", "many"] ["thing", "many"] (defScope sIsIndex) := ⟨rfl, rfl, rfl, by decide +kernel, rfl, by decide +kernel, by decide +kernel⟩
/-- 0 value -/
abbrev sIsSplit : Stmt := top 7
theorem scIsSplit : FnScope ["value"] ["value"] (defScope sIsSplit) := ⟨rfl, rfl, rfl, by decide +kernel, rfl, by decide +kernel, by decide +kernel⟩
/-- 0 value, 1 place, 2 way, 3 at, 4 inner -/
abbrev sLedTo : Stmt := top 9
theorem scLedTo : FnScope ["value", "place", "way", "at", "inner"] ["value", "place"] (defScope sLedTo) := ⟨rfl, rfl, rfl, by decide +kernel, rfl, by decide +kernel, by decide +kernel⟩
theorem hasD_mem : ∀ {es : List PyData} {e : PyData}, PyData.hasDictAll es = false → e ∈ es → e.hasDict = false
  | x :: xs, e, h, m => by
    simp only [PyData.hasDictAll, Bool.or_eq_false_iff] at h
    cases m with
    | head => exact h.1
    | tail _ m => exact hasD_mem h.2 m
def dsIsIndex : DSp := fun ts ω q _ => ∃ (e : PyData) (n : Nat), ts = [e, .int (n : Int)] ∧ e.hasDict = false ∧ q (.bool (isIdx e n)) ω
def dsIsSplit : DSp := fun ts ω q _ => ∃ d, ts = [d] ∧ Val 20 100000 d ∧ q (.bool (isSplit d)) ω
def dsLed : DSp := fun ts ω q _ => ∃ d e, ts = [d, e] ∧ e.hasDict = false ∧ Val 20 100000 d ∧ (∀ es, e = .tuple es → es.length ≤ 1000) ∧ q (.list (ledD d e)) ω
section
variable {P : Program} {w : World} {K : PySem.W.Frag} {mg : Str → Option Value} {base : Heap}
theorem dd_is_index (h : Has K mg "is_index" sIsIndex) (B : Bi mg) : Dfn P w K mg base CX0 1 "is_index" ["thing", "many"] (spD K dsIsIndex) := by
  refine dfnD (k := 0) h B scIsIndex (fun _ _ _ _ _ _ us hl => match us, hl with | [_, _], _ => rfl) (fun ts ω q x h => ?_) (fun f cv A out s H E c => ⟨_, (dss_one (ds_ret (de_and (de_isi (T := "int") rfl kit_int (by rfl) c.b.isinstance (de_var (pv 0)) (pe_bltn (v := .ty "int") (by rfl) c.b.int (by decide +kernel) rfl)) (de_and (de_not (de_isi (T := "bool") rfl kit_bool (by rfl) c.b.isinstance (de_var (pv 0)) (pe_bltn (v := .ty "bool") (by rfl) c.b.bool (by decide +kernel) rfl))) (de_one (de_chain (do_le rfl) (do_lt rfl) de_int (de_var (pv 0)) (de_var (pv 1)))))))), fun ts ω q x h => ?_⟩)
  · obtain ⟨e, n, rfl, _⟩ := h; rfl
  obtain ⟨e, n, rfl, he, z⟩ := h
  cases e with
  | int i =>
    refine ⟨trivial, iteT ⟨trivial, iteT ⟨trivial, ite2 (fun y => ⟨trivial, ?_⟩) (fun y => ?_)⟩⟩⟩
    · have e : isIdx (.int i) n = decide (i < (n : Int)) := by simp only [isIdx]; rw [y, Bool.true_and]
      rw [e] at z
      exact z
    · have e : isIdx (.int i) n = false := by simp only [isIdx]; rw [Bool.eq_false_iff.mpr y, Bool.false_and]
      rw [e] at z
      exact z
  | bool b => exact ⟨trivial, iteT ⟨trivial, iteF z⟩⟩
  | none => exact ⟨trivial, iteF z⟩
  | str _ => exact ⟨trivial, iteF z⟩
  | list _ => exact ⟨trivial, iteF z⟩
  | tuple _ => exact ⟨trivial, iteF z⟩
  | dict _ => simp [PyData.hasDict] at he
theorem dd_is_split (h : Has K mg "is_split" sIsSplit) (B : Bi mg) : Dfn P w K mg base CX0 1 "is_split" ["value"] (spD K dsIsSplit) := by
  refine dfnD (k := 0) h B scIsSplit (fun _ _ _ _ _ _ us hl => match us, hl with | [_], _ => rfl) (fun ts ω q x h => ?_) (fun f cv A out s H E c => ⟨_, (dss_one (ds_ret (de_or (de_isi (T := "list") rfl kit_list (by rfl) c.b.isinstance (de_var (pv 0)) (pe_bltn (v := .ty "list") (by rfl) c.b.list (by decide +kernel) rfl)) (de_one (de_and (de_isi (T := "str") rfl kit_str (by rfl) c.b.isinstance (de_var (pv 0)) (pe_bltn (v := .ty "str") (by rfl) c.b.str (by decide +kernel) rfl)) (de_one (de_cmp (do_gt rfl) (de_callB (dc_len rfl) (by rfl) c.b.len (by decide +kernel) (da_cons (de_var (pv 0)) da_nil)) de_int (nomark _)))))))), fun ts ω q x h => ?_⟩)
  · obtain ⟨e, rfl, _⟩ := h; rfl
  obtain ⟨d, rfl, vd, z⟩ := h
  have val := vd.val
  have sz := vd.size
  cases d with
  | list ds => exact ⟨trivial, iteT z⟩
  | none => exact ⟨trivial, iteF ⟨trivial, iteF z⟩⟩
  | str y =>
    simp only [szD] at sz
    refine ⟨trivial, iteF ⟨trivial, iteT ⟨by rw [sizeLine_eq]; omega, trivial, ?_⟩⟩⟩
    have e : decide ((1 : Int) < (y.length : Int)) = decide (1 < y.length) := decide_eq_decide.mpr (by omega)
    show q (.bool (decide ((1 : Int) < (y.length : Int)))) ω
    rw [e]
    exact z
  | bool _ => simp [isVal] at val
  | int _ => simp [isVal] at val
  | tuple _ => simp [isVal] at val
  | dict _ => simp [isVal] at val
theorem dd_led (h : Has K mg "led_to" sLedTo) (B : Bi mg) (D_is_index : Dfn P w K mg base CX0 1 "is_index" ["thing", "many"] (spD K dsIsIndex)) (D_is_split : Dfn P w K mg base CX0 1 "is_split" ["value"] (spD K dsIsSplit)) :
    Dfn P w K mg base CX0 2 "led_to" ["value", "place"] (spD K dsLed) := by
  refine dfnD (k := 1) h B scLedTo (fun _ _ _ _ _ _ us hl => match us, hl with | [_, _], _ => rfl) (fun ts ω q x h => ?_) (fun f cv A out s H E c => ⟨_, (dss_cons (ds_set (i := 2) scLedTo.nd rfl (Or.inl rfl) (de_lstO (da_cons (de_var (pv 0)) da_nil)))
    (dss_cons (ds_if (dt_not (dt_val (de_isi (T := "tuple") rfl kit_tuple (by rfl) c.b.isinstance (de_var (pv 1)) (pe_bltn (v := .ty "tuple") (by rfl) c.b.tuple (by decide +kernel) rfl)))) (dss_one (ds_retS (de_lst da_nil))) dss_nil)
    (dss_cons (ds_for PassesOwn.never rfl (di_data rfl (de_var (pv 1))) (dg_name (pg_name (i := 3) scLedTo.nd rfl (Or.inl rfl)))
    (dss_cons (ds_set (i := 4) scLedTo.nd rfl (Or.inl rfl) (de_ix rfl (de_var (pv 2)) (de_neg de_int) (fun _ _ => rfl)))
    (dss_cons (ds_if (DW.dt (dw_or (dt_not (dt_val (de_d D_is_split c (by omega) (by rfl) (da_cons (de_var (pv 4)) da_nil)))) (dw_or1 (dt_not (dt_val (de_d D_is_index c (by omega) (by rfl) (da_cons (de_var (pv 3)) (da_cons (de_callB (dc_len rfl) (by rfl) c.b.len (by decide +kernel) (da_cons (de_var (pv 4)) da_nil)) da_nil)))))))) (dss_one (ds_retS (de_lst da_nil))) dss_nil)
    (dss_one (ds_expr (de_append rfl (de_var (pv 2)) (de_ix rfl (de_var (pv 4)) (de_var (pv 3)) (fun _ _ => rfl))))))))
    (dss_one (ds_ret (de_frz (pv 2))))))), fun ts ω q x h => ?_⟩)
  · obtain ⟨d, e, rfl, _⟩ := h; rfl
  obtain ⟨d, e, rfl, he, vd, hes, z⟩ := h
  have no : isT e = false → ledD d e = [] := fun z => by cases e <;> first | rfl | cases z
  refine ⟨(by show 1 ≤ sizeLine; decide), fun r hr => ?_⟩
  cases e with
  | tuple es =>
    have hl := hes es rfl
    simp only [PyData.hasDict] at he
    refine ⟨trivial, iteF ⟨es, rfl, ?_⟩⟩
    refine ⟨fun i ρ ω' => ∃ (u1 u2 : Option PyData) (W : List PyData) (cur : PyData), ρ = [some d, some (.tuple es), some (refD r), u1, u2] ∧ ω' = updW ω r (.lst (W ++ [cur])) ∧ Val 20 100000 cur ∧ W.length = i ∧ ledD d (.tuple es) = (match pathD cur (es.drop i) with | some ps => W ++ cur :: ps | none => []),
      ⟨none, none, [], d, rfl, rfl, vd, rfl, rfl⟩, ?_, ?_⟩
    · rintro i e ρ ω' e1 ⟨u1, u2, W, cur, rfl, rfl, vc, wl, eq⟩
      have hi2 : i < es.length := (List.getElem?_eq_some_iff.mp e1).1
      have dr : es.drop i = e :: es.drop (i + 1) := by
        rw [List.drop_eq_getElem_cons hi2]
        rw [List.getElem?_eq_getElem hi2] at e1
        rw [Option.some.inj e1]
      rw [dr] at eq
      simp only [pathD] at eq
      have hde := hasD_mem he (List.mem_of_getElem? e1)
      have out : kid cur e = none → q (.list []) ω := fun y => by rw [y] at eq; rw [eq] at z; exact z
      refine ixD_cell updW_same (atI_last _ _) ⟨cur, rfl, vc, ?_⟩
      cases sp : isSplit cur with
      | false => exact iteT (iteT ⟨(by show 0 ≤ sizeLine; decide), ω, SubW.upd hr, out (by unfold kid; rw [sp]; rfl)⟩)
      | true =>
        have kids := kid_idx (e := e) (d := cur) rfl sp
        have step : ∀ k, kid cur e = some k → ∃ (u1 u2 : Option PyData) (W2 : List PyData) (cur2 : PyData), [some d, some (.tuple es), some (refD r), some e, some cur] = [some d, some (.tuple es), some (refD r), u1, u2] ∧ updW (updW ω r (.lst (W ++ [cur]))) r (.lst (W ++ [cur] ++ [k])) = updW ω r (.lst (W2 ++ [cur2])) ∧ Val 20 100000 cur2 ∧ W2.length = i + 1 ∧ ledD d (.tuple es) = (match pathD cur2 (es.drop (i + 1)) with | some ps => W2 ++ cur2 :: ps | none => []) := by
          intro k hk
          refine ⟨_, _, W ++ [cur], k, rfl, updW_updW, vc.items (by decide) (kid_mem hk), by rw [List.length_append, wl]; rfl, ?_⟩
          rw [eq, hk]
          show (match (pathD k (es.drop (i + 1))).map (k :: ·) with | some ps => W ++ cur :: ps | none => []) = _
          cases pathD k (es.drop (i + 1)) with
          | none => rfl
          | some ps => simp
        have wlen : (W ++ [cur]).length < sizeLine := by rw [List.length_append, wl, sizeLine_eq]; show i + 1 < _; omega
        have val := vc.val
        have sz := vc.size
        cases cur with
        | list ds =>
          refine iteF ⟨e, ds.length, rfl, hde, ?_⟩
          rw [show isIdx e ds.length = (kid (.list ds) e).isSome from kids.symm]
          cases hk : kid (.list ds) e with
          | none => exact iteT ⟨(by show 0 ≤ sizeLine; decide), ω, SubW.upd hr, out hk⟩
          | some k =>
            obtain ⟨j, rfl, j0, jk⟩ := kid_at hk
            exact iteF ⟨r, _, rfl, updW_same, k, atI_at j0 jk, _, updW_same, wlen, step k hk⟩
        | str y =>
          simp only [szD] at sz
          have yl : (itD (.str y)).length = y.length := by show (sgD y).length = _; unfold sgD; rw [List.length_map, Array.length_toList]; rfl
          refine iteF ⟨(by rw [sizeLine_eq]; omega), e, y.length, rfl, hde, ?_⟩
          rw [show isIdx e y.length = (kid (.str y) e).isSome from by rw [kids, yl]]
          cases hk : kid (.str y) e with
          | none => exact iteT ⟨(by show 0 ≤ sizeLine; decide), ω, SubW.upd hr, out hk⟩
          | some k =>
            obtain ⟨j, rfl, j0, jk⟩ := kid_at hk
            unfold itD sgD at jk
            simp only at jk
            rw [List.getElem?_map] at jk
            obtain ⟨cc, gc, rfl⟩ := Option.map_eq_some_iff.mp jk
            exact iteF ⟨r, _, rfl, updW_same, (by rw [sizeLine_eq]; omega), cc, atI_at j0 gc, _, updW_same, wlen, step _ hk⟩
        | none => cases sp
        | bool _ => cases sp
        | int _ => cases sp
        | tuple _ => cases sp
        | dict _ => cases sp
    · rintro ρ ω' ⟨u1, u2, W, cur, rfl, rfl, vc, wl, eq⟩
      rw [List.drop_length] at eq
      refine ⟨r, _, rfl, updW_same, ?_⟩
      rw [delW_updW hr]
      rw [eq] at z
      exact z
  | none => exact ⟨trivial, iteT ⟨(by show 0 ≤ sizeLine; decide), ω, SubW.upd hr, by rw [no rfl] at z; exact z⟩⟩
  | bool _ => exact ⟨trivial, iteT ⟨(by show 0 ≤ sizeLine; decide), ω, SubW.upd hr, by rw [no rfl] at z; exact z⟩⟩
  | int _ => exact ⟨trivial, iteT ⟨(by show 0 ≤ sizeLine; decide), ω, SubW.upd hr, by rw [no rfl] at z; exact z⟩⟩
  | str _ => exact ⟨trivial, iteT ⟨(by show 0 ≤ sizeLine; decide), ω, SubW.upd hr, by rw [no rfl] at z; exact z⟩⟩
  | list _ => exact ⟨trivial, iteT ⟨(by show 0 ≤ sizeLine; decide), ω, SubW.upd hr, by rw [no rfl] at z; exact z⟩⟩
  | dict _ => simp [PyData.hasDict] at he
end
end Tx

namespace Tx
open PySem PySem.Spec PyProof.Rows L2
/-! ## enumerate of a text; enumerate of a list or a text, over data -/
def Itx (z : Str) : It where
  go := fun i _ => i < z.cps.size
  yld := fun i H r H' => ∃ T c, z.cps[i]? = some c ∧ r = .ref T ∧ H T = none ∧ H' = upd H T (.tup [.int ((i : Nat) : Int), .str ⟨#[c]⟩])
  stop := fun i _ => i = z.cps.size
theorem turn_etext {P : Program} {w : World} {K : PySem.W.Frag} {elts : List Expr} {kk : Nat} {tpos : Pos} {z : Str} {t : Tok} {e it : Addr} (ne : e ≠ it) :
    Turn P w K (.Tuple elts kk tpos) (Itx z) [e, it] e (fun i h => (∃ old, IsEnum h e it ((i : Nat) : Int) old) ∧ h.IsStrIter it (strIterType z) z t i) := by
  have two : ∀ c, c ∈ [e, it] → c = e ∨ c = it := fun c h => by simpa using h
  refine ⟨by simp, fun i h st c hc => ?_, fun i h h' st k => ?_, ?_, ?_, fun A i s Q E st h => by obtain ⟨⟨_, he⟩, _⟩ := st; exact wpAny_pyIter_enum he h⟩
  · obtain ⟨⟨old, g1⟩, ⟨o2, g2, _, d2⟩⟩ := st
    rcases two c hc with rfl | rfl
    · exact ⟨_, g1, fun v q => nomatch q⟩
    · exact ⟨o2, g2, fun v q => by rw [d2] at q; cases q⟩
  · obtain ⟨⟨old, g1⟩, ⟨o2, g2, c2, d2⟩⟩ := st
    exact ⟨⟨old, k e (by simp) _ g1⟩, ⟨o2, k it (by simp) _ g2, c2, d2⟩⟩
  · rintro X rfl rfl rfl hc i pins s σ H E I hf ⟨⟨old, g1⟩, g2⟩ hg
    have hh : X.A.in1.handled = none := I.ok.hd hc
    have hel : e < s.heap.objs.size := Heap.lt_size g1
    have hil : it < s.heap.objs.size := by obtain ⟨_, q, _⟩ := g2; exact Heap.lt_size q
    refine wpAny_pyNext_enum_itemD (Draws.text hh it z t) g1 g2 hg ne (by simpa using ne) fun x h' tk px ho st' hT hsz hk => ?_
    obtain ⟨c, u, ec, rfl⟩ := px
    refine ⟨_, rfl, wpAny_letOwnedTupleGo_enum (s := { s with heap := h', toks := tk + 1 }) ho fun h'' he' sb => ?_⟩
    have hT2 : h''.get? s.heap.objs.size = some { cls := .type "tuple", data := .seq #[.int i tk, .str ⟨#[c]⟩ u] } := (sb.2 _ (Nat.ne_of_gt hel)).trans hT
    have new : ObjOk X.prog X.w (upd H s.heap.objs.size (.tup [.int ((i : Nat) : Int), .str ⟨#[c]⟩])) h'' s.heap.objs.size (.tup [.int ((i : Nat) : Int), .str ⟨#[c]⟩]) :=
      ⟨by show 2 ≤ sizeLine; decide, [.int i tk, .str ⟨#[c]⟩ u], .cons ⟨_, rfl⟩ (.cons ⟨_, rfl⟩ .nil), ⟨_, hT2, rfl, _, rfl⟩⟩
    have I1 : Inv X pins σ (upd H s.heap.objs.size (.tup [.int ((i : Nat) : Int), .str ⟨#[c]⟩])) { s with heap := h'', toks := tk + 1 } :=
      I.turnedNew (t' := tk + 1) (ch := [e, it]) (fun b ob hb q => (sb.2 b fun y => hb (by simp [y])).trans (hk b ob (fun y => hb (by simp [y])) (fun y => hb (by simp [y])) q)) hf (Nat.le_refl _) new
    refine ⟨.ref s.heap.objs.size, _, I1, rfl, ⟨_, c, ec, rfl, I.hok.fresh (Nat.le_refl _), rfl⟩, ⟨⟨Value.str ⟨#[c]⟩ u, ?_⟩, ?_⟩, fun b hb => ?_⟩
    · have e1 : ((i + 1 : Nat) : Int) = (i : Int) + 1 := by omega
      rw [e1]; exact he'
    · obtain ⟨o2, q2, c2, d2⟩ := st'
      exact ⟨o2, (sb.2 it (Ne.symm ne)).trans q2, c2, d2⟩
    · have hb' : b < s.heap.objs.size := by
        rcases two b hb with rfl | rfl
        · exact hel
        · exact hil
      rw [upd_ne (Nat.ne_of_lt hb')]
      exact (hf b hb).1
  · rintro X rfl rfl rfl hc i pins s σ H E I hf ⟨⟨old, g1⟩, g2⟩ hg
    have hh : X.A.in1.handled = none := I.ok.hd hc
    obtain rfl : i = z.cps.size := hg
    obtain ⟨f0, f1, f2, f3, f4, f5⟩ := hf it (by simp)
    exact wpAny_pyNext_enum_endD (Draws.text hh it z t) g1 g2 fun h' eb => ⟨rfl, I.turned (t' := s.toks) (fun b o hb q => eb b o hb q) f0 f1 f3 f4 f5⟩
/-- a list, or a text -/
def iEnumA (K : PySem.W.Frag) (ta : TA) : TI := fun σ H R => ta σ H fun vs H1 => (∃ a xs, vs = [.ref a] ∧ SqL K H1 a xs ∧ R (Ite K a) H1) ∨ ∃ z, vs = [.str z] ∧ R (Itx z) H1
theorem pi_enumA {X : Cx} {e : Expr} {ta : TA} {p pos tpos : Pos} {elts : List Expr} {kk : Nat} (hg : Gl X "enumerate") (hm : X.mg "enumerate" = none) (ha : PA X [e] ta) (hs : starEach [e] X.env = [(false, eval e X.env)] := by rfl) :
    PI X (.Tuple elts kk tpos) (.Call (.Name "enumerate" p) [e] [] pos) (iEnumA X.K ta) := by
  refine ⟨fun pins s σ H R I h => Call_ (ld_blt I hg hm boot_enumerate (PyProof.Rows.callWith_type1 (thn (ha.run pos pins s σ H _ I h) fun us s1 ⟨vs, H1, I1, rl, q1⟩ => ?_) hs rfl))⟩
  have fresh : ∀ b, b ∈ [s1.heap.objs.size + 1, s1.heap.objs.size] → FpOk X pins H1 b := fun b hb => by
    have e2 : b = s1.heap.objs.size + 1 ∨ b = s1.heap.objs.size := by simpa using hb
    have hle : s1.heap.objs.size ≤ b := by
      rcases e2 with rfl | rfl
      · exact Nat.le_add_right _ _
      · exact Nat.le_refl _
    exact I1.fpOk hle (I1.hok.fresh hle)
  rcases q1 with ⟨a, xs, ex, hq, q⟩ | ⟨z, ex, q⟩
  · subst ex
    cases rl with
    | cons r rr =>
    cases rr
    cases r
    obtain ⟨its, rv, p', hz⟩ := I1.list hq
    refine call_enumerate_list p'.isList fun h' he hit hsz hk => wpAny_pyIter_enum he ?_
    exact ⟨_, _, _, _, H1, rfl, I1.kept (t' := s1.toks) hk, turn_enum a (s1.heap.objs.size + 1) s1.heap.objs.size, ⟨⟨.none, he⟩, hit, Nat.succ_ne_self _⟩, fresh, q⟩
  · subst ex
    cases rl with
    | cons r rr =>
    cases rr
    obtain ⟨t, rfl⟩ := r
    refine call_enumerate_str fun h' he hit hsz hk => wpAny_pyIter_enum he ?_
    exact ⟨_, _, _, _, H1, rfl, I1.kept (t' := s1.toks) hk, turn_etext (Nat.succ_ne_self _), ⟨⟨.none, he⟩, hit⟩, fresh, q⟩
def diEnumA (ta : DTA) (ρ : DS) (ω : Wd) (k : List PyData → Wd → Prop) (x : DXK) : Prop := ta ρ ω (fun rs ω1 => match rs with
  | [.list xs] => k (enumD xs) ω1
  | [.str z] => k (enumD (z.cps.toList.map fun c => .str ⟨#[c]⟩)) ω1
  | _ => False) x
theorem walkD_etext {K : PySem.W.Frag} {J : Hp} {z : Str} : WalkD K J (Itx z) (enumD (z.cps.toList.map fun c => .str ⟨#[c]⟩)) := by
  have hl : (enumD (z.cps.toList.map fun c => PyData.str ⟨#[c]⟩)).length = z.cps.size := by unfold enumD; rw [List.length_mapIdx, List.length_map, Array.length_toList]
  refine ⟨fun _ => True, fun i H v H' => (Itx z).yld i H v H', ?_, fun _ _ _ _ => trivial, fun i H v H' hi y => .inr ?_⟩
  · rw [hl]
    exact ⟨fun i H hi _ => hi, fun H _ => rfl, fun i H x H' _ _ y => y⟩
  obtain ⟨T, c, ec, e1, e2, e3⟩ := y
  refine ⟨T, _, [.int ((i : Nat) : Int), .str ⟨#[c]⟩], e1, e2, e3, .cons (.int _) (.cons (.str _) .nil), ?_⟩
  unfold enumD
  rw [List.getElem?_mapIdx, List.getElem?_map, Array.getElem?_toList, ec]
  rfl
theorem di_enumA {W : WX} {X : Cx} {K : PySem.W.Frag} {a : Expr} {tA : DTA} {p pos tpos : Pos} {elts : List Expr} {kk : Nat} (hK : X.K = K) (hg : Gl X "enumerate") (hm : X.mg "enumerate" = none) (ha : DAs W X K [a] tA) (hs : starEach [a] X.env = [(false, eval a X.env)] := by rfl) :
    DI W X K (.Tuple elts kk tpos) (.Call (.Name "enumerate" p) [a] [] pos) (diEnumA tA) := by
  subst hK
  obtain ⟨t, pp, k⟩ := ha
  refine ⟨_, pi_enumA hg hm pp hs, fun σ H J ω ρ kk x R w s c cx z => k σ H J ω ρ _ x _ w s (fun rs ω1 vs J1 H1 z1 g1 w1 rps => ?_) cx z⟩
  split at z1
  · cases rps with
    | cons r1 r2 =>
    cases r2
    cases r1 with
    | lst hs ha => exact .inl ⟨_, _, rfl, SqL.of (w1.jh _ _ hs), c _ _ _ _ _ z1 g1 w1 (walkD_enum hs ha)⟩
  · cases rps with
    | cons r1 r2 =>
    cases r2
    cases r1
    exact .inr ⟨_, rfl, c _ _ _ _ _ z1 g1 w1 walkD_etext⟩
  · exact False.elim z1
end Tx

namespace Tx
open PySem PySem.Spec PyProof.Rows L2
/-! ## k05: places, parts, torn letters, counted (plain) -/
mutual
def plcs : PyData → List (List Nat)
  | .list xs => [] :: plcsAll 0 xs
  | .str z => [] :: (if 1 < z.length then (List.range z.length).map (fun i => [i]) else [])
  | _ => [[]]
def plcsAll (i : Nat) : List PyData → List (List Nat)
  | [] => []
  | x :: xs => (plcs x).map (i :: ·) ++ plcsAll (i + 1) xs
end
def partAt : PyData → List Nat → Option PyData
  | d, [] => some d
  | d, i :: p => (kid d (.int (i : Int))).bind fun k => partAt k p
/-- whether the part at a place is a letter of a longer text -/
def tornR : PyData → List Nat → Bool
  | _, [] => false
  | d, [_] => isS d
  | d, i :: p => match kid d (.int (i : Int)) with
    | some k => tornR k p
    | none => false
theorem part_path : ∀ (p : List Nat) (d e : PyData), partAt d p = some e → ∃ ps, pathD d (intsD p) = some ps ∧ (d :: ps).getLast? = some e ∧ tornW (d :: ps) = tornR d p
  | [], d, e, h => by
    cases h
    exact ⟨[], rfl, rfl, rfl⟩
  | i :: p, d, e, h => by
    simp only [partAt] at h
    cases ek : kid d (.int (i : Int)) with
    | none => rw [ek] at h; cases h
    | some k =>
      rw [ek, Option.bind_some] at h
      obtain ⟨ps, h1, h2, h3⟩ := part_path p k e h
      refine ⟨k :: ps, ?_, ?_, ?_⟩
      · show (kid d (.int (i : Int))).bind _ = _
        rw [ek, Option.bind_some]
        show (pathD k (intsD p)).map _ = _
        rw [h1]
        rfl
      · rw [List.getLast?_cons_cons]
        exact h2
      · cases p with
        | nil =>
          have : ps = [] := by
            have := path_len _ h1
            exact List.length_eq_zero_iff.mp (by simpa [intsD] using this)
          subst this
          rfl
        | cons j p =>
          have hne : ps ≠ [] := fun e0 => by
            have := path_len _ h1
            rw [e0] at this
            simp [intsD] at this
          have ht : tornR d (i :: j :: p) = tornR k (j :: p) := by simp only [tornR, ek]
          rw [ht, ← h3]
          have hl : 1 < (k :: ps).length := by
            cases ps with
            | nil => exact absurd rfl hne
            | cons _ _ => simp
          obtain ⟨ys, u, v, hy⟩ := last2 hl
          rw [hy, ← List.cons_append, tornW_two, tornW_two]
theorem part_val {n m : Nat} (m2 : 2 ≤ m) : ∀ (p : List Nat) {d e : PyData}, Val n m d → partAt d p = some e → Val n m e
  | [], d, e, v, h => by cases h; exact v
  | i :: p, d, e, v, h => by
    simp only [partAt] at h
    cases ek : kid d (.int (i : Int)) with
    | none => rw [ek] at h; cases h
    | some k =>
      rw [ek, Option.bind_some] at h
      exact part_val m2 p (v.items m2 (kid_mem ek)) h
theorem part_app : ∀ (p q : List Nat) {d e : PyData}, partAt d p = some e → partAt d (p ++ q) = partAt e q
  | [], q, d, e, h => by cases h; rfl
  | i :: p, q, d, e, h => by
    simp only [partAt, List.cons_append] at h ⊢
    cases ek : kid d (.int (i : Int)) with
    | none => rw [ek] at h; cases h
    | some k =>
      rw [ek, Option.bind_some] at h
      rw [Option.bind_some]
      exact part_app p q h
theorem all_mem {xs : List PyData} {p : List Nat} : ∀ {i : Nat}, p ∈ plcsAll i xs ↔ ∃ j x q, xs[j]? = some x ∧ q ∈ plcs x ∧ p = (i + j) :: q := by
  induction xs with
  | nil => intro i; simp [plcsAll]
  | cons x xs ih =>
    intro i
    simp only [plcsAll, List.mem_append, List.mem_map, ih]
    constructor
    · rintro (⟨q, hq, rfl⟩ | ⟨j, y, q, h1, h2, rfl⟩)
      · exact ⟨0, x, q, rfl, hq, rfl⟩
      · exact ⟨j + 1, y, q, by simpa using h1, h2, by rw [show i + 1 + j = i + (j + 1) by omega]⟩
    · rintro ⟨j, y, q, h1, h2, rfl⟩
      cases j with
      | zero => cases (Option.some.inj h1); exact .inl ⟨q, h2, rfl⟩
      | succ j => exact .inr ⟨j, y, q, by simpa using h1, h2, by rw [show i + 1 + j = i + (j + 1) by omega]⟩
theorem part_list {xs : List PyData} {i : Nat} {x : PyData} {q : List Nat} (h : xs[i]? = some x) : partAt (.list xs) (i :: q) = partAt x q := by
  simp only [partAt]
  rw [kid_list h]
  rfl
theorem torn_list {xs : List PyData} {i : Nat} {x : PyData} {q : List Nat} (h : xs[i]? = some x) : tornR (.list xs) (i :: q) = tornR x q := by
  cases q with
  | nil => rfl
  | cons j q => simp only [tornR, kid_list h]
/-- all places have parts -/
theorem plcs_part : ∀ (p : List Nat) (d : PyData), p ∈ plcs d → ∃ e, partAt d p = some e
  | [], d, _ => ⟨d, rfl⟩
  | i :: p, d, h => by
    cases d with
    | list xs =>
      simp only [plcs, List.mem_cons, reduceCtorEq, false_or] at h
      obtain ⟨j, x, q, h1, h2, h3⟩ := all_mem.mp h
      cases h3
      rw [Nat.zero_add, part_list h1]
      exact plcs_part p x h2
    | str z =>
      simp only [plcs, List.mem_cons, reduceCtorEq, false_or] at h
      split at h
      · rename_i hz
        obtain ⟨k, hk, e⟩ := List.mem_map.mp h
        cases e
        obtain ⟨c, hc⟩ := kid_str (z := z) (List.mem_range.mp hk) hz
        exact ⟨_, by simp only [partAt, hc]; rfl⟩
      · cases h
    | _ => simp [plcs] at h
theorem plcs_len : ∀ (d : PyData) (p : List Nat), p ∈ plcs d → p.length ≤ d.depth + 1
  | d, [], _ => Nat.zero_le _
  | d, i :: p, h => by
    cases d with
    | list xs =>
      simp only [plcs, List.mem_cons, reduceCtorEq, false_or] at h
      obtain ⟨j, x, q, h1, h2, h3⟩ := all_mem.mp h
      cases h3
      have := plcs_len x p h2
      have := depth_mem (List.mem_of_getElem? h1)
      simp only [PyData.depth, List.length_cons]
      omega
    | str z =>
      simp only [plcs, List.mem_cons, reduceCtorEq, false_or] at h
      split at h
      · obtain ⟨k, hk, e⟩ := List.mem_map.mp h
        cases e
        simp
      · cases h
    | _ => simp [plcs] at h
/-- a text of one letter -/
def loneB : PyData → Bool
  | .str z => decide (z.length = 1)
  | _ => false
def plain (d : PyData) : List (List Nat) := (plcs d).filter fun p => !tornR d p
def partD (d : PyData) (p : List Nat) : PyData := (partAt d p).getD .none
def lone (d : PyData) : List PyData := ((plain d).map (partD d)).filter loneB
def lens (d : PyData) : List Nat := ((plain d).filter fun p => isL (partD d p)).map fun p => p.length + 1
theorem filter_map_cons (i : Nat) (f : List Nat → Bool) (l : List (List Nat)) : (l.map (i :: ·)).filter f = (l.filter fun p => f (i :: p)).map (i :: ·) := by
  induction l with
  | nil => rfl
  | cons a l ih =>
    simp only [List.map_cons, List.filter_cons]
    split <;> simp [ih]
theorem plain_all (xs : List PyData) : ∀ (ys : List PyData) (i : Nat), (∀ j y, ys[j]? = some y → xs[i + j]? = some y) → ((plcsAll i ys).filter fun p => !tornR (.list xs) p).length = (ys.map fun y => (plain y).length).sum ∧
    (((plcsAll i ys).filter fun p => !tornR (.list xs) p).map (partD (.list xs))).filter loneB = (ys.map lone).flatten
  | [], i, _ => ⟨rfl, rfl⟩
  | y :: ys, i, h => by
    have hy : xs[i]? = some y := by simpa using h 0 y rfl
    obtain ⟨h1, h2⟩ := plain_all xs ys (i + 1) fun j z e => by
      have := h (j + 1) z (by simpa using e)
      rw [show i + 1 + j = i + (j + 1) by omega]
      exact this
    have e1 : (((plcs y).map (i :: ·)).filter fun p => !tornR (.list xs) p) = (plain y).map (i :: ·) := by
      rw [filter_map_cons]
      unfold plain
      simp only [torn_list hy]
    simp only [plcsAll, List.filter_append, e1, List.length_append, List.length_map, h1, List.map_cons, List.sum_cons, List.map_append, List.filter_append, h2, List.flatten_cons, List.map_map]
    refine ⟨trivial, ?_⟩
    congr 1
    unfold lone
    congr 1
    refine List.map_congr_left fun p _ => ?_
    show partD (.list xs) (i :: p) = partD y p
    unfold partD
    rw [part_list hy]
theorem lone_str (z : Str) : (plcs (.str z)).length + (lone (.str z)).length = szD (.str z) := by
  by_cases h : 1 < z.length
  · have e1 : plain (.str z) = [[]] := by
      unfold plain
      simp only [plcs, if_pos h]
      rw [List.filter_cons_of_pos (by rfl), List.filter_eq_nil_iff.mpr fun p hp => ?_]
      obtain ⟨k, _, rfl⟩ := List.mem_map.mp hp
      simp [tornR, isS]
    unfold lone
    rw [e1]
    simp only [plcs, if_pos h, List.length_cons, List.length_map, List.length_range, szD, List.map_cons, List.map_nil]
    rw [List.filter_cons_of_neg (by simp [partD, partAt, loneB]; omega)]
    simp
    omega
  · have e1 : plain (.str z) = [[]] := by
      unfold plain
      simp only [plcs, if_neg h]
      rfl
    unfold lone
    rw [e1]
    simp only [plcs, if_neg h, List.length_cons, List.length_nil, szD, List.map_cons, List.map_nil, partD, partAt, Option.getD_some]
    by_cases h1 : z.length = 1
    · rw [List.filter_cons_of_pos (by simp [loneB, h1])]
      simp [h1]
    · rw [List.filter_cons_of_neg (by simp [loneB, h1])]
      simp
      omega
theorem lone_len : ∀ d : PyData, isVal d = true → (plcs d).length + (lone d).length = szD d := by
  have all : ∀ (ys : List PyData) (i : Nat), (plcsAll i ys).length = (ys.map fun y => (plcs y).length).sum := by
    intro ys
    induction ys with
    | nil => intro i; rfl
    | cons y ys ih => intro i; simp only [plcsAll, List.length_append, List.length_map, ih, List.map_cons, List.sum_cons]
  suffices h : ∀ n (d : PyData), d.depth ≤ n → isVal d = true → (plcs d).length + (lone d).length = szD d from fun d => h _ d (Nat.le_refl _)
  intro n
  induction n with
  | zero =>
    intro d hd hv
    cases d with
    | list xs => simp [PyData.depth] at hd
    | none => rfl
    | str z => exact lone_str z
    | _ => simp [isVal] at hv
  | succ n ih =>
    intro d hd hv
    cases d with
    | none => rfl
    | str z => exact lone_str z
    | list xs =>
      simp only [PyData.depth] at hd
      simp only [isVal] at hv
      have h2 : lone (.list xs) = (xs.map lone).flatten := by
        unfold lone plain
        simp only [plcs]
        rw [List.filter_cons_of_pos (by rfl), List.map_cons, List.filter_cons_of_neg (by simp [partD, partAt, loneB])]
        exact (plain_all xs xs 0 fun j y e => by simpa using e).2
      rw [h2]
      simp only [plcs, List.length_cons, all, szD, List.length_flatten, List.map_map]
      have key : ∀ ys : List PyData, (∀ y ∈ ys, y ∈ xs) → (ys.map fun y => (plcs y).length).sum + (ys.map (List.length ∘ lone)).sum = szAll ys := by
        intro ys
        induction ys with
        | nil => intro _; rfl
        | cons y ys ih2 =>
          intro hy
          have m := hy y List.mem_cons_self
          have h1 := ih y (by have := depth_mem m; omega) (isValAll_iff.mp hv y m)
          have h3 := ih2 fun z hz => hy z (List.mem_cons_of_mem _ hz)
          simp only [List.map_cons, List.sum_cons, szAll, Function.comp_apply] at h3 ⊢
          omega
      have := key xs fun _ h => h
      omega
    | _ => simp [isVal] at hv
theorem kid_sgl {z : Str} {i : Nat} {k : PyData} (h : kid (.str z) (.int (i : Int)) = some k) : ∃ c, k = .str ⟨#[c]⟩ := by
  have hm := kid_mem h
  obtain ⟨c, _, rfl⟩ := List.mem_map.mp (show k ∈ sgD z from hm)
  exact ⟨c, rfl⟩
theorem part_one {c : Nat} : ∀ (p : List Nat) {e : PyData}, partAt (.str ⟨#[c]⟩) p = some e → e = .str ⟨#[c]⟩
  | [], e, h => by cases h; rfl
  | i :: p, e, h => by
    simp only [partAt] at h
    have : kid (.str ⟨#[c]⟩) (.int (i : Int)) = none := rfl
    rw [this] at h
    cases h
theorem part_deep : ∀ (p : List Nat) {d : PyData} {xs : List PyData}, partAt d p = some (.list xs) → p.length + 1 ≤ d.depth
  | [], d, xs, h => by cases h; simp [PyData.depth]
  | i :: p, d, xs, h => by
    simp only [partAt] at h
    cases ek : kid d (.int (i : Int)) with
    | none => rw [ek] at h; cases h
    | some k =>
      rw [ek, Option.bind_some] at h
      cases d with
      | list ys =>
        have hm : k ∈ ys := kid_mem ek
        have := part_deep p h
        have := depth_mem hm
        simp only [PyData.depth, List.length_cons]
        omega
      | str z =>
        obtain ⟨c, rfl⟩ := kid_sgl ek
        have := part_one p h
        cases this
      | _ => have hm := kid_mem ek; simp [itD] at hm
theorem lens_le {d : PyData} {n : Nat} (h : n ∈ lens d) : n ≤ d.depth := by
  unfold lens at h
  obtain ⟨p, hp, rfl⟩ := List.mem_map.mp h
  obtain ⟨h1, h2⟩ := List.mem_filter.mp hp
  obtain ⟨h3, _⟩ := List.mem_filter.mp h1
  obtain ⟨e, he⟩ := plcs_part p d h3
  unfold partD at h2
  rw [he, Option.getD_some] at h2
  cases e with
  | list xs => exact part_deep p he
  | _ => cases h2
theorem depth_get : ∀ {xs : List PyData}, 0 < PyData.depthAll xs → ∃ (j : Nat) (x : PyData), xs[j]? = some x ∧ x.depth = PyData.depthAll xs
  | [], h => by simp [PyData.depthAll] at h
  | x :: xs, h => by
    simp only [PyData.depthAll] at h ⊢
    by_cases hx : PyData.depthAll xs ≤ x.depth
    · exact ⟨0, x, rfl, by omega⟩
    · obtain ⟨j, y, h1, h2⟩ := depth_get (xs := xs) (by omega)
      exact ⟨j + 1, y, by simpa using h1, by omega⟩
theorem deep_place : ∀ (n : Nat) (d : PyData), isVal d = true → d.depth = n + 1 → ∃ p ∈ plcs d, tornR d p = false ∧ (∃ xs, partAt d p = some (.list xs)) ∧ p.length + 1 = d.depth
  | 0, d, hv, h => by
    cases d with
    | list xs => exact ⟨[], by simp [plcs], rfl, ⟨xs, rfl⟩, by rw [h]; rfl⟩
    | none => simp [PyData.depth] at h
    | str _ => simp [PyData.depth] at h
    | _ => simp [isVal] at hv
  | n + 1, d, hv, h => by
    cases d with
    | list xs =>
      simp only [isVal] at hv
      simp only [PyData.depth] at h
      obtain ⟨j, x, h1, h2⟩ := depth_get (xs := xs) (by omega)
      obtain ⟨p, hp, ht, ⟨ys, hy⟩, hl⟩ := deep_place n x (isValAll_iff.mp hv x (List.mem_of_getElem? h1)) (by omega)
      refine ⟨j :: p, ?_, ?_, ⟨ys, ?_⟩, ?_⟩
      · simp only [plcs, List.mem_cons, reduceCtorEq, false_or]
        exact all_mem.mpr ⟨j, x, p, h1, hp, by rw [Nat.zero_add]⟩
      · rw [torn_list h1]; exact ht
      · rw [part_list h1]; exact hy
      · simp only [List.length_cons, PyData.depth]
        omega
    | none => simp [PyData.depth] at h
    | str _ => simp [PyData.depth] at h
    | _ => simp [isVal] at hv
theorem lens_max {d : PyData} (hv : isVal d = true) : d.depth ∈ 0 :: lens d := by
  cases e : d.depth with
  | zero => exact List.mem_cons_self
  | succ n =>
    obtain ⟨p, hp, ht, ⟨xs, hx⟩, hl⟩ := deep_place n d hv e
    refine List.mem_cons_of_mem _ ?_
    unfold lens
    refine List.mem_map.mpr ⟨p, List.mem_filter.mpr ⟨List.mem_filter.mpr ⟨hp, by rw [ht]; rfl⟩, ?_⟩, by omega⟩
    unfold partD
    rw [hx]
    rfl
mutual
theorem eqv_eq : ∀ d e : PyData, isVal d = true → isVal e = true → PyData.eqv d e = true → d = e
  | .none, .none, _, _, _ => rfl
  | .none, .str _, _, _, h => by simp [PyData.eqv] at h
  | .none, .list _, _, _, h => by simp [PyData.eqv] at h
  | .str a, .str b, _, _, h => by rw [eqv_str] at h; rw [of_decide_eq_true h]
  | .str _, .none, _, _, h => by simp [PyData.eqv] at h
  | .str _, .list _, _, _, h => by simp [PyData.eqv] at h
  | .list _, .none, _, _, h => by simp [PyData.eqv] at h
  | .list _, .str _, _, _, h => by simp [PyData.eqv] at h
  | .list xs, .list ys, h1, h2, h => by
    simp only [isVal] at h1 h2
    simp only [PyData.eqv] at h
    rw [eqvAll_eq xs ys h1 h2 h]
  | .bool _, _, h, _, _ => by simp [isVal] at h
  | .int _, _, h, _, _ => by simp [isVal] at h
  | .tuple _, _, h, _, _ => by simp [isVal] at h
  | .dict _, _, h, _, _ => by simp [isVal] at h
  | .none, .bool _, _, h, _ => by simp [isVal] at h
  | .none, .int _, _, h, _ => by simp [isVal] at h
  | .none, .tuple _, _, h, _ => by simp [isVal] at h
  | .none, .dict _, _, h, _ => by simp [isVal] at h
  | .str _, .bool _, _, h, _ => by simp [isVal] at h
  | .str _, .int _, _, h, _ => by simp [isVal] at h
  | .str _, .tuple _, _, h, _ => by simp [isVal] at h
  | .str _, .dict _, _, h, _ => by simp [isVal] at h
  | .list _, .bool _, _, h, _ => by simp [isVal] at h
  | .list _, .int _, _, h, _ => by simp [isVal] at h
  | .list _, .tuple _, _, h, _ => by simp [isVal] at h
  | .list _, .dict _, _, h, _ => by simp [isVal] at h
theorem eqvAll_eq : ∀ xs ys : List PyData, isValAll xs = true → isValAll ys = true → PyData.eqvAll xs ys = true → xs = ys
  | [], [], _, _, _ => rfl
  | [], _ :: _, _, _, h => by simp [PyData.eqvAll] at h
  | _ :: _, [], _, _, h => by simp [PyData.eqvAll] at h
  | x :: xs, y :: ys, h1, h2, h => by
    simp only [isValAll, Bool.and_eq_true] at h1 h2
    simp only [PyData.eqvAll, Bool.and_eq_true] at h
    rw [eqv_eq x y h1.1 h2.1 h.1, eqvAll_eq xs ys h1.2 h2.2 h.2]
end
theorem eqv_refl_val {d : PyData} (hd : isVal d = true) : PyData.eqv d d = true := SeqAt.eqv_refl d (fine_lay d (val_fine d hd))
theorem pl_eqv : ∀ p q : List Nat, PyData.eqvAll (intsD p) (intsD q) = true → p = q
  | [], [], _ => rfl
  | [], _ :: _, h => by simp [intsD, PyData.eqvAll] at h
  | _ :: _, [], h => by simp [intsD, PyData.eqvAll] at h
  | i :: p, j :: q, h => by
    simp only [intsD, List.map_cons, PyData.eqvAll, Bool.and_eq_true, eqv_int, decide_eq_true_eq] at h
    have h1 : i = j := by omega
    rw [h1, pl_eqv p q h.2]
/-- a row of a place, the kind and the size of its part -/
def rowD (knd : PyData → Str) (d : PyData) (p : List Nat) : PyData := .tuple [plD p, .str (knd (partD d p)), .int (szD (partD d p) : Int)]
theorem rows_eqv {knd : PyData → Str} {d e : PyData} : ∀ ps qs : List (List Nat), PyData.eqvAll (ps.map (rowD knd d)) (qs.map (rowD knd e)) = true → ps = qs
  | [], [], _ => rfl
  | [], _ :: _, h => by simp [PyData.eqvAll] at h
  | _ :: _, [], h => by simp [PyData.eqvAll] at h
  | p :: ps, q :: qs, h => by
    simp only [List.map_cons, PyData.eqvAll, Bool.and_eq_true] at h
    have h1 := h.1
    simp only [rowD, PyData.eqv, PyData.eqvAll, Bool.and_eq_true] at h1
    have h2 : PyData.eqvAll (intsD p) (intsD q) = true := by
      have := h1.1
      unfold plD at this
      unfold intsD
      simpa only [PyData.eqv] using this
    rw [pl_eqv p q h2, rows_eqv ps qs h.2]
end Tx

namespace Tx
open PySem PySem.Spec PyProof.Rows L2
/-! ## places_of; the law's defs -/
theorem plcsAll_app : ∀ (as bs : List PyData) (k : Nat), plcsAll k (as ++ bs) = plcsAll k as ++ plcsAll (k + as.length) bs
  | [], bs, k => by simp [plcsAll]
  | a :: as, bs, k => by
    simp only [List.cons_append, plcsAll, List.append_assoc]
    rw [plcsAll_app as bs (k + 1), show k + 1 + as.length = k + (a :: as).length by simp only [List.length_cons]; omega]
theorem plcsAll_snoc {xs : List PyData} {i : Nat} {x : PyData} (h : xs[i]? = some x) : plcsAll 0 (xs.take (i + 1)) = plcsAll 0 (xs.take i) ++ (plcs x).map (i :: ·) := by
  have hi := (List.getElem?_eq_some_iff.mp h).1
  rw [List.take_add_one, h, Option.toList_some, plcsAll_app, List.length_take, Nat.min_eq_left (by omega), Nat.zero_add]
  simp [plcsAll]
theorem plcs_sgl (c : Nat) : plcs (.str ⟨#[c]⟩) = [[]] := rfl
theorem plcs_sgn : ∀ (l : List Nat) (k : Nat), plcsAll k (l.map fun c => PyData.str ⟨#[c]⟩) = (List.range' k l.length).map fun i => [i]
  | [], k => rfl
  | c :: l, k => by
    simp only [List.map_cons, plcsAll, plcs_sgl, plcs_sgn l (k + 1), List.length_cons, List.range'_succ, List.map_nil, List.cons_append, List.nil_append]
theorem plcs_split {d : PyData} (h : isSplit d = true) : plcs d = [] :: plcsAll 0 (itD d) := by
  cases d with
  | list xs => rfl
  | str z =>
    have hz : 1 < z.length := of_decide_eq_true h
    simp only [plcs, if_pos hz, itD]
    unfold sgD
    rw [plcs_sgn, Array.length_toList, ← List.range_eq_range']
    rfl
  | _ => cases h
theorem plcs_not {d : PyData} (h : isSplit d = false) : plcs d = [[]] := by
  cases d with
  | list xs => cases h
  | str z =>
    have hz : ¬ 1 < z.length := of_decide_eq_false h
    simp only [plcs, if_neg hz]
  | _ => rfl
theorem tk_snoc {α : Type} {xs : List α} {i : Nat} {x : α} (h : xs[i]? = some x) : xs.take i ++ [x] = xs.take (i + 1) := by
  rw [List.take_add_one, h]
  rfl
def lvl (d : PyData) : Nat := d.depth + (if isSplit d = true then 1 else 0)
theorem lvl_item {d x : PyData} (hs : isSplit d = true) (hx : x ∈ itD d) : lvl x < lvl d := by
  unfold lvl
  rw [if_pos hs]
  cases d with
  | list xs =>
    have hx : x ∈ xs := hx
    have := depth_mem hx
    simp only [PyData.depth]
    split <;> omega
  | str z =>
    obtain ⟨c, _, rfl⟩ := List.mem_map.mp (show x ∈ sgD z from hx)
    have : isSplit (.str ⟨#[c]⟩) = false := rfl
    rw [this]
    simp [PyData.depth]
  | _ => cases hs
theorem plcs_sz {d : PyData} (hv : isVal d = true) : (plcs d).length ≤ szD d := by have := lone_len d hv; omega
theorem plcs_lt : ∀ (p : List Nat) {d : PyData}, p ∈ plcs d → ∀ k ∈ p, k < szD d
  | [], d, _ => fun k hk => nomatch hk
  | i :: p, d, h => by
    cases d with
    | list xs =>
      simp only [plcs, List.mem_cons, reduceCtorEq, false_or] at h
      obtain ⟨j, x, q, h1, h2, h3⟩ := all_mem.mp h
      cases h3
      have hj := (List.getElem?_eq_some_iff.mp h1).1
      have hl := len_le_szAll xs
      have hs := szD_mem (List.mem_of_getElem? h1)
      intro k hk
      simp only [szD]
      rcases List.mem_cons.mp hk with e | hk
      · omega
      · have := plcs_lt p h2 k hk; omega
    | str z =>
      simp only [plcs, List.mem_cons, reduceCtorEq, false_or] at h
      split at h
      · obtain ⟨k, hk, e⟩ := List.mem_map.mp h
        cases e
        have := List.mem_range.mp hk
        intro k2 hk2
        rw [List.mem_singleton.mp hk2]
        simp only [szD]
        omega
      · cases h
    | _ => simp [plcs] at h
end Tx

namespace Tx
open PySem PySem.Spec PyProof.Rows L2
/-! ## int(..) and str(..) over data; enumerate's rows -/
def intOD : RD1 := fun xs _ Q => match xs with
  | [.int i] => Q (.int i)
  | [.bool b] => Q (.int (if b then 1 else 0))
  | _ => False
def strOD : RD1 := fun xs _ Q => match xs with
  | [.int i] => i.natAbs.log2 < 1920 ∧ Q (.str (toString i))
  | _ => False
section
variable {X : Cx} {K : PySem.W.Frag}
theorem dc_int (hK : X.K = K) : CallR X (.type "int") (liftA K intOD) := by
  subst hK
  intro pins s σ H xs us Q I rv ⟨J, ω, ds, q, w, rs, c, z⟩
  unfold intOD at z
  split at z
  · cases rs with
    | cons r1 r2 =>
    cases r1
    cases r2
    exact call_int1 pins s σ H _ us Q I rv (.inl ⟨_, rfl, c.now w z (.int _)⟩)
  · cases rs with
    | cons r1 r2 =>
    cases r1
    cases r2
    exact call_int1 pins s σ H _ us Q I rv (.inr ⟨_, rfl, c.now w z (.int _)⟩)
  · exact False.elim z
theorem dc_str (hK : X.K = K) : CallR X (.type "str") (liftA K strOD) := by
  subst hK
  intro pins s σ H xs us Q I rv ⟨J, ω, ds, q, w, rs, c, z⟩
  unfold strOD at z
  split at z
  · cases rs with
    | cons r1 r2 =>
    cases r1
    cases r2
    exact call_str_int pins s σ H _ us Q I rv ⟨_, rfl, z.1, c.now w z.2 (.str _)⟩
  · exact False.elim z
end
theorem enumD_get {xs : List PyData} {i : Nat} {y : PyData} (h : (enumD xs)[i]? = some y) : ∃ d, xs[i]? = some d ∧ y = .tuple [.int ((i : Nat) : Int), d] := by
  unfold enumD at h
  rw [List.getElem?_mapIdx] at h
  obtain ⟨d, h1, h2⟩ := Option.map_eq_some_iff.mp h
  exact ⟨d, h1, h2.symm⟩
theorem enumD_len (xs : List PyData) : (enumD xs).length = xs.length := by unfold enumD; rw [List.length_mapIdx]
end Tx

namespace Tx
open PySem PySem.Spec PyProof.Rows L2
/-! ## sorted of a list of places, the first of which is () -/
section
variable {prog : Program} {w : World} {A : Around} {E : Value → Shared → Prop} {s : Shared}
theorem call_tuple_lt {Q : Value → Shared → Prop} {l b : Addr} {items items2 : Array Value} {e r : Nat → Bool} (hl : s.heap.IsTuple l items) (hb : s.heap.IsTuple b items2)
    (he : ∀ j (h1 : j < items.size) (h2 : j < items2.size), SeqAt.EqAt A.in1 s items[j] items2[j] (e j)) (hr : ∀ j (h1 : j < items.size) (h2 : j < items2.size), e j = false → SeqAt.RcLt A.in1 s items[j] items2[j] (r j))
    (h : Q (.bool (SeqAt.firstLt e r (decide (items.size < items2.size)) (List.range (min items.size items2.size)))) s) : wpAny (model prog w) A (call (.builtin "tuple.__lt__") [.ref l, .ref b]) Q E s := by
  obtain ⟨⟨cls, dd, data, sl⟩, ho, hc, n, hd⟩ := id hl
  obtain ⟨⟨cls2, dd2, data2, sl2⟩, ho2, hc2, n2, hd2⟩ := id hb
  simp only at hc hd hc2 hd2
  subst hc hd hc2 hd2
  exact call_meets F.slot_tuple_lt ⟨_, ho, rfl⟩ F.entry_tuple_lt (F.args_tuple_lt_2 _ _) (SeqAt.tuple_ltAt l b items items2 n n2 dd dd2 sl sl2 e r) ⟨ho, ho2, he, hr, h⟩
open PySem.W PySem.SeqAt in
theorem oneLt_tup {xs ys : List PyData} {a b : Value} {as bs : List Addr} {Q : Bool → Shared → Prop} (ra : Reads s.heap a (.tuple xs) as) (rb : Reads s.heap b (.tuple ys) bs) (hal : alikeAll xs ys = true)
    (hu : A.units + min (PyData.tuple xs).depth (PyData.tuple ys).depth < cLine) (hq : Q (dataLt (.tuple xs) (.tuple ys)) s) : wpAny (model prog w) A (oneLt' true a b) Q E s := by
  cases ra with
  | @tuple l o vs n _ as₁ h1 h2 h3 h4 =>
    cases rb with
    | @tuple l' o' vs' n' _ bs₁ k1 k2 k3 k4 =>
      have n1 : vs.size = xs.length := by simpa using ReadsAll.length _ _ _ h4
      have n2 : vs'.size = ys.length := by simpa using ReadsAll.length _ _ _ k4
      rw [dataLt_tuple, ← firstLt_toks xs ys hal, ← n1, ← n2] at hq
      rw [oneLt'_eq]
      simp only [if_true]
      refine wpAny_bind (wpAny_cRoomFor (room_here hu) ?_)
      refine wpAny_bind (wpAny_callSpecialIfBound?_slot (T := "tuple") ⟨_, h1, h2⟩ F.slot_tuple_lt (call_tuple_lt (e := pairEq xs ys) (r := fun j => dataLt (xs.getD j .none) (ys.getD j .none)) ⟨_, h1, h2, _, h3⟩ ⟨_, k1, k2, _, k3⟩ (fun j j1 j2 => ?_) (fun j j1 j2 hj => ?_) ?_))
      · have := eqAt_alikeAll xs ys A.in1 s vs.toList vs'.toList _ _ h4 k4 hal (room_in hu) j (by simpa using j1) (by simpa using j2)
        simpa using this
      · have := rcLt_alikeAll xs ys A.in1 s vs.toList vs'.toList _ _ h4 k4 hal (room_in hu) j (by simpa using j1) (by simpa using j2) hj
        simpa using this
      · exact wpAny_truthy_bool hq
theorem first_any {M : Model} : ∀ (vs : List Value) (ds : List PyData) {Q : List (Option Value) → Shared → Prop}, PySem.W.EachIs (fun v d => ∃ xs as, d = PyData.tuple xs ∧ Reads s.heap v d as) vs ds → (∀ os : List (Option Value), os.length = vs.length → (∀ rest, ds = PyData.tuple [] :: rest → ∃ ot, os = none :: ot) → Q os s) → wpAny M A (vs.mapM firstOfTuple') Q E s
  | [], ds, _, _, h => by rw [List.mapM_nil]; exact wpAny_pure (h [] rfl fun rest e => by subst e; rename_i t; cases t)
  | v :: vs, ds, Q, t, h => by
    cases t with
    | @cons _ d _ ds t1 t2 =>
    obtain ⟨xs, as, rfl, r⟩ := t1
    cases r with
    | @tuple l o its n _ _ h1 h2 h3 h4 =>
    rw [List.mapM_cons]
    refine wpAny_bind ?_
    rw [show firstOfTuple' (.ref l) = (do
        if (← typeOf (.ref l)) != .type "tuple" then return none
        return (← Builtin.List.listItems (.ref l))[0]?) from rfl]
    refine wpAny_bind (PySem.W.Looks.here (show PySem.W.Looks M s.heap (typeOf (.ref l)) o.cls from (PySem.W.Looks.ld h1).andThen .now) ?_)
    rw [h2, if_neg (by first | decide | simp)]
    refine wpAny_bind (listItems_at h1 h3 (wpAny_pure ?_))
    refine wpAny_bind (first_any vs ds (Q := fun bs s' => wpAny M A (pure (its[0]? :: bs)) Q E s') t2 fun os hl _ => wpAny_pure (h _ (by simp [hl]) fun rest e => ?_))
    injection e with e _
    injection e with e
    subst e
    have : its.toList = [] := by
      have := SeqAt.ReadsAll.length _ _ _ h4
      simpa using this
    have e2 : its = #[] := by simpa using this
    exact ⟨os, by rw [e2]; rfl⟩
theorem kind_tup {M : Model} {vs : List Value} {ds : List PyData} {rest : List PyData} {Q : SortKind → Shared → Prop} (h2 : 2 ≤ vs.length) (e : PySem.W.EachIs (fun v d => ∃ xs as, d = PyData.tuple xs ∧ Reads s.heap v d as) vs ds) (e0 : ds = .tuple [] :: rest) (h : Q oneType' s) :
    wpAny M A (keyKind' vs.toArray) Q E s := by
  have lk : ∀ v ∈ vs, PySem.W.Looks M s.heap (typeOf v) (.type "tuple") := fun v hv => by
    obtain ⟨d, _, xs, as, rfl, r⟩ := e.left v hv
    exact PySem.W.looks_reads r
  rw [keyKind'_eq, List.mapM_toArray, map_eq_pure_bind]
  refine wpAny_bind (wpAny_bind (first_any vs ds e fun os hl ho => wpAny_pure ?_))
  obtain ⟨ot, rfl⟩ := ho rest e0
  rw [if_neg (by simp), if_neg (by simp)]
  rw [oneTypeOnly'_eq, List.mapM_toArray, map_eq_pure_bind]
  refine wpAny_bind (wpAny_bind (wpAny_bind (PySem.W.kas_mapM (r := Value.type "tuple") _ (fun v hv Q' hq => (lk v hv).here hq) (wpAny_pure ?_))))
  have hall : ((List.map (fun _ => Value.type "tuple") vs).toArray.all fun x => x == Value.type "tuple") = true := by
    simp only [List.all_toArray, List.all_map, List.all_eq_true]
    intro _ _
    rfl
  obtain ⟨v0, vr, rfl⟩ : ∃ v0 vr, vs = v0 :: vr := by
    cases vs with
    | nil => simp at h2
    | cons v0 vr => exact ⟨v0, vr, rfl⟩
  have h0 : (List.map (fun _ => Value.type "tuple") (v0 :: vr)).toArray[0]? = some (Value.type "tuple") := by simp
  rw [h0]
  simp only [hall, if_true]
  exact wpAny_pure (wpAny_pure h)
/-- a list of tuples of which the first is () can be sorted -/
theorem sorts_tup {vs : List Value} {ds rest : List PyData} (e : PySem.W.EachIs (fun v d => ∃ as, Reads s.heap v d as) vs ds) (ht : ∀ d ∈ ds, ∃ xs, d = PyData.tuple xs) (hal : PySem.W.AllAlike ds) (e0 : ds = .tuple [] :: rest) (hu : ∀ d, d ∈ ds → A.units + d.depth < cLine) :
    PySem.W.SortsAt prog w A s (PySem.W.dataKind s.heap ds) vs := by
  refine ⟨fun v hv => ?_, oneType', fun E x y a b Q ha hb hq => ?_, fun h2 E Q hq => ?_⟩
  · obtain ⟨d, hd, as, r⟩ := e.left v hv
    exact ⟨_, PySem.W.dataKind_some hal hd r⟩
  · obtain ⟨d, as, hd, ra, rfl⟩ := PySem.W.dataKind_inv ha
    obtain ⟨d', as', hd', rb, rfl⟩ := PySem.W.dataKind_inv hb
    have hdd := hal d hd d' hd'
    have hr := hu d hd
    obtain ⟨xs, rfl⟩ := ht d hd
    obtain ⟨ys, rfl⟩ := ht d' hd'
    rw [keyLt'_oneType]
    exact oneLt_tup ra rb (by simpa [PySem.W.alike] using hdd) (Nat.lt_of_le_of_lt (Nat.add_le_add_left (Nat.min_le_left _ _) _) hr) hq
  · exact kind_tup h2 ((PySem.W.each_mem e).mono fun v d z => by
      obtain ⟨⟨as, r⟩, m⟩ := z
      obtain ⟨xs, rfl⟩ := ht d m
      exact ⟨xs, as, rfl, r⟩) e0 hq
end
def pI (p : List Nat) : List Int := p.map fun (n : Nat) => (n : Int)
theorem plD_pI (p : List Nat) : plD p = .tuple ((pI p).map PyData.int) := by unfold plD pI; rw [List.map_map]; rfl
def sortPD : RD1 := fun xs ω Q => ∃ (x : PyData) (ps : List (List Nat)), xs = [x] ∧ rsv ω x = .list (([] :: ps).map plD) ∧ ([] :: ps).Pairwise (fun a b => ¬ pI b < pI a) ∧ Q (.list (([] :: ps).map plD))
theorem each_pl {X : Cx} {pins : List (Addr × Obj)} {σ : L2.St} {H J : Hp} {s : Shared} (I : Inv X pins σ H s) (sj : Same J H) : ∀ {ps : List (List Nat)} {vs : List V} {its : List Value}, RpAll X.K J vs (ps.map plD) → Vals vs its →
    PySem.W.EachIs (fun (u : Value) (b : List Nat × V) => RelV b.2 u) its (ps.zip vs) ∧ PySem.W.EachIs (fun (u : Value) (b : List Nat × V) => ∃ as, Reads s.heap u (plD b.1) as) its (ps.zip vs)
  | [], _, _, h, r => by cases h; cases r; exact ⟨.nil, .nil⟩
  | p :: ps, _, _, h, r => by
    cases h with
    | cons h1 h2 =>
    cases r with
    | cons r1 r2 =>
    obtain ⟨e1, e2⟩ := each_pl I sj h2 r2
    have dp := dp_mono sj _ _ (rp_dp _ _ (shaped_lay (plD_shaped p)) h1)
    exact ⟨.cons r1 e1, .cons (Dp.reads I _ _ _ dp r1) e2⟩
theorem each_vals : ∀ {ps : List (List Nat)} {vs : List V} {out : List Value}, ps.length = vs.length → PySem.W.EachIs (fun (u : Value) (b : List Nat × V) => RelV b.2 u) out (ps.zip vs) → Vals vs out
  | [], [], _, _, h => by cases h; exact .nil
  | [], _ :: _, _, hl, _ => by simp at hl
  | _ :: _, [], _, hl, _ => by simp at hl
  | p :: ps, v :: vs, _, hl, h => by
    cases h with
    | cons h1 h2 => exact .cons h1 (each_vals (by simpa using hl) h2)
theorem pl_alike (p q : List Nat) : PySem.W.alike (plD p) (plD q) = true := by
  rw [plD_pI, plD_pI]
  simp only [PySem.W.alike]
  exact PySem.W.alike_ints _ _
theorem pl_depth (p : List Nat) : (plD p).depth = 1 := by
  rw [plD_pI]
  simp only [PyData.depth, PySem.W.depth_ints]
theorem dc_sorted {X : Cx} {K : PySem.W.Frag} (hK : X.K = K) (hu : X.A.units + 64 < cLine) : CallR X (.builtin "sorted") (liftA K sortPD) := by
  subst hK
  intro pins s σ H xs us Q I rv ⟨J, ω, ds, q, w, rs, c, x, ps, e1, e2, e3, z⟩
  subst e1
  cases rs with
  | cons r1 r2 =>
  cases r2
  obtain ⟨a, vs, rfl, ha, ra⟩ := rp_list w r1 e2
  obtain ⟨its, rv2, hl, hz⟩ := I.list (SqL.of ha)
  rw [Vals.ref1 rv]
  obtain ⟨e, er⟩ := each_pl I w.jh ra rv2
  have hv : ([] :: ps).length = vs.length := by rw [ra.length, List.length_map]
  have er' : PySem.W.EachIs (fun (u : Value) (b : List Nat × V) => ∃ as, Reads (PySem.W.sortingHeap (PySem.W.copyHeap s.heap its) (s.heap.objs.size + 1) its) u (plD b.1) as) its (([] :: ps).zip vs) := er.mono fun _ _ ⟨as, r⟩ => ⟨as, PyProof.Rows.Reads.keeps (fun _ _ => PySem.W.sorting_copy_old) r⟩
  have hal : PySem.W.AllAlike ((([] :: ps).zip vs).map fun b => plD b.1) := PySem.W.AllAlike.of fun b b' => pl_alike _ _
  obtain ⟨v0, vr, rfl⟩ : ∃ v0 vr, vs = v0 :: vr := by
    cases vs with
    | nil => simp at hv
    | cons v0 vr => exact ⟨v0, vr, rfl⟩
  have S := sorts_tup (prog := X.prog) (w := X.w) (A := X.A.in1.in1) (s := { s with heap := PySem.W.sortingHeap (PySem.W.copyHeap s.heap its) (s.heap.objs.size + 1) its }) (rest := (ps.zip vr).map fun b => plD b.1) (PySem.W.each_map (R := fun v d => ∃ as, Reads (PySem.W.sortingHeap (PySem.W.copyHeap s.heap its) (s.heap.objs.size + 1) its) v d as) (fun b : List Nat × V => plD b.1) er') (fun d hd => by
      obtain ⟨b, _, rfl⟩ := List.mem_map.mp hd
      exact ⟨_, rfl⟩) hal rfl (fun d hd => by
      obtain ⟨b, _, rfl⟩ := List.mem_map.mp hd
      rw [pl_depth]
      show X.A.units + 2 + 1 < cLine
      omega)
  have srt := PySem.W.sortVals_data false e er' hal
  have pw : (([] :: ps).zip (v0 :: vr)).Pairwise fun a b => PySem.W.dataLe false (fun b : List Nat × V => plD b.1) a b = true := by
    have h1 : ((([] :: ps).zip (v0 :: vr)).map Prod.fst).Pairwise (fun a b => ¬ pI b < pI a) := by
      rw [List.map_fst_zip (by omega)]
      exact e3
    rw [List.pairwise_map] at h1
    refine h1.imp fun {a b} h => ?_
    rw [PySem.W.dataLe_eq]
    show (!PySem.W.dataLt (plD b.1) (plD a.1)) = true
    rw [plD_pI, plD_pI, PySem.W.dataLt_tuple]
    show (!PySem.W.rowLt ((pI b.1).map PyData.int) ((pI a.1).map PyData.int)) = true
    rw [PySem.W.dataLt_ints]
    simpa using h
  rw [List.mergeSort_of_pairwise pw] at srt
  have vo := each_vals hv srt
  refine PySem.W.sorted_vals hl.isList S (by rw [← rv2.length]; exact hz) ?_
  obtain ⟨ep, he'⟩ := PyProof.Rows.sortedAll_at s.heap its (List.toArray (PySem.W.sortVals (PySem.W.dataKind (PySem.W.sortingHeap (PySem.W.copyHeap s.heap its) (s.heap.objs.size + 1) its) ((([] :: ps).zip (v0 :: vr)).map fun b => plD b.1)) false its its))
  exact ⟨.ref _, upd H (s.heap.objs.size + 1) (.lst (v0 :: vr)), I.laid (t' := s.toks) (fun _ _ => PyProof.Rows.sortedAll_old) (Nat.le_succ _) ⟨hz, _, ep, vo, he'⟩, rfl, c.newL w z ra (I.hok.fresh (Nat.le_succ _))⟩
/-! ### the places of a value ascend -/
theorem pI_cons_lt (i j : Nat) (p q : List Nat) : pI (i :: p) < pI (j :: q) ↔ i < j ∨ i = j ∧ pI p < pI q := by
  unfold pI
  rw [List.map_cons, List.map_cons, List.cons_lt_cons_iff]
  constructor
  · rintro (h | ⟨h1, h2⟩)
    · exact .inl (by omega)
    · exact .inr ⟨by omega, h2⟩
  · rintro (h | ⟨h1, h2⟩)
    · exact .inl (by omega)
    · exact .inr ⟨by omega, h2⟩
theorem pI_nil (p : List Nat) : ¬ pI p < pI [] := by
  show ¬ pI p < []
  exact List.not_lt_nil _
mutual
theorem plcs_up : ∀ d : PyData, (plcs d).Pairwise fun a b => ¬ pI b < pI a
  | .list xs => by
    simp only [plcs]
    exact List.pairwise_cons.mpr ⟨fun b _ => pI_nil b, plcsAll_up xs 0⟩
  | .str z => by
    simp only [plcs]
    refine List.pairwise_cons.mpr ⟨fun b _ => pI_nil b, ?_⟩
    split
    · rw [List.pairwise_map]
      refine List.Pairwise.imp (R := fun a b : Nat => a < b) (fun {a b} h => ?_) List.pairwise_lt_range
      rw [pI_cons_lt]
      rintro (h1 | ⟨h1, h2⟩)
      · omega
      · omega
    · exact .nil
  | .none => by simp [plcs]
  | .bool _ => by simp [plcs]
  | .int _ => by simp [plcs]
  | .tuple _ => by simp [plcs]
  | .dict _ => by simp [plcs]
theorem plcsAll_up : ∀ (xs : List PyData) (i : Nat), (plcsAll i xs).Pairwise fun a b => ¬ pI b < pI a
  | [], _ => by simp [plcsAll]
  | x :: xs, i => by
    simp only [plcsAll]
    refine List.pairwise_append.mpr ⟨?_, plcsAll_up xs (i + 1), fun a ha b hb => ?_⟩
    · rw [List.pairwise_map]
      refine (plcs_up x).imp fun {a b} h => ?_
      rw [pI_cons_lt]
      rintro (h1 | ⟨_, h2⟩)
      · omega
      · exact h h2
    · obtain ⟨p, _, rfl⟩ := List.mem_map.mp ha
      obtain ⟨j, y, q, _, _, rfl⟩ := all_mem.mp hb
      rw [pI_cons_lt]
      omega
end
end Tx

namespace Tx
open PySem PySem.Spec PyProof.Rows L2
/-! ## k03, plain: repr tells a place from all else; the places and the rows of a value -/
def shc (d : PyData) : List Nat := d.shown.cps.toList
def dg (c : Nat) : Bool := decide (48 ≤ c ∧ c ≤ 57)
theorem appc (x y : Str) : (x ++ y).cps.toList = x.cps.toList ++ y.cps.toList := by
  show (x.cps ++ y.cps).toList = _
  simp
theorem shc_nat (n : Nat) : shc (.int (n : Int)) = (Nat.toDigits 10 n).map Char.toNat := by
  unfold shc
  rw [PyData.shown_int, signs_ofString, Int.toString_eq_repr, Int.repr_eq_if, if_pos (by omega), Int.toNat_natCast, Nat.toList_repr]
theorem shc_dg {n c : Nat} (h : c ∈ shc (.int (n : Int))) : dg c = true := by
  rw [shc_nat] at h
  obtain ⟨ch, hc, rfl⟩ := List.mem_map.mp h
  have := digit_range (Nat.isDigit_of_mem_toDigits (by decide) (by decide) hc)
  exact decide_eq_true this
theorem shc_ne (n : Nat) : ∃ c t, shc (.int (n : Int)) = c :: t := by
  rw [shc_nat]
  cases e : Nat.toDigits 10 n with
  | nil => exact absurd e Nat.toDigits_ne_nil
  | cons a l => exact ⟨_, _, rfl⟩
theorem toNat_inj : ∀ {l m : List Char}, l.map Char.toNat = m.map Char.toNat → l = m
  | [], [], _ => rfl
  | [], _ :: _, h => by simp at h
  | _ :: _, [], h => by simp at h
  | a :: l, b :: m, h => by
    simp only [List.map_cons, List.cons.injEq] at h
    rw [toNat_inj h.2, Char.ext (UInt32.toNat_inj.mp h.1)]
theorem shc_inj {n m : Nat} (h : shc (.int (n : Int)) = shc (.int (m : Int))) : n = m := by
  rw [shc_nat, shc_nat] at h
  have := congrArg (fun l => Nat.ofDigitChars 10 l 0) (toNat_inj h)
  simpa [Nat.ofDigitChars_ten_toDigits] using this
theorem fold_pre (f : Nat → Array Nat) : ∀ (l : List Nat) (acc : Array Nat), ∃ t, (l.foldl (fun out c => out ++ f c) acc).toList = acc.toList ++ t
  | [], acc => ⟨[], by simp⟩
  | c :: l, acc => by
    obtain ⟨t, h⟩ := fold_pre f l (acc ++ f c)
    exact ⟨(f c).toList ++ t, by rw [List.foldl_cons, h]; simp⟩
theorem shc_str (x : Str) : ∃ c t, shc (.str x) = c :: t ∧ (c = 39 ∨ c = 34) := by
  unfold shc
  rw [PyData.shown_str]
  unfold reprText
  obtain ⟨t, h⟩ := fold_pre (fun c => (Builtin.Str.reprChar (reprQuote x) c).toArray) x.cps.toList #[reprQuote x]
  refine ⟨reprQuote x, t ++ [reprQuote x], ?_, ?_⟩
  · show (Array.push (Array.foldl (fun out c => out ++ (Builtin.Str.reprChar (reprQuote x) c).toArray) #[reprQuote x] x.cps) (reprQuote x)).toList = _
    rw [Array.toList_push, ← Array.foldl_toList, h]
    rfl
  · unfold reprQuote
    split
    · exact .inr rfl
    · exact .inl rfl
def rsT : List PyData → List Nat
  | [] => [41]
  | d :: ds => 44 :: 32 :: (shc d ++ rsT ds)
theorem joinT : ∀ (d : PyData) (ds : List PyData), (Str.join ", " (PyData.shownAll (d :: ds))).cps.toList ++ [41] = shc d ++ rsT ds
  | d, [] => rfl
  | d, e :: es => by
    have ih := joinT e es
    show (d.shown ++ ((", " : String) : Str) ++ Str.join ", " (PyData.shownAll (e :: es))).cps.toList ++ [41] = _
    rw [appc, appc, List.append_assoc, List.append_assoc, ih]
    rfl
theorem shc_t0 : shc (.tuple []) = [40, 41] := by unfold shc; rw [PyData.shown_tuple]; rfl
theorem shc_t1 (d : PyData) : shc (.tuple [d]) = 40 :: (shc d ++ [44, 41]) := by
  unfold shc
  rw [PyData.shown_tuple, appc, appc]
  rfl
theorem shc_t2 (d e : PyData) (es : List PyData) : shc (.tuple (d :: e :: es)) = 40 :: (shc d ++ rsT (e :: es)) := by
  rw [← joinT]
  unfold shc
  rw [PyData.shown_tuple, appc, appc]
  have : ((d :: e :: es).length == 1) = false := by simp
  rw [this]
  rfl
theorem shc_other : ∀ (e : PyData), e.hasDict = false → (∃ n : Nat, e = .int (n : Int)) ∨ ∃ c t, shc e = c :: t ∧ dg c = false ∧ (c = 40 → isT e = true)
  | .none, _ => .inr ⟨78, [111, 110, 101], by unfold shc; rw [PyData.shown_none]; rfl, rfl, by decide⟩
  | .bool true, _ => .inr ⟨84, [114, 117, 101], by unfold shc; rw [PyData.shown_bool]; rfl, rfl, by decide⟩
  | .bool false, _ => .inr ⟨70, [97, 108, 115, 101], by unfold shc; rw [PyData.shown_bool]; rfl, rfl, by decide⟩
  | .int i, _ => by
    by_cases h : 0 ≤ i
    · exact .inl ⟨i.toNat, by rw [Int.toNat_of_nonneg h]⟩
    · refine .inr ⟨45, ((-i).toNat.repr.toList).map Char.toNat, ?_, rfl, fun h => by cases h⟩
      unfold shc
      rw [PyData.shown_int, signs_ofString, Int.toString_eq_repr, Int.repr_eq_if, if_neg h, String.toList_append, List.map_append]
      rfl
  | .str x, _ => by
    obtain ⟨c, t, h1, h2⟩ := shc_str x
    refine .inr ⟨c, t, h1, ?_, fun h => ?_⟩
    · rcases h2 with rfl | rfl <;> rfl
    · rcases h2 with rfl | rfl <;> cases h
  | .list xs, _ => by
    refine .inr ⟨91, (Str.join ", " (PyData.shownAll xs)).cps.toList ++ [93], ?_, rfl, fun h => by cases h⟩
    unfold shc
    rw [PyData.shown_list, appc, appc]
    rfl
  | .tuple xs, _ => by
    refine .inr ⟨40, (Str.join ", " (PyData.shownAll xs)).cps.toList ++ (((if xs.length == 1 then ",)" else ")" : String) : Str)).cps.toList, ?_, rfl, fun _ => rfl⟩
    unfold shc
    rw [PyData.shown_tuple, appc, appc]
    rfl
  | .dict _, h => by simp [PyData.hasDict] at h
theorem dig_split : ∀ {a b r r' : List Nat} {x y : Nat}, (∀ c ∈ a, dg c = true) → (∀ c ∈ b, dg c = true) → dg x = false → dg y = false → a ++ x :: r = b ++ y :: r' → a = b ∧ x :: r = y :: r'
  | [], [], _, _, _, _, _, _, _, _, h => ⟨rfl, h⟩
  | [], c :: b, r, r', x, y, _, hb, hx, _, h => by
    simp only [List.nil_append, List.cons_append, List.cons.injEq] at h
    have := hb c List.mem_cons_self
    rw [← h.1, hx] at this
    cases this
  | c :: a, [], r, r', x, y, ha, _, _, hy, h => by
    simp only [List.nil_append, List.cons_append, List.cons.injEq] at h
    have := ha c List.mem_cons_self
    rw [h.1, hy] at this
    cases this
  | c :: a, d :: b, r, r', x, y, ha, hb, hx, hy, h => by
    simp only [List.cons_append, List.cons.injEq] at h
    obtain ⟨h1, h2⟩ := dig_split (fun c hc => ha c (List.mem_cons_of_mem _ hc)) (fun c hc => hb c (List.mem_cons_of_mem _ hc)) hx hy h.2
    exact ⟨by rw [h.1, h1], h2⟩
theorem it_eq {e : PyData} {i x y : Nat} {r r' : List Nat} (he : e.hasDict = false) (hx : dg x = false) (hy : dg y = false) (h : shc e ++ x :: r = shc (.int (i : Int)) ++ y :: r') : e = .int (i : Int) ∧ x :: r = y :: r' := by
  rcases shc_other e he with ⟨n, rfl⟩ | ⟨c, t, h1, h2, _⟩
  · obtain ⟨h1, h2⟩ := dig_split (fun c hc => shc_dg hc) (fun c hc => shc_dg hc) hx hy h
    rw [shc_inj h1]
    exact ⟨rfl, h2⟩
  · obtain ⟨c', t', h3⟩ := shc_ne i
    have := shc_dg (n := i) (c := c') (by rw [h3]; exact List.mem_cons_self)
    rw [h1, h3] at h
    simp only [List.cons_append, List.cons.injEq] at h
    rw [← h.1, h2] at this
    cases this
theorem rsT_eq : ∀ {es : List PyData} {p : List Nat}, PyData.hasDictAll es = false → rsT es = rsT (intsD p) → es = intsD p
  | [], [], _, _ => rfl
  | [], _ :: _, _, h => by simp [rsT, intsD] at h
  | _ :: _, [], _, h => by simp [rsT, intsD] at h
  | e :: es, i :: p, hd, h => by
    simp only [PyData.hasDictAll, Bool.or_eq_false_iff] at hd
    simp only [rsT, intsD, List.map_cons, List.cons.injEq, true_and] at h
    have hr : ∀ ds : List PyData, ∃ c t, rsT ds = c :: t ∧ dg c = false := fun ds => by
      cases ds with
      | nil => exact ⟨41, [], rfl, rfl⟩
      | cons d ds => exact ⟨44, _, rfl, rfl⟩
    obtain ⟨c, t, h1, h2⟩ := hr es
    obtain ⟨c', t', h3, h4⟩ := hr (intsD p)
    have h' : shc e ++ rsT es = shc (.int (i : Int)) ++ rsT (intsD p) := h
    rw [h1, h3] at h'
    obtain ⟨e1, e2⟩ := it_eq hd.1 h2 h4 h'
    rw [e1, rsT_eq hd.2 (by rw [h1, h3, e2])]
    rfl
/-- what is shown as a place is that place -/
theorem pl_shown {e : PyData} {p : List Nat} (hd : e.hasDict = false) (h : e.shown = (plD p).shown) : e = plD p := by
  have h : shc e = shc (plD p) := by unfold shc; rw [h]
  have hp : ∃ t, shc (plD p) = 40 :: t := by
    rcases shc_other (plD p) (PyData.hasDict_of_canLay _ (shaped_lay (plD_shaped p))) with ⟨n, h⟩ | _
    · cases h
    · match p with
      | [] => exact ⟨_, shc_t0⟩
      | [i] => exact ⟨_, shc_t1 _⟩
      | i :: j :: p => exact ⟨_, shc_t2 _ _ _⟩
  obtain ⟨t0, hp⟩ := hp
  have ht : isT e = true := by
    rcases shc_other e hd with ⟨n, rfl⟩ | ⟨c, t, h1, h2, h3⟩
    · obtain ⟨c, t, h1⟩ := shc_ne n
      have := shc_dg (n := n) (c := c) (by rw [h1]; exact List.mem_cons_self)
      rw [h1, hp] at h
      rw [(List.cons.inj h).1] at this
      cases this
    · rw [h1, hp] at h
      exact h3 (List.cons.inj h).1
  obtain ⟨es, rfl⟩ : ∃ es, e = .tuple es := by cases e <;> first | exact ⟨_, rfl⟩ | cases ht
  simp only [PyData.hasDict] at hd
  have e0 : plD p = .tuple (intsD p) := rfl
  rw [e0] at h ⊢
  congr 1
  match es, p, h, hd with
  | [], [], _, _ => rfl
  | [], [i], h, _ =>
    rw [shc_t0, show intsD [i] = [.int (i : Int)] from rfl, shc_t1] at h
    have := congrArg List.length h
    obtain ⟨c, t, h3⟩ := shc_ne i
    simp [h3] at this
  | [], i :: j :: p, h, _ =>
    rw [shc_t0, show intsD (i :: j :: p) = .int (i : Int) :: .int (j : Int) :: intsD p from rfl, shc_t2] at h
    have := congrArg List.length h
    obtain ⟨c, t, h3⟩ := shc_ne i
    simp [h3, rsT] at this
  | [x], [], h, _ =>
    rw [shc_t1, show intsD [] = [] from rfl, shc_t0] at h
    have := congrArg List.length h
    simp at this
  | x :: y :: es, [], h, _ =>
    rw [shc_t2, show intsD [] = [] from rfl, shc_t0] at h
    have := congrArg List.length h
    simp [rsT] at this
    omega
  | [x], [i], h, hd =>
    simp only [PyData.hasDictAll, Bool.or_eq_false_iff] at hd
    rw [show intsD [i] = [.int (i : Int)] from rfl, shc_t1, shc_t1] at h
    rw [(it_eq hd.1 rfl rfl (List.cons.inj h).2).1]
    rfl
  | [x], i :: j :: p, h, hd =>
    simp only [PyData.hasDictAll, Bool.or_eq_false_iff] at hd
    rw [show intsD (i :: j :: p) = .int (i : Int) :: .int (j : Int) :: intsD p from rfl, shc_t1, shc_t2] at h
    have := (it_eq hd.1 rfl rfl (List.cons.inj h).2).2
    simp at this
  | x :: y :: es, [i], h, hd =>
    simp only [PyData.hasDictAll, Bool.or_eq_false_iff] at hd
    rw [show intsD [i] = [.int (i : Int)] from rfl, shc_t2, shc_t1] at h
    have := (it_eq hd.1 rfl rfl (List.cons.inj h).2).2
    simp at this
  | x :: y :: es, i :: j :: p, h, hd =>
    simp only [PyData.hasDictAll, Bool.or_eq_false_iff] at hd
    rw [show intsD (i :: j :: p) = .int (i : Int) :: .int (j : Int) :: intsD p from rfl, shc_t2, shc_t2] at h
    obtain ⟨e1, e2⟩ := it_eq hd.1 rfl rfl (List.cons.inj h).2
    have : y :: es = intsD (j :: p) := rsT_eq (by simp [PyData.hasDictAll, hd.2]) e2
    rw [e1, this]
    rfl
theorem kid_split {d e k : PyData} (h : kid d e = some k) : isSplit d = true := by
  unfold kid at h
  cases hs : isSplit d with
  | true => rfl
  | false => rw [hs] at h; simp at h
theorem path_place : ∀ (es : List PyData) {d : PyData} {ps : List PyData}, pathD d es = some ps → ∃ p, es = intsD p ∧ p ∈ plcs d
  | [], d, _, _ => ⟨[], rfl, by
    cases hs : isSplit d with
    | true => rw [plcs_split hs]; exact List.mem_cons_self
    | false => rw [plcs_not hs]; exact List.mem_cons_self⟩
  | e :: es, d, ps, h => by
    simp only [pathD] at h
    cases hk : kid d e with
    | none => rw [hk] at h; cases h
    | some k =>
      rw [hk] at h
      obtain ⟨j, rfl, j0, jk⟩ := kid_at hk
      cases hp : pathD k es with
      | none => simp [hp] at h
      | some qs =>
        obtain ⟨p, rfl, hm⟩ := path_place es hp
        refine ⟨j.toNat :: p, ?_, ?_⟩
        · simp only [intsD, List.map_cons]
          rw [Int.toNat_of_nonneg j0]
        · rw [plcs_split (kid_split hk)]
          exact List.mem_cons_of_mem _ (all_mem.mpr ⟨_, _, _, jk, hm, by rw [Nat.zero_add]⟩)
theorem led_place {d e : PyData} (h : ledD d e ≠ []) : ∃ p, e = plD p ∧ p ∈ plcs d := by
  cases e with
  | tuple es =>
    cases hp : pathD d es with
    | none => exact absurd (led_none hp) h
    | some ps =>
      obtain ⟨p, rfl, hm⟩ := path_place es hp
      exact ⟨p, rfl, hm⟩
  | _ => exact absurd rfl h
def rowT (d : PyData) (p : List Nat) : PyData := .tuple [plD p, partD d p, .bool (tornR d p)]
theorem plcs_part' {d : PyData} {p : List Nat} (h : p ∈ plcs d) : partAt d p = some (partD d p) := by
  obtain ⟨e, he⟩ := plcs_part p d h
  unfold partD
  rw [he]
  rfl
end Tx

namespace Tx
open PySem PySem.Spec PyProof.Rows L2
/-! ## k03: places_of (a list of one's own), _law_rows -/
/-- 0 value, 1 found, 2 at, 3 one, 4 place -/
abbrev sPlaces : Stmt := top 8
theorem scPlaces : FnScope ["value", "found", "at", "one", "place"] ["value"] (defScope sPlaces) := ⟨rfl, rfl, rfl, by decide +kernel, rfl, by decide +kernel, by decide +kernel⟩
/-- 0 _law_value_here, 1 _law_rows_here, 2 _law_at, 3 _law_one, 4 _law_sign, 5 _law_place, 6 _law_inner, 7 _law_is_piece -/
abbrev sRows : Stmt := top 19
theorem scRows : FnScope ["_law_value_here", "_law_rows_here", "_law_at", "_law_one", "_law_sign", "_law_place", "_law_inner", "_law_is_piece"] ["_law_value_here"] (defScope sRows) := ⟨rfl, rfl, rfl, by decide +kernel, rfl, by decide +kernel, by decide +kernel⟩
/-- a list of one's own: the places -/
def dsPlacesO (n : Nat) : DSp := fun ts ω q _ => ∃ d, ts = [d] ∧ Val 20 100000 d ∧ lvl d < n ∧ ∀ a, ω a = none → q (refD a) (updW ω a (.lst ((plcs d).map plD)))
def dsRows (n : Nat) : DSp := fun ts ω q _ => ∃ d, ts = [d] ∧ Val 20 100000 d ∧ d.depth < n ∧ q (.list ((plcs d).map (rowT d))) ω
theorem row_list {xs : List PyData} {i : Nat} {x : PyData} (h : xs[i]? = some x) (p : List Nat) : rowT (.list xs) (i :: p) = .tuple [plD (i :: p), partD x p, .bool (tornR x p)] := by
  unfold rowT partD
  rw [part_list h, torn_list h]
theorem all_rows {xs : List PyData} : ∀ (k : Nat), k ≤ xs.length → (plcsAll 0 (xs.take k)).map (rowT (.list xs)) = ((xs.take k).mapIdx fun i x => (plcs x).map fun p => PyData.tuple [plD (i :: p), partD x p, .bool (tornR x p)]).flatten
  | 0, _ => by simp [plcsAll]
  | k + 1, h => by
    have hx : xs[k]? = some xs[k] := List.getElem?_eq_getElem (by omega)
    rw [plcsAll_snoc hx, List.map_append, all_rows k (by omega), List.take_add_one, hx, Option.toList_some, List.mapIdx_append, List.flatten_append]
    congr 1
    rw [List.map_map, List.length_take, Nat.min_eq_left (by omega)]
    simp only [List.mapIdx_cons, List.mapIdx_nil, List.flatten_cons, List.flatten_nil, List.append_nil, Nat.add_zero, Nat.zero_add]
    exact List.map_congr_left fun p _ => row_list hx p
section
variable {P : Program} {w : World} {K : PySem.W.Frag} {mg : Str → Option Value} {base : Heap} {C : Addr}
theorem dd_placesO (h : Has K mg "places_of" sPlaces) (B : Bi mg) (D_is_split : Dfn P w K mg base CX0 1 "is_split" ["value"] (spD K dsIsSplit)) : ∀ n, Dfn P w K mg base CX0 (n + 1) "places_of" ["value"] (spD K (dsPlacesO n))
  | 0 => (dfnD_none h (fun _ _ _ _ _ _ us hl => match us, hl with | [_], _ => rfl) fun ts ω q xx z => by
    obtain ⟨d, _, _, z, _⟩ := z
    omega).mono (by omega)
  | n + 1 => by
    have D_places_of := dd_placesO h B D_is_split n
    refine dfnD (k := n + 1) h B scPlaces (fun _ _ _ _ _ _ us hl => match us, hl with | [_], _ => rfl) (fun ts ω q xx h => ?_) (fun f cv A out s H E c => ⟨_, (dss_cons (ds_set (i := 1) scPlaces.nd rfl (Or.inl rfl) (de_lstO (da_cons (de_tup da_nil) da_nil)))
    (dss_cons (ds_if (dt_val (de_d D_is_split c (by omega) (by rfl) (da_cons (de_var (pv 0)) da_nil))) (dss_one (ds_for PassesOwn.never rfl (di_enumA rfl (by rfl) c.b.enumerate (da_cons (de_var (pv 0)) da_nil)) (dg_tup rfl rfl (dgs_cons (dg_name (pg_name (i := 2) scPlaces.nd rfl (Or.inr rfl))) (dgs_cons (dg_name (pg_name (i := 3) scPlaces.nd rfl (Or.inl rfl))) dgs_nil)))
    (dss_one (ds_expr (de_extend rfl (de_var (pv 1)) (de_lc (own := [("place", 4)]) (gd := (dgName 4)) (is := [4]) (tt := dYes) rfl scPlaces.nd (di_data rfl (de_frzE (de_d D_places_of c (by omega) (by rfl) (da_cons (de_var (pv 3)) da_nil)))) (blkOk_by (own := [("place", 4)]) (N := ["value", "found", "at", "one", "place"]) (sc := defScope sPlaces) (by decide +kernel)) (fun _ _ _ _ _ => (dg_name (pg_name (i := 4) scPlaces.nd rfl (Or.inl rfl)))) (fun _ _ _ _ _ => dts_nil) (fun _ _ _ _ _ => (de_op (do_add rfl) (de_tup (da_cons (de_var (pv 2)) da_nil)) (de_var (pv 4)))))))))) dss_nil)
    (dss_one (ds_retS (de_var (pv 1)))))), fun ts ω q xx z => ?_⟩)
    · obtain ⟨d, rfl, _⟩ := h
      rfl
    obtain ⟨d, rfl, vd, dn, z⟩ := z
    have sz : 1000000 ≤ sizeLine := by decide
    have hs := vd.size
    have pz := plcs_sz vd.val
    refine ⟨by decide, by show 1 ≤ sizeLine; omega, fun t ht => ?_⟩
    refine ⟨d, rfl, vd, ite2 (fun e => ?_) (fun e => ?_)⟩
    · rw [plcs_split e] at z pz
      cases d with
      | list xs =>
        refine ⟨fun i ρ ω' => ∃ u2 u3 u4 : Option PyData, ρ = [some (.list xs), some (refD t), u2, u3, u4] ∧ ω' = updW ω t (.lst (([] :: plcsAll 0 ((itD (.list xs)).take i)).map plD)), ⟨none, none, none, rfl, rfl⟩, ?_, ?_⟩
        · rintro i y ρ ω' hy ⟨u2, u3, u4, rfl, rfl⟩
          obtain ⟨x, hx, rfl⟩ := enumD_get hy
          have hx : (itD (.list xs))[i]? = some x := hx
          have mx := List.mem_of_getElem? hx
          have lx := lvl_item e mx
          have vx := vd.items (by decide) mx
          have px := plcs_sz vx.val
          have sx := vx.size
          have tk : (plcsAll 0 ((itD (.list xs)).take (i + 1))).length ≤ (plcsAll 0 (itD (.list xs))).length := by
            have h2 := plcsAll_app ((itD (.list xs)).take (i + 1)) ((itD (.list xs)).drop (i + 1)) 0
            rw [List.take_append_drop] at h2
            rw [h2, List.length_append]
            omega
          have sn := plcsAll_snoc hx
          have tl : (plcsAll 0 ((itD (.list xs)).take i)).length + (plcs x).length ≤ 100000 := by
            have := congrArg List.length sn
            rw [List.length_append, List.length_map] at this
            simp only [List.length_cons] at pz
            omega
          refine ⟨rfl, rfl, t, _, rfl, updW_same, x, rfl, vx, by omega, fun r hr => ⟨r, _, rfl, updW_same, ?_⟩⟩
          rw [delW_updW hr]
          refine ⟨_, rfl, by rw [List.length_map]; omega, fun j acc ω2 => acc = ((plcs x).take j).map (fun p => plD (i :: p)) ∧ ω2 = updW ω t (.lst (([] :: plcsAll 0 ((itD (.list xs)).take i)).map plD)), ⟨rfl, rfl⟩, ?_, ?_⟩
          · rintro j y acc ω2 hy ⟨rfl, rfl⟩ _
            rw [List.getElem?_map] at hy
            obtain ⟨p, hp, rfl⟩ := Option.map_eq_some_iff.mp hy
            have pl := plcs_len x p (List.mem_of_getElem? hp)
            have dx := vx.deep
            simp only [dAnd, dAndV, dAsg, dC, dCB, dCall, dCallX, dChain, dCons, dDrop, dErr1, dIf, dIfS, dIsi, dLst, dNext, dNil, dNot, dNotV, dOp, dOr, dOrV, dPar, dRet, dRetN, dRetS, dSeq, dSet, dSl, dTest, dTup, dVar, dgCons, dgName, dgNil, dgTup, dNeg, endsD, xcOf, dFz, startD, wipeD, List.getElem?_cons_zero, List.getElem?_cons_succ, List.set_cons_zero, List.set_cons_succ, List.map_cons, List.map_nil, List.cons_append, List.nil_append, List.length_cons, List.length_nil, List.replicate]
            unfold dYes
            simp only [dAnd, dAndV, dAsg, dC, dCB, dCall, dCallX, dChain, dCons, dDrop, dErr1, dIf, dIfS, dIsi, dLst, dNext, dNil, dNot, dNotV, dOp, dOr, dOrV, dPar, dRet, dRetN, dRetS, dSeq, dSet, dSl, dTest, dTup, dVar, dgCons, dgName, dgNil, dgTup, dNeg, endsD, xcOf, dFz, startD, wipeD, List.getElem?_cons_zero, List.getElem?_cons_succ, List.set_cons_zero, List.set_cons_succ, List.map_cons, List.map_nil, List.cons_append, List.nil_append, List.length_cons, List.length_nil, List.replicate]
            simp only [if_true]
            refine ⟨by show 1 ≤ sizeLine; omega, by show 1 + (p.map _).length ≤ sizeLine; rw [List.length_map]; omega, ?_, by trivial⟩
            rw [← tk_snoc hp, List.map_append]
            rfl
          · rintro acc ω2 _ ⟨rfl, rfl⟩
            rw [List.length_map, List.take_length]
            refine ⟨_, _, updW_same, rfl, by simp only [List.length_map, List.length_cons]; omega, _, _, _, rfl, ?_⟩
            rw [updW_updW, sn]
            congr 2
            simp only [List.map_cons, List.map_append, List.map_map, List.cons_append]
            rfl
        · rintro ρ ω' ⟨u2, u3, u4, rfl, rfl⟩
          refine ⟨_, SubW.refl, ?_⟩
          have hl : (enumD (itD (.list xs))).length = (itD (.list xs)).length := enumD_len _
          have e2 : (itD (.list xs)).take (enumD (itD (.list xs))).length = itD (.list xs) := by rw [hl, List.take_length]
          have z2 : q (refD t) (updW ω t (.lst (([] :: plcsAll 0 ((itD (.list xs)).take (enumD (itD (.list xs))).length)).map plD))) := by rw [e2]; exact z t ht
          exact z2
      | str x0 =>
        refine ⟨fun i ρ ω' => ∃ u2 u3 u4 : Option PyData, ρ = [some (.str x0), some (refD t), u2, u3, u4] ∧ ω' = updW ω t (.lst (([] :: plcsAll 0 ((itD (.str x0)).take i)).map plD)), ⟨none, none, none, rfl, rfl⟩, ?_, ?_⟩
        · rintro i y ρ ω' hy ⟨u2, u3, u4, rfl, rfl⟩
          obtain ⟨x, hx, rfl⟩ := enumD_get hy
          have hx : (itD (.str x0))[i]? = some x := hx
          have mx := List.mem_of_getElem? hx
          have lx := lvl_item e mx
          have vx := vd.items (by decide) mx
          have px := plcs_sz vx.val
          have sx := vx.size
          have tk : (plcsAll 0 ((itD (.str x0)).take (i + 1))).length ≤ (plcsAll 0 (itD (.str x0))).length := by
            have h2 := plcsAll_app ((itD (.str x0)).take (i + 1)) ((itD (.str x0)).drop (i + 1)) 0
            rw [List.take_append_drop] at h2
            rw [h2, List.length_append]
            omega
          have sn := plcsAll_snoc hx
          have tl : (plcsAll 0 ((itD (.str x0)).take i)).length + (plcs x).length ≤ 100000 := by
            have := congrArg List.length sn
            rw [List.length_append, List.length_map] at this
            simp only [List.length_cons] at pz
            omega
          refine ⟨rfl, rfl, t, _, rfl, updW_same, x, rfl, vx, by omega, fun r hr => ⟨r, _, rfl, updW_same, ?_⟩⟩
          rw [delW_updW hr]
          refine ⟨_, rfl, by rw [List.length_map]; omega, fun j acc ω2 => acc = ((plcs x).take j).map (fun p => plD (i :: p)) ∧ ω2 = updW ω t (.lst (([] :: plcsAll 0 ((itD (.str x0)).take i)).map plD)), ⟨rfl, rfl⟩, ?_, ?_⟩
          · rintro j y acc ω2 hy ⟨rfl, rfl⟩ _
            rw [List.getElem?_map] at hy
            obtain ⟨p, hp, rfl⟩ := Option.map_eq_some_iff.mp hy
            have pl := plcs_len x p (List.mem_of_getElem? hp)
            have dx := vx.deep
            simp only [dAnd, dAndV, dAsg, dC, dCB, dCall, dCallX, dChain, dCons, dDrop, dErr1, dIf, dIfS, dIsi, dLst, dNext, dNil, dNot, dNotV, dOp, dOr, dOrV, dPar, dRet, dRetN, dRetS, dSeq, dSet, dSl, dTest, dTup, dVar, dgCons, dgName, dgNil, dgTup, dNeg, endsD, xcOf, dFz, startD, wipeD, List.getElem?_cons_zero, List.getElem?_cons_succ, List.set_cons_zero, List.set_cons_succ, List.map_cons, List.map_nil, List.cons_append, List.nil_append, List.length_cons, List.length_nil, List.replicate]
            unfold dYes
            simp only [dAnd, dAndV, dAsg, dC, dCB, dCall, dCallX, dChain, dCons, dDrop, dErr1, dIf, dIfS, dIsi, dLst, dNext, dNil, dNot, dNotV, dOp, dOr, dOrV, dPar, dRet, dRetN, dRetS, dSeq, dSet, dSl, dTest, dTup, dVar, dgCons, dgName, dgNil, dgTup, dNeg, endsD, xcOf, dFz, startD, wipeD, List.getElem?_cons_zero, List.getElem?_cons_succ, List.set_cons_zero, List.set_cons_succ, List.map_cons, List.map_nil, List.cons_append, List.nil_append, List.length_cons, List.length_nil, List.replicate]
            simp only [if_true]
            refine ⟨by show 1 ≤ sizeLine; omega, by show 1 + (p.map _).length ≤ sizeLine; rw [List.length_map]; omega, ?_, by trivial⟩
            rw [← tk_snoc hp, List.map_append]
            rfl
          · rintro acc ω2 _ ⟨rfl, rfl⟩
            rw [List.length_map, List.take_length]
            refine ⟨_, _, updW_same, rfl, by simp only [List.length_map, List.length_cons]; omega, _, _, _, rfl, ?_⟩
            rw [updW_updW, sn]
            congr 2
            simp only [List.map_cons, List.map_append, List.map_map, List.cons_append]
            rfl
        · rintro ρ ω' ⟨u2, u3, u4, rfl, rfl⟩
          refine ⟨_, SubW.refl, ?_⟩
          have hl : (enumD (itD (.str x0))).length = (itD (.str x0)).length := enumD_len _
          have e2 : (itD (.str x0)).take (enumD (itD (.str x0))).length = itD (.str x0) := by rw [hl, List.take_length]
          have z2 : q (refD t) (updW ω t (.lst (([] :: plcsAll 0 ((itD (.str x0)).take (enumD (itD (.str x0))).length)).map plD))) := by rw [e2]; exact z t ht
          exact z2
      | _ => cases e
    · rw [plcs_not (Bool.eq_false_iff.mpr e)] at z
      exact ⟨_, SubW.refl, z t ht⟩
theorem dd_rows (h : Has K mg "_law_rows" sRows) (B : Bi mg) : ∀ n, Dfn P w K mg base CX0 n "_law_rows" ["_law_value_here"] (spD K (dsRows n))
  | 0 => dfnD_none h (fun _ _ _ _ _ _ us hl => match us, hl with | [_], _ => rfl) fun ts ω q xx z => by
    obtain ⟨d, _, _, z, _⟩ := z
    omega
  | n + 1 => by
    have D_law_rows := dd_rows h B n
    refine dfnD (k := n) h B scRows (fun _ _ _ _ _ _ us hl => match us, hl with | [_], _ => rfl) (fun ts ω q xx h => ?_) (fun f cv A out s H E c => ⟨_, (dss_cons (ds_set (i := 1) scRows.nd rfl (Or.inl rfl) (de_lst (da_cons (de_tup (da_cons (de_tup da_nil) (da_cons (de_var (pv 0)) (da_cons de_bl da_nil)))) da_nil)))
    (dss_cons (ds_if (dt_val (de_isi (T := "list") rfl kit_list (by rfl) c.b.isinstance (de_var (pv 0)) (pe_bltn (v := .ty "list") (by rfl) c.b.list (by decide +kernel) rfl))) (dss_one (ds_for PassesOwn.never rfl (di_enumA rfl (by rfl) c.b.enumerate (da_cons (de_var (pv 0)) da_nil)) (dg_tup rfl rfl (dgs_cons (dg_name (pg_name (i := 2) scRows.nd rfl (Or.inr rfl))) (dgs_cons (dg_name (pg_name (i := 3) scRows.nd rfl (Or.inl rfl))) dgs_nil)))
    (dss_one (ds_set (i := 1) scRows.nd rfl (Or.inl rfl) (de_op (do_add rfl) (de_var (pv 1)) (de_lc (own := [("_law_place", 5), ("_law_inner", 6), ("_law_is_piece", 7)]) (gd := (dgTup 3 (dgCons (dgName 5) (dgCons (dgName 6) (dgCons (dgName 7) dgNil))))) (is := ([5] ++ ([6] ++ ([7] ++ [])))) (tt := dYes) rfl scRows.nd (di_data rfl (de_d D_law_rows c (by omega) (by rfl) (da_cons (de_var (pv 3)) da_nil))) (blkOk_by (own := [("_law_place", 5), ("_law_inner", 6), ("_law_is_piece", 7)]) (N := ["_law_value_here", "_law_rows_here", "_law_at", "_law_one", "_law_sign", "_law_place", "_law_inner", "_law_is_piece"]) (sc := defScope sRows) (by decide +kernel)) (fun _ _ _ _ _ => (dg_tup rfl rfl (dgs_cons (dg_name (pg_name (i := 5) scRows.nd rfl (Or.inl rfl))) (dgs_cons (dg_name (pg_name (i := 6) scRows.nd rfl (Or.inl rfl))) (dgs_cons (dg_name (pg_name (i := 7) scRows.nd rfl (Or.inl rfl))) dgs_nil))))) (fun _ _ _ _ _ => dts_nil) (fun _ _ _ _ _ => (de_tup (da_cons (de_op (do_add rfl) (de_tup (da_cons (de_var (pv 2)) da_nil)) (de_var (pv 5))) (da_cons (de_var (pv 6)) (da_cons (de_var (pv 7)) da_nil))))))))))) dss_nil)
    (dss_cons (ds_if (DW.dt (dw_and (dt_val (de_isi (T := "str") rfl kit_str (by rfl) c.b.isinstance (de_var (pv 0)) (pe_bltn (v := .ty "str") (by rfl) c.b.str (by decide +kernel) rfl))) (dw_and1 (dt_cmp (do_gt rfl) (de_callB (dc_len rfl) (by rfl) c.b.len (by decide +kernel) (da_cons (de_var (pv 0)) da_nil)) de_int (nomark _))))) (dss_one (ds_set (i := 1) scRows.nd rfl (Or.inl rfl) (de_op (do_add rfl) (de_var (pv 1)) (de_lc (own := [("_law_at", 2), ("_law_sign", 4)]) (gd := (dgTup 2 (dgCons (dgName 2) (dgCons (dgName 4) dgNil)))) (is := ([2] ++ ([4] ++ []))) (tt := dYes) rfl scRows.nd (di_enumA rfl (by rfl) c.b.enumerate (da_cons (de_var (pv 0)) da_nil)) (blkOk_by (own := [("_law_at", 2), ("_law_sign", 4)]) (N := ["_law_value_here", "_law_rows_here", "_law_at", "_law_one", "_law_sign", "_law_place", "_law_inner", "_law_is_piece"]) (sc := defScope sRows) (by decide +kernel)) (fun _ _ _ _ _ => (dg_tup rfl rfl (dgs_cons (dg_name (pg_name (i := 2) scRows.nd rfl (Or.inl rfl))) (dgs_cons (dg_name (pg_name (i := 4) scRows.nd rfl (Or.inl rfl))) dgs_nil)))) (fun _ _ _ _ _ => dts_nil) (fun _ _ _ _ _ => (de_tup (da_cons (de_tup (da_cons (de_var (pv 2)) da_nil)) (da_cons (de_var (pv 4)) (da_cons de_bl da_nil))))))))) dss_nil)
    (dss_one (ds_ret (de_var (pv 1))))))), fun ts ω q xx z => ?_⟩)
    · obtain ⟨d, rfl, _⟩ := h
      rfl
    obtain ⟨d, rfl, vd, dn, z⟩ := z
    have sz : 1000000 ≤ sizeLine := by decide
    have hs := vd.size
    have pz := plcs_sz vd.val
    have dd := vd.deep
    have s3 : 3 ≤ sizeLine := by omega
    refine ⟨by show 0 ≤ sizeLine; omega, by show 3 ≤ sizeLine; omega, by show 1 ≤ sizeLine; omega, ?_⟩
    cases d with
    | none => exact ⟨trivial, iteF ⟨trivial, iteF z⟩⟩
    | str x =>
      have hx : x.length + 1 ≤ 100000 := by simp only [szD] at hs; omega
      refine ⟨trivial, iteF ⟨trivial, iteT ⟨by show x.length ≤ sizeLine; omega, trivial, ite2 (fun e => ?_) (fun e => ?_)⟩⟩⟩
      · have e : 1 < x.length := by have := of_decide_eq_true e; omega
        have zz : (plcs (.str x)).map (rowT (.str x)) = [PyData.tuple [.tuple [], .str x, .bool false]] ++ (x.cps.toList.mapIdx fun i c => PyData.tuple [.tuple [.int (i : Int)], .str ⟨#[c]⟩, .bool true]) := by
          simp only [plcs, if_pos e, List.map_cons, List.map_map]
          show _ :: _ = _ :: _
          congr 1
          show List.map _ _ = List.mapIdx _ _
          apply List.ext_getElem?
          intro i
          rw [List.getElem?_map, List.getElem?_mapIdx]
          by_cases hi : i < x.length
          · rw [List.getElem?_range hi]
            have hl : i < x.cps.toList.length := by rw [Array.length_toList]; exact hi
            rw [List.getElem?_eq_getElem hl]
            show some (rowT (.str x) [i]) = some _
            congr 1
            unfold rowT partD
            have hk : kid (.str x) (.int (i : Int)) = some (.str ⟨#[x.cps.toList[i]]⟩) := by
              unfold kid
              rw [if_pos (show isSplit (.str x) = true from decide_eq_true e)]
              show (if (0 : Int) ≤ (i : Int) then (itD (.str x))[(i : Int).toNat]? else none) = _
              rw [if_pos (by omega)]
              show (sgD x)[i]? = _
              unfold sgD
              rw [List.getElem?_map, List.getElem?_eq_getElem hl]
              rfl
            have hp : partAt (.str x) [i] = some (.str ⟨#[x.cps.toList[i]]⟩) := by simp only [partAt, hk]; rfl
            rw [hp]
            rfl
          · rw [List.getElem?_eq_none (by rw [List.length_range]; omega), List.getElem?_eq_none (by rw [Array.length_toList]; show x.length ≤ i; omega)]
            rfl
        rw [zz] at z
        have lm : (x.cps.toList.mapIdx fun i c => PyData.tuple [.tuple [.int (i : Int)], .str ⟨#[c]⟩, .bool true]).length = x.length := by rw [List.length_mapIdx, Array.length_toList]; rfl
        refine ⟨by rw [enumD_len, List.length_map, Array.length_toList]; show x.length ≤ _; omega, fun k acc ω2 => acc = (x.cps.toList.mapIdx fun i c => PyData.tuple [.tuple [.int (i : Int)], .str ⟨#[c]⟩, .bool true]).take k ∧ ω2 = ω, ⟨rfl, rfl⟩, ?_, ?_⟩
        · rintro k y acc ω2 hy ⟨rfl, rfl⟩ _
          obtain ⟨u, hu, rfl⟩ := enumD_get hy
          rw [List.getElem?_map] at hu
          obtain ⟨cc, hc, rfl⟩ := Option.map_eq_some_iff.mp hu
          refine ⟨rfl, rfl, by show 1 ≤ sizeLine; omega, by show 3 ≤ sizeLine; omega, ?_, rfl⟩
          rw [List.take_add_one, List.getElem?_mapIdx, hc]
          rfl
        · rintro acc ω2 _ ⟨rfl, rfl⟩
          have el : (enumD (x.cps.toList.map fun c => PyData.str ⟨#[c]⟩)).length = (x.cps.toList.mapIdx fun i c => PyData.tuple [.tuple [.int (i : Int)], .str ⟨#[c]⟩, .bool true]).length := by rw [enumD_len, List.length_map, List.length_mapIdx]
          rw [el, List.take_length]
          refine ⟨by show 1 + _ ≤ sizeLine; rw [lm]; omega, z⟩
      · have e : ¬ 1 < x.length := fun k => e (decide_eq_true (by omega))
        simp only [plcs, if_neg e] at z
        exact z
    | list xs =>
      simp only [PyData.depth] at dn
      have hr : ((plcs (.list xs)).map (rowT (.list xs))) = PyData.tuple [.tuple [], .list xs, .bool false] :: (plcsAll 0 xs).map (rowT (.list xs)) := rfl
      rw [hr] at z
      simp only [plcs, List.length_cons] at pz
      refine ⟨trivial, iteT ⟨fun i ρ ω' => ∃ u2 u3 : Option PyData, ρ = [some (.list xs), some (.list (PyData.tuple [.tuple [], .list xs, .bool false] :: (plcsAll 0 (xs.take i)).map (rowT (.list xs)))), u2, u3, none, none, none, none] ∧ ω' = ω, ⟨none, none, rfl, rfl⟩, ?_, ?_⟩⟩
      · rintro i y ρ ω' hy ⟨u2, u3, rfl, rfl⟩
        obtain ⟨x, hx, rfl⟩ := enumD_get hy
        have mx := List.mem_of_getElem? hx
        have vx : Val 20 100000 x := (vd.item mx).mono (by omega) (by omega)
        have px := plcs_sz vx.val
        have sx := vx.size
        have dx := depth_mem mx
        have sn := plcsAll_snoc hx
        have tk : (plcsAll 0 (xs.take (i + 1))).length ≤ (plcsAll 0 xs).length := by
          have h2 := plcsAll_app (xs.take (i + 1)) (xs.drop (i + 1)) 0
          rw [List.take_append_drop] at h2
          rw [h2, List.length_append]
          omega
        have tl : (plcsAll 0 (xs.take i)).length + (plcs x).length ≤ 100000 := by
          have := congrArg List.length sn
          rw [List.length_append, List.length_map] at this
          omega
        refine ⟨rfl, rfl, x, rfl, vx, by omega, ?_⟩
        refine ⟨_, rfl, by rw [List.length_map]; omega, fun j acc ω2 => acc = ((plcs x).take j).map (fun p => rowT (.list xs) (i :: p)) ∧ ω2 = ω', ⟨rfl, rfl⟩, ?_, ?_⟩
        · rintro j y acc ω2 hy ⟨rfl, rfl⟩ _
          rw [List.getElem?_map] at hy
          obtain ⟨p, hp, rfl⟩ := Option.map_eq_some_iff.mp hy
          have pl := plcs_len x p (List.mem_of_getElem? hp)
          have dx := vx.deep
          refine ⟨rfl, rfl, by show 1 ≤ sizeLine; omega, by show 1 + (p.map _).length ≤ sizeLine; rw [List.length_map]; omega, by show 3 ≤ sizeLine; omega, ?_, rfl⟩
          rw [← tk_snoc hp, List.map_append]
          show _ ++ [_] = _ ++ [rowT (.list xs) (i :: p)]
          rw [row_list hx]
          rfl
        · rintro acc ω2 _ ⟨rfl, rfl⟩
          rw [List.length_map, List.take_length]
          refine ⟨by simp only [List.length_cons, List.length_map]; omega, some (.int (i : Int)), some x, ?_, rfl⟩
          rw [sn, List.map_append, List.map_map]
          rfl
      · rintro ρ ω' ⟨u2, u3, rfl, rfl⟩
        rw [enumD_len, List.take_length]
        exact ⟨trivial, iteF z⟩
    | _ => have := vd.val; simp [isVal] at this
end
end Tx

namespace Tx
open PySem PySem.Spec PyProof.Rows L2
/-! ## k03: part_of, is_torn with their refusals; asked -/
/-- 0 value, 1 place, 2 way -/
abbrev sIsTorn : Stmt := top 11
theorem scIsTorn : FnScope ["value", "place", "way"] ["value", "place"] (defScope sIsTorn) := ⟨rfl, rfl, rfl, by decide +kernel, rfl, by decide +kernel, by decide +kernel⟩
/-- 0 value, 1 place, 2 way -/
abbrev sPartOf : Stmt := top 10
theorem scPartOf : FnScope ["value", "place", "way"] ["value", "place"] (defScope sPartOf) := ⟨rfl, rfl, rfl, by decide +kernel, rfl, by decide +kernel, by decide +kernel⟩
/-- 0 _law_value_here, 1 _law_thing_here, 2 _law_told, 3 e -/
abbrev sAsked : Stmt := top 21
theorem scAsked : FnScope ["_law_value_here", "_law_thing_here", "_law_told", "e"] ["_law_value_here", "_law_thing_here"] (defScope sAsked) := ⟨rfl, rfl, rfl, by decide +kernel, rfl, by decide +kernel, by decide +kernel⟩
def Shrt (e : PyData) : Prop := e.hasDict = false ∧ ∀ es, e = .tuple es → es.length ≤ 1000
def dsPartX (C : Addr) : DSp := fun ts ω q x => ∃ d e, ts = [d, e] ∧ Shrt e ∧ Val 20 100000 d ∧ ((ledD d e = [] ∧ x C [("place", e)] ω) ∨ ∃ p, e = plD p ∧ p ∈ plcs d ∧ ∀ u ω', Tm ω u (partD d p) ω' → q u ω')
def dsTornX (C : Addr) : DSp := fun ts ω q x => ∃ d e, ts = [d, e] ∧ Shrt e ∧ Val 20 100000 d ∧ ((ledD d e = [] ∧ x C [("place", e)] ω) ∨ ∃ p, e = plD p ∧ p ∈ plcs d ∧ q (.bool (tornR d p)) ω)
def dsAsked : DSp := fun ts ω q _ => ∃ d e, ts = [d, e] ∧ Shrt e ∧ Val 20 100000 d ∧
  ((ledD d e = [] ∧ q (.list [.list [.str "no", e, .bool true, .bool false], .list [.str "no", e]]) ω) ∨ ∃ p, e = plD p ∧ p ∈ plcs d ∧ ∀ u ω', Tm ω u (partD d p) ω' → q (.list [u, .bool (tornR d p)]) ω')
theorem at_last {α : Type} {xs : List α} {x : α} (h : xs.getLast? = some x) : atI xs (-1) = some x := by
  rw [List.getLast?_eq_getElem?] at h
  have hl := (List.getElem?_eq_some_iff.mp h).1
  unfold atI ixN
  rw [if_neg (by omega), if_pos (by omega), Option.bind_some, show (-1 + (xs.length : Int)).toNat = xs.length - 1 by omega]
  exact h
theorem upd_xd {ω : Wd} {r dd : Addr} {m n x : MO} (hr : ω r = none) (hd : updW ω r m dd = none) : delW (updW (updW (updW ω r m) dd x) r n) dd = updW ω r n := by
  have ne : dd ≠ r := fun e => by rw [e, updW_same] at hd; cases hd
  rw [updW_ne ne] at hd
  funext b
  unfold delW updW
  by_cases h1 : b = dd
  · rw [if_pos h1, h1, if_neg ne, hd]
  · rw [if_neg h1]
    by_cases h2 : b = r
    · rw [if_pos h2, if_pos h2]
    · rw [if_neg h2, if_neg h1, if_neg h2, if_neg h2]
theorem nx_eq {nx : DS → Wd → Prop} {ρ : DS} {ω ω' : Wd} (e : ω = ω') (z : nx ρ ω') : nx ρ ω := by rw [e]; exact z
theorem xd_keep {ω : Wd} {r dd : Addr} {m x : MO} (hd : updW ω r m dd = none) : updW (updW ω r m) dd x r = some m := by
  have ne : r ≠ dd := fun e => by rw [← e, updW_same] at hd; cases hd
  rw [updW_ne ne, updW_same]
theorem tm_own {ω ω2 : Wd} {r : Addr} {m n : MO} {u d : PyData} (hr : ω r = none) (t : Tm (updW ω r m) u d ω2) : ω2 r = some m ∧ Tm ω u d (delW (updW ω2 r n) r) := by
  rcases t with ⟨h1, rfl, rfl⟩ | ⟨a, N, rfl, ha, rfl, hl⟩
  · refine ⟨updW_same, .inl ⟨h1, rfl, ?_⟩⟩
    rw [updW_updW, delW_updW hr]
  · have ne : a ≠ r := fun e => by rw [e, updW_same] at ha; cases ha
    rw [updW_ne ne] at ha
    refine ⟨by rw [updW_ne (Ne.symm ne), updW_same], .inr ⟨a, N, rfl, ha, ?_, hl⟩⟩
    funext b
    unfold delW updW
    by_cases h2 : b = r
    · rw [if_pos h2, if_neg (by rw [h2]; exact Ne.symm ne), h2, hr]
    · rw [if_neg h2, if_neg h2]
      by_cases h1 : b = a
      · rw [if_pos h1, if_pos h1]
      · rw [if_neg h1, if_neg h1, if_neg h2]
theorem place_way {d : PyData} (vd : Val 20 100000 d) {p : List Nat} (h : p ∈ plcs d) : ∃ ps, ledD d (plD p) = d :: ps ∧ (d :: ps).getLast? = some (partD d p) ∧ tornW (d :: ps) = tornR d p := by
  obtain ⟨e, he⟩ := plcs_part p d h
  obtain ⟨ps, h1, h2, h3⟩ := part_path p d e he
  refine ⟨ps, led_of h1, ?_, h3⟩
  rw [h2]
  unfold partD
  rw [he]
  rfl
theorem place_led {d e : PyData} (h : ledD d e ≠ []) : ∃ p, e = plD p ∧ p ∈ plcs d := led_place h
section
variable {P : Program} {w : World} {K : PySem.W.Frag} {mg : Str → Option Value} {base : Heap} {C CT CB : Addr}
theorem dd_tornX (h : Has K mg "is_torn" sIsTorn) (B : Bi mg) (D_led_to : Dfn P w K mg base CX0 2 "led_to" ["value", "place"] (spD K dsLed)) (X_NoPlace : Err1 P w K mg base "NoPlace" "place" C) :
    Dfn P w K mg base (L2.CX P w) 5 "is_torn" ["value", "place"] (spD K (dsTornX C)) := by
  refine dfnDX (k := 4) h B scIsTorn (fun _ _ _ _ _ _ us hl => match us, hl with | [_, _], _ => rfl) (fun ts ω q x h => ?_) (fun f cv A out s H E c => ⟨_, (dss_cons (ds_set (i := 2) scIsTorn.nd rfl (Or.inl rfl) (de_d D_led_to c (by omega) (by rfl) (da_cons (de_var (pv 0)) (da_cons (de_var (pv 1)) da_nil))))
    (dss_cons (ds_if (dt_cmp (do_eq rfl c.r.units) (de_var (pv 2)) (de_lst da_nil) (nomark _)) (dss_one (ds_err1 (k := 0) X_NoPlace rfl (c.r.mono (by omega)) (takes_of rfl rfl rfl rfl) (de_var (pv 1)) (by rfl))) dss_nil)
    (dss_one (ds_ret (de_and (de_cmp (do_gt rfl) (de_callB (dc_len rfl) (by rfl) c.b.len (by decide +kernel) (da_cons (de_var (pv 2)) da_nil)) de_int (nomark _)) (de_one (de_isi (T := "str") rfl kit_str (by rfl) c.b.isinstance (de_ix rfl (de_var (pv 2)) (de_neg de_int) (fun _ _ => rfl)) (pe_bltn (v := .ty "str") (by rfl) c.b.str (by decide +kernel) rfl)))))))), fun ts ω q x h => ?_⟩)
  · obtain ⟨d, e, rfl, _⟩ := h; rfl
  obtain ⟨d, e, rfl, ⟨he, hes⟩, vd, z⟩ := h
  refine ⟨d, e, rfl, he, vd, hes, (by show 0 ≤ sizeLine; decide), eqD_of .rfl' .rfl' (vals_shaped (led_val (by decide) vd)) (by decide +kernel) ?_⟩
  rw [eqv_nil]
  rcases z with ⟨hE, zx⟩ | ⟨p, rfl, hp, z⟩
  · rw [hE]
    exact iteT zx
  obtain ⟨ps, e1, e2, e3⟩ := place_way vd hp
  have vw := led_val (e := plD p) (by decide) vd
  rw [e1] at vw ⊢
  rw [← e3] at z
  refine iteF ⟨trivial, ite2 (fun g => ?_) (fun g => ?_)⟩
  · have y1 : (1 : Int) < ((d :: ps).length : Int) := of_decide_eq_true g
    obtain ⟨xs, u, v, e4⟩ := last2 (xs := d :: ps) (by omega)
    have vu := vw u (by rw [e4]; simp)
    rw [e4] at z ⊢
    rw [tornW_two] at z
    refine ⟨u, atI_m2 _ _ _, ?_⟩
    have val := vu.val
    cases u <;> first | exact ⟨trivial, z⟩ | (simp [isVal] at val; done)
  · have : (d :: ps).length ≤ 1 := by
      have : ¬ (1 : Int) < ((d :: ps).length : Int) := fun k => g (decide_eq_true k)
      omega
    rw [tornW_short this] at z
    exact z
theorem dd_partX (h : Has K mg "part_of" sPartOf) (B : Bi mg) (D_led_to : Dfn P w K mg base CX0 2 "led_to" ["value", "place"] (spD K dsLed)) (D_copied : Dfn P w K mg base CX0 30 "copied" ["value"] (spD K (dsCopied 30))) (X_NoPlace : Err1 P w K mg base "NoPlace" "place" C) :
    Dfn P w K mg base (L2.CX P w) 33 "part_of" ["value", "place"] (spD K (dsPartX C)) := by
  refine dfnDX (k := 32) h B scPartOf (fun _ _ _ _ _ _ us hl => match us, hl with | [_, _], _ => rfl) (fun ts ω q x h => ?_) (fun f cv A out s H E c => ⟨_, (dss_cons (ds_set (i := 2) scPartOf.nd rfl (Or.inl rfl) (de_d D_led_to c (by omega) (by rfl) (da_cons (de_var (pv 0)) (da_cons (de_var (pv 1)) da_nil))))
    (dss_cons (ds_if (dt_cmp (do_eq rfl c.r.units) (de_var (pv 2)) (de_lst da_nil) (nomark _)) (dss_one (ds_err1 (k := 0) X_NoPlace rfl (c.r.mono (by omega)) (takes_of rfl rfl rfl rfl) (de_var (pv 1)) (by rfl))) dss_nil)
    (dss_one (ds_ret (de_d D_copied c (by omega) (by rfl) (da_cons (de_ix rfl (de_var (pv 2)) (de_neg de_int) (fun _ _ => rfl)) da_nil)))))), fun ts ω q x h => ?_⟩)
  · obtain ⟨d, e, rfl, _⟩ := h; rfl
  obtain ⟨d, e, rfl, ⟨he, hes⟩, vd, z⟩ := h
  refine ⟨d, e, rfl, he, vd, hes, (by show 0 ≤ sizeLine; decide), eqD_of .rfl' .rfl' (vals_shaped (led_val (by decide) vd)) (by decide +kernel) ?_⟩
  rw [eqv_nil]
  rcases z with ⟨hE, zx⟩ | ⟨p, rfl, hp, z⟩
  · rw [hE]
    exact iteT zx
  obtain ⟨ps, e1, e2, e3⟩ := place_way vd hp
  have ve := part_val (by decide) p vd (plcs_part' hp)
  rw [e1]
  refine iteF ⟨partD d p, at_last e2, partD d p, rfl, ve.val, by have := ve.deep; omega, by have := ve.size; omega, z⟩
theorem dd_asked (h : Has K mg "_law_asked" sAsked) (B : Bi mg) (D_part_of : Dfn P w K mg base (L2.CX P w) 33 "part_of" ["value", "place"] (spD K (dsPartX C))) (D_is_torn : Dfn P w K mg base (L2.CX P w) 5 "is_torn" ["value", "place"] (spD K (dsTornX C))) (X_NoPlace : Err1 P w K mg base "NoPlace" "place" C)
    (X_TextorlistError : Cls0 mg "TextorlistError" CT) (X_BadValue : Cls0 mg "BadValue" CB) (k1 : PySem.W.kitOne K (.ref C) (.ref CT) = some true) (k2 : PySem.W.kitOne K (.ref C) (.ref CB) = some false) :
    Dfn P w K mg base CX0 40 "_law_asked" ["_law_value_here", "_law_thing_here"] (spD K dsAsked) := by
  refine dfnD (k := 39) h B scAsked (fun _ _ _ _ _ _ us hl => match us, hl with | [_, _], _ => rfl) (fun ts ω q x h => ?_) (fun f cv A out s H E c => ⟨_, (dss_cons (ds_set (i := 2) scAsked.nd rfl (Or.inl rfl) (de_lstO da_nil))
    (dss_cons (ds_try_as (i := 3) rfl rfl rfl scAsked.nd rfl rfl ⟨rfl, by decide, Or.inl X_NoPlace.gC⟩ takes0
    (fun W pn xe tk _ => (dss_one (ds_expr (de_append rfl (de_var (pv 2)) (de_dX D_part_of c (by omega) (by rfl) (fun σ => passAt tk σ) (da_cons (de_var (pv 0)) (da_cons (de_var (pv 1)) da_nil)))))))
    (fun a oe cls d pn hz hf => (dss_one (ds_expr (de_append rfl (de_var (pv 2)) (de_lst (da_cons de_str (da_cons (de_xf rfl X_NoPlace.xf X_NoPlace.noF hz hf (de_var (pv 3))) (da_cons (de_isX rfl X_NoPlace.exc hz hf (by rfl) c.b.isinstance (de_var (pv 3)) (pe_gcl X_TextorlistError.gC (by rfl))) (da_cons (de_isX rfl X_NoPlace.exc hz hf (by rfl) c.b.isinstance (de_var (pv 3)) (pe_gcl X_BadValue.gC (by rfl))) da_nil))))))))))
    (dss_cons (ds_try_as (i := 3) rfl rfl rfl scAsked.nd rfl rfl ⟨rfl, by decide, Or.inl X_NoPlace.gC⟩ takes0
    (fun W pn xe tk _ => (dss_one (ds_expr (de_append rfl (de_var (pv 2)) (de_dX D_is_torn c (by omega) (by rfl) (fun σ => passAt tk σ) (da_cons (de_var (pv 0)) (da_cons (de_var (pv 1)) da_nil)))))))
    (fun a oe cls d pn hz hf => (dss_one (ds_expr (de_append rfl (de_var (pv 2)) (de_lst (da_cons de_str (da_cons (de_xf rfl X_NoPlace.xf X_NoPlace.noF hz hf (de_var (pv 3))) da_nil))))))))
    (dss_one (ds_ret (de_frz (pv 2))))))), fun ts ω q x h => ?_⟩)
  · obtain ⟨d, e, rfl, _⟩ := h; rfl
  obtain ⟨d, e, rfl, sh, vd, z⟩ := h
  have s0 : (0 : Nat) < sizeLine := by decide
  have s1 : (1 : Nat) < sizeLine := by decide
  refine ⟨Nat.le_of_lt s0, fun r hr => ?_⟩
  refine ⟨r, [], rfl, updW_same, d, e, rfl, sh, vd, ?_⟩
  rcases z with ⟨hE, z⟩ | ⟨p, rfl, hp, z⟩
  · refine .inl ⟨hE, true, X_NoPlace.self, fun _ a dd ω2 xi => ?_, fun y => Bool.noConfusion y⟩
    rcases xi with ⟨_, y, _⟩ | ⟨dd, rfl, n0, rfl⟩
    · cases y
    refine ⟨r, [], rfl, xd_keep n0, ?_⟩
    refine ⟨rfl, rfl, dd, _, e, rfl, updW_same, (by simp [List.lookup]), rfl, rfl, (fun d2 e2 => by cases e2; exact ⟨_, updW_same⟩), true, k1, rfl, rfl, (fun d2 e2 => by cases e2; exact ⟨_, updW_same⟩), false, k2, ?_⟩
    refine ⟨(by show 4 ≤ sizeLine; decide), [], xd_keep n0, s0, ?_⟩
    dsimp only
    refine nx_eq (upd_xd hr n0) ?_
    refine ⟨r, _, rfl, updW_same, d, e, rfl, sh, vd, .inl ⟨hE, true, X_NoPlace.self, fun _ a2 dd2 ω3 xi => ?_, fun y => Bool.noConfusion y⟩⟩
    rcases xi with ⟨_, y, _⟩ | ⟨dd2, rfl, n1, rfl⟩
    · cases y
    refine ⟨r, _, rfl, xd_keep n1, ?_⟩
    refine ⟨rfl, rfl, dd2, _, e, rfl, updW_same, (by simp [List.lookup]), ?_⟩
    refine ⟨(by show 2 ≤ sizeLine; decide), _, xd_keep n1, s1, ?_⟩
    dsimp only
    refine nx_eq (upd_xd hr n1) ?_
    refine ⟨r, _, rfl, updW_same, ?_⟩
    rw [delW_updW hr]
    exact z
  · refine .inr ⟨p, rfl, hp, fun u ω2 tm => ?_⟩
    have k := (tm_own (n := .bag) hr tm).1
    refine ⟨[], k, s0, ?_⟩
    refine ⟨r, _, rfl, updW_same, d, plD p, rfl, sh, vd, .inr ⟨p, rfl, hp, _, updW_same, s1, ?_⟩⟩
    refine ⟨r, _, rfl, updW_same, ?_⟩
    rw [updW_updW]
    exact z u _ (tm_own hr tm).2
end
end Tx

namespace Tx
open PySem PySem.Spec PyProof.Rows L2
/-! ## k03: something like a place -/
/-- 0 _law_bag_here, 1 _law_places, 2 _law_place, 3 _law_pick, 4 _law_one -/
abbrev sThing : Stmt := top 22
theorem scThing : FnScope ["_law_bag_here", "_law_places", "_law_place", "_law_pick", "_law_one"] ["_law_bag_here", "_law_places"] (defScope sThing) := ⟨rfl, rfl, rfl, by decide +kernel, rfl, by decide +kernel, by decide +kernel⟩
structure Itk (e : PyData) : Prop where
  fine : fine e = true
  deep : e.depth ≤ 2
  wt : wt e ≤ 10000
structure Thg (e : PyData) : Prop where
  fine : fine e = true
  deep : e.depth ≤ 3
  wt : wt e ≤ 3000000
  short : ∀ es, e = .tuple es → es.length ≤ 1000
theorem itk_int {i : Int} (h : i.natAbs ≤ 2 ^ 100) : Itk (.int i) := by
  refine ⟨?_, by simp [PyData.depth], by simp [Tx.wt]⟩
  simp only [Tx.fine, decide_eq_true_eq]
  by_cases z : i.natAbs = 0
  · rw [z]; decide
  · have := (Nat.log2_lt z).mpr (show i.natAbs < 2 ^ 101 by omega)
    omega
theorem itks_all {es : List PyData} (h : ∀ e ∈ es, Itk e) : fineAll es = true ∧ PyData.depthAll es ≤ 2 ∧ wtAll es ≤ 10002 * es.length := by
  induction es with
  | nil => exact ⟨rfl, by simp [PyData.depthAll], by simp [wtAll]⟩
  | cons e es ih =>
    obtain ⟨h1, h2, h3⟩ := ih fun e he => h e (List.mem_cons_of_mem _ he)
    have k := h e List.mem_cons_self
    have k1 := k.deep
    have k2 := k.wt
    refine ⟨?_, ?_, ?_⟩
    · simp only [fineAll, k.fine, h1, Bool.and_self]
    · simp only [PyData.depthAll]; omega
    · simp only [wtAll, List.length_cons]; omega
theorem thg_tup {es : List PyData} (h : ∀ e ∈ es, Itk e) (hl : es.length ≤ 200) : Thg (.tuple es) := by
  obtain ⟨h1, h2, h3⟩ := itks_all h
  refine ⟨by simp only [Tx.fine]; exact h1, by simp only [PyData.depth]; omega, by simp only [Tx.wt]; omega, fun es' e => ?_⟩
  injection e with e
  subst e
  omega
theorem thg_list {es : List PyData} (h : ∀ e ∈ es, Itk e) (hl : es.length ≤ 200) : Thg (.list es) := by
  obtain ⟨h1, h2, h3⟩ := itks_all h
  exact ⟨by simp only [Tx.fine]; exact h1, by simp only [PyData.depth]; omega, by simp only [Tx.wt]; omega, fun es' e => nomatch e⟩
theorem thg_it {e : PyData} (h : Itk e) (ht : isT e = false) : Thg e := by
  have := h.deep
  have := h.wt
  refine ⟨h.fine, by omega, by omega, fun es z => ?_⟩
  subst z
  cases ht
theorem itk_nats {p : List Nat} (h : ∀ k ∈ p, k < 1000) : ∀ e ∈ intsD p, Itk e := fun e he => by
  obtain ⟨k, hk, rfl⟩ := List.mem_map.mp he
  have := h k hk
  exact itk_int (by omega)
theorem itk_str {k : Nat} (h : k < 1000) : Itk (.str (toString (k : Int))) := by
  have key : ∀ k : Fin 1000, (fine (.str (toString ((k.val : Nat) : Int))) && decide (wt (.str (toString ((k.val : Nat) : Int))) ≤ 10000)) = true := by decide +kernel
  have := key ⟨k, h⟩
  rw [Bool.and_eq_true] at this
  exact ⟨this.1, by simp [PyData.depth], of_decide_eq_true this.2⟩
theorem itk_none : Itk .none := ⟨rfl, by decide, by decide⟩
theorem itk_bool (b : Bool) : Itk (.bool b) := ⟨rfl, by simp [PyData.depth], by simp [Tx.wt]⟩
theorem itk_one {e : PyData} (h : Itk e) (d : e.depth ≤ 1) (w : wt e ≤ 9000) : Itk (.tuple [e]) ∧ Itk (.list [e]) := by
  have hf := h.fine
  refine ⟨⟨?_, ?_, ?_⟩, ⟨?_, ?_, ?_⟩⟩
  · simp only [Tx.fine, fineAll, hf, Bool.and_self]
  · simp only [PyData.depth, PyData.depthAll]; omega
  · simp only [Tx.wt, wtAll]; omega
  · simp only [Tx.fine, fineAll, hf, Bool.and_self]
  · simp only [PyData.depth, PyData.depthAll]; omega
  · simp only [Tx.wt, wtAll]; omega
def dsThing : DSp := fun ts ω q _ => ∃ (b f : Addr) (pls : List (List Nat)), ts = [refD b, refD f] ∧ ω b = some .bag ∧ ω f = some (.lst (pls.map plD)) ∧ 0 < pls.length ∧ pls.length ≤ 100000 ∧ (∀ p ∈ pls, p.length ≤ 50 ∧ ∀ k ∈ p, k < 1000) ∧ ∀ e, Thg e → q e ω
section
variable {ω : Wd} {q : DQ} {x : DXK} {ρ : DS} {p' : List Nat} {k' : Nat} {te : DTE}
theorem pl_snoc (p' : List Nat) (k' : Nat) : plD (p' ++ [k']) = .tuple (intsD p' ++ [.int (k' : Int)]) := by unfold plD intsD; rw [List.map_append]; rfl
theorem last_ok (h2 : ρ[2]? = some (some (plD (p' ++ [k'])))) (z : q (.int (k' : Int)) ω) : dOp ixD (dVar 2) (dNeg (dC (.int 1))) ρ ω q x := by
  unfold dOp dVar dNeg dC
  simp only [h2]
  rw [pl_snoc]
  exact ⟨_, atI_last _ _, z⟩
theorem next_ok {b : Addr} (h2 : ρ[2]? = some (some (plD (p' ++ [k'])))) (h0 : ρ[0]? = some (some (refD b))) (hb : ω b = some .bag) (z : ∀ r : Int, 0 ≤ r → r < 3 → q (.int ((k' : Int) + 1 + r)) ω) :
    dOp addD (dOp addD (dOp ixD (dVar 2) (dNeg (dC (.int 1)))) (dC (.int 1))) (dCall dsTake (dCons (dVar 0) (dCons (dC (.int 3)) dNil))) ρ ω q x := by
  unfold dOp dVar dNeg dCall dCons dNil dC
  simp only [h2, h0]
  rw [pl_snoc]
  exact ⟨_, atI_last _ _, b, 3, rfl, hb, by decide, by decide, fun r r0 r1 => z r r0 r1⟩
theorem put_ok {v : PyData} (hl : p'.length ≤ 50) (z : q (.tuple (intsD p' ++ [v])) ω) : [v].length ≤ sizeLine ∧ addD (.tuple (intsD p')) (.tuple [v]) ω fun r => q r ω := by
  refine ⟨by show 1 ≤ sizeLine; decide, ?_, z⟩
  have : (intsD p').length = p'.length := by unfold intsD; rw [List.length_map]
  rw [this, sizeLine_eq]
  show p'.length + 1 ≤ _
  omega
theorem init_ok (h2 : ρ[2]? = some (some (plD (p' ++ [k'])))) (z : te ρ ω (fun v ω1 => [v].length ≤ sizeLine ∧ addD (.tuple (intsD p')) (.tuple [v]) ω1 fun r => q r ω1) x) : dOp addD (dSl (dVar 2) none (some (dNeg (dC (.int 1))))) (dTup (dCons te dNil)) ρ ω q x := by
  unfold dOp dSl dVar dNeg dC
  simp only [h2]
  rw [pl_snoc]
  show dTup (dCons te dNil) ρ ω (fun b ω2 => addD (.tuple (cutD (intsD p' ++ [.int (k' : Int)]) none (some (-1)))) b ω2 fun r => q r ω2) x
  rw [cutD_init]
  exact z
theorem pick_ok {b g : Addr} {pls : List (List Nat)} (h0 : ρ[0]? = some (some (refD b))) (h1 : ρ[1]? = some (some (refD g))) (hb : ω b = some .bag) (hx : ω g = some (.lst (pls.map plD))) (p0 : 0 < pls.length) (pn : pls.length ≤ 100000) (z : ∀ p ∈ pls, q (plD p) ω) :
    dOp ixD (dVar 1) (dCall dsTake (dCons (dVar 0) (dCons (dCB lenD (dCons (dVar 1) dNil)) dNil))) ρ ω q x := by
  unfold dOp dCall dCons dCB dNil dVar
  simp only [h0, h1]
  refine lenD_cell hx ?_
  refine ⟨b, _, rfl, hb, by rw [List.length_map]; omega, by rw [List.length_map]; omega, fun r r0 r1 => ?_⟩
  obtain ⟨v, e1, e2⟩ := atI_of (xs := pls.map plD) r0 r1
  rw [List.getElem?_map] at e2
  obtain ⟨p, ep, rfl⟩ := Option.map_eq_some_iff.mp e2
  exact ixD_cell hx e1 (z p (List.mem_of_getElem? ep))
theorem neq_nil (p : List Nat) {A B : Prop} (h1 : p ≠ [] → A) (h2 : p = [] → B) : neD (plD p) (.tuple []) ω fun r => match r with
    | .bool b => if b = true then A else B
    | _ => False := by
  refine neD_of .rfl' .rfl' (plD_shaped p) rfl ?_
  rw [eqv_pl_nil]
  cases p with
  | nil => exact iteF (h2 rfl)
  | cons i p => exact iteT (h1 (by simp))
end
section
variable {ω : Wd} {ρ : DS} {D : DEnds} {S : DTS} {p : List Nat} {k c : Int}
theorem ifand_ok (h3 : ρ[3]? = some (some (.int k))) (h2 : ρ[2]? = some (some (plD p))) (hit : k = c → p ≠ [] → S D ρ ω) (rest : D.nx ρ ω) :
    dIfS (dAnd (dTest (dOp eqD (dVar 3) (dC (.int c)))) (dTest (dOp neD (dVar 2) (dTup dNil)))) S dNext D ρ ω := by
  unfold dIfS dAnd dTest dOp dC dVar dTup dNil
  simp only [h3, h2]
  show (if decide (k = c) = true then _ else _)
  by_cases e : k = c
  · rw [if_pos (decide_eq_true e)]
    exact ⟨Nat.zero_le _, neq_nil p (fun ne => hit e ne) (fun _ => rest)⟩
  · rw [if_neg (by rw [decide_eq_false e]; simp)]
    exact iteF rest
end
theorem snoc_of {p : List Nat} (h : p ≠ []) : ∃ p' k', p = p' ++ [k'] := by
  rcases List.eq_nil_or_concat p with e | ⟨p', k', e⟩
  · exact absurd e h
  · exact ⟨p', k', by rw [e, List.concat_eq_append]⟩
section
variable {P : Program} {w : World} {K : PySem.W.Frag} {mg : Str → Option Value} {base : Heap}
theorem dd_thing (h : Has K mg "_law_thing" sThing) (B : Bi mg) (D_law_take : Dfn P w K mg base CX0 1 "_law_take" ["_law_bag_here", "_law_many"] (spD K dsTake)) : Dfn P w K mg base CX0 2 "_law_thing" ["_law_bag_here", "_law_places"] (spD K dsThing) := by
  refine dfnD (k := 1) h B scThing (fun _ _ _ _ _ _ us hl => match us, hl with | [_, _], _ => rfl) (fun ts ω q x h => ?_) (fun f cv A out s H E c => ⟨_, (dss_cons (ds_set (i := 2) scThing.nd rfl (Or.inl rfl) (de_ix rfl (de_var (pv 1)) (de_d D_law_take c (by omega) (by rfl) (da_cons (de_var (pv 0)) (da_cons (de_callB (dc_len rfl) (by rfl) c.b.len (by decide +kernel) (da_cons (de_var (pv 1)) da_nil)) da_nil))) (fun _ _ => rfl)))
    (dss_cons (ds_set (i := 3) scThing.nd rfl (Or.inl rfl) (de_d D_law_take c (by omega) (by rfl) (da_cons (de_var (pv 0)) (da_cons de_int da_nil))))
    (dss_cons (ds_if (DW.dt (dw_and (dt_cmp (do_eq rfl c.r.units) (de_var (pv 3)) de_int (nomark _)) (dw_and1 (dt_cmp (do_ne rfl c.r.units) (de_var (pv 2)) (de_tup da_nil) (nomark _))))) (dss_one (ds_ret (de_op (do_add rfl) (de_sl rfl (de_var (pv 2)) do_none (do_some (de_neg de_int))) (de_tup (da_cons (de_op (do_sub rfl) (de_ix rfl (de_var (pv 2)) (de_neg de_int) (fun _ _ => rfl)) (de_ix rfl (de_lst (da_cons de_int (da_cons de_int (da_cons de_int (da_cons (de_op (do_pow rfl) de_int de_int) da_nil))))) (de_d D_law_take c (by omega) (by rfl) (da_cons (de_var (pv 0)) (da_cons de_int da_nil))) (fun _ _ => rfl))) da_nil))))) dss_nil)
    (dss_cons (ds_if (DW.dt (dw_and (dt_cmp (do_eq rfl c.r.units) (de_var (pv 3)) de_int (nomark _)) (dw_and1 (dt_cmp (do_ne rfl c.r.units) (de_var (pv 2)) (de_tup da_nil) (nomark _))))) (dss_one (ds_ret (de_op (do_add rfl) (de_sl rfl (de_var (pv 2)) do_none (do_some (de_neg de_int))) (de_tup (da_cons (de_op (do_add rfl) (de_op (do_add rfl) (de_ix rfl (de_var (pv 2)) (de_neg de_int) (fun _ _ => rfl)) de_int) (de_d D_law_take c (by omega) (by rfl) (da_cons (de_var (pv 0)) (da_cons de_int da_nil)))) da_nil))))) dss_nil)
    (dss_cons (ds_if (DW.dt (dw_and (dt_cmp (do_eq rfl c.r.units) (de_var (pv 3)) de_int (nomark _)) (dw_and1 (dt_cmp (do_ne rfl c.r.units) (de_var (pv 2)) (de_tup da_nil) (nomark _))))) (dss_one (ds_ret (de_callTy (dc_tuple rfl) (by rfl) c.b.tuple (by decide +kernel) (da_cons (de_lc (own := [("_law_one", 4)]) (gd := (dgName 4)) (is := [4]) (tt := dYes) rfl scThing.nd (di_data rfl (de_var (pv 2))) (blkOk_by (own := [("_law_one", 4)]) (N := ["_law_bag_here", "_law_places", "_law_place", "_law_pick", "_law_one"]) (sc := defScope sThing) (by decide +kernel)) (fun _ _ _ _ _ => (dg_name (pg_name (i := 4) scThing.nd rfl (Or.inl rfl)))) (fun _ _ _ _ _ => dts_nil) (fun _ _ _ _ _ => (de_if (dt_cmp (do_lt rfl) (de_var (pv 4)) de_int (nomark _)) (de_cmp (do_eq rfl c.r.units) (de_var (pv 4)) de_int (nomark _)) (de_var (pv 4))))) da_nil)))) dss_nil)
    (dss_cons (ds_if (DW.dt (dw_and (dt_cmp (do_eq rfl c.r.units) (de_var (pv 3)) de_int (nomark _)) (dw_and1 (dt_cmp (do_ne rfl c.r.units) (de_var (pv 2)) (de_tup da_nil) (nomark _))))) (dss_one (ds_ret (de_op (do_add rfl) (de_sl rfl (de_var (pv 2)) do_none (do_some (de_neg de_int))) (de_tup (da_cons (de_ix rfl (de_lst (da_cons (de_callTy (dc_str rfl) (by rfl) c.b.str (by decide +kernel) (da_cons (de_ix rfl (de_var (pv 2)) (de_neg de_int) (fun _ _ => rfl)) da_nil)) (da_cons de_non (da_cons (de_tup (da_cons (de_ix rfl (de_var (pv 2)) (de_neg de_int) (fun _ _ => rfl)) da_nil)) (da_cons de_str da_nil))))) (de_d D_law_take c (by omega) (by rfl) (da_cons (de_var (pv 0)) (da_cons de_int da_nil))) (fun _ _ => rfl)) da_nil))))) dss_nil)
    (dss_cons (ds_if (dt_cmp (do_eq rfl c.r.units) (de_var (pv 3)) de_int (nomark _)) (dss_one (ds_ret (de_callTy (dc_list rfl rfl) (by rfl) c.b.list (by decide +kernel) (da_cons (de_var (pv 2)) da_nil)))) dss_nil)
    (dss_cons (ds_if (dt_cmp (do_eq rfl c.r.units) (de_var (pv 3)) de_int (nomark _)) (dss_one (ds_ret (de_ix rfl (de_lst (da_cons de_non (da_cons de_str (da_cons de_str (da_cons de_int (da_cons de_bl (da_cons (de_lst da_nil) (da_cons (de_lst (da_cons de_str da_nil)) da_nil)))))))) (de_d D_law_take c (by omega) (by rfl) (da_cons (de_var (pv 0)) (da_cons de_int da_nil))) (fun _ _ => rfl)))) dss_nil)
    (dss_cons (ds_if (dt_cmp (do_lt rfl) (de_var (pv 3)) de_int (nomark _)) (dss_one (ds_ret (de_op (do_add rfl) (de_var (pv 2)) (de_tup (da_cons (de_op (do_sub rfl) (de_d D_law_take c (by omega) (by rfl) (da_cons (de_var (pv 0)) (da_cons de_int da_nil))) de_int) da_nil))))) dss_nil)
    (dss_one (ds_ret (de_var (pv 2))))))))))))), fun ts ω q xx h => ?_⟩)
  · obtain ⟨b, g, pls, rfl, _⟩ := h; rfl
  obtain ⟨b, g, pls, rfl, hb, hx, p0, pn, hp, z⟩ := h
  have sz : 1000000 ≤ sizeLine := by decide
  have s1 : (1 : Nat) ≤ sizeLine := by decide
  have s0 : (0 : Nat) ≤ sizeLine := by decide
  have s4 : (4 : Nat) ≤ sizeLine := by decide
  have s7 : (7 : Nat) ≤ sizeLine := by decide
  have ln : ∀ {p' : List Nat}, (intsD p').length = p'.length := fun {p'} => by unfold intsD; rw [List.length_map]
  unfold dSeq dSet
  dsimp only
  refine pick_ok (b := b) (g := g) (pls := pls) (ρ := [some (refD b), some (refD g), none, none, none]) rfl rfl hb hx p0 pn fun p mp => ?_
  obtain ⟨pl, pk⟩ := hp p mp
  refine ⟨b, 12, rfl, hb, by decide, by decide, fun k k0 k1 => ?_⟩
  have put : ∀ {p' : List Nat} {k' : Nat} {v : PyData}, p = p' ++ [k'] → Itk v → Thg (.tuple (intsD p' ++ [v])) := fun {p' k' v} e iv => by
    subst e
    rw [List.length_append] at pl
    refine thg_tup (fun u hu => ?_) (by rw [List.length_append, ln]; show p'.length + 1 ≤ 200; omega)
    rcases List.mem_append.mp hu with hu | hu
    · exact itk_nats (fun k hk => pk k (List.mem_append.mpr (.inl hk))) u hu
    · rw [List.mem_singleton.mp hu]; exact iv
  dsimp only [List.set]
  refine ifand_ok (p := p) (k := k) (ρ := [some (refD b), some (refD g), some (plD p), some (.int k), none]) rfl rfl (fun _ ne => ?_) ?_
  · obtain ⟨p', k', rfl⟩ := snoc_of ne
    have kk := pk k' (by simp)
    refine init_ok (p' := p') (k' := k') (ρ := [some (refD b), some (refD g), some (plD (p' ++ [k'])), some (.int k), none]) rfl ?_
    refine last_ok (p' := p') (k' := k') (ρ := [some (refD b), some (refD g), some (plD (p' ++ [k'])), some (.int k), none]) rfl ?_
    refine ⟨⟨by decide, by decide, by decide⟩, s4, b, 4, rfl, hb, by decide, by decide, fun r r0 r1 => ?_⟩
    have hr : r = 0 ∨ r = 1 ∨ r = 2 ∨ r = 3 := by omega
    rcases hr with rfl | rfl | rfl | rfl
    · exact ⟨_, rfl, trivial, put_ok (by simp at pl; omega) (z _ (put rfl (itk_int (by omega))))⟩
    · exact ⟨_, rfl, trivial, put_ok (by simp at pl; omega) (z _ (put rfl (itk_int (by omega))))⟩
    · exact ⟨_, rfl, trivial, put_ok (by simp at pl; omega) (z _ (put rfl (itk_int (by omega))))⟩
    · refine ⟨_, rfl, trivial, put_ok (by simp at pl; omega) (z _ (put rfl (itk_int ?_)))⟩
      show ((k' : Int) - 10 ^ 20).natAbs ≤ _
      omega
  dsimp only [List.set]
  refine ifand_ok (p := p) (k := k) (ρ := [some (refD b), some (refD g), some (plD p), some (.int k), none]) rfl rfl (fun _ ne => ?_) ?_
  · obtain ⟨p', k', rfl⟩ := snoc_of ne
    have kk := pk k' (by simp)
    refine init_ok (p' := p') (k' := k') (ρ := [some (refD b), some (refD g), some (plD (p' ++ [k'])), some (.int k), none]) rfl ?_
    exact next_ok (p' := p') (k' := k') (b := b) (ρ := [some (refD b), some (refD g), some (plD (p' ++ [k'])), some (.int k), none]) rfl rfl hb fun r r0 r1 => put_ok (by simp at pl; omega) (z _ (put rfl (itk_int (by omega))))
  dsimp only [List.set]
  refine ifand_ok (p := p) (k := k) (ρ := [some (refD b), some (refD g), some (plD p), some (.int k), none]) rfl rfl (fun _ ne => ?_) ?_
  · refine ⟨_, rfl, by rw [List.length_map]; omega, fun i acc ω2 => ω2 = ω ∧ ∀ e ∈ acc, Itk e, ⟨rfl, fun _ h => nomatch h⟩, ?_, ?_⟩
    · rintro i y acc ω2 hy ⟨rfl, ha⟩ _
      rw [List.getElem?_map] at hy
      obtain ⟨j, hj, rfl⟩ := Option.map_eq_some_iff.mp hy
      have jk := pk j (List.mem_of_getElem? hj)
      simp only [dAnd, dAndV, dAsg, dC, dCB, dCall, dCallX, dChain, dCons, dDrop, dErr1, dIf, dIfS, dIsi, dLst, dNext, dNil, dNot, dNotV, dOp, dOr, dOrV, dPar, dRet, dRetN, dRetS, dSeq, dSet, dSl, dTest, dTup, dVar, dgCons, dgName, dgNil, dgTup, dNeg, endsD, xcOf, dFz, startD, wipeD, List.getElem?_cons_zero, List.getElem?_cons_succ, List.set_cons_zero, List.set_cons_succ, List.map_cons, List.map_nil, List.cons_append, List.nil_append, List.length_cons, List.length_nil, List.replicate]
      unfold dYes
      simp only [dAnd, dAndV, dAsg, dC, dCB, dCall, dCallX, dChain, dCons, dDrop, dErr1, dIf, dIfS, dIsi, dLst, dNext, dNil, dNot, dNotV, dOp, dOr, dOrV, dPar, dRet, dRetN, dRetS, dSeq, dSet, dSl, dTest, dTup, dVar, dgCons, dgName, dgNil, dgTup, dNeg, endsD, xcOf, dFz, startD, wipeD, List.getElem?_cons_zero, List.getElem?_cons_succ, List.set_cons_zero, List.set_cons_succ, List.map_cons, List.map_nil, List.cons_append, List.nil_append, List.length_cons, List.length_nil, List.replicate]
      simp only [if_true]
      refine ⟨trivial, ite2 (fun _ => ⟨trivial, fun e he => ?_⟩) (fun _ => ⟨trivial, fun e he => ?_⟩)⟩
      · rcases List.mem_append.mp he with he | he
        · exact ha e he
        · rw [List.mem_singleton.mp he]; exact itk_bool _
      · rcases List.mem_append.mp he with he | he
        · exact ha e he
        · rw [List.mem_singleton.mp he]; exact itk_int (by omega)
    · rintro acc ω2 hl ⟨rfl, ha⟩
      rw [List.length_map] at hl
      exact z _ (thg_tup ha (by omega))
  dsimp only [List.set]
  refine ifand_ok (p := p) (k := k) (ρ := [some (refD b), some (refD g), some (plD p), some (.int k), none]) rfl rfl (fun _ ne => ?_) ?_
  · obtain ⟨p', k', rfl⟩ := snoc_of ne
    have kk := pk k' (by simp)
    have ki : Itk (.int (k' : Int)) := itk_int (by omega)
    have pl2 : p'.length ≤ 50 := by simp at pl; omega
    refine init_ok (p' := p') (k' := k') (ρ := [some (refD b), some (refD g), some (plD (p' ++ [k'])), some (.int k), none]) rfl ?_
    refine last_ok (x := X0) (p' := p') (k' := k') (ρ := [some (refD b), some (refD g), some (plD (p' ++ [k'])), some (.int k), none]) rfl ?_
    refine ⟨?_, last_ok (x := X0) (p' := p') (k' := k') (ρ := [some (refD b), some (refD g), some (plD (p' ++ [k'])), some (.int k), none]) rfl ⟨s1, s4, b, 4, rfl, hb, by decide, by decide, fun r r0 r1 => ?_⟩⟩
    · by_cases z0 : k' = 0
      · subst z0; decide
      · have := (Nat.log2_lt (n := (k' : Int).natAbs) (k := 10) (by omega)).mpr (by omega)
        omega
    have hr : r = 0 ∨ r = 1 ∨ r = 2 ∨ r = 3 := by omega
    rcases hr with rfl | rfl | rfl | rfl
    · exact ⟨_, rfl, put_ok pl2 (z _ (put rfl (itk_str kk)))⟩
    · exact ⟨_, rfl, put_ok pl2 (z _ (put rfl itk_none))⟩
    · exact ⟨_, rfl, put_ok pl2 (z _ (put rfl (itk_one ki (by simp [PyData.depth]) (by simp [Tx.wt])).1))⟩
    · exact ⟨_, rfl, put_ok pl2 (z _ (put rfl ⟨by decide +kernel, by decide, by decide +kernel⟩))⟩
  dsimp only [List.set]
  refine ite2 (fun _ => ?_) (fun _ => ?_)
  · exact z _ (thg_list (itk_nats pk) (by rw [List.length_map]; omega))
  try unfold dNext
  dsimp only
  refine ite2 (fun _ => ?_) (fun _ => ?_)
  · refine ⟨s0, s1, s7, b, 7, rfl, hb, by decide, by decide, fun r r0 r1 => ?_⟩
    have hr : r = 0 ∨ r = 1 ∨ r = 2 ∨ r = 3 ∨ r = 4 ∨ r = 5 ∨ r = 6 := by omega
    have ia : Itk (.str "a") := ⟨by decide +kernel, by decide, by decide +kernel⟩
    rcases hr with rfl | rfl | rfl | rfl | rfl | rfl | rfl
    · exact ⟨_, rfl, z _ (thg_it itk_none rfl)⟩
    · exact ⟨_, rfl, z _ (thg_it ⟨by decide +kernel, by decide, by decide +kernel⟩ rfl)⟩
    · exact ⟨_, rfl, z _ (thg_it ia rfl)⟩
    · exact ⟨_, rfl, z _ (thg_it (itk_int (by decide)) rfl)⟩
    · exact ⟨_, rfl, z _ (thg_it (itk_bool _) rfl)⟩
    · exact ⟨_, rfl, z _ (thg_list (fun _ h => nomatch h) (by decide))⟩
    · exact ⟨_, rfl, z _ (thg_list (fun e he => by rw [List.mem_singleton.mp he]; exact ia) (by decide))⟩
  try unfold dNext
  dsimp only
  refine ⟨trivial, ite2 (fun _ => ?_) (fun _ => ?_)⟩
  · refine ⟨b, 3, rfl, hb, by decide, by decide, fun r r0 r1 => ?_⟩
    refine ⟨trivial, s1, ?_, z _ (thg_tup (fun e he => ?_) ?_)⟩
    · show (intsD p).length + 1 ≤ sizeLine
      rw [ln]; omega
    · rcases List.mem_append.mp he with he | he
      · exact itk_nats pk e he
      · rw [List.mem_singleton.mp he]; exact itk_int (by omega)
    · rw [List.length_append, List.length_map]; show p.length + 1 ≤ 200; omega
  · exact z _ (thg_tup (itk_nats pk) (by rw [List.length_map]; omega))
end
end Tx

namespace Tx
open PySem PySem.Spec PyProof.Rows L2
/-! ## k03: the law -/
/-! ### plain -/
mutual
theorem full_fine (ω : Wd) : ∀ d : PyData, fine d = true → full ω d = d
  | .none, _ => by simp only [full]
  | .bool _, _ => by simp only [full]
  | .int _, _ => by simp only [full]
  | .str _, _ => by simp only [full]
  | .list xs, h => by simp only [fine] at h; simp only [full, fullAll_fine ω xs h]
  | .tuple xs, h => by simp only [fine] at h; simp only [full, fullAll_fine ω xs h]
  | .dict _, h => by simp [fine] at h
theorem fullAll_fine (ω : Wd) : ∀ xs : List PyData, fineAll xs = true → fullAll ω xs = xs
  | [], _ => by simp only [fullAll]
  | x :: xs, h => by
    simp only [fineAll, Bool.and_eq_true] at h
    simp only [fullAll, full_fine ω x h.1, fullAll_fine ω xs h.2]
end
theorem full_of {ω : Wd} {u d : PyData} (h : Full ω u d) (f : fine d = true) : full ω u = d := by
  rcases h with rfl | h
  · exact full_fine ω _ f
  · exact h
theorem pl_nodict (p : List Nat) : (plD p).hasDict = false := PyData.hasDict_of_canLay _ (shaped_lay (plD_shaped p))
theorem plD_inj {p p' : List Nat} (h : plD p = plD p') : p = p' := by
  have h : intsD p = intsD p' := PyData.tuple.inj h
  induction p generalizing p' with
  | nil => cases p' with
    | nil => rfl
    | cons j p' => simp [intsD] at h
  | cons i p ih => cases p' with
    | nil => simp [intsD] at h
    | cons j p' =>
      simp only [intsD, List.map_cons, List.cons.injEq, PyData.int.injEq] at h
      have h1 : i = j := by omega
      have h2 : p = p' := ih (congrArg PyData.tuple (show intsD p = intsD p' from h.2)) h.2
      rw [h1, h2]
theorem pl_ok {p : List Nat} (h : ∀ k ∈ p, k < 1000) (hl : p.length ≤ 13) : fine (plD p) = true ∧ (plD p).depth ≤ 1 ∧ wt (plD p) ≤ 26100 := by
  obtain ⟨h1, h2, h3⟩ := ints_fine (mem_ints h)
  have il : (intsD p).length = p.length := by unfold intsD; rw [List.length_map]
  refine ⟨?_, ?_, ?_⟩
  · show fine (.tuple (intsD p)) = true
    simp only [fine]; exact h1
  · show (PyData.tuple (intsD p)).depth ≤ 1
    simp only [PyData.depth]; omega
  · show wt (.tuple (intsD p)) ≤ 26100
    simp only [wt]; omega
theorem wtAll_b3 {n : Nat} : ∀ {xs : List PyData}, (∀ x ∈ xs, wt x ≤ n) → wtAll xs ≤ (n + 2) * xs.length
  | [], _ => by simp [wtAll]
  | x :: xs, h => by
    have h1 := h x List.mem_cons_self
    have h2 := wtAll_b3 (n := n) (xs := xs) fun y hy => h y (List.mem_cons_of_mem _ hy)
    simp only [wtAll, List.length_cons, Nat.mul_add, Nat.mul_one]
    omega
section
variable {d : PyData} (vd : Val 12 400 d)
include vd
theorem pls_fact {p : List Nat} (h : p ∈ plcs d) : p.length ≤ 13 ∧ (∀ k ∈ p, k < 1000) ∧ fine (plD p) = true ∧ (plD p).depth ≤ 1 ∧ wt (plD p) ≤ 26100 := by
  have h1 := plcs_len d p h
  have h2 := vd.deep
  have h3 := vd.size
  have hk : ∀ k ∈ p, k < 1000 := fun k hk => by have := plcs_lt p h k hk; omega
  exact ⟨by omega, hk, pl_ok hk (by omega)⟩
theorem pls_len : (plcs d).length ≤ 400 := by
  have := plcs_sz vd.val
  have := vd.size
  omega
theorem pls_ok (l : List (List Nat)) (h : ∀ p ∈ l, p ∈ plcs d) (hl : l.length ≤ 400) : Ok (.list (l.map plD)) := by
  refine ⟨?_, ?_, ?_⟩
  · simp only [fine]
    refine fineAll_iff.mpr fun x hx => ?_
    obtain ⟨p, hp, rfl⟩ := List.mem_map.mp hx
    exact (pls_fact vd (h p hp)).2.2.1
  · simp only [PyData.depth]
    have := depthAll_le (n := 1) (xs := l.map plD) fun x hx => by
      obtain ⟨p, hp, rfl⟩ := List.mem_map.mp hx
      exact (pls_fact vd (h p hp)).2.2.2.1
    omega
  · simp only [wt]
    have := wtAll_b3 (n := 26100) (xs := l.map plD) fun x hx => by
      obtain ⟨p, hp, rfl⟩ := List.mem_map.mp hx
      exact (pls_fact vd (h p hp)).2.2.2.2
    rw [List.length_map] at this
    omega
theorem part_vd {p : List Nat} (h : p ∈ plcs d) : Val 12 400 (partD d p) := part_val (by decide) p vd (plcs_part' h)
theorem pair_ok {p : List Nat} (h : p ∈ plcs d) : Ok (.list [partD d p, .bool (tornR d p)]) := by
  have v := part_vd vd h
  have o := v.ok (by decide) (by decide)
  have h1 := v.deep
  have h2 := val_wt _ v.val
  have h3 := v.size
  refine ⟨?_, ?_, ?_⟩
  · simp only [fine, fineAll, o.1, Bool.and_self]
  · simp only [PyData.depth, PyData.depthAll]; omega
  · simp only [wt, wtAll]; omega
theorem rows_shaped3 (l : List (List Nat)) (h : ∀ p ∈ l, p ∈ plcs d) : SeqAt.shaped (.list (l.map (rowT d))) = true := by
  have hf : fine (.list (l.map (rowT d))) = true := by
    simp only [fine]
    refine fineAll_iff.mpr fun x hx => ?_
    obtain ⟨p, hp, rfl⟩ := List.mem_map.mp hx
    have o := (part_vd vd (h p hp)).ok (by decide) (by decide)
    simp only [rowT, fine, fineAll, (pls_fact vd (h p hp)).2.2.1, o.1, Bool.and_self]
  unfold SeqAt.shaped
  rw [fine_lay _ hf, Bool.true_and]
  refine decide_eq_true (Nat.le_trans (m := 14) ?_ (by decide))
  have := depthAll_le (n := 13) (xs := l.map (rowT d)) fun x hx => by
    obtain ⟨p, hp, rfl⟩ := List.mem_map.mp hx
    have v := (part_vd vd (h p hp)).deep
    have k := (pls_fact vd (h p hp)).2.2.2.1
    simp only [rowT, PyData.depth, PyData.depthAll]
    omega
  simp only [PyData.depth]
  omega
end
theorem Thg.shrt {e : PyData} (h : Thg e) : Shrt e := ⟨PyData.hasDict_of_canLay _ (fine_lay _ h.fine), h.short⟩
theorem no_ok {e : PyData} (h : Thg e) : Ok (.list [.list [.str "no", e, .bool true, .bool false], .list [.str "no", e]]) := by
  have h1 := h.deep
  have h2 := h.wt
  have e2 : (Str.length "no") = 2 := by decide
  refine ⟨?_, ?_, ?_⟩
  · simp only [Tx.fine, fineAll, h.fine, Bool.and_true]; decide +kernel
  · simp only [PyData.depth, PyData.depthAll]; omega
  · simp only [Tx.wt, wtAll, e2]; omega
/-- the rows whose place is shown as e -/
def duesP (d e : PyData) (l : List (List Nat)) : List (List Nat) := l.filter fun p => decide ((plD p).shown = e.shown)
theorem dues_hit {d : PyData} {p : List Nat} : ∀ {l : List (List Nat)}, p ∈ l → ∃ r, duesP d (plD p) l = p :: r := by
  intro l h
  have hm : p ∈ duesP d (plD p) l := List.mem_filter.mpr ⟨h, decide_eq_true rfl⟩
  have all : ∀ p' ∈ duesP d (plD p) l, p' = p := fun p' h' => by
    have h2 := of_decide_eq_true (List.mem_filter.mp h').2
    exact plD_inj (pl_shown (pl_nodict p') h2)
  cases e : duesP d (plD p) l with
  | nil => rw [e] at hm; cases hm
  | cons a r =>
    have := all a (by rw [e]; exact List.mem_cons_self)
    exact ⟨r, by rw [this]⟩
theorem dues_none {d e : PyData} (hd : e.hasDict = false) : ∀ {l : List (List Nat)}, (∀ p ∈ l, e ≠ plD p) → duesP d e l = [] := by
  intro l h
  refine List.filter_eq_nil_iff.mpr fun p hp z => ?_
  exact h p hp (pl_shown hd (of_decide_eq_true z).symm)
theorem plcs_head (d : PyData) : ∃ ps, plcs d = [] :: ps := by cases d <;> exact ⟨_, rfl⟩
/-! ### readings -/
theorem fst_ok {d : PyData} {ρ : DS} {ω : Wd} {q : DQ} {x : DXK} {l : List (List Nat)} (h6 : ρ[6]? = some (some (.list (l.map (rowT d))))) (h16 : ∀ y, ((wipeD ρ [16]).set 16 (some y))[16]? = some (some y)) (hl : l.length ≤ 100000) (z : q (.list (l.map plD)) ω) :
    dLc (diData (dVar 6)) (dgName 16) dYes (dOp ixD (dVar 16) (dC (.int 0))) [16] ρ ω q x := by
  have sz : 1000000 ≤ sizeLine := by decide
  unfold dLc diData
  unfold dVar
  simp only [h6]
  refine ⟨_, rfl, by rw [List.length_map]; omega, fun k acc ω2 => acc = (l.take k).map plD ∧ ω2 = ω, ⟨rfl, rfl⟩, ?_, ?_⟩
  · rintro k y acc ω2 hy ⟨rfl, rfl⟩ _
    rw [List.getElem?_map] at hy
    obtain ⟨p, hp, rfl⟩ := Option.map_eq_some_iff.mp hy
    unfold dgName dYes dOp dC
    simp only [if_true, h16]
    refine ⟨plD p, rfl, ?_, trivial⟩
    rw [← tk_snoc hp, List.map_append]
    rfl
  · rintro acc ω2 _ ⟨rfl, rfl⟩
    rw [List.length_map, List.take_length]
    exact z
theorem fstR_ok {d : PyData} {ρ : DS} {ω : Wd} {q : DQ} {x : DXK} {l : List (List Nat)} (h6 : ρ[6]? = some (some (.list (l.map (rowT d))))) (h16 : ∀ y, ((wipeD ρ [16]).set 16 (some y))[16]? = some (some y)) (hl : l.length ≤ 100000) (ok : Ok (.list (l.map plD))) (z : q (.str (PyData.shown (.list (l.map plD)))) ω) :
    dCB reprD (dCons (dLc (diData (dVar 6)) (dgName 16) dYes (dOp ixD (dVar 16) (dC (.int 0))) [16]) dNil) ρ ω q x := by
  unfold dCB dCons dNil
  exact fst_ok h6 h16 hl ⟨_, .inl rfl, ok, z⟩
theorem dues_ok {d e : PyData} {ρ : DS} {ω : Wd} {q : DQ} {x : DXK} {l : List (List Nat)} (h6 : ρ[6]? = some (some (.list (l.map (rowT d))))) (h16 : ∀ y, ((wipeD ρ [16]).set 16 (some y))[16]? = some (some y)) (h12 : ∀ y, ((wipeD ρ [16]).set 16 (some y))[12]? = some (some e))
    (oe : Ok e) (op : ∀ p ∈ l, Ok (plD p)) (hl : l.length ≤ 100000) (z : q (.list ((duesP d e l).map (rowT d))) ω) :
    dLc (diData (dVar 6)) (dgName 16) (dTest (dOp eqD (dCB reprD (dCons (dOp ixD (dVar 16) (dC (.int 0))) dNil)) (dCB reprD (dCons (dVar 12) dNil)))) (dVar 16) [16] ρ ω q x := by
  have sz : 1000000 ≤ sizeLine := by decide
  unfold dLc diData
  unfold dVar
  simp only [h6]
  refine ⟨_, rfl, by rw [List.length_map]; omega, fun k acc ω2 => acc = (duesP d e (l.take k)).map (rowT d) ∧ ω2 = ω, ⟨rfl, rfl⟩, ?_, ?_⟩
  · rintro k y acc ω2 hy ⟨rfl, rfl⟩ _
    rw [List.getElem?_map] at hy
    obtain ⟨p, hp, rfl⟩ := Option.map_eq_some_iff.mp hy
    unfold dgName dTest dOp dCB dCons dNil dC
    simp only [h16, h12]
    refine ⟨plD p, rfl, plD p, .inl rfl, op p (List.mem_of_getElem? hp), e, .inl rfl, oe, ?_⟩
    have tk : duesP d e (l.take (k + 1)) = duesP d e (l.take k) ++ duesP d e [p] := by
      rw [← tk_snoc hp]
      unfold duesP
      rw [List.filter_append]
    show (if decide ((plD p).shown = e.shown) = true then _ else _)
    by_cases t : (plD p).shown = e.shown
    · rw [if_pos (decide_eq_true t)]
      have : duesP d e [p] = [p] := by unfold duesP; simp [t]
      rw [tk, this, List.map_append]
      exact ⟨rfl, trivial⟩
    · rw [if_neg (by rw [decide_eq_false t]; simp)]
      have : duesP d e [p] = [] := by unfold duesP; simp [t]
      rw [tk, this, List.append_nil]
      exact ⟨rfl, trivial⟩
  · rintro acc ω2 _ ⟨rfl, rfl⟩
    rw [List.length_map, List.take_length]
    exact z
theorem duesQ_ok {d e : PyData} {ρ : DS} {ω : Wd} {D : DEnds} {u : DTS} {l : List (List Nat)} (h6 : ρ[6]? = some (some (.list (l.map (rowT d))))) (h16 : ∀ y, ((wipeD ρ [16]).set 16 (some y))[16]? = some (some y)) (h12 : ∀ y, ((wipeD ρ [16]).set 16 (some y))[12]? = some (some e))
    (oe : Ok e) (op : ∀ p ∈ l, Ok (plD p)) (hl : l.length ≤ 100000) (z : u D (ρ.set 13 (some (.list ((duesP d e l).map (rowT d))))) ω) :
    dSeq (dSet 13 (dLc (diData (dVar 6)) (dgName 16) (dTest (dOp eqD (dCB reprD (dCons (dOp ixD (dVar 16) (dC (.int 0))) dNil)) (dCB reprD (dCons (dVar 12) dNil)))) (dVar 16) [16])) u D ρ ω := by
  unfold dSeq dSet
  exact dues_ok h6 h16 h12 oe op hl z
theorem nd_val {ω : Wd} {e : PyData} (v : isVal e = true) : match rsv ω e with
    | .dict _ => False
    | _ => True := by
  cases e with
  | none => trivial
  | str _ => trivial
  | list _ => trivial
  | _ => simp [isVal] at v
theorem isl_ok {ρ : DS} {ω : Wd} {q : DQ} {x : DXK} {i : Nat} {e : PyData} (hi : ρ[i]? = some (some e)) (v : isVal e = true) (z : q (.bool (isL e)) ω) : dIsi isL (dVar i) ρ ω q x := by
  unfold dIsi dVar
  simp only [hi]
  cases e with
  | none => exact ⟨trivial, z⟩
  | str _ => exact ⟨trivial, z⟩
  | list _ => exact ⟨trivial, z⟩
  | _ => simp [isVal] at v
theorem sort_ok {d : PyData} {f : Addr} {ω : Wd} {Q : PyData → Prop} (hF : ω f = some (.lst ((plcs d).map plD))) (z : Q (.list ((plcs d).map plD))) : sortPD [refD f] ω Q := by
  obtain ⟨ps, e⟩ := plcs_head d
  exact ⟨refD f, ps, rfl, by rw [rsv_cell hF, e], by rw [← e]; exact plcs_up d, by rw [← e]; exact z⟩
theorem sortT_ok {d : PyData} {f : Addr} {ρ : DS} {ω : Wd} {q : Bool → Wd → Prop} {x : DXK} (h4 : ρ[4]? = some (some (refD f))) (hF : ω f = some (.lst ((plcs d).map plD))) (ok : Ok (.list ((plcs d).map plD))) (z : q false ω) :
    dTest (dOp neD (dCB reprD (dCons (dCB sortPD (dCons (dVar 4) dNil)) dNil)) (dCB reprD (dCons (dVar 4) dNil))) ρ ω q x := by
  unfold dTest dOp dCB dCons dNil dVar
  simp only [h4]
  refine sort_ok hF ?_
  refine ⟨_, .inl rfl, ok, _, Full.cell hF, ok, ?_⟩
  generalize PyData.shown (.list ((plcs d).map plD)) = T
  show (match PyData.bool (!decide (T = T)) with | .bool b => q b ω | _ => False)
  rw [decide_eq_true rfl]
  exact z
theorem tm_other {ω ω' : Wd} {u d : PyData} {a : Addr} {m : MO} (t : Tm ω u d ω') (h : ω a = some m) : ω' a = some m := by
  rcases t with ⟨_, _, rfl⟩ | ⟨b, N, _, hb, rfl, _⟩
  · exact h
  · rw [updW_ne fun e => by rw [e, hb] at h; cases h]; exact h
end Tx

namespace Tx
open PySem PySem.Spec PyProof.Rows L2
/-- 0 _law_script, 1 _law_at, 2 _law_bag_here, 3 _law_value_here, 4 _law_found, 5 _law_turn, 6 _law_rows_here, 7 _law_before, 8 _law_place, 9 _law_inner, 10 _law_is_piece, 11 _law_again, 12 _law_thing_here, 13 _law_dues, 14 _law_due, 15 _law_told, 16 _law_row -/
abbrev sLaw : Stmt := top 23
theorem scLaw : FnScope ["_law_script", "_law_at", "_law_bag_here", "_law_value_here", "_law_found", "_law_turn", "_law_rows_here", "_law_before", "_law_place", "_law_inner", "_law_is_piece", "_law_again", "_law_thing_here", "_law_dues", "_law_due", "_law_told", "_law_row"] ["_law_script"] (defScope sLaw) := ⟨rfl, rfl, rfl, by decide +kernel, rfl, by decide +kernel, by decide +kernel⟩
section
variable {P : Program} {w : World} {K : PySem.W.Frag} {mg : Str → Option Value} {base : Heap}
theorem dd_law (h : Has K mg "law" sLaw) (B : Bi mg) (D_law_take : Dfn P w K mg base CX0 1 "_law_take" ["_law_bag_here", "_law_many"] (spD K dsTake)) (D_law_bag : Dfn P w K mg base CX0 1 "_law_bag" ["_law_script", "_law_at"] (spD K dsBag)) (D_law_value : Dfn P w K mg base CX0 26 "_law_value" ["_law_bag_here", "_law_deep", "_law_room"] (spD K (dsValue 6)))
    (D_law_great : Dfn P w K mg base CX0 27 "_law_great" ["_law_bag_here"] (spD K dsGreat)) (D_law_rows : Dfn P w K mg base CX0 30 "_law_rows" ["_law_value_here"] (spD K (dsRows 30))) (D_places_of : Dfn P w K mg base CX0 31 "places_of" ["value"] (spD K (dsPlacesO 30)))
    (D_law_asked : Dfn P w K mg base CX0 40 "_law_asked" ["_law_value_here", "_law_thing_here"] (spD K dsAsked)) (D_law_thing : Dfn P w K mg base CX0 2 "_law_thing" ["_law_bag_here", "_law_places"] (spD K dsThing)) (D_law_spoil : Dfn P w K mg base CX0 22 "_law_spoil" ["_law_value_here"] (spD K (dsSpoil 22))) :
    Dfn P w K mg base CX0 54 "law" ["_law_script"] (spD K dsLaw) := by
  refine dfnD (k := 53) h B scLaw (fun _ _ _ _ _ _ us hl => match us, hl with | [_], _ => rfl) (fun ts ω q x h => ?_) (fun f cv A out s H E c => ⟨_, (dss_cons (ds_for PassesOwn.never rfl (di_range1 (by rfl) c.b.range (da_cons (de_callB (dc_max2 rfl rfl) (by rfl) c.b.max (by decide +kernel) (da_cons de_int (da_cons (de_callB (dc_min2 rfl rfl) (by rfl) c.b.min (by decide +kernel) (da_cons de_int (da_cons (de_callB (dc_len rfl) (by rfl) c.b.len (by decide +kernel) (da_cons (de_var (pv 0)) da_nil)) da_nil))) da_nil))) da_nil)) (dg_name (pg_name (i := 1) scLaw.nd rfl (Or.inl rfl)))
    (dss_cons (ds_set (i := 2) scLaw.nd rfl (Or.inl rfl) (de_d D_law_bag c (by omega) (by rfl) (da_cons (de_var (pv 0)) (da_cons (de_var (pv 1)) da_nil))))
    (dss_cons (ds_set (i := 3) scLaw.nd rfl (Or.inl rfl) (de_if (dt_cmp (do_eq rfl c.r.units) (de_d D_law_take c (by omega) (by rfl) (da_cons (de_var (pv 2)) (da_cons de_int da_nil))) de_int (nomark _)) (de_d D_law_great c (by omega) (by rfl) (da_cons (de_var (pv 2)) da_nil)) (de_d D_law_value c (by omega) (by rfl) (da_cons (de_var (pv 2)) (da_cons de_int (da_cons de_int da_nil))))))
    (dss_cons (ds_par (i := 6) (j := 7) rfl scLaw.nd rfl rfl (by decide) rfl rfl (da_cons (de_d D_law_rows c (by omega) (by rfl) (da_cons (de_var (pv 3)) da_nil)) (da_cons (de_callB (dc_repr rfl c.g c.r.units) (by rfl) c.b.repr (by decide +kernel) (da_cons (de_var (pv 3)) da_nil)) da_nil)) (by rfl))
    (dss_cons (ds_set (i := 4) scLaw.nd rfl (Or.inl rfl) (de_d D_places_of c (by omega) (by rfl) (da_cons (de_var (pv 3)) da_nil)))
    (dss_cons (ds_if (DW.dt (dw_or (dt_cmp (do_ne rfl c.r.units) (de_callB (dc_repr rfl c.g c.r.units) (by rfl) c.b.repr (by decide +kernel) (da_cons (de_var (pv 4)) da_nil)) (de_callB (dc_repr rfl c.g c.r.units) (by rfl) c.b.repr (by decide +kernel) (da_cons (de_lc (own := [("_law_row", 16)]) (gd := (dgName 16)) (is := [16]) (tt := dYes) rfl scLaw.nd (di_data rfl (de_var (pv 6))) (blkOk_by (own := [("_law_row", 16)]) (N := ["_law_script", "_law_at", "_law_bag_here", "_law_value_here", "_law_found", "_law_turn", "_law_rows_here", "_law_before", "_law_place", "_law_inner", "_law_is_piece", "_law_again", "_law_thing_here", "_law_dues", "_law_due", "_law_told", "_law_row"]) (sc := defScope sLaw) (by decide +kernel)) (fun _ _ _ _ _ => (dg_name (pg_name (i := 16) scLaw.nd rfl (Or.inl rfl)))) (fun _ _ _ _ _ => dts_nil) (fun _ _ _ _ _ => (de_ix rfl (de_var (pv 16)) de_int (fun _ _ => rfl)))) da_nil)) (nomark _)) (dw_or1 (dt_cmp (do_ne rfl c.r.units) (de_callB (dc_repr rfl c.g c.r.units) (by rfl) c.b.repr (by decide +kernel) (da_cons (de_callB (dc_sorted rfl c.r.units) (by rfl) c.b.sorted (by decide +kernel) (da_cons (de_var (pv 4)) da_nil)) da_nil)) (de_callB (dc_repr rfl c.g c.r.units) (by rfl) c.b.repr (by decide +kernel) (da_cons (de_var (pv 4)) da_nil)) (nomark _))))) (dss_one (ds_ret de_bl)) dss_nil)
    (dss_cons (ds_for PassesOwn.never rfl (di_data rfl (de_op (do_add rfl) (de_sl rfl (de_var (pv 6)) do_none (do_some de_int)) (de_sl rfl (de_var (pv 6)) (do_some (de_neg de_int)) do_none))) (dg_tup rfl rfl (dgs_cons (dg_name (pg_name (i := 8) scLaw.nd rfl (Or.inl rfl))) (dgs_cons (dg_name (pg_name (i := 9) scLaw.nd rfl (Or.inl rfl))) (dgs_cons (dg_name (pg_name (i := 10) scLaw.nd rfl (Or.inl rfl))) dgs_nil))))
    (dss_one (ds_for PassesOwn.never rfl (di_range1 (by rfl) c.b.range (da_cons (de_op (do_add rfl) de_int (de_callTy (dc_int rfl) (by rfl) c.b.int (by decide +kernel) (da_cons (de_isi (T := "list") rfl kit_list (by rfl) c.b.isinstance (de_var (pv 9)) (pe_bltn (v := .ty "list") (by rfl) c.b.list (by decide +kernel) rfl)) da_nil))) da_nil)) (dg_name (pg_name (i := 11) scLaw.nd rfl (Or.inl rfl)))
    (dss_cons (ds_set (i := 15) scLaw.nd rfl (Or.inl rfl) (de_d D_law_asked c (by omega) (by rfl) (da_cons (de_var (pv 3)) (da_cons (de_var (pv 8)) da_nil))))
    (dss_cons (ds_if (dt_cmp (do_ne rfl c.r.units) (de_callB (dc_repr rfl c.g c.r.units) (by rfl) c.b.repr (by decide +kernel) (da_cons (de_var (pv 15)) da_nil)) (de_callB (dc_repr rfl c.g c.r.units) (by rfl) c.b.repr (by decide +kernel) (da_cons (de_lst (da_cons (de_var (pv 9)) (da_cons (de_var (pv 10)) da_nil))) da_nil)) (nomark _)) (dss_one (ds_ret de_bl)) dss_nil)
    (dss_one (ds_expr (de_d D_law_spoil c (by omega) (by rfl) (da_cons (de_ix rfl (de_var (pv 15)) de_int (fun _ _ => rfl)) da_nil)))))))))
    (dss_cons (ds_for PassesOwn.never rfl (di_range1 (by rfl) c.b.range (da_cons de_int da_nil)) (dg_name (pg_name (i := 5) scLaw.nd rfl (Or.inl rfl)))
    (dss_cons (ds_set (i := 12) scLaw.nd rfl (Or.inr rfl) (de_d D_law_thing c (by omega) (by rfl) (da_cons (de_var (pv 2)) (da_cons (de_var (pv 4)) da_nil))))
    (dss_cons (ds_setLc (i := 13) (own := [("_law_row", 16)]) (gd := (dgName 16)) (is := [16]) rfl scLaw.nd rfl rfl (sw_true rfl rfl rfl (by decide +kernel)) (di_data rfl (de_var (pv 6))) (blkOk_by (own := [("_law_row", 16)]) (N := ["_law_script", "_law_at", "_law_bag_here", "_law_value_here", "_law_found", "_law_turn", "_law_rows_here", "_law_before", "_law_place", "_law_inner", "_law_is_piece", "_law_again", "_law_thing_here", "_law_dues", "_law_due", "_law_told", "_law_row"]) (sc := defScope sLaw) (by decide +kernel)) (fun _ _ _ _ _ => (dg_name (pg_name (i := 16) scLaw.nd rfl (Or.inl rfl)))) (fun _ _ _ _ _ => dts_one (dt_cmp (do_eq rfl c.r.units) (de_callB (dc_repr rfl c.g c.r.units) (by rfl) c.b.repr (by decide +kernel) (da_cons (de_ix rfl (de_var (pv 16)) de_int (fun _ _ => rfl)) da_nil)) (de_callB (dc_repr rfl c.g c.r.units) (by rfl) c.b.repr (by decide +kernel) (da_cons (de_var (pv 12)) da_nil)) (nomark _))) (fun _ _ _ _ _ => (de_var (pv 16))))
    (dss_cons (ds_set (i := 14) scLaw.nd rfl (Or.inl rfl) (de_if (dt_cmp (do_ne rfl c.r.units) (de_var (pv 13)) (de_lst da_nil) (nomark _)) (de_lst (da_cons (de_ix rfl (de_ix rfl (de_var (pv 13)) de_int (fun _ _ => rfl)) de_int (fun _ _ => rfl)) (da_cons (de_ix rfl (de_ix rfl (de_var (pv 13)) de_int (fun _ _ => rfl)) de_int (fun _ _ => rfl)) da_nil))) (de_lst (da_cons (de_lst (da_cons de_str (da_cons (de_var (pv 12)) (da_cons de_bl (da_cons de_bl da_nil))))) (da_cons (de_lst (da_cons de_str (da_cons (de_var (pv 12)) da_nil))) da_nil)))))
    (dss_one (ds_if (dt_cmp (do_ne rfl c.r.units) (de_callB (dc_repr rfl c.g c.r.units) (by rfl) c.b.repr (by decide +kernel) (da_cons (de_d D_law_asked c (by omega) (by rfl) (da_cons (de_var (pv 3)) (da_cons (de_var (pv 12)) da_nil))) da_nil)) (de_callB (dc_repr rfl c.g c.r.units) (by rfl) c.b.repr (by decide +kernel) (da_cons (de_var (pv 14)) da_nil)) (nomark _)) (dss_one (ds_ret de_bl)) dss_nil))))))
    (dss_cons (ds_expr (de_append rfl (de_var (pv 4)) (de_tup da_nil)))
    (dss_one (ds_if (DW.dt (dw_or (dt_cmp (do_ne rfl c.r.units) (de_callB (dc_repr rfl c.g c.r.units) (by rfl) c.b.repr (by decide +kernel) (da_cons (de_d D_places_of c (by omega) (by rfl) (da_cons (de_var (pv 3)) da_nil)) da_nil)) (de_callB (dc_repr rfl c.g c.r.units) (by rfl) c.b.repr (by decide +kernel) (da_cons (de_lc (own := [("_law_row", 16)]) (gd := (dgName 16)) (is := [16]) (tt := dYes) rfl scLaw.nd (di_data rfl (de_var (pv 6))) (blkOk_by (own := [("_law_row", 16)]) (N := ["_law_script", "_law_at", "_law_bag_here", "_law_value_here", "_law_found", "_law_turn", "_law_rows_here", "_law_before", "_law_place", "_law_inner", "_law_is_piece", "_law_again", "_law_thing_here", "_law_dues", "_law_due", "_law_told", "_law_row"]) (sc := defScope sLaw) (by decide +kernel)) (fun _ _ _ _ _ => (dg_name (pg_name (i := 16) scLaw.nd rfl (Or.inl rfl)))) (fun _ _ _ _ _ => dts_nil) (fun _ _ _ _ _ => (de_ix rfl (de_var (pv 16)) de_int (fun _ _ => rfl)))) da_nil)) (nomark _)) (dw_or1 (dt_cmp (do_ne rfl c.r.units) (de_callB (dc_repr rfl c.g c.r.units) (by rfl) c.b.repr (by decide +kernel) (da_cons (de_var (pv 3)) da_nil)) (de_var (pv 7)) (nomark _))))) (dss_one (ds_ret de_bl)) dss_nil)))))))))))
    (dss_one (ds_ret de_bl))), fun ts ω q x h => ?_⟩)
  · obtain ⟨a, ns, rfl, _⟩ := h; rfl
  obtain ⟨a, ns, rfl, h63, rfl, z⟩ := h
  refine ⟨?_, ?_, fun i ρ ω => ∃ u1 u2 u3 u4 u5 u6 u7 u8 u9 v1 v2 v3 v4 v5 v6 v7 : Option PyData, ρ = [some (scrD a ns), u1, u2, u3, u4, u5, u6, u7, u8, u9, v1, v2, v3, v4, v5, v6, v7], ⟨none, none, none, none, none, none, none, none, none, none, none, none, none, none, none, none, rfl⟩, ?_, ?_⟩
  · show -(2 ^ 62) ≤ _
    split <;> (try split) <;> omega
  · show _ < (2 : Int) ^ 62
    rw [List.length_map]
    split <;> (try split) <;> omega
  · rintro i y ρ ω hy ⟨u1, u2, u3, u4, u5, u6, u7, u8, u9, v1, v2, v3, v4, v5, v6, v7, rfl⟩
    have hi : i < 64 := by
      have := (List.getElem?_eq_some_iff.mp hy).1
      rw [List.length_map, List.length_range, List.length_map] at this
      split at this <;> (try split at this) <;> omega
    obtain ⟨i', hi', rfl⟩ : ∃ i' : Nat, i' = i ∧ y = .int (i' : Int) := by
      rw [List.getElem?_map] at hy
      obtain ⟨k, hk, rfl⟩ := Option.map_eq_some_iff.mp hy
      have := List.getElem?_eq_some_iff.mp hk
      exact ⟨k, by simpa using this.2.symm, rfl⟩
    refine ⟨a, ns, (i' : Int), rfl, by omega, by omega, fun b hb => ?_⟩
    have hB : updW ω b .bag b = some .bag := updW_same
    refine ⟨b, 3, rfl, hB, by decide, by decide, fun k k0 k1 => ite2 (fun _ => ?great) (fun _ => ?small)⟩
    case' great => refine ⟨b, rfl, hB, fun d vd => ?_⟩
    case' small =>
      refine ⟨b, 5, 60, rfl, hB, by decide, by decide, by decide, by decide, fun d vd0 => ?_⟩
      have vd : Val 12 400 d := vd0.mono (by decide) (by decide)
    all_goals
      generalize updW ω b .bag = ω1 at hB
      have ok : Ok d := vd.ok (by decide) (by decide)
      have vd' : Val 20 100000 d := vd.mono (by decide) (by decide)
      have dsz := vd.size
      have ddp := vd.deep
      have pl4 := pls_len vd
      have okP := pls_ok vd (plcs d) (fun _ h => h) pl4
      refine ⟨d, rfl, vd', by omega, d, .inl rfl, ok, ?_⟩
      refine ⟨d, rfl, vd', by unfold lvl; split <;> omega, fun f hf => ?_⟩
      have hB2 : updW ω1 f (.lst ((plcs d).map plD)) b = some .bag := by
        rw [updW_ne fun e => by rw [e, hf] at hB; cases hB]
        exact hB
      have hF2 : updW ω1 f (.lst ((plcs d).map plD)) f = some (.lst ((plcs d).map plD)) := updW_same
      generalize updW ω1 f (.lst ((plcs d).map plD)) = ω2 at hB2 hF2
      refine ⟨_, Full.cell hF2, okP, ?_⟩
      dsimp only [List.set, List.map]
      refine fstR_ok (l := plcs d) (ρ := [some (scrD a ns), some (.int (i' : Int)), some (refD b), some d, some (refD f), u5, some (.list ((plcs d).map (rowT d))), some (.str d.shown), u8, u9, v1, v2, v3, v4, v5, v6, v7]) rfl (fun _ => rfl) (by omega) okP ?_
      generalize hT : PyData.shown (.list ((plcs d).map plD)) = T
      refine ne_same ?_
      try dsimp only
      refine sortT_ok (d := d) (f := f) rfl hF2 okP ?_
      refine iteF ?_
      have mem_rows : ∀ {lo hi : Option Int} {e : PyData}, e ∈ cutD ((plcs d).map (rowT d)) lo hi → ∃ p, p ∈ plcs d ∧ e = rowT d p := fun h => by
        obtain ⟨p, hp, rfl⟩ := List.mem_map.mp (cutD_mem h)
        exact ⟨p, hp, rfl⟩
      have c1 := cutD_len ((plcs d).map (rowT d)) none (some 120)
      have c2 := cutD_len ((plcs d).map (rowT d)) (some (-20)) none
      rw [List.length_map] at c1 c2
      refine ⟨by rw [sizeLine_eq]; omega, _, rfl, fun _ ρ ω' => (∃ w8 w9 v1 v2 v6 : Option PyData, ρ = [some (scrD a ns), some (.int (i' : Int)), some (refD b), some d, some (refD f), u5, some (.list ((plcs d).map (rowT d))), some (.str d.shown), w8, w9, v1, v2, v3, v4, v5, v6, v7]) ∧ ω' b = some .bag ∧ ω' f = some (.lst ((plcs d).map plD)), ⟨⟨u8, u9, v1, v2, v6, rfl⟩, hB2, hF2⟩, ?_, ?_⟩
      · rintro j y ρ ω' hy ⟨⟨w8, w9, v1, v2, v6, rfl⟩, hb, hf⟩
        have : ∃ p, p ∈ plcs d ∧ y = rowT d p := by
          rcases List.mem_append.mp (List.mem_of_getElem? hy) with h | h
          · exact mem_rows h
          · exact mem_rows h
        obtain ⟨p, hp, rfl⟩ := this
        have vp := part_vd vd hp
        have okp := pair_ok vd hp
        have vpd := vp.deep
        have vps := vp.size
        have th : Shrt (plD p) := ⟨pl_nodict p, fun es e => by
          injection e with e
          rw [← e, List.length_map]
          have := (pls_fact vd hp).1
          omega⟩
        refine ⟨rfl, rfl, nd_val vp.val, ?_, ?_, fun _ ρ ω' => (∃ v2 v6 : Option PyData, ρ = [some (scrD a ns), some (.int (i' : Int)), some (refD b), some d, some (refD f), u5, some (.list ((plcs d).map (rowT d))), some (.str d.shown), some (plD p), some (partD d p), some (.bool (tornR d p)), v2, v3, v4, v5, v6, v7]) ∧ ω' b = some .bag ∧ ω' f = some (.lst ((plcs d).map plD)), ⟨⟨v2, v6, rfl⟩, hb, hf⟩, ?_, ?_⟩
        · cases isL (rsv ω' (partD d p)) <;> decide
        · cases isL (rsv ω' (partD d p)) <;> decide
        · rintro j2 y2 ρ ω3 _ ⟨⟨v2, v6, rfl⟩, hb, hf⟩
          refine ⟨d, plD p, rfl, th, vd', .inr ⟨p, rfl, hp, fun u ω4 tm => ?_⟩⟩
          have fu : Full ω4 (.list [u, .bool (tornR d p)]) (.list [partD d p, .bool (tornR d p)]) := .inr (by simp only [full, fullAll, full_of tm.full (vp.ok (by decide) (by decide)).1])
          refine ⟨_, fu, okp, by show 2 ≤ sizeLine; decide, _, .inl rfl, okp, ?_⟩
          generalize PyData.shown (.list [partD d p, .bool (tornR d p)]) = T2
          refine ne_same ?_
          exact ⟨u, rfl, u, partD d p, ω3, rfl, tm, vp.val, by omega, by omega, ⟨_, _, rfl⟩, hb, hf⟩
        · rintro ρ ω3 ⟨⟨v2, v6, rfl⟩, hb, hf⟩
          exact ⟨⟨_, _, _, _, _, rfl⟩, hb, hf⟩
      rintro ρ ω3 ⟨⟨w8, w9, v1, v2, v6, rfl⟩, hB3, hF3⟩
      refine ⟨by decide, by decide, fun _ ρ ω' => (∃ w5 w12 w13 w14 : Option PyData, ρ = [some (scrD a ns), some (.int (i' : Int)), some (refD b), some d, some (refD f), w5, some (.list ((plcs d).map (rowT d))), some (.str d.shown), w8, w9, v1, v2, w12, w13, w14, v6, v7]) ∧ ω' b = some .bag ∧ ω' f = some (.lst ((plcs d).map plD)), ⟨⟨u5, v3, v4, v5, rfl⟩, hB3, hF3⟩, ?_, ?_⟩
      · rintro j y ρ ω' _ ⟨⟨w5, w12, w13, w14, rfl⟩, hb, hf⟩
        obtain ⟨ps0, eps0⟩ := plcs_head d
        refine ⟨b, f, plcs d, rfl, hb, hf, by rw [eps0]; simp, by omega, fun p hp => ⟨by have := (pls_fact vd hp).1; omega, (pls_fact vd hp).2.1⟩, fun e te => ?_⟩
        have oe : Ok e := ⟨te.fine, by have := te.deep; omega, by have := te.wt; omega⟩
        dsimp only [List.set, List.map]
        refine duesQ_ok (e := e) (l := plcs d) (ρ := [some (scrD a ns), some (.int (i' : Int)), some (refD b), some d, some (refD f), some y, some (.list ((plcs d).map (rowT d))), some (.str d.shown), w8, w9, v1, v2, some e, w13, w14, v6, v7]) rfl (fun _ => rfl) (fun _ => rfl) oe (fun p hp => ?_) (by omega) ?_
        · obtain ⟨_, _, h1, h2, h3⟩ := pls_fact vd hp
          exact ⟨h1, by omega, by omega⟩
        have shp := rows_shaped3 vd (duesP d e (plcs d)) fun p hp => (List.mem_filter.mp hp).1
        by_cases hit : ∃ p ∈ plcs d, e = plD p
        · obtain ⟨p, hp, rfl⟩ := hit
          obtain ⟨r, er⟩ := dues_hit (d := d) hp
          rw [er] at shp ⊢
          have vp := part_vd vd hp
          have okp := pair_ok vd hp
          refine ⟨by show 0 ≤ sizeLine; decide, neD_of .rfl' .rfl' shp (by decide +kernel) ?_⟩
          rw [eqv_nil]
          refine iteT ⟨rowT d p, atI_nat (j := 0) rfl, partD d p, rfl, rowT d p, atI_nat (j := 0) rfl, .bool (tornR d p), rfl, by show 2 ≤ sizeLine; decide, ?_⟩
          refine ⟨d, plD p, rfl, te.shrt, vd', .inr ⟨p, rfl, hp, fun u ω4 tm => ?_⟩⟩
          have fu : Full ω4 (.list [u, .bool (tornR d p)]) (.list [partD d p, .bool (tornR d p)]) := .inr (by simp only [full, fullAll, full_of tm.full (vp.ok (by decide) (by decide)).1])
          refine ⟨_, fu, okp, _, .inl rfl, okp, ?_⟩
          generalize PyData.shown (.list [partD d p, .bool (tornR d p)]) = T2
          refine ne_same ?_
          exact ⟨⟨_, _, _, _, rfl⟩, tm_other tm hb, tm_other tm hf⟩
        · have nl : ledD d e = [] := Classical.byContradiction fun h => hit (by
            obtain ⟨p, h1, h2⟩ := led_place h
            exact ⟨p, h2, h1⟩)
          have dn : duesP d e (plcs d) = [] := dues_none te.shrt.1 fun p hp h => hit ⟨p, hp, h⟩
          rw [dn]
          refine ⟨by show 0 ≤ sizeLine; decide, neD_of .rfl' .rfl' (show SeqAt.shaped (.list []) = true by decide +kernel) (by decide +kernel) ?_⟩
          rw [eqv_nil]
          refine iteF ⟨by show 4 ≤ sizeLine; decide, by show 2 ≤ sizeLine; decide, by show 2 ≤ sizeLine; decide, ?_⟩
          refine ⟨d, e, rfl, te.shrt, vd', .inl ⟨nl, _, .inl rfl, no_ok te, _, .inl rfl, no_ok te, ?_⟩⟩
          generalize PyData.shown (.list [.list [.str "no", e, .bool true, .bool false], .list [.str "no", e]]) = T2
          refine ne_same ?_
          exact ⟨⟨_, _, _, _, rfl⟩, hb, hf⟩
      · rintro ρ ω4 ⟨⟨w5, w12, w13, w14, rfl⟩, hb, hf⟩
        refine ⟨f, _, rfl, hf, by show 0 ≤ sizeLine; decide, _, hf, by rw [List.length_map, sizeLine_eq]; omega, ?_⟩
        refine ⟨d, rfl, vd', by unfold lvl; split <;> omega, fun f2 hf2 => ?_⟩
        refine ⟨_, Full.cell updW_same, okP, ?_⟩
        dsimp only [List.set, List.map]
        refine fstR_ok (l := plcs d) (ρ := [some (scrD a ns), some (.int (i' : Int)), some (refD b), some d, some (refD f), w5, some (.list ((plcs d).map (rowT d))), some (.str d.shown), w8, w9, v1, v2, w12, w13, w14, v6, v7]) rfl (fun _ => rfl) (by omega) okP ?_
        rw [hT]
        refine ne_same ?_
        refine ⟨d, .inl rfl, ok, ?_⟩
        generalize d.shown = T3
        refine ne_same ?_
        exact ⟨_, _, _, _, _, _, _, _, _, _, _, _, _, _, _, _, rfl⟩
  · rintro ρ ω _
    exact z ω
end
end Tx

namespace Tx
open PySem PySem.Spec PyProof.Rows L2
abbrev sNoPlace : Stmt := inClass (top 3) 0
theorem scNoPlace : FnScope ["self", "place"] ["self", "place"] (defScope sNoPlace) := ⟨rfl, rfl, rfl, by decide +kernel, rfl, by decide +kernel, by decide +kernel⟩
theorem ini_NoPlace {P : Program} {w : World} {K : PySem.W.Frag} {mg : Str → Option Value} {base : Heap} {C fI : Addr} {oc kV dc pm cd ct : Value} {od an : Option Addr} {sl : Array (Option Value)}
    (l : K.lookup fI = some ⟨oc, od, .func (PySem.W.fnOf "__init__" "NoPlace.__init__" (defArgs sNoPlace) (defBody sNoPlace) (defScope sNoPlace) .none kV dc pm an cd ct), sl⟩) (c : PySem.W.codeIn K cd "NoPlace.__init__" = true) (k : PySem.W.keepIn K (.ref fI) = true)
    (no : PySem.W.findIn K (.ref C) "place" = some none) (T : OexC K C) : FnOk P w K mg base CX0 1 fI (PySem.W.fnOf "__init__" "NoPlace.__init__" (defArgs sNoPlace) (defBody sNoPlace) (defScope sNoPlace) .none kV dc pm an cd ct) ["self", "place"] (spInit1 C "place") ∧ Binds K (PySem.W.fnOf "__init__" "NoPlace.__init__" (defArgs sNoPlace) (defBody sNoPlace) (defScope sNoPlace) .none kV dc pm an cd ct) ["self", "place"] [] := by
  have F := fun_mk (st := sNoPlace) l c k
  refine ⟨F.ok scNoPlace (fun vs H Q E h => ?_) (fun cv A out s H vs Q E hr h => ?_), F.binds fun _ _ _ _ _ _ us hl => match us, hl with | [_, _], _ => rfl⟩
  · obtain ⟨a, v, rfl, _⟩ := h
    rfl
  obtain ⟨a, v, rfl, ha, q⟩ := h
  exact ⟨_, pss_one (ps_ost (pv 0) (pv 1)), _, rfl, _, rfl, a, C, rfl, T, no, .inl ⟨ha, fun dx hx ne => q dx hx ne⟩⟩
theorem main {P : Program} {w : World} {K : PySem.W.Frag} {mg : Str → Option Value} {base : Heap} {CNoPlace CTextorlistError CBadValue : Addr} (B : Bi mg) (hTake : Has K mg "_law_take" sTake) (hBag : Has K mg "_law_bag" sBag) (hText : Has K mg "_law_text" sText) (hSize : Has K mg "_law_size" sSize) (hValue : Has K mg "_law_value" sValue) (hGreat : Has K mg "_law_great" sGreat) (hCopied : Has K mg "copied" sCopied) (hIsIndex : Has K mg "is_index" sIsIndex) (hIsSplit : Has K mg "is_split" sIsSplit) (hLedTo : Has K mg "led_to" sLedTo) (hIsTorn : Has K mg "is_torn" sIsTorn) (hPartOf : Has K mg "part_of" sPartOf) (hPlaces : Has K mg "places_of" sPlaces) (hRows : Has K mg "_law_rows" sRows) (hAsked : Has K mg "_law_asked" sAsked) (hThing : Has K mg "_law_thing" sThing) (hSpoil : Has K mg "_law_spoil" sSpoil) (hLaw : Has K mg "law" sLaw) (XNoPlace : Err1 P w K mg base "NoPlace" "place" CNoPlace) (XTextorlistError : Cls0 mg "TextorlistError" CTextorlistError) (XBadValue : Cls0 mg "BadValue" CBadValue) (k1 : PySem.W.kitOne K (.ref CNoPlace) (.ref CTextorlistError) = some true) (k2 : PySem.W.kitOne K (.ref CNoPlace) (.ref CBadValue) = some false) :
    Dfn P w K mg base CX0 54 "law" ["_law_script"] (spLaw K) := by
  have DT := d_take (P := P) (w := w) (base := base) hTake B
  have DX := d_text hText B DT
  have DV := d_value hValue B DT DX (d_size hSize B 20) 6 (by decide)
  have tk := dd_take (P := P) (w := w) (base := base) hTake B
  have SP := dd_is_split (P := P) (w := w) (base := base) hIsSplit B
  have LD := dd_led hLedTo B (dd_is_index hIsIndex B) SP
  have CP := dd_copied (P := P) (w := w) (base := base) hCopied B 30
  exact law_of (dd_law hLaw B tk (dd_bag hBag B) (dd_value DV) (dd_great (d_great hGreat B DT DX DV)) (dd_rows hRows B 30) (dd_placesO hPlaces B SP 30)
    (dd_asked hAsked B (dd_partX hPartOf B LD CP XNoPlace) (dd_tornX hIsTorn B LD XNoPlace) XNoPlace XTextorlistError XBadValue k1 k2) (dd_thing hThing B tk) (dd_spoil hSpoil B 22))
end Tx
open PySem PySem.W PyProof.Rows
set_option maxRecDepth 100000 in
set_option maxHeartbeats 0 in
theorem PySem.Challenge.cw_textorlist_k03_places_and_parts_holds : PySem.Challenge.rw_textorlist_k03_places_and_parts.Holds := by
  w_on; o_law; k_head; (case hw => w_witness2)
  k_fill
  refine Tx.walkG (l := PySem.Challenge.rw_textorlist_k03_places_and_parts) (k := 54) (x := "_law_script") (sp := Tx.spLaw) rfl rfl ⟨rfl, by decide, by decide⟩ (fun w h Y => PySem.W.kIn_of Y) ?F (fun K H a ns h1 h2 => ⟨a, ns, rfl, h2, h1, fun _ => rfl⟩)
  case F =>
    intro w mg fa h KX G hmg base b1 b2
    refine' Tx.to_law hmg (Tx.main (base := base) (Tx.bi_of KX G ?b0 ?b1 ?b2 ?b3 ?b4 ?b5 ?b6 ?b7 ?b8 ?b9 ?b10 ?b11 ?b12 ?b13 ?b14 ?b15 ?b16 ?b17 ?b18 ?b19) (Tx.has_of (st := Tx.sTake) KX G ?ha0 ?hl0 ?hc0 ?hk0) (Tx.has_of (st := Tx.sBag) KX G ?ha1 ?hl1 ?hc1 ?hk1) (Tx.has_of (st := Tx.sText) KX G ?ha2 ?hl2 ?hc2 ?hk2) (Tx.has_of (st := Tx.sSize) KX G ?ha3 ?hl3 ?hc3 ?hk3) (Tx.has_of (st := Tx.sValue) KX G ?ha4 ?hl4 ?hc4 ?hk4) (Tx.has_of (st := Tx.sGreat) KX G ?ha5 ?hl5 ?hc5 ?hk5) (Tx.has_of (st := Tx.sCopied) KX G ?ha6 ?hl6 ?hc6 ?hk6) (Tx.has_of (st := Tx.sIsIndex) KX G ?ha7 ?hl7 ?hc7 ?hk7) (Tx.has_of (st := Tx.sIsSplit) KX G ?ha8 ?hl8 ?hc8 ?hk8) (Tx.has_of (st := Tx.sLedTo) KX G ?ha9 ?hl9 ?hc9 ?hk9) (Tx.has_of (st := Tx.sIsTorn) KX G ?ha10 ?hl10 ?hc10 ?hk10) (Tx.has_of (st := Tx.sPartOf) KX G ?ha11 ?hl11 ?hc11 ?hk11) (Tx.has_of (st := Tx.sPlaces) KX G ?ha12 ?hl12 ?hc12 ?hk12) (Tx.has_of (st := Tx.sRows) KX G ?ha13 ?hl13 ?hc13 ?hk13) (Tx.has_of (st := Tx.sAsked) KX G ?ha14 ?hl14 ?hc14 ?hk14) (Tx.has_of (st := Tx.sThing) KX G ?ha15 ?hl15 ?hc15 ?hk15) (Tx.has_of (st := Tx.sSpoil) KX G ?ha16 ?hl16 ?hc16 ?hk16) (Tx.has_of (st := Tx.sLaw) KX G ?ha17 ?hl17 ?hc17 ?hk17) (Tx.err1_of KX G ?e0aC ?e0xL ?e0vb ?e0sa ?e0ga ?e0gg ?e0nf ?e0ai ?e0ti ?e0kC ?e0eC ?e0tC ?e0hC ?e0cC ?e0gC ?e0uC ?e0oC ?e0sC (Tx.ini_NoPlace ?e0il ?e0ic ?e0ik ?e0nf)) (Tx.cls0_of KX G ?cl0) (Tx.cls0_of KX G ?cl1) ?mo0 ?mo1)
    (case b0 => first | k_is | kit_is | k_exc | decide +kernel | rfl | exact .inl rfl | exact .inr ⟨_, rfl⟩)
    (case b1 => first | k_is | kit_is | k_exc | decide +kernel | rfl | exact .inl rfl | exact .inr ⟨_, rfl⟩)
    (case b2 => first | k_is | kit_is | k_exc | decide +kernel | rfl | exact .inl rfl | exact .inr ⟨_, rfl⟩)
    (case b3 => first | k_is | kit_is | k_exc | decide +kernel | rfl | exact .inl rfl | exact .inr ⟨_, rfl⟩)
    (case b4 => first | k_is | kit_is | k_exc | decide +kernel | rfl | exact .inl rfl | exact .inr ⟨_, rfl⟩)
    (case b5 => first | k_is | kit_is | k_exc | decide +kernel | rfl | exact .inl rfl | exact .inr ⟨_, rfl⟩)
    (case b6 => first | k_is | kit_is | k_exc | decide +kernel | rfl | exact .inl rfl | exact .inr ⟨_, rfl⟩)
    (case b7 => first | k_is | kit_is | k_exc | decide +kernel | rfl | exact .inl rfl | exact .inr ⟨_, rfl⟩)
    (case b8 => first | k_is | kit_is | k_exc | decide +kernel | rfl | exact .inl rfl | exact .inr ⟨_, rfl⟩)
    (case b9 => first | k_is | kit_is | k_exc | decide +kernel | rfl | exact .inl rfl | exact .inr ⟨_, rfl⟩)
    (case b10 => first | k_is | kit_is | k_exc | decide +kernel | rfl | exact .inl rfl | exact .inr ⟨_, rfl⟩)
    (case b11 => first | k_is | kit_is | k_exc | decide +kernel | rfl | exact .inl rfl | exact .inr ⟨_, rfl⟩)
    (case b12 => first | k_is | kit_is | k_exc | decide +kernel | rfl | exact .inl rfl | exact .inr ⟨_, rfl⟩)
    (case b13 => first | k_is | kit_is | k_exc | decide +kernel | rfl | exact .inl rfl | exact .inr ⟨_, rfl⟩)
    (case b14 => first | k_is | kit_is | k_exc | decide +kernel | rfl | exact .inl rfl | exact .inr ⟨_, rfl⟩)
    (case b15 => first | k_is | kit_is | k_exc | decide +kernel | rfl | exact .inl rfl | exact .inr ⟨_, rfl⟩)
    (case b16 => first | k_is | kit_is | k_exc | decide +kernel | rfl | exact .inl rfl | exact .inr ⟨_, rfl⟩)
    (case b17 => first | k_is | kit_is | k_exc | decide +kernel | rfl | exact .inl rfl | exact .inr ⟨_, rfl⟩)
    (case b18 => first | k_is | kit_is | k_exc | decide +kernel | rfl | exact .inl rfl | exact .inr ⟨_, rfl⟩)
    (case b19 => first | k_is | kit_is | k_exc | decide +kernel | rfl | exact .inl rfl | exact .inr ⟨_, rfl⟩)
    (case ha0 => first | k_is | kit_is | k_exc | decide +kernel | rfl | exact .inl rfl | exact .inr ⟨_, rfl⟩)
    (case hl0 => first | k_is | kit_is | k_exc | decide +kernel | rfl | exact .inl rfl | exact .inr ⟨_, rfl⟩)
    (case hc0 => first | k_is | kit_is | k_exc | decide +kernel | rfl | exact .inl rfl | exact .inr ⟨_, rfl⟩)
    (case hk0 => first | k_is | kit_is | k_exc | decide +kernel | rfl | exact .inl rfl | exact .inr ⟨_, rfl⟩)
    (case ha1 => first | k_is | kit_is | k_exc | decide +kernel | rfl | exact .inl rfl | exact .inr ⟨_, rfl⟩)
    (case hl1 => first | k_is | kit_is | k_exc | decide +kernel | rfl | exact .inl rfl | exact .inr ⟨_, rfl⟩)
    (case hc1 => first | k_is | kit_is | k_exc | decide +kernel | rfl | exact .inl rfl | exact .inr ⟨_, rfl⟩)
    (case hk1 => first | k_is | kit_is | k_exc | decide +kernel | rfl | exact .inl rfl | exact .inr ⟨_, rfl⟩)
    (case ha2 => first | k_is | kit_is | k_exc | decide +kernel | rfl | exact .inl rfl | exact .inr ⟨_, rfl⟩)
    (case hl2 => first | k_is | kit_is | k_exc | decide +kernel | rfl | exact .inl rfl | exact .inr ⟨_, rfl⟩)
    (case hc2 => first | k_is | kit_is | k_exc | decide +kernel | rfl | exact .inl rfl | exact .inr ⟨_, rfl⟩)
    (case hk2 => first | k_is | kit_is | k_exc | decide +kernel | rfl | exact .inl rfl | exact .inr ⟨_, rfl⟩)
    (case ha3 => first | k_is | kit_is | k_exc | decide +kernel | rfl | exact .inl rfl | exact .inr ⟨_, rfl⟩)
    (case hl3 => first | k_is | kit_is | k_exc | decide +kernel | rfl | exact .inl rfl | exact .inr ⟨_, rfl⟩)
    (case hc3 => first | k_is | kit_is | k_exc | decide +kernel | rfl | exact .inl rfl | exact .inr ⟨_, rfl⟩)
    (case hk3 => first | k_is | kit_is | k_exc | decide +kernel | rfl | exact .inl rfl | exact .inr ⟨_, rfl⟩)
    (case ha4 => first | k_is | kit_is | k_exc | decide +kernel | rfl | exact .inl rfl | exact .inr ⟨_, rfl⟩)
    (case hl4 => first | k_is | kit_is | k_exc | decide +kernel | rfl | exact .inl rfl | exact .inr ⟨_, rfl⟩)
    (case hc4 => first | k_is | kit_is | k_exc | decide +kernel | rfl | exact .inl rfl | exact .inr ⟨_, rfl⟩)
    (case hk4 => first | k_is | kit_is | k_exc | decide +kernel | rfl | exact .inl rfl | exact .inr ⟨_, rfl⟩)
    (case ha5 => first | k_is | kit_is | k_exc | decide +kernel | rfl | exact .inl rfl | exact .inr ⟨_, rfl⟩)
    (case hl5 => first | k_is | kit_is | k_exc | decide +kernel | rfl | exact .inl rfl | exact .inr ⟨_, rfl⟩)
    (case hc5 => first | k_is | kit_is | k_exc | decide +kernel | rfl | exact .inl rfl | exact .inr ⟨_, rfl⟩)
    (case hk5 => first | k_is | kit_is | k_exc | decide +kernel | rfl | exact .inl rfl | exact .inr ⟨_, rfl⟩)
    (case ha6 => first | k_is | kit_is | k_exc | decide +kernel | rfl | exact .inl rfl | exact .inr ⟨_, rfl⟩)
    (case hl6 => first | k_is | kit_is | k_exc | decide +kernel | rfl | exact .inl rfl | exact .inr ⟨_, rfl⟩)
    (case hc6 => first | k_is | kit_is | k_exc | decide +kernel | rfl | exact .inl rfl | exact .inr ⟨_, rfl⟩)
    (case hk6 => first | k_is | kit_is | k_exc | decide +kernel | rfl | exact .inl rfl | exact .inr ⟨_, rfl⟩)
    (case ha7 => first | k_is | kit_is | k_exc | decide +kernel | rfl | exact .inl rfl | exact .inr ⟨_, rfl⟩)
    (case hl7 => first | k_is | kit_is | k_exc | decide +kernel | rfl | exact .inl rfl | exact .inr ⟨_, rfl⟩)
    (case hc7 => first | k_is | kit_is | k_exc | decide +kernel | rfl | exact .inl rfl | exact .inr ⟨_, rfl⟩)
    (case hk7 => first | k_is | kit_is | k_exc | decide +kernel | rfl | exact .inl rfl | exact .inr ⟨_, rfl⟩)
    (case ha8 => first | k_is | kit_is | k_exc | decide +kernel | rfl | exact .inl rfl | exact .inr ⟨_, rfl⟩)
    (case hl8 => first | k_is | kit_is | k_exc | decide +kernel | rfl | exact .inl rfl | exact .inr ⟨_, rfl⟩)
    (case hc8 => first | k_is | kit_is | k_exc | decide +kernel | rfl | exact .inl rfl | exact .inr ⟨_, rfl⟩)
    (case hk8 => first | k_is | kit_is | k_exc | decide +kernel | rfl | exact .inl rfl | exact .inr ⟨_, rfl⟩)
    (case ha9 => first | k_is | kit_is | k_exc | decide +kernel | rfl | exact .inl rfl | exact .inr ⟨_, rfl⟩)
    (case hl9 => first | k_is | kit_is | k_exc | decide +kernel | rfl | exact .inl rfl | exact .inr ⟨_, rfl⟩)
    (case hc9 => first | k_is | kit_is | k_exc | decide +kernel | rfl | exact .inl rfl | exact .inr ⟨_, rfl⟩)
    (case hk9 => first | k_is | kit_is | k_exc | decide +kernel | rfl | exact .inl rfl | exact .inr ⟨_, rfl⟩)
    (case ha10 => first | k_is | kit_is | k_exc | decide +kernel | rfl | exact .inl rfl | exact .inr ⟨_, rfl⟩)
    (case hl10 => first | k_is | kit_is | k_exc | decide +kernel | rfl | exact .inl rfl | exact .inr ⟨_, rfl⟩)
    (case hc10 => first | k_is | kit_is | k_exc | decide +kernel | rfl | exact .inl rfl | exact .inr ⟨_, rfl⟩)
    (case hk10 => first | k_is | kit_is | k_exc | decide +kernel | rfl | exact .inl rfl | exact .inr ⟨_, rfl⟩)
    (case ha11 => first | k_is | kit_is | k_exc | decide +kernel | rfl | exact .inl rfl | exact .inr ⟨_, rfl⟩)
    (case hl11 => first | k_is | kit_is | k_exc | decide +kernel | rfl | exact .inl rfl | exact .inr ⟨_, rfl⟩)
    (case hc11 => first | k_is | kit_is | k_exc | decide +kernel | rfl | exact .inl rfl | exact .inr ⟨_, rfl⟩)
    (case hk11 => first | k_is | kit_is | k_exc | decide +kernel | rfl | exact .inl rfl | exact .inr ⟨_, rfl⟩)
    (case ha12 => first | k_is | kit_is | k_exc | decide +kernel | rfl | exact .inl rfl | exact .inr ⟨_, rfl⟩)
    (case hl12 => first | k_is | kit_is | k_exc | decide +kernel | rfl | exact .inl rfl | exact .inr ⟨_, rfl⟩)
    (case hc12 => first | k_is | kit_is | k_exc | decide +kernel | rfl | exact .inl rfl | exact .inr ⟨_, rfl⟩)
    (case hk12 => first | k_is | kit_is | k_exc | decide +kernel | rfl | exact .inl rfl | exact .inr ⟨_, rfl⟩)
    (case ha13 => first | k_is | kit_is | k_exc | decide +kernel | rfl | exact .inl rfl | exact .inr ⟨_, rfl⟩)
    (case hl13 => first | k_is | kit_is | k_exc | decide +kernel | rfl | exact .inl rfl | exact .inr ⟨_, rfl⟩)
    (case hc13 => first | k_is | kit_is | k_exc | decide +kernel | rfl | exact .inl rfl | exact .inr ⟨_, rfl⟩)
    (case hk13 => first | k_is | kit_is | k_exc | decide +kernel | rfl | exact .inl rfl | exact .inr ⟨_, rfl⟩)
    (case ha14 => first | k_is | kit_is | k_exc | decide +kernel | rfl | exact .inl rfl | exact .inr ⟨_, rfl⟩)
    (case hl14 => first | k_is | kit_is | k_exc | decide +kernel | rfl | exact .inl rfl | exact .inr ⟨_, rfl⟩)
    (case hc14 => first | k_is | kit_is | k_exc | decide +kernel | rfl | exact .inl rfl | exact .inr ⟨_, rfl⟩)
    (case hk14 => first | k_is | kit_is | k_exc | decide +kernel | rfl | exact .inl rfl | exact .inr ⟨_, rfl⟩)
    (case ha15 => first | k_is | kit_is | k_exc | decide +kernel | rfl | exact .inl rfl | exact .inr ⟨_, rfl⟩)
    (case hl15 => first | k_is | kit_is | k_exc | decide +kernel | rfl | exact .inl rfl | exact .inr ⟨_, rfl⟩)
    (case hc15 => first | k_is | kit_is | k_exc | decide +kernel | rfl | exact .inl rfl | exact .inr ⟨_, rfl⟩)
    (case hk15 => first | k_is | kit_is | k_exc | decide +kernel | rfl | exact .inl rfl | exact .inr ⟨_, rfl⟩)
    (case ha16 => first | k_is | kit_is | k_exc | decide +kernel | rfl | exact .inl rfl | exact .inr ⟨_, rfl⟩)
    (case hl16 => first | k_is | kit_is | k_exc | decide +kernel | rfl | exact .inl rfl | exact .inr ⟨_, rfl⟩)
    (case hc16 => first | k_is | kit_is | k_exc | decide +kernel | rfl | exact .inl rfl | exact .inr ⟨_, rfl⟩)
    (case hk16 => first | k_is | kit_is | k_exc | decide +kernel | rfl | exact .inl rfl | exact .inr ⟨_, rfl⟩)
    (case ha17 => first | k_is | kit_is | k_exc | decide +kernel | rfl | exact .inl rfl | exact .inr ⟨_, rfl⟩)
    (case hl17 => first | k_is | kit_is | k_exc | decide +kernel | rfl | exact .inl rfl | exact .inr ⟨_, rfl⟩)
    (case hc17 => first | k_is | kit_is | k_exc | decide +kernel | rfl | exact .inl rfl | exact .inr ⟨_, rfl⟩)
    (case hk17 => first | k_is | kit_is | k_exc | decide +kernel | rfl | exact .inl rfl | exact .inr ⟨_, rfl⟩)
    (case e0aC => first | k_is | kit_is | k_exc | decide +kernel | rfl | exact .inl rfl | exact .inr ⟨_, rfl⟩)
    (case e0xL => first | k_is | kit_is | k_exc | decide +kernel | rfl | exact .inl rfl | exact .inr ⟨_, rfl⟩)
    (case e0vb => first | k_is | kit_is | k_exc | decide +kernel | rfl | exact .inl rfl | exact .inr ⟨_, rfl⟩)
    (case e0sa => first | k_is | kit_is | k_exc | decide +kernel | rfl | exact .inl rfl | exact .inr ⟨_, rfl⟩)
    (case e0ga => first | k_is | kit_is | k_exc | decide +kernel | rfl | exact .inl rfl | exact .inr ⟨_, rfl⟩)
    (case e0gg => first | k_is | kit_is | k_exc | decide +kernel | rfl | exact .inl rfl | exact .inr ⟨_, rfl⟩)
    (case e0nf => first | k_is | kit_is | k_exc | decide +kernel | rfl | exact .inl rfl | exact .inr ⟨_, rfl⟩)
    (case e0ai => first | k_is | kit_is | k_exc | decide +kernel | rfl | exact .inl rfl | exact .inr ⟨_, rfl⟩)
    (case e0ti => first | k_is | kit_is | k_exc | decide +kernel | rfl | exact .inl rfl | exact .inr ⟨_, rfl⟩)
    (case e0kC => first | k_is | kit_is | k_exc | decide +kernel | rfl | exact .inl rfl | exact .inr ⟨_, rfl⟩)
    (case e0eC => first | k_is | kit_is | k_exc | decide +kernel | rfl | exact .inl rfl | exact .inr ⟨_, rfl⟩)
    (case e0tC => first | k_is | kit_is | k_exc | decide +kernel | rfl | exact .inl rfl | exact .inr ⟨_, rfl⟩)
    (case e0hC => first | k_is | kit_is | k_exc | decide +kernel | rfl | exact .inl rfl | exact .inr ⟨_, rfl⟩)
    (case e0cC => first | k_is | kit_is | k_exc | decide +kernel | rfl | exact .inl rfl | exact .inr ⟨_, rfl⟩)
    (case e0gC => first | k_is | kit_is | k_exc | decide +kernel | rfl | exact .inl rfl | exact .inr ⟨_, rfl⟩)
    (case e0uC => first | k_is | kit_is | k_exc | decide +kernel | rfl | exact .inl rfl | exact .inr ⟨_, rfl⟩)
    (case e0oC => first | k_is | kit_is | k_exc | decide +kernel | rfl | exact .inl rfl | exact .inr ⟨_, rfl⟩)
    (case e0sC => first | k_is | kit_is | k_exc | decide +kernel | rfl | exact .inl rfl | exact .inr ⟨_, rfl⟩)
    (case e0il => first | k_is | kit_is | k_exc | decide +kernel | rfl | exact .inl rfl | exact .inr ⟨_, rfl⟩)
    (case e0ic => first | k_is | kit_is | k_exc | decide +kernel | rfl | exact .inl rfl | exact .inr ⟨_, rfl⟩)
    (case e0ik => first | k_is | kit_is | k_exc | decide +kernel | rfl | exact .inl rfl | exact .inr ⟨_, rfl⟩)
    (case cl0 => first | k_is | kit_is | k_exc | decide +kernel | rfl | exact .inl rfl | exact .inr ⟨_, rfl⟩)
    (case cl1 => first | k_is | kit_is | k_exc | decide +kernel | rfl | exact .inl rfl | exact .inr ⟨_, rfl⟩)
    (case mo0 => first | k_is | kit_is | k_exc | decide +kernel | rfl | exact .inl rfl | exact .inr ⟨_, rfl⟩)
    (case mo1 => first | k_is | kit_is | k_exc | decide +kernel | rfl | exact .inl rfl | exact .inr ⟨_, rfl⟩)
#print axioms PySem.Challenge.cw_textorlist_k03_places_and_parts_holds
