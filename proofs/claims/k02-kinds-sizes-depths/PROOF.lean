import PyProof.Rows.All
import Wide.All
import OpenK.AllK
import Wide.FinOn
import PyProof.ReprLen
import PyProof.ReprRoads
import PyProof.EqLayable
import HandS.ForMost
import HandS.Exc
import HandS.TryOnly
import HandS.ExcOwn
import HandS.WordsExc
import HandS.IsInst
import HandS.Walk
import HandS.Flow
import HandS.ExcInit
import HandS.ExcIs
import HandS.ExcField
import HandS.TryMany
import PyProof.StrBlock2
import PyProof.ListStr
import KE.KExcIs
import HandS.Small
import KE.DataMinMax
import HandS.SortKw
import PySem.Challenge.RW_textorlist_k02_kinds_sizes_depths
set_option Elab.async false
set_option linter.all false
set_option maxRecDepth 100000
set_option maxHeartbeats 4000000
/-! ## Data: what can be shown, how long it is then -/
namespace Tx
open PySem

mutual
/-- no dict, letters of a text below the last code point, iv of less than 1920 bits -/
def fine : PyData → Bool
  | .none | .bool _ => true
  | .int i => decide (i.natAbs.log2 < 1920)
  | .str x => x.cps.toList.all fun c => decide (c < 0x110000)
  | .list xs | .tuple xs => fineAll xs
  | .dict _ => false
def fineAll : List PyData → Bool
  | [] => true
  | x :: xs => fine x && fineAll xs
end
mutual
/-- a bound for the number of signs of its repr -/
def wt : PyData → Nat
  | .none | .bool _ => 5
  | .int _ => 2000
  | .str x => 10 * x.length + 2
  | .list xs | .tuple xs => wtAll xs + 3
  | .dict _ => 0
def wtAll : List PyData → Nat
  | [] => 0
  | x :: xs => wt x + 2 + wtAll xs
end
theorem fineAll_iff : ∀ {xs : List PyData}, fineAll xs = true ↔ ∀ d ∈ xs, fine d = true
  | [] => by simp [fineAll]
  | x :: xs => by simp [fineAll, fineAll_iff (xs := xs)]
theorem wtAll_append : ∀ (xs ys : List PyData), wtAll (xs ++ ys) = wtAll xs + wtAll ys
  | [], ys => by simp [wtAll]
  | x :: xs, ys => by simp only [List.cons_append, wtAll, wtAll_append xs ys]; omega
theorem wtAll_le {B : Nat} : ∀ {xs : List PyData}, (∀ d ∈ xs, wt d ≤ B) → wtAll xs ≤ (B + 2) * xs.length
  | [], _ => by simp [wtAll]
  | x :: xs, h => by
    have h1 := h x List.mem_cons_self
    have h2 := wtAll_le (B := B) (xs := xs) fun d hd => h d (List.mem_cons_of_mem _ hd)
    simp only [wtAll, List.length_cons, Nat.mul_add, Nat.mul_one]
    omega
theorem depthAll_le {n : Nat} : ∀ {xs : List PyData}, (∀ d ∈ xs, d.depth ≤ n) → PyData.depthAll xs ≤ n
  | [], _ => by simp [PyData.depthAll]
  | x :: xs, h => by
    have h1 := h x List.mem_cons_self
    have h2 := depthAll_le (n := n) (xs := xs) fun d hd => h d (List.mem_cons_of_mem _ hd)
    simp only [PyData.depthAll]
    omega
theorem depth_mem : ∀ {xs : List PyData} {d : PyData}, d ∈ xs → d.depth ≤ PyData.depthAll xs
  | [], d, h => by simp at h
  | x :: xs, d, h => by
    simp only [PyData.depthAll]
    cases h with
    | head => omega
    | tail _ h => have := depth_mem h; omega
theorem wt_mem : ∀ {xs : List PyData} {d : PyData}, d ∈ xs → wt d + 2 ≤ wtAll xs
  | [], d, h => by simp at h
  | x :: xs, d, h => by
    simp only [wtAll]
    cases h with
    | head => omega
    | tail _ h => have := wt_mem h; omega
mutual
theorem fine_showable : ∀ d : PyData, fine d = true → d.showable = true
  | .none, _ => rfl
  | .bool _, _ => rfl
  | .str _, _ => rfl
  | .int i, h => by simpa [fine, PyData.showable] using h
  | .list xs, h => by simp only [fine] at h; simp only [PyData.showable]; exact fineAll_showable xs h
  | .tuple xs, h => by simp only [fine] at h; simp only [PyData.showable]; exact fineAll_showable xs h
  | .dict _, h => by simp [fine] at h
theorem fineAll_showable : ∀ xs : List PyData, fineAll xs = true → PyData.showableAll xs = true
  | [], _ => rfl
  | x :: xs, h => by
    simp only [fineAll, Bool.and_eq_true] at h
    simp only [PyData.showableAll, fine_showable x h.1, fineAll_showable xs h.2, Bool.and_self]
end
mutual
theorem fine_lay : ∀ d : PyData, fine d = true → d.canLay0 = true
  | .none, _ => rfl
  | .bool _, _ => rfl
  | .int _, _ => rfl
  | .str x, h => by
    simp only [fine, List.all_eq_true, decide_eq_true_eq] at h
    simp only [PyData.canLay0]
    show x.cps.all (· < 0x110000) = true
    rw [Array.all_eq_true_iff_forall_mem]
    intro c hc
    exact decide_eq_true (h c (Array.mem_toList_iff.mpr hc))
  | .list xs, h => by simp only [fine] at h; simp only [PyData.canLay0]; exact fineAll_lay xs h
  | .tuple xs, h => by simp only [fine] at h; simp only [PyData.canLay0]; exact fineAll_lay xs h
  | .dict _, h => by simp [fine] at h
theorem fineAll_lay : ∀ xs : List PyData, fineAll xs = true → PyData.canLayAll0 xs = true
  | [], _ => rfl
  | x :: xs, h => by
    simp only [fineAll, Bool.and_eq_true] at h
    simp only [PyData.canLayAll0, fine_lay x h.1, fineAll_lay xs h.2, Bool.and_self]
end
mutual
theorem shown_wt : ∀ d : PyData, fine d = true → d.shown.length ≤ wt d
  | .none, _ => by decide
  | .bool b, _ => by cases b <;> decide
  | .int i, h => by
    have e := int_text_fits (a := i) (by simpa [fine] using h)
    have e2 := PyProof.Rows.int_text_len_1921 (i := i) (by simpa [fine] using h)
    simp only [PyData.shown, wt]
    omega
  | .str x, h => by
    simp only [fine, List.all_eq_true, decide_eq_true_eq] at h
    have e := StrLaws.reprText_len x fun c hc => by
      have := h c hc
      have e8 : (16 : Nat) ^ 8 = 4294967296 := by decide
      omega
    simpa only [PyData.shown, wt] using e
  | .list xs, h => by
    simp only [fine] at h
    have h1 := shownAll_wt xs h
    have h2 := listText_len_le (PyData.shownAll xs)
    simp only [PyData.shown, wt]
    omega
  | .tuple xs, h => by
    simp only [fine] at h
    have h1 := shownAll_wt xs h
    have h2 := tupleText_len_le (PyData.shownAll xs)
    simp only [PyData.shown, wt]
    omega
  | .dict _, h => by simp [fine] at h
theorem shownAll_wt : ∀ xs : List PyData, fineAll xs = true → ((PyData.shownAll xs).map (·.length)).sum + 2 * (PyData.shownAll xs).length ≤ wtAll xs
  | [], _ => by simp [PyData.shownAll, wtAll]
  | x :: xs, h => by
    simp only [fineAll, Bool.and_eq_true] at h
    have h1 := shown_wt x h.1
    have h2 := shownAll_wt xs h.2
    simp only [PyData.shownAll, wtAll, List.map_cons, List.sum_cons, List.length_cons]
    omega
end
/-- may be shown and compared -/
def Ok (d : PyData) : Prop := fine d = true ∧ d.depth ≤ 60 ∧ wt d ≤ 16000000
theorem Ok.fits {d : PyData} (h : Ok d) : d.shown.length ≤ sizeLine := by
  have := shown_wt d h.1
  have := h.2.2
  rw [sizeLine_eq]
  omega
theorem Ok.nodict {d : PyData} (h : Ok d) : d.hasDict = false := PyData.hasDict_of_canLay d (fine_lay d h.1)
theorem Ok.shaped {d : PyData} (h : Ok d) : SeqAt.shaped d = true := by
  unfold SeqAt.shaped
  rw [fine_lay d h.1, Bool.true_and]
  exact decide_eq_true (Nat.le_trans h.2.1 (by decide))
end Tx
/-! ## What the kit's hand layer lacks for these laws: a def that is run where no repr is under way (guards), repr of data of any depth -/
namespace Tx
open PySem PySem.Spec PyProof.Rows L2

/-- a def's promise, asked only where nothing is being shown -/
structure FnG (P : Program) (w : World) (K : PySem.W.Frag) (mg : Str → Option Value) (base : Heap) (CX : CXT) (k : Nat)
    (f : Addr) (fd : FuncData) (ps : List Str) (sp : Sp) : Prop where
  len : ∀ vs H Q E, sp vs H Q E → vs.length = ps.length
  run : ∀ (A : Around) (out : List Env) (s : Shared) (H : Hp) (ar : Args) (us : List Value) (vs : List V) (Q : VK) (E : XK),
    Room k A → A.guards = some [] → Env0 P w K mg base A out s H → BindsTo s fd ar (ps.zip us) → Vals vs us → sp vs H Q E →
      codeAny (model P w) A (.call (.ref f) ar) (CR CX out P w H s Q E) s

section
variable {P : Program} {w : World} {K : PySem.W.Frag} {mg : Str → Option Value} {base : Heap} {CX : CXT} {k : Nat} {f : Addr} {fd : FuncData}
  {ps N : List Str} {sp : Sp} {x qual : Str} {st : Stmt}
theorem FnG.of (F : FnOk P w K mg base CX k f fd ps sp) : FnG P w K mg base CX k f fd ps sp :=
  ⟨F.len, fun A out s H ar us vs Q E r _ e b v h => F.run A out s H ar us vs Q E r e b v h⟩
theorem FnG.mono {j : Nat} (F : FnG P w K mg base CX j f fd ps sp) (h : j ≤ k) : FnG P w K mg base CX k f fd ps sp :=
  ⟨F.len, fun A out s H ar us vs Q E r g e b v q => F.run A out s H ar us vs Q E (r.mono h) g e b v q⟩

/-- from the body's reading to the promise -/
theorem okG (F : Fun K x qual st f fd) (S : FnScope N ps (defScope st)) (len : ∀ vs H Q E, sp vs H Q E → vs.length = ps.length)
    (body : ∀ (cv : Value) (A : Around) (out : List Env) (s : Shared) (H : Hp) (vs : List V) (Q : VK) (E : XK),
      Room k (A.deeper (envOfC qual (defScope st) s.heap.objs.size f cv)) → A.guards = some [] → sp vs H Q E →
      ∃ t, PSs (cxOf CX P w K mg base N qual (defScope st) f cv A out s H E) (defBody st) t ∧
        t { nx := fun _ H' => Q .non H', rt := Q } (start N vs) H) :
    FnG P w K mg base CX (k + 1) f fd ps sp := by
  obtain ⟨_, _, _, _, _, _, cv, _, _, rfl, at_f, code⟩ := F.ex
  refine ⟨len, fun A out s H ar us vs Q E room gd e0 bd rel ask => ?_⟩
  have inH : K.In s.heap := e0.mod.kin.keeps fun b o z => (e0.bs b o z).1
  have free : s.heap.NoLimit := e0.mod.nolimit.keeps fun b o z => (e0.bs b o z).1
  refine codeAny_call_function room.depth (inH _ _ at_f) rfl S.co S.gen rfl (PySem.W.codeRec_of inH code) (bd _ _ _ _ ?_)
  refine wpAny_newFunctionEnv_cells S.kind ?kinds ?entered
  case kinds =>
    rintro ⟨nm, val⟩ hz
    cases S.par nm (List.of_mem_zip hz).1 with
    | inl q => exact .inl q
    | inr q => exact .inr ⟨q, PySem.W.cellsFrom_some _ _ _ (.inl q)⟩
  case entered =>
    rintro env rfl s1 ic
    obtain ⟨t, pss, rd⟩ := body cv A out s H vs Q E (room.deeper _) gd ask
    have I := inv_start (CX := CX) (E := E) S room.hd e0 (len _ _ _ _ ask) rel ic
    refine ⟨free.keeps ic.toInCall.keep, codeAny_func (wpAny_mono (pss.run [] s1 (start N vs) H _ I rd) ?_ fun _ _ z => z)⟩
    intro fl s2 got
    cases fl with
    | next => obtain ⟨_, H2, J, q⟩ := got; exact ⟨.non, H2, J.os, J.bare, J.base, J.hok, rfl, q⟩
    | ret u => obtain ⟨v, _, H2, J, r, q⟩ := got; exact ⟨v, H2, J.os, J.bare, J.base, J.hok, r, q⟩
    | brk => obtain ⟨_, _, _, q⟩ := got; exact False.elim q
    | cont => obtain ⟨_, _, _, q⟩ := got; exact False.elim q

end
section
variable {X : Cx} {CX : CXT} {k : Nat} {f : Addr} {fd : FuncData} {ps : List Str} {sp : Sp} {dvs : List V} {ds : List Value} {E : XK}
  {x : Str} {p pos : Pos} {e : Expr} {es : List Expr} {t : TA}
/-- f(e, ..) of such a def -/
theorem pe_callG (F : FnG X.prog X.w X.K X.mg X.base CX k f fd ps sp) (room : Room k X.A) (gd : X.A.guards = some []) (gl : Gl X x) (at_f : X.mg x = some (.ref f))
    (kp : PySem.W.keepIn X.K (.ref f) = true) (bd : Binds X.K fd ps ds) (dv : Vals dvs ds) (out : Passes CX X E) (args : PA X (e :: es) t)
    (nd : (x == ("__debug__" : Str)) = false := by decide)
    (plain : starEach (e :: es) X.env = (false, eval e X.env) :: starEach es X.env := by rfl)
    (bare : (backTo pos (starEach es X.env)).any (·.1) = false := by rfl) :
    PE X (.Call (.Name x p) (e :: es) [] pos) (tCall sp dvs E t) := by
  constructor
  intro pins s σ H Q I ask
  refine wpAny_Call_Name_kw (ld_glob I gl at_f ?_ nd)
  refine PySem.W.callWith_K (h₀ := X.base) I.ok.mod.kin kp (thn (args.run pos pins s σ H _ I ask) ?_) plain bare
  rintro us s1 ⟨vs, H1, J, rel, q⟩
  refine ⟨J.kIn, ?_⟩
  have both : Vals (vs ++ dvs) (us ++ ds) := rel.append dv
  have full : (us ++ ds).length = ps.length := both.length.symm.trans (F.len _ _ _ _ q)
  refine wpAny_call (codeAny_mono (F.run X.A X.stack s1 H1 ⟨us, []⟩ (us ++ ds) (vs ++ dvs) Q E room gd J.env0 (bd s1 us J.kIn full) both q) ?_)
  intro r s2 got
  match r, got with
  | .ok (.ret u), got => exact J.after got
  | .ok .next, got => exact False.elim got
  | .ok .brk, got => exact False.elim got
  | .ok .cont, got => exact False.elim got
  | .error er, got => exact out pins σ H1 s1 er s2 J got
end

/-! ### the end of a law row -/
section
/-- the abstract heap at the law's entry: the script alone, locked, unless it is an object of the module -/
def entryH (K : PySem.W.Frag) (a : Addr) (o : Obj) (xs : List V) : Hp := fun b => if b = a ∧ K.lookup a = none then some (.frz o (.lst xs)) else none
theorem entryH_some {K : PySem.W.Frag} {a b : Addr} {o : Obj} {xs : List V} {u : HO} (h : entryH K a o xs b = some u) : b = a ∧ K.lookup a = none ∧ u = .frz o (.lst xs) := by
  unfold entryH at h
  split at h
  · rename_i c; exact ⟨c.1, c.2, (Option.some.inj h).symm⟩
  · cases h
theorem lawG {P : Program} {w : World} {K : PySem.W.Frag} {mg mb : Str → Option Value} {k : Nat} {fa a : Addr} {x : Str} {sp : Sp} {s : Shared} {vs : List Value} {ns : List Int}
    (inK : K.In s.heap) (gl : s.heap.Ns mainGlobals mg) (bl : s.heap.Ns builtinsNs mb) (boot : ∀ y : Str, y ≠ "__name__" → mb y = bootBuiltins y) (lim : s.heap.NoLimit) (gens : s.gens = #[])
    (ob : s.heap.get? a = some { cls := .type "list", data := .seq vs.toArray }) (iv : IntsAre vs ns) (small : ns.length ≤ sizeLine) (room : Room k callerA)
    (F : ∀ base : Heap, K.In base → base.Ns mainGlobals mg → ∃ fd : FuncData, FnG P w K mg base CX0 k fa fd [x] sp ∧ Binds K fd [x] [])
    (ask : ∀ H : Hp, SqL K H a (ns.map V.int) → sp [.ref a] H (fun v _ => v = .bl true) fun _ _ _ => False) :
    codeAny (model P w) callerA (.call (.ref fa) ⟨[.ref a], []⟩) (fun r s' => r = .ok (.ret (.bool true)) ∧ OldK s.heap s'.heap ∧ s'.os = s.os ∧ AllBare s'.gens) s := by
  have rel := vals_ints iv
  have same := iv.length
  let o : Obj := { cls := .type "list", data := .seq vs.toArray }
  let H := entryH K a o (ns.map V.int)
  have sq : SqL K H a (ns.map V.int) := by
    cases hk : K.lookup a with
    | none => exact .inl (.inr ⟨o, if_pos ⟨rfl, hk⟩⟩)
    | some u =>
      have z := inK a u hk
      rw [ob] at z
      cases z
      exact .inr ⟨_, vs.toArray, _, hk, rfl, rfl, rfl, (by rw [List.size_toArray, same]; exact small), by simpa using rel⟩
  have hok : HOk P w H s.heap := by
    intro b u z
    obtain ⟨rfl, _, rfl⟩ := entryH_some z
    exact ⟨ob, by rw [List.length_map]; exact small, vs, _, rel, ob⟩
  have shown : ∀ {b : Addr} {u : Obj}, s.heap.get? b = some u → (b = a → K.lookup a ≠ none) → (hidT s.heap H).get? b = some u := by
    intro b u z n
    refine hidT_get z ?_
    show entryH K a o (ns.map V.int) b = none
    unfold entryH
    rw [if_neg]
    exact fun c => n c.1 c.2
  have names : ∀ {b : Addr} {m : Str → Option Value}, s.heap.Ns b m → (hidT s.heap H).Ns b m := by
    rintro b m ⟨u, es, ep, z, dt, more⟩
    refine ⟨u, es, ep, shown z ?_, dt, more⟩
    rintro rfl
    rw [ob] at z
    cases z
    cases dt
  have inB : K.In (hidT s.heap H) := fun b u z => shown (inK b u z) (by rintro rfl n; rw [z] at n; cases n)
  have md : Mod K mg (hidT s.heap H) := ⟨inB, names gl, ⟨mb, names bl, boot⟩, by obtain ⟨mc, z1, z2⟩ := lim; exact ⟨mc, names z1, z2⟩⟩
  have e0 : Env0 P w K mg (hidT s.heap H) callerA [] s H :=
    { frames := rfl, mod := md, bs := fun b u z => of_hidT z, bsz := Nat.le_of_eq (hidT_size _ _), funs := trivial, frf := fun b z => (nomatch z), hok := hok, bare := .of_eq gens }
  obtain ⟨fd, FF, bd⟩ := F _ inB (names gl)
  refine codeAny_mono (FF.run callerA [] s H ⟨[.ref a], []⟩ [.ref a] [.ref a] _ _ room rfl e0 (bd s [.ref a] inK rfl) (.cons rfl .nil) (ask H sq)) ?_
  intro r s' got
  match r, got with
  | .error er, got => exact False.elim got
  | .ok .next, got => exact False.elim got
  | .ok .brk, got => exact False.elim got
  | .ok .cont, got => exact False.elim got
  | .ok (.ret u), ⟨v, H', os, bare, un, hok', r', q⟩ =>
    have q' : v = .bl true := q
    subst q'
    obtain rfl : u = Value.bool true := r'
    refine ⟨rfl, OldK.of_keep fun b ou z => ?_, os, bare⟩
    cases hb : H b with
    | none => exact un.keep b ou z hb (fun y => nomatch y) (by simp)
    | some hu =>
      obtain ⟨rfl, _, rfl⟩ := entryH_some hb
      have z2 := hok' _ _ (un.frzs _ _ _ hb)
      rw [ob] at z
      cases z
      exact z2.1

/-- what k_head leaves, from the law's promise -/
theorem walkG {l : PySem.W.OpenLaw} {k : Nat} {q : Program} {loose : List Str} {XP : (Str → Option Value) → Heap → Prop} {YP : World → Heap → Prop} {d : DefRec} {K : Params → PySem.W.Frag} {sp : PySem.W.Frag → Sp} {x : Str}
    (most : l.most = some 63) (df : d.params.defaults = []) (room : Room k callerA) (inY : ∀ (w : World) (h : Heap), YP w h → (K w.params).In h)
    (F : ∀ (w : World) (mg : Str → Option Value) (fa : Addr) (h : Heap), (K w.params).In h → h.Ns mainGlobals mg → mg d.name = some (.ref fa) →
        ∀ base : Heap, (K w.params).In base → base.Ns mainGlobals mg → ∃ fd : FuncData, FnG l.prog w (K w.params) mg base CX0 k fa fd [x] (sp (K w.params)) ∧ Binds (K w.params) fd [x] [])
    (ask : ∀ (K : PySem.W.Frag) (H : Hp) (a : Addr) (ns : List Int), ns.length ≤ 63 → SqL K H a (ns.map V.int) → sp K [.ref a] H (fun v _ => v = .bl true) fun _ _ _ => False) :
    PySem.W.WalkO q loose XP YP l.row.toRowW d [] (fun f vs => PySem.call f vs) := by
  refine Att.attach_call most df ?_
  intro w s0 s mg mb fa o pm cd doc a vs ns G Y ho hd hcd hmg ob iv hlen gens
  exact lawG (inY w _ Y) G.T.g G.T.b G.T.builtins G.T.nolimit gens ob iv (Nat.le_trans hlen (by decide)) room (F w mg fa _ (inY w _ Y) G.T.g hmg) fun H hS => ask _ H a ns hlen hS
end

/-! ### repr of data, isinstance of data -/
section
variable {K : PySem.W.Frag} {H H' : Hp}
theorem Same.sqT {a : Addr} {xs : List V} (e : Same H H') (h : SqT K H a xs) : SqT K H' a xs := by
  rcases h with (h | ⟨o, h⟩) | h
  · exact .inl (.inl (e _ _ h))
  · exact .inl (.inr ⟨o, e _ _ h⟩)
  · exact .inr h
mutual
theorem dp_mono (e : Same H H') : ∀ (d : PyData) (v : V), Dp K H v d → Dp K H' v d
  | .none, _, h => by cases h; exact .non
  | .bool b, _, h => by cases h; exact .bl b
  | .int i, _, h => by cases h; exact .int i
  | .str x, _, h => by cases h; exact .str x
  | .list ds, _, h => by
    cases h with
    | lst hs ha => exact .lst (e.seq hs) (dpAll_mono e ds _ ha)
  | .tuple ds, _, h => by
    cases h with
    | tup hs ha => exact .tup (Same.sqT e hs) (dpAll_mono e ds _ ha)
  | .dict _, _, h => by cases h
theorem dpAll_mono (e : Same H H') : ∀ (ds : List PyData) (vs : List V), DpAll K H vs ds → DpAll K H' vs ds
  | [], _, h => by cases h; exact .nil
  | d :: ds, _, h => by
    cases h with
    | cons h1 h2 => exact .cons (dp_mono e d _ h1) (dpAll_mono e ds _ h2)
end
theorem DpAll.length : ∀ {ds : List PyData} {vs : List V}, DpAll K H vs ds → vs.length = ds.length
  | _, _, .nil => rfl
  | _, _, .cons _ t => by rw [List.length_cons, List.length_cons, DpAll.length t]
theorem DpAll.get : ∀ {ds : List PyData} {vs : List V} {i : Nat} {v : V}, DpAll K H vs ds → vs[i]? = some v → ∃ d, ds[i]? = some d ∧ Dp K H v d
  | _, _, _, _, .nil, e => by simp at e
  | _, _, 0, _, .cons h _, e => by simp at e; subst e; exact ⟨_, rfl, h⟩
  | _, _, i + 1, v, .cons _ t, e => by
    obtain ⟨d, h1, h2⟩ := DpAll.get (i := i) (v := v) t (by simpa using e)
    exact ⟨d, by simpa using h1, h2⟩
theorem DpAll.append : ∀ {ds es : List PyData} {vs ws : List V}, DpAll K H vs ds → DpAll K H ws es → DpAll K H (vs ++ ws) (ds ++ es)
  | _, _, _, _, .nil, h => h
  | _, _, _, _, .cons h t, g => .cons h (DpAll.append t g)
theorem DpAll.one {v : V} {d : PyData} (h : Dp K H v d) : DpAll K H [v] [d] := .cons h .nil
theorem DpAll.take : ∀ {ds : List PyData} {vs : List V} (n : Nat), DpAll K H vs ds → DpAll K H (vs.take n) (ds.take n)
  | _, _, 0, _ => by simpa using DpAll.nil
  | _, _, _ + 1, .nil => .nil
  | _, _, n + 1, .cons h t => .cons h (DpAll.take n t)
theorem DpAll.drop : ∀ {ds : List PyData} {vs : List V} (n : Nat), DpAll K H vs ds → DpAll K H (vs.drop n) (ds.drop n)
  | _, _, 0, h => by simpa using h
  | _, _, _ + 1, .nil => .nil
  | _, _, n + 1, .cons _ t => DpAll.drop n t
/-- the name of its class -/
def tyN : PyData → String
  | .none => "NoneType"
  | .bool _ => "bool"
  | .int _ => "int"
  | .str _ => "str"
  | .list _ => "list"
  | .tuple _ => "tuple"
  | .dict _ => "dict"
theorem tyx_of {v : V} {d : PyData} (h : Dp K H v d) : TyX K H v (.type (tyN d)) := by
  cases h with
  | non => exact .base .non
  | bl b => exact .base (.bl b)
  | int i => exact .base (.int i)
  | str x => exact .base (.str x)
  | lst hs _ =>
    rcases hs with (h | ⟨o, h⟩) | ⟨o, its, n, h, hc, _⟩
    · exact .base (.lst h)
    · exact .base (.frz h)
    · exact .kList h hc
  | tup hs _ =>
    rcases hs with (h | ⟨o, h⟩) | ⟨o, its, n, h, hc, _⟩
    · exact .base (.tup h)
    · exact .fTuple h
    · exact .kTuple h hc
end
section
variable {X : Cx}
/-- repr(v), v data -/
def rRepr (K : PySem.W.Frag) : List V → Hp → VK → Prop := fun xs H Q => ∃ (v : V) (d : PyData), xs = [v] ∧ Dp K H v d ∧ Ok d ∧ Q (.str d.shown) H
theorem call_repr (gd : X.A.guards = some []) (hu : X.A.units + 64 < cLine) : CallR X (.builtin "repr") (rRepr X.K) := by
  intro pins s σ H xs us Q I rel ask
  obtain ⟨v, d, rfl, hd, ok, q⟩ := ask
  cases rel with
  | @cons _ u _ _ r1 r2 =>
    cases r2
    obtain ⟨as, rd⟩ := Dp.reads I d v u hd r1
    have big : ∀ a, u = Value.ref a → wpAny (model X.prog X.w) X.A (call (.builtin "repr") [u]) (EP X pins σ Q) X.xe s := by
      rintro a rfl
      refine repr_of_reads' rd (fine_showable d ok.1) (PyData.noDict_hsm ok.nodict) gd (by have := ok.2.1; omega) (fun _ _ z => z) (fun h' t tk hk => ?_) ok.fits
      exact ⟨.str d.shown, H, I.kept (t' := tk) hk, ⟨t, rfl⟩, q⟩
    cases hd with
    | non =>
      obtain rfl : u = Value.none := r1
      exact PySem.P.repr_of_none ⟨.str _, H, I.tok _, ⟨_, rfl⟩, q⟩
    | bl b =>
      obtain rfl : u = Value.bool b := r1
      refine PySem.P.repr_of_bool ⟨.str _, H, I.tok _, ⟨s.toks, ?_⟩, q⟩
      cases b <;> rfl
    | int i =>
      obtain ⟨t, rfl⟩ := r1
      exact PySem.P.repr_of_int (by simpa [fine] using ok.1) ⟨.str _, H, I.tok _, ⟨_, rfl⟩, q⟩
    | str x =>
      obtain ⟨t, rfl⟩ := r1
      exact PySem.P.repr_of_str ⟨.str _, H, I.tok _, ⟨_, rfl⟩, q⟩ ok.fits
    | lst _ _ => exact big _ r1
    | tup _ _ => exact big _ r1
end
section
variable {X : Cx}
/-- isinstance(v, T), v data, T a built-in class -/
def rIsD (K : PySem.W.Frag) (T : String) : List V → Hp → VK → Prop := fun xs H Q => ∃ (v : V) (d : PyData) (b : Bool), xs = [v, .ty T] ∧ Dp K H v d ∧ kitB (tyN d) T = some b ∧ Q (.bl b) H
theorem call_isD {T : String} : CallR X (.builtin "isinstance") (rIsD X.K T) := by
  intro pins s σ H xs us Q I rel ask
  obtain ⟨v, d, b, rfl, hd, e, q⟩ := ask
  exact call_isi pins s σ H _ us Q I rel ⟨v, .ty T, .type (tyN d), .type T, b, rfl, .ty T, tyx_of hd, kit_ty e, q⟩
end
def isL : PyData → Bool
  | .list _ => true
  | _ => false
def isS : PyData → Bool
  | .str _ => true
  | _ => false
def isI : PyData → Bool
  | .int _ => true
  | .bool _ => true
  | _ => false
def isB : PyData → Bool
  | .bool _ => true
  | _ => false
def isT : PyData → Bool
  | .tuple _ => true
  | _ => false
theorem kit_list : ∀ d : PyData, kitB (tyN d) "list" = some (isL d)
  | .none => (by decide +kernel : kitB "NoneType" "list" = some false)
  | .bool _ => (by decide +kernel : kitB "bool" "list" = some false)
  | .int _ => (by decide +kernel : kitB "int" "list" = some false)
  | .str _ => (by decide +kernel : kitB "str" "list" = some false)
  | .list _ => (by decide +kernel : kitB "list" "list" = some true)
  | .tuple _ => (by decide +kernel : kitB "tuple" "list" = some false)
  | .dict _ => (by decide +kernel : kitB "dict" "list" = some false)
theorem kit_str : ∀ d : PyData, kitB (tyN d) "str" = some (isS d)
  | .none => (by decide +kernel : kitB "NoneType" "str" = some false)
  | .bool _ => (by decide +kernel : kitB "bool" "str" = some false)
  | .int _ => (by decide +kernel : kitB "int" "str" = some false)
  | .str _ => (by decide +kernel : kitB "str" "str" = some true)
  | .list _ => (by decide +kernel : kitB "list" "str" = some false)
  | .tuple _ => (by decide +kernel : kitB "tuple" "str" = some false)
  | .dict _ => (by decide +kernel : kitB "dict" "str" = some false)
theorem kit_int : ∀ d : PyData, kitB (tyN d) "int" = some (isI d)
  | .none => (by decide +kernel : kitB "NoneType" "int" = some false)
  | .bool _ => (by decide +kernel : kitB "bool" "int" = some true)
  | .int _ => (by decide +kernel : kitB "int" "int" = some true)
  | .str _ => (by decide +kernel : kitB "str" "int" = some false)
  | .list _ => (by decide +kernel : kitB "list" "int" = some false)
  | .tuple _ => (by decide +kernel : kitB "tuple" "int" = some false)
  | .dict _ => (by decide +kernel : kitB "dict" "int" = some false)
theorem kit_bool : ∀ d : PyData, kitB (tyN d) "bool" = some (isB d)
  | .none => (by decide +kernel : kitB "NoneType" "bool" = some false)
  | .bool _ => (by decide +kernel : kitB "bool" "bool" = some true)
  | .int _ => (by decide +kernel : kitB "int" "bool" = some false)
  | .str _ => (by decide +kernel : kitB "str" "bool" = some false)
  | .list _ => (by decide +kernel : kitB "list" "bool" = some false)
  | .tuple _ => (by decide +kernel : kitB "tuple" "bool" = some false)
  | .dict _ => (by decide +kernel : kitB "dict" "bool" = some false)
theorem kit_tuple : ∀ d : PyData, kitB (tyN d) "tuple" = some (isT d)
  | .none => (by decide +kernel : kitB "NoneType" "tuple" = some false)
  | .bool _ => (by decide +kernel : kitB "bool" "tuple" = some false)
  | .int _ => (by decide +kernel : kitB "int" "tuple" = some false)
  | .str _ => (by decide +kernel : kitB "str" "tuple" = some false)
  | .list _ => (by decide +kernel : kitB "list" "tuple" = some false)
  | .tuple _ => (by decide +kernel : kitB "tuple" "tuple" = some true)
  | .dict _ => (by decide +kernel : kitB "dict" "tuple" = some false)
end Tx

/-! ## The text's names; what a call needs -/
namespace Tx
open PySem PySem.Spec PyProof.Rows L2

/-- the built-in names that the texts use are not the module's -/
structure Bi (mg : Str → Option Value) : Prop where
  len : mg "len" = none
  int : mg "int" = none
  abs : mg "abs" = none
  range : mg "range" = none
  enumerate : mg "enumerate" = none
  min : mg "min" = none
  max : mg "max" = none
  isinstance : mg "isinstance" = none
  repr : mg "repr" = none
  sum : mg "sum" = none
  all : mg "all" = none
  any : mg "any" = none
  list : mg "list" = none
  str : mg "str" = none
  tuple : mg "tuple" = none
  bool : mg "bool" = none
  sorted : mg "sorted" = none
  ValueError : mg "ValueError" = none
theorem bi_of {K : PySem.W.Frag} {mg : Str → Option Value} {h : Heap} (X : K.In h) (G : h.Ns mainGlobals mg)
    (z0 : PySem.W.nsIn K mainGlobals "len" = some none)
    (z1 : PySem.W.nsIn K mainGlobals "int" = some none)
    (z2 : PySem.W.nsIn K mainGlobals "abs" = some none)
    (z3 : PySem.W.nsIn K mainGlobals "range" = some none)
    (z4 : PySem.W.nsIn K mainGlobals "enumerate" = some none)
    (z5 : PySem.W.nsIn K mainGlobals "min" = some none)
    (z6 : PySem.W.nsIn K mainGlobals "max" = some none)
    (z7 : PySem.W.nsIn K mainGlobals "isinstance" = some none)
    (z8 : PySem.W.nsIn K mainGlobals "repr" = some none)
    (z9 : PySem.W.nsIn K mainGlobals "sum" = some none)
    (z10 : PySem.W.nsIn K mainGlobals "all" = some none)
    (z11 : PySem.W.nsIn K mainGlobals "any" = some none)
    (z12 : PySem.W.nsIn K mainGlobals "list" = some none)
    (z13 : PySem.W.nsIn K mainGlobals "str" = some none)
    (z14 : PySem.W.nsIn K mainGlobals "tuple" = some none)
    (z15 : PySem.W.nsIn K mainGlobals "bool" = some none)
    (z16 : PySem.W.nsIn K mainGlobals "sorted" = some none)
    (z17 : PySem.W.nsIn K mainGlobals "ValueError" = some none) : Bi mg :=
  ⟨PySem.W.mg_none_of X G z0, PySem.W.mg_none_of X G z1, PySem.W.mg_none_of X G z2, PySem.W.mg_none_of X G z3, PySem.W.mg_none_of X G z4, PySem.W.mg_none_of X G z5, PySem.W.mg_none_of X G z6, PySem.W.mg_none_of X G z7, PySem.W.mg_none_of X G z8, PySem.W.mg_none_of X G z9, PySem.W.mg_none_of X G z10, PySem.W.mg_none_of X G z11, PySem.W.mg_none_of X G z12, PySem.W.mg_none_of X G z13, PySem.W.mg_none_of X G z14, PySem.W.mg_none_of X G z15, PySem.W.mg_none_of X G z16, PySem.W.mg_none_of X G z17⟩
/-- what a body's context gives to its calls -/
structure Ct (mg : Str → Option Value) (A : Around) (k : Nat) : Prop where
  b : Bi mg
  r : Room k A
  g : A.guards = some []
theorem Ct.mono {mg : Str → Option Value} {A : Around} {j k : Nat} (c : Ct mg A k) (h : j ≤ k) : Ct mg A j := ⟨c.b, c.r.mono h, c.g⟩
/-- a def of the module -/
def Has (K : PySem.W.Frag) (mg : Str → Option Value) (x : Str) (st : Stmt) : Prop := ∃ (f : Addr) (fd : FuncData), Fun K x x st f fd ∧ mg x = some (.ref f)
theorem has_of {K : PySem.W.Frag} {mg : Str → Option Value} {h : Heap} {x : Str} {st : Stmt} {f : Addr} {oc kV dc pm cd ct : Value} {od an : Option Addr} {sl : Array (Option Value)} (X : K.In h) (G : h.Ns mainGlobals mg)
    (a : PySem.W.nsIn K mainGlobals x = some (some (.ref f)))
    (l : K.lookup f = some ⟨oc, od, .func (PySem.W.fnOf x x (defArgs st) (defBody st) (defScope st) .none kV dc pm an cd ct), sl⟩)
    (c : PySem.W.codeIn K cd x = true) (k : PySem.W.keepIn K (.ref f) = true) : Has K mg x st :=
  ⟨f, _, fun_mk l c k, PySem.W.mg_of X G a⟩
/-- a def of the module and its promise -/
def Dfn (P : Program) (w : World) (K : PySem.W.Frag) (mg : Str → Option Value) (base : Heap) (CX : CXT) (k : Nat) (x : Str) (ps : List Str) (sp : Sp) : Prop :=
  ∃ (f : Addr) (fd : FuncData), FnG P w K mg base CX k f fd ps sp ∧ mg x = some (.ref f) ∧ PySem.W.keepIn K (.ref f) = true ∧ Binds K fd ps []
section
variable {P : Program} {w : World} {K : PySem.W.Frag} {mg : Str → Option Value} {base : Heap} {CX : CXT} {k : Nat} {x : Str} {ps N : List Str} {sp : Sp} {st : Stmt}
theorem Dfn.mono {j : Nat} (D : Dfn P w K mg base CX j x ps sp) (h : j ≤ k) : Dfn P w K mg base CX k x ps sp := by
  obtain ⟨f, fd, F, r⟩ := D
  exact ⟨f, fd, F.mono h, r⟩
/-- how the arguments bind: one pattern a number of parameters -/
def BindsBy (x : Str) (st : Stmt) (ps : List Str) : Prop := ∀ (kV doc pm : Value) (an : Option Addr) (cdv ct : Value) (us : List Value), us.length = ps.length →
  bindArgs (PySem.W.fnOf x x (defArgs st) (defBody st) (defScope st) .none kV doc pm an cdv ct) ⟨us, []⟩ = pure (ps.zip us)
/-- a def that lets nothing out, by its body -/
theorem dfn0 (h : Has K mg x st) (B : Bi mg) (S : FnScope N ps (defScope st)) (bd : BindsBy x st ps) (len : ∀ vs H Q E, sp vs H Q E → vs.length = ps.length)
    (body : ∀ (f : Addr) (cv : Value) (A : Around) (out : List Env) (s : Shared) (H : Hp) (vs : List V) (Q : VK) (E : XK),
      Ct mg (A.deeper (envOfC x (defScope st) s.heap.objs.size f cv)) k → sp vs H Q E →
      ∃ t, PSs (cxOf CX0 P w K mg base N x (defScope st) f cv A out s H E).nox (defBody st) t ∧
        t { nx := fun _ H' => Q .non H', rt := Q } (start N vs) H) :
    Dfn P w K mg base CX0 (k + 1) x ps sp := by
  obtain ⟨f, fd, F, m⟩ := h
  refine ⟨f, fd, okG F S len ?_, m, F.kp, F.binds bd⟩
  intro cv A out s H vs Q E room gd ask
  obtain ⟨t, p, q⟩ := body f cv A out s H vs Q E ⟨B, room, gd⟩ ask
  exact ⟨t, p.nox, q⟩
/-- a def that may raise -/
theorem dfnX (h : Has K mg x st) (B : Bi mg) (S : FnScope N ps (defScope st)) (bd : BindsBy x st ps) (len : ∀ vs H Q E, sp vs H Q E → vs.length = ps.length)
    (body : ∀ (f : Addr) (cv : Value) (A : Around) (out : List Env) (s : Shared) (H : Hp) (vs : List V) (Q : VK) (E : XK),
      Ct mg (A.deeper (envOfC x (defScope st) s.heap.objs.size f cv)) k → sp vs H Q E →
      ∃ t, PSs (cxOf (L2.CX P w) P w K mg base N x (defScope st) f cv A out s H E) (defBody st) t ∧
        t { nx := fun _ H' => Q .non H', rt := Q } (start N vs) H) :
    Dfn P w K mg base (L2.CX P w) (k + 1) x ps sp := by
  obtain ⟨f, fd, F, m⟩ := h
  refine ⟨f, fd, okG F S len ?_, m, F.kp, F.binds bd⟩
  intro cv A out s H vs Q E room gd ask
  exact body f cv A out s H vs Q E ⟨B, room, gd⟩ ask
/-- nothing is promised -/
theorem dfn_none (h : Has K mg x st) (bd : BindsBy x st ps) (no : ∀ vs H Q E, ¬ sp vs H Q E) : Dfn P w K mg base CX0 0 x ps sp := by
  obtain ⟨f, fd, F, m⟩ := h
  exact ⟨f, fd, ⟨fun vs H Q E z => absurd z (no vs H Q E), fun A out s H ar us vs Q E _ _ _ _ _ z => absurd z (no vs H Q E)⟩, m, F.kp, F.binds bd⟩
end
section
variable {X : Cx} {CX : CXT} {j k : Nat} {ps : List Str} {sp : Sp} {E : XK} {x : Str} {p pos : Pos} {e : Expr} {es : List Expr} {t : TA}
/-- f(e, ..), f a def of the module -/
theorem pe_d (D : Dfn X.prog X.w X.K X.mg X.base CX0 j x ps sp) (c : Ct X.mg X.A k) (h : j ≤ k) (gl : Gl X x) (args : PA X (e :: es) t)
    (nd : (x == ("__debug__" : Str)) = false := by decide)
    (plain : starEach (e :: es) X.env = (false, eval e X.env) :: starEach es X.env := by rfl)
    (bare : (backTo pos (starEach es X.env)).any (·.1) = false := by rfl) :
    PE X (.Call (.Name x p) (e :: es) [] pos) (tCall sp [] E0 t) := by
  obtain ⟨f, fd, F, m, kp, bd⟩ := D
  exact pe_callG F (c.r.mono h) c.g gl m kp bd .nil pass0 args nd plain bare
end
/-- the law's own def, for the end -/
theorem to_law {P : Program} {w : World} {K : PySem.W.Frag} {mg : Str → Option Value} {base : Heap} {k : Nat} {x y : Str} {sp : Sp} {fa : Addr} (m : mg x = some (.ref fa)) (D : Dfn P w K mg base CX0 k x [y] sp) :
    ∃ fd : FuncData, FnG P w K mg base CX0 k fa fd [y] sp ∧ Binds K fd [y] [] := by
  obtain ⟨f, fd, F, m2, _, bd⟩ := D
  rw [m] at m2
  cases m2
  exact ⟨fd, F, bd⟩
/-! ### heaps -/
/-- of all addresses but b, what stood stands -/
def SameBut (b : Addr) (H H' : Hp) : Prop := ∀ a o, a ≠ b → H a = some o → H' a = some o
theorem SameBut.refl {b : Addr} {H : Hp} : SameBut b H H := fun _ _ _ h => h
theorem SameBut.trans {b : Addr} {H H1 H2 : Hp} (h : SameBut b H H1) (g : SameBut b H1 H2) : SameBut b H H2 := fun a o n e => g a o n (h a o n e)
theorem SameBut.of {b : Addr} {H H' : Hp} (h : Same H H') : SameBut b H H' := fun a o _ e => h a o e
theorem same_new {H : Hp} {p : Addr} (h : H p = none) (o : HO) : Same H (upd H p o) := fun b u q => by rw [upd_ne (ne_of_none q h)]; exact q
theorem sameBut_upd {H : Hp} {b : Addr} {o : HO} : SameBut b H (upd H b o) := fun a u n e => by rw [upd_ne n]; exact e
end Tx

/-! ## The law's draws: any number below the bound; the bag, a list of two numbers at b, changes -/
namespace Tx
open PySem PySem.Spec PyProof.Rows L2
def top (i : Nat) : Stmt := PySem.Challenge.pw_textorlist_k02_kinds_sizes_depths.main.body.getD i (.Pass ⟨0, 0, 0, 0⟩)
abbrev sTake : Stmt := top 12
theorem scTake : FnScope ["_law_bag_here", "_law_many", "_law_digit"] ["_law_bag_here", "_law_many"] (defScope sTake) := ⟨rfl, rfl, rfl, by decide +kernel, rfl, by decide +kernel, by decide +kernel⟩
abbrev sBag : Stmt := top 11
theorem scBag : FnScope ["_law_script", "_law_at", "_law_cell", "_law_mixed", "_law_place", "_law_each"] ["_law_script", "_law_at"] (defScope sBag) := ⟨rfl, rfl, rfl, by decide +kernel, rfl, by decide +kernel, by decide +kernel⟩
theorem cutV_get {xs : List V} {lo hi : Option Int} {i : Nat} {v : V} (h : (cutV xs lo hi)[i]? = some v) : ∃ j : Nat, xs[j]? = some v := by
  unfold cutV at h
  rw [List.getElem?_take] at h
  split at h
  · rw [List.getElem?_drop] at h
    exact ⟨_, h⟩
  · cases h
theorem atI_of {α : Type} {xs : List α} {i : Int} (h0 : 0 ≤ i) (h1 : i < (xs.length : Int)) : ∃ v, atI xs i = some v ∧ xs[i.toNat]? = some v := by
  obtain ⟨n, rfl⟩ := Int.eq_ofNat_of_zero_le h0
  have hn : n < xs.length := by omega
  have e : xs[n]? = some xs[n] := List.getElem?_eq_getElem hn
  exact ⟨_, atI_nat e, e⟩
theorem int_of_get {ns : List Int} {j : Nat} {v : V} (h : (ns.map V.int)[j]? = some v) : ∃ z, v = V.int z := by
  rw [List.getElem?_map] at h
  cases e : ns[j]? with
  | none => rw [e] at h; cases h
  | some z => rw [e] at h; exact ⟨z, (Option.some.inj h).symm⟩
/-- the bag stands at b -/
def Bag (H : Hp) (b : Addr) : Prop := ∃ c m : Int, H b = some (.lst [.int c, .int m])
/-- from H to H' the bag at b may have changed, and there may be new things -/
structure Stp (b : Addr) (H H' : Hp) : Prop where
  bag : Bag H' b
  keep : SameBut b H H'
theorem Stp.trans {b : Addr} {H H1 H2 : Hp} (x : Stp b H H1) (y : Stp b H1 H2) : Stp b H H2 := ⟨y.bag, x.keep.trans y.keep⟩
theorem Stp.new {b p : Addr} {H H1 : Hp} (x : Stp b H H1) (h : H1 p = none) (o : HO) : Stp b H (upd H1 p o) := by
  obtain ⟨c, m, e⟩ := x.bag
  exact ⟨⟨c, m, by rw [upd_ne (ne_of_none e h)]; exact e⟩, x.keep.trans (SameBut.of (same_new h o))⟩
theorem Stp.refl {b : Addr} {H : Hp} (h : Bag H b) : Stp b H H := ⟨h, SameBut.refl⟩
theorem Stp.same {b : Addr} {H H1 H2 : Hp} (x : Stp b H H1) (y : Same H1 H2) : Stp b H H2 := by
  obtain ⟨c, m, e⟩ := x.bag
  exact ⟨⟨c, m, y _ _ e⟩, x.keep.trans (SameBut.of y)⟩
/-- take(bag, n): a number from 0 to n - 1 -/
def spTake : Sp := fun vs H Q _ => ∃ (b : Addr) (n : Int), vs = [.ref b, .int n] ∧ Bag H b ∧ 0 < n ∧ n < 1073741824 ∧
  ∀ (r : Int) (H' : Hp), 0 ≤ r → r < n → Stp b H H' → Q (.int r) H'
/-- bag(script, at): a new bag -/
def spBag (K : PySem.W.Frag) : Sp := fun vs H Q _ => ∃ (a : Addr) (ns : List Int) (i : Int), vs = [.ref a, .int i] ∧ SqL K H a (ns.map V.int) ∧ 0 ≤ i ∧ i < 1000 ∧
  ∀ (b : Addr) (H' : Hp), Same H H' → H b = none → Bag H' b → Q (.ref b) H'
section
variable {P : Program} {w : World} {K : PySem.W.Frag} {mg : Str → Option Value} {base : Heap}
theorem d_take (h : Has K mg "_law_take" sTake) (B : Bi mg) : Dfn P w K mg base CX0 1 "_law_take" ["_law_bag_here", "_law_many"] spTake := by
  refine dfn0 h B scTake (fun _ _ _ _ _ _ us hl => match us, hl with | [_, _], _ => rfl) (fun vs H Q E h => ?_) (fun f cv A out s H vs Q E c h => ?_)
  · obtain ⟨b, n, rfl, _⟩ := h
    rfl
  obtain ⟨b, n, rfl, ⟨x, m, hb⟩, n0, n1, q⟩ := h
  refine ⟨_, (pss_cons (ps_if (pt_cmpR op_gt (pe_ix ix_list (pv 0) pe_int (fun _ _ => rfl)) pe_int (nomark _)) (pss_cons (ps_set (i := 2) scTake.nd rfl (Or.inl rfl) (pe_op op_mod (pe_callTy call_int1 (by rfl) c.b.int (by decide +kernel) (pa_cons (pe_ix ix_list (pv 0) pe_int (fun _ _ => rfl)) pa_nil)) (pv 1)))
    (pss_cons (ps_asg (pe_op op_fdiv (pe_ix ix_list (pv 0) pe_int (fun _ _ => rfl)) (pv 1)) (pg_sub (pv 0) pe_int set_list))
    (pss_one (ps_ret (pv 2))))) pss_nil)
    (pss_cons (ps_asg (pe_op op_mod (pe_callTy call_int1 (by rfl) c.b.int (by decide +kernel) (pa_cons (pe_op op_add (pe_op op_mul (pe_ix ix_list (pv 0) pe_int (fun _ _ => rfl)) pe_int) pe_int) pa_nil)) pe_int) (pg_sub (pv 0) pe_int set_list))
    (pss_one (ps_ret (pe_op op_mod (pe_op op_fdiv (pe_op op_mod (pe_callTy call_int1 (by rfl) c.b.int (by decide +kernel) (pa_cons (pe_op op_mul (pe_op op_fdiv (pe_ix ix_list (pv 0) pe_int (fun _ _ => rfl)) pe_int) pe_int) pa_nil)) pe_int) pe_int) (pv 1)))))), ?_⟩
  refine ⟨_, rfl, b, _, _, _, rfl, rfl, SqL.of hb, atI_nat rfl, _, _, rfl, rfl, _, rfl, ?_⟩
  refine ite2 (fun _ => ?_) (fun _ => ?_)
  · refine ⟨_, rfl, b, _, _, _, rfl, rfl, SqL.of hb, atI_nat rfl, .inl ⟨_, rfl, ?_⟩⟩
    refine ⟨_, rfl, _, _, rfl, rfl, n0, ?_⟩
    refine ⟨_, rfl, b, _, _, _, rfl, rfl, SqL.of hb, atI_nat rfl, _, rfl, _, _, rfl, rfl, ⟨n0, n1⟩, ?_⟩
    refine ⟨_, rfl, b, _, _, 0, rfl, rfl, hb, rfl, ?_⟩
    refine ⟨_, rfl, q _ _ (Int.emod_nonneg _ (by omega)) (Int.emod_lt_of_pos _ n0) ⟨⟨_, _, upd_same⟩, sameBut_upd⟩⟩
  · refine ⟨_, rfl, b, _, _, _, rfl, rfl, SqL.of hb, atI_nat rfl, _, _, rfl, rfl, .inr ⟨by decide, by decide⟩, _, _, rfl, rfl, .inl ⟨_, rfl, ?_⟩⟩
    refine ⟨_, _, rfl, rfl, (by show (0 : Int) < 2147483629; decide), ?_⟩
    refine ⟨_, rfl, b, _, _, 1, rfl, rfl, hb, rfl, ?_⟩
    refine ⟨_, rfl, b, _, _, _, rfl, rfl, SqL.of upd_same, atI_nat rfl, _, _, rfl, rfl, ⟨by decide, by decide⟩, _, _, rfl, rfl, .inr ⟨by decide, by decide⟩, .inl ⟨_, rfl, ?_⟩⟩
    refine ⟨_, _, rfl, rfl, (by show (0 : Int) < 2147483587; decide), _, _, rfl, rfl, ⟨by decide, by decide⟩, _, rfl, _, _, rfl, rfl, n0, ?_⟩
    exact q _ _ (Int.emod_nonneg _ (by omega)) (Int.emod_lt_of_pos _ n0) ⟨⟨_, _, upd_same⟩, sameBut_upd⟩
theorem d_bag (h : Has K mg "_law_bag" sBag) (B : Bi mg) : Dfn P w K mg base CX0 1 "_law_bag" ["_law_script", "_law_at"] (spBag K) := by
  refine dfn0 h B scBag (fun _ _ _ _ _ _ us hl => match us, hl with | [_, _], _ => rfl) (fun vs H Q E h => ?_) (fun f cv A out s H vs Q E c h => ?_)
  · obtain ⟨a, ns, i, rfl, _⟩ := h
    rfl
  obtain ⟨a, ns, i, rfl, hS, i0, i1, q⟩ := h
  refine ⟨_, (pss_cons (ps_par (i := 2) (j := 3) rfl scBag.nd rfl rfl (by decide) rfl rfl (pa_cons (pe_ifExp (pt_cmpR op_lt (pv 1) (pe_callB call_len_seq (by rfl) c.b.len PySem.boot_len (pa_cons (pv 0) pa_nil)) (nomark _)) (pe_callB call_abs (by rfl) c.b.abs (by decide +kernel) (pa_cons (pe_ix ix_list (pv 0) (pv 1) (fun _ _ => rfl)) pa_nil)) pe_int) (pa_cons (pe_op op_add (pe_op op_mul pe_int (pv 1)) pe_int) pa_nil)) (by rfl))
    (pss_cons (ps_for PassesOwn.never rfl (pi_enum (by rfl) c.b.enumerate (pa_cons (pe_slice sl_list (pv 0) po_none (po_some pe_int)) pa_nil)) (pg_tup rfl (pgs_cons (pg_name (i := 4) scBag.nd rfl (Or.inl rfl)) (pgs_cons (pg_name (i := 5) scBag.nd rfl (Or.inl rfl)) pgs_nil)))
    (pss_one (ps_set (i := 3) scBag.nd rfl (Or.inl rfl) (pe_op op_mod (pe_callTy call_int1 (by rfl) c.b.int (by decide +kernel) (pa_cons (pe_op op_add (pe_op op_add (pe_op op_mul (pv 3) pe_int) (pe_op op_mod (pe_callTy call_int1 (by rfl) c.b.int (by decide +kernel) (pa_cons (pv 5) pa_nil)) pe_int)) (pe_op op_mul pe_int (pv 4))) pa_nil)) pe_int))))
    (pss_one (ps_ret (pe_lst (pa_cons (pe_ifExp (pt_cmpR op_ge (pv 2) (pe_op op_pow pe_int pe_int) (nomark _)) (pv 2) pe_int) (pa_cons (pv 3) pa_nil))))))), ?_⟩
  have hl : (ns.map V.int).length = ns.length := List.length_map _
  refine ⟨_, rfl, _, rfl, a, _, rfl, .inl hS, _, _, rfl, rfl, _, rfl, ?_⟩
  refine ite2 (fun lt => ?one) (fun _ => ?two)
  case' one =>
    have lt' : i < (((ns.map V.int).length : Nat) : Int) := of_decide_eq_true lt
    obtain ⟨y, at_i, e2⟩ := atI_of i0 lt'
    obtain ⟨z, rfl⟩ := int_of_get e2
    refine ⟨_, rfl, _, rfl, a, _, _, _, rfl, rfl, hS, at_i, _, rfl, ?_⟩
  all_goals
    refine ⟨_, rfl, _, _, rfl, rfl, .inl ⟨by decide, by decide⟩, _, _, rfl, rfl, _, _, rfl, ?_⟩
    refine ⟨_, rfl, _, rfl, a, _, rfl, hS, fun p hp => ?_⟩
    have sp : Same H (upd H p (.lst (cutV (ns.map V.int) none (some 63)))) := same_new hp _
    refine ⟨p, _, rfl, SqL.of upd_same, ?_⟩
    refine for_it (walk_enum (K := K) (a := p) (xs := cutV (ns.map V.int) none (some 63)))
      (fun _ σ H' => ∃ (x m : Int) (u v : Option V), σ = [some (.ref a), some (.int i), some (.int x), some (.int m), u, v] ∧ Same (upd H p (.lst (cutV (ns.map V.int) none (some 63)))) H')
      ⟨_, _, none, none, rfl, Same.refl _⟩ (fun _ σ H' _ ⟨_, _, _, _, _, sm⟩ => sm.seq (SqL.of upd_same)) ?_ ?_
    · rintro t y σ H1 H2 ht ⟨x, m, u, v, rfl, sm⟩ ⟨T, y1, y2, rfl, hT, rfl, e1, e2⟩
      cases e1
      obtain ⟨j, e3⟩ := cutV_get e2
      obtain ⟨z, rfl⟩ := int_of_get e3
      refine ⟨T, _, rfl, SqT.of upd_same, rfl, _, _, rfl, _, _, rfl, rfl, ?_⟩
      refine ⟨_, rfl, _, _, rfl, rfl, .inr ⟨by decide, by decide⟩, _, rfl, .inl ⟨_, rfl, ?_⟩⟩
      refine ⟨_, _, rfl, rfl, (by show (0 : Int) < 2147483629; decide), _, _, rfl, rfl, _, rfl, _, _, rfl, rfl, .inl ⟨by decide, by decide⟩, _, _, rfl, rfl, .inl ⟨_, rfl, ?_⟩⟩
      refine ⟨_, _, rfl, rfl, (by show (0 : Int) < 2147483647; decide), ?_⟩
      exact ⟨_, _, _, _, rfl, sm.trans (same_new hT _)⟩
    · rintro σ H1 ⟨x, m, u, v, rfl, sm⟩
      refine ⟨_, rfl, _, _, rfl, rfl, ⟨by decide, by decide, by decide⟩, _, _, rfl, rfl, _, rfl, ?_⟩
      refine ite2 (fun _ => ?_) (fun _ => ?_)
      · refine ⟨_, rfl, _, rfl, (by show 2 ≤ sizeLine; decide), fun b hb => ?_⟩
        exact q b _ (sp.trans (sm.trans (same_new hb _))) (sp.free (sm.free hb)) ⟨_, _, upd_same⟩
      · refine ⟨_, rfl, (by show 2 ≤ sizeLine; decide), fun b hb => ?_⟩
        exact q b _ (sp.trans (sm.trans (same_new hb _))) (sp.free (sm.free hb)) ⟨_, _, upd_same⟩
end
end Tx

/-! ## Values: nothing, texts, lists; their sizes -/
namespace Tx
open PySem PySem.Spec PyProof.Rows L2
/-- letters a to z alone -/
def ltr (x : Str) : Bool := x.cps.toList.all fun c => decide (97 ≤ c ∧ c ≤ 122)
mutual
def isVal : PyData → Bool
  | .none => true
  | .str x => ltr x
  | .list xs => isValAll xs
  | _ => false
def isValAll : List PyData → Bool
  | [] => true
  | x :: xs => isVal x && isValAll xs
end
mutual
def szD : PyData → Nat
  | .str x => 1 + x.length
  | .list xs => 1 + szAll xs
  | _ => 1
def szAll : List PyData → Nat
  | [] => 0
  | x :: xs => szD x + szAll xs
end
theorem isValAll_iff : ∀ {xs : List PyData}, isValAll xs = true ↔ ∀ d ∈ xs, isVal d = true
  | [] => by simp [isValAll]
  | x :: xs => by simp [isValAll, isValAll_iff (xs := xs)]
theorem szAll_append : ∀ (xs ys : List PyData), szAll (xs ++ ys) = szAll xs + szAll ys
  | [], ys => by simp [szAll]
  | x :: xs, ys => by simp only [List.cons_append, szAll, szAll_append xs ys]; omega
theorem szAll_eq : ∀ xs : List PyData, szAll xs = (xs.map szD).sum
  | [] => rfl
  | x :: xs => by simp only [szAll, List.map_cons, List.sum_cons, szAll_eq xs]
theorem szD_pos : ∀ d : PyData, 1 ≤ szD d
  | .none => by simp [szD]
  | .bool _ => by simp [szD]
  | .int _ => by simp [szD]
  | .str _ => by simp [szD]
  | .list _ => by simp [szD]
  | .tuple _ => by simp [szD]
  | .dict _ => by simp [szD]
theorem len_le_szAll : ∀ xs : List PyData, xs.length ≤ szAll xs
  | [] => by simp [szAll]
  | x :: xs => by
    have := len_le_szAll xs
    have := szD_pos x
    simp only [szAll, List.length_cons]
    omega
theorem szD_mem : ∀ {xs : List PyData} {d : PyData}, d ∈ xs → szD d ≤ szAll xs
  | [], d, h => by simp at h
  | x :: xs, d, h => by
    simp only [szAll]
    cases h with
    | head => omega
    | tail _ h => have := szD_mem h; omega
theorem szAll_le {B : Nat} : ∀ {xs : List PyData}, (∀ d ∈ xs, szD d ≤ B) → szAll xs ≤ B * xs.length
  | [], _ => by simp [szAll]
  | x :: xs, h => by
    have h1 := h x List.mem_cons_self
    have h2 := szAll_le (B := B) (xs := xs) fun d hd => h d (List.mem_cons_of_mem _ hd)
    simp only [szAll, List.length_cons, Nat.mul_add, Nat.mul_one]
    omega
mutual
theorem val_fine : ∀ d : PyData, isVal d = true → fine d = true
  | .none, _ => rfl
  | .str x, h => by
    simp only [isVal, ltr, List.all_eq_true, decide_eq_true_eq] at h
    simp only [fine, List.all_eq_true, decide_eq_true_eq]
    intro c hc
    have := h c hc
    omega
  | .list xs, h => by simp only [isVal] at h; simp only [fine]; exact valAll_fine xs h
  | .bool _, h => by simp [isVal] at h
  | .int _, h => by simp [isVal] at h
  | .tuple _, h => by simp [isVal] at h
  | .dict _, h => by simp [isVal] at h
theorem valAll_fine : ∀ xs : List PyData, isValAll xs = true → fineAll xs = true
  | [], _ => rfl
  | x :: xs, h => by
    simp only [isValAll, Bool.and_eq_true] at h
    simp only [fineAll, val_fine x h.1, valAll_fine xs h.2, Bool.and_self]
end
mutual
theorem val_wt : ∀ d : PyData, isVal d = true → wt d + 2 ≤ 12 * szD d
  | .none, _ => by simp [wt, szD]
  | .str x, _ => by simp only [wt, szD]; omega
  | .list xs, h => by
    simp only [isVal] at h
    have := valAll_wt xs h
    simp only [wt, szD]
    omega
  | .bool _, h => by simp [isVal] at h
  | .int _, h => by simp [isVal] at h
  | .tuple _, h => by simp [isVal] at h
  | .dict _, h => by simp [isVal] at h
theorem valAll_wt : ∀ xs : List PyData, isValAll xs = true → wtAll xs ≤ 12 * szAll xs
  | [], _ => by simp [wtAll, szAll]
  | x :: xs, h => by
    simp only [isValAll, Bool.and_eq_true] at h
    have h1 := val_wt x h.1
    have h2 := valAll_wt xs h.2
    simp only [wtAll, szAll]
    omega
end
/-- a value of at most such a depth and size -/
structure Val (n m : Nat) (d : PyData) : Prop where
  val : isVal d = true
  deep : d.depth ≤ n
  size : szD d ≤ m
theorem Val.mono {n m n' m' : Nat} {d : PyData} (h : Val n m d) (h1 : n ≤ n') (h2 : m ≤ m') : Val n' m' d := ⟨h.val, Nat.le_trans h.deep h1, Nat.le_trans h.size h2⟩
theorem Val.ok {n m : Nat} {d : PyData} (h : Val n m d) (hn : n ≤ 60) (hm : m ≤ 1000000) : Ok d := by
  have h1 := val_wt d h.val
  have h2 := h.size
  exact ⟨val_fine d h.val, Nat.le_trans h.deep hn, by omega⟩
theorem Val.item {n m : Nat} {ds : List PyData} (h : Val n m (.list ds)) {d : PyData} (hd : d ∈ ds) : Val (n - 1) (m - 1) d := by
  have hv := h.val
  have hn := h.deep
  have hm := h.size
  simp only [isVal] at hv
  simp only [PyData.depth] at hn
  simp only [szD] at hm
  have := depth_mem hd
  have := szD_mem hd
  exact ⟨isValAll_iff.mp hv d hd, by omega, by omega⟩
/-- what is at hand can be read in J; the bag at b is none of it; from H to H' the bag may have changed, J has grown to J' by new things -/
structure Gro (b : Addr) (J H J' H' : Hp) : Prop where
  st : Stp b H H'
  jj : Same J J'
  jh : Same J' H'
  fr : ∀ a, H a ≠ none → J a = none → J' a = none
section
variable {b : Addr} {J J1 J2 H H1 H2 : Hp}
theorem Stp.gro (h : Stp b H H1) (hb : J b = none) (s : Same J H) : Gro b J H J H1 :=
  ⟨h, Same.refl _, fun a o e => h.keep a o (fun z => by rw [z, hb] at e; cases e) (s a o e), fun _ _ n => n⟩
theorem Gro.refl (h : Bag H b) (s : Same J H) : Gro b J H J H := ⟨Stp.refl h, Same.refl _, s, fun _ _ n => n⟩
theorem Gro.noBag (g : Gro b J H J1 H1) (hB : Bag H b) (hb : J b = none) : J1 b = none := by
  obtain ⟨c, m, e⟩ := hB
  exact g.fr b (by rw [e]; simp) hb
theorem Stp.there (h : Stp b H H1) (hB : Bag H b) {a : Addr} (n : H a ≠ none) : H1 a ≠ none := by
  by_cases e : a = b
  · subst e
    obtain ⟨c, m, e⟩ := h.bag
    rw [e]; simp
  · cases q : H a with
    | none => exact absurd q n
    | some o => rw [h.keep a o e q]; simp
theorem Gro.trans (g : Gro b J H J1 H1) (k : Gro b J1 H1 J2 H2) (hB : Bag H b) : Gro b J H J2 H2 :=
  ⟨g.st.trans k.st, g.jj.trans k.jj, k.jh, fun a n e => k.fr a (g.st.there hB n) (g.fr a n e)⟩
/-- a further step that leaves what is at hand -/
theorem Gro.step (g : Gro b J H J1 H1) (h : Stp b H1 H2) (hB : Bag H b) (hb : J b = none) : Gro b J H J1 H2 := g.trans (h.gro (g.noBag hB hb) g.jh) hB
/-- a new thing -/
theorem Gro.new (g : Gro b J H J1 H1) {p : Addr} (hp : H1 p = none) (o : HO) : Gro b J H J1 (upd H1 p o) :=
  ⟨g.st.new hp o, g.jj, g.jh.trans (same_new hp o), g.fr⟩
/-- a new thing that is at hand -/
theorem Gro.add (g : Gro b J H J1 H1) (hB : Bag H b) {p : Addr} (hp : H1 p = none) (o : HO) : Gro b J H (upd J1 p o) (upd H1 p o) := by
  have hj : J1 p = none := g.jh.free hp
  refine ⟨g.st.new hp o, g.jj.trans (same_new hj o), fun a u e => ?_, fun a n e => ?_⟩
  · by_cases z : a = p
    · subst z; rw [upd_same] at e ⊢; exact e
    · rw [upd_ne z] at e ⊢; exact g.jh a u e
  · have z : a ≠ p := fun z => g.st.there hB n (by rw [z]; exact hp)
    rw [upd_ne z]
    exact g.fr a n e
/-- a thing of one's own, new since H, comes to hand -/
theorem Gro.own (g : Gro b J H J1 H1) {p : Addr} {o : HO} (hp : H1 p = some o) (hn : H p = none) (hj : J1 p = none) : Gro b J H (upd J1 p o) H1 := by
  refine ⟨g.st, g.jj.trans (same_new hj o), fun a u e => ?_, fun a n e => ?_⟩
  · by_cases z : a = p
    · subst z; rw [upd_same] at e; rw [← e]; exact hp
    · rw [upd_ne z] at e; exact g.jh a u e
  · have z : a ≠ p := fun z => n (by rw [z]; exact hn)
    rw [upd_ne z]
    exact g.fr a n e
theorem Stp.free (h : Stp b H H1) (hB : Bag H b) {r : Addr} (n : H1 r = none) : H r = none := by
  cases q : H r with
  | none => rfl
  | some o => exact absurd n (h.there hB (by rw [q]; simp))
theorem Stp.ne (h : Stp b H H1) {r : Addr} (n : H1 r = none) : r ≠ b := fun z => by
  obtain ⟨_, _, e⟩ := h.bag
  rw [← z, n] at e
  cases e
theorem same_upd {J H : Hp} {r : Addr} {o : HO} (s : Same J H) (n : J r = none) : Same J (upd H r o) := fun a u e => by
  rw [upd_ne (ne_of_none e n)]
  exact s a u e
/-- a thing of one's own is changed -/
theorem Gro.mut (g : Gro b J H J1 H1) {r : Addr} (hr : H r = none) (hj : J1 r = none) (rb : r ≠ b) (o : HO) : Gro b J H J1 (upd H1 r o) := by
  obtain ⟨c, m, e⟩ := g.st.bag
  exact ⟨⟨⟨c, m, by rw [upd_ne (Ne.symm rb)]; exact e⟩, fun a u n z => by rw [upd_ne (ne_of_none z hr)]; exact g.st.keep a u n z⟩, g.jj, same_upd g.jh hj, g.fr⟩
theorem Gro.same (g : Gro b J H J1 H1) (s : Same H1 H2) : Gro b J H J1 H2 := ⟨g.st.same s, g.jj, g.jh.trans s, g.fr⟩
end
end Tx

/-! ## The law's drawn values -/
namespace Tx
open PySem PySem.Spec PyProof.Rows L2
abbrev sText : Stmt := top 13
theorem scText : FnScope ["_law_bag_here", "_law_most", "_law_turn", "_law_word", "_law_signs"] ["_law_bag_here", "_law_most"] (defScope sText) := ⟨rfl, rfl, rfl, by decide +kernel, rfl, by decide +kernel, by decide +kernel⟩
abbrev sSize : Stmt := top 14
theorem scSize : FnScope ["_law_value_here", "_law_one"] ["_law_value_here"] (defScope sSize) := ⟨rfl, rfl, rfl, by decide +kernel, rfl, by decide +kernel, by decide +kernel⟩
/-- text(bag, m): letters, at most m -/
def spText : Sp := fun vs H Q _ => ∃ (b : Addr) (m : Int), vs = [.ref b, .int m] ∧ Bag H b ∧ 0 ≤ m ∧ m < 1000 ∧
  ∀ (x : Str) (H' : Hp), ltr x = true → (x.length : Int) ≤ m → Stp b H H' → Q (.str x) H'
/-- size(v), v less deep than n -/
def spSize (K : PySem.W.Frag) (n : Nat) : Sp := fun vs H Q _ => ∃ (v : V) (d : PyData), vs = [v] ∧ Dp K H v d ∧ isVal d = true ∧ d.depth < n ∧ szD d ≤ 1000000 ∧
  ∀ H', Same H H' → Q (.int (szD d)) H'
theorem sum_int : ∀ ds : List PyData, (ds.map fun d => (szD d : Int)).sum = (((ds.map szD).sum : Nat) : Int)
  | [] => rfl
  | x :: xs => by simp only [List.map_cons, List.sum_cons, sum_int xs]; omega
theorem ltr_append {x y : Str} (hx : ltr x = true) (hy : ltr y = true) : ltr (x ++ y) = true := by
  have e : (x ++ y).cps = x.cps ++ y.cps := rfl
  unfold ltr at *
  rw [e, Array.toList_append, List.all_append, hx, hy]
  rfl
theorem ltr_get {x : Str} (hx : ltr x = true) {i : Nat} {c : Nat} (h : x.cps.toList[i]? = some c) : ltr ⟨#[c]⟩ = true := by
  unfold ltr at *
  have hc := List.all_eq_true.mp hx c (List.mem_of_getElem? h)
  simp only [List.all_cons, List.all_nil, Bool.and_true]
  exact hc
section
variable {P : Program} {w : World} {K : PySem.W.Frag} {mg : Str → Option Value} {base : Heap}
theorem d_text (h : Has K mg "_law_text" sText) (B : Bi mg) (D_law_take : Dfn P w K mg base CX0 1 "_law_take" ["_law_bag_here", "_law_many"] spTake) :
    Dfn P w K mg base CX0 2 "_law_text" ["_law_bag_here", "_law_most"] spText := by
  refine dfn0 h B scText (fun _ _ _ _ _ _ us hl => match us, hl with | [_, _], _ => rfl) (fun vs H Q E h => ?_) (fun f cv A out s H vs Q E c h => ?_)
  · obtain ⟨b, m, rfl, _⟩ := h
    rfl
  obtain ⟨b, m, rfl, hB, m0, m1, q⟩ := h
  refine ⟨_, (pss_cons (ps_par (i := 3) (j := 4) rfl scText.nd rfl rfl (by decide) rfl rfl (pa_cons pe_str (pa_cons (pe_ix ix_list (pe_lst (pa_cons pe_str (pa_cons pe_str (pa_cons pe_str pa_nil)))) (pe_d D_law_take c (by omega) (by rfl) (pa_cons (pv 0) (pa_cons pe_int pa_nil))) (fun _ _ => rfl)) pa_nil)) (by rfl))
    (pss_cons (ps_for PassesOwn.never rfl (pi_range1 (by rfl) c.b.range (pa_cons (pe_d D_law_take c (by omega) (by rfl) (pa_cons (pv 0) (pa_cons (pe_op op_add (pv 1) pe_int) pa_nil))) pa_nil)) (pg_name (i := 2) scText.nd rfl (Or.inl rfl))
    (pss_one (ps_set (i := 3) scText.nd rfl (Or.inl rfl) (pe_op op_add_str (pv 3) (pe_ix ix_str (pv 4) (pe_d D_law_take c (by omega) (by rfl) (pa_cons (pv 0) (pa_cons (pe_callB call_len_str (by rfl) c.b.len PySem.boot_len (pa_cons (pv 4) pa_nil)) pa_nil))) (fun _ _ => rfl))))))
    (pss_one (ps_ret (pv 3))))), ?_⟩
  refine ⟨(by show 3 ≤ sizeLine; decide), fun p hp => ⟨_, rfl, b, 3, rfl, ((Stp.refl hB).new hp _).bag, by decide, by decide, fun r H1 r0 r1 st => ?_⟩⟩
  have nb : p ≠ b := fun z => by obtain ⟨_, _, e⟩ := hB; rw [← z, hp] at e; cases e
  have st1 : Stp b H H1 := ((Stp.refl hB).new hp _).trans st
  obtain ⟨v, e1, e2⟩ := atI_of (xs := [V.str "abcdefghijklmnopqrstuvwxyz", V.str "ab", V.str "za"]) r0 r1
  have sg : ∃ g : Str, v = .str g ∧ ltr g = true ∧ 1 ≤ g.length ∧ g.length ≤ 26 := by
    have h3 : r.toNat = 0 ∨ r.toNat = 1 ∨ r.toNat = 2 := by omega
    rcases h3 with z | z | z <;> rw [z] at e2 <;> cases e2 <;> exact ⟨_, rfl, by decide, by decide, by decide⟩
  obtain ⟨g, rfl, gl, g1, g2⟩ := sg
  refine ⟨p, _, _, _, rfl, rfl, SqL.of (st.keep p _ nb upd_same), e1, _, _, rfl, ?_⟩
  refine ⟨_, rfl, _, rfl, _, _, rfl, rfl, b, m + 1, rfl, st1.bag, by omega, by omega, fun n H2 n0 n1 st2 => ?_⟩
  refine ⟨n, rfl, by omega, by omega, ?_⟩
  refine for_range (lo := 0) (n := n.toNat) (fun i σ H' => ∃ (x : Str) (u : Option V), σ = [some (.ref b), some (.int m), u, some (.str x), some (.str g)] ∧ ltr x = true ∧ x.length ≤ i ∧ Stp b H H')
    ⟨_, none, rfl, rfl, Nat.le_refl _, st1.trans st2⟩ ?_ ?_
  · rintro i σ H3 hi ⟨x, u, rfl, xl, xn, st3⟩
    refine ⟨_, rfl, _, rfl, _, rfl, _, rfl, g, rfl, (by rw [sizeLine_eq]; omega), b, _, rfl, st3.bag, by omega, by omega, fun k H4 k0 k1 st4 => ?_⟩
    obtain ⟨cc, e3, e4⟩ := atI_of (xs := g.cps.toList) k0 (show k < ((g.cps.toList.length : Nat) : Int) by rw [Array.length_toList]; exact k1)
    refine ⟨g, _, cc, rfl, rfl, (by rw [sizeLine_eq]; omega), e3, _, _, rfl, rfl, (by show x.length + 1 ≤ sizeLine; rw [sizeLine_eq]; omega), ?_⟩
    refine ⟨_, _, rfl, ltr_append xl (ltr_get gl e4), ?_, st3.trans st4⟩
    show (x.cps ++ #[cc]).size ≤ i + 1
    have : x.cps.size ≤ i := xn
    simp
    omega
  · rintro σ H3 ⟨x, u, rfl, xl, xn, st3⟩
    exact ⟨_, rfl, q x _ xl (by omega) st3⟩
theorem d_size (h : Has K mg "_law_size" sSize) (B : Bi mg) : ∀ n, Dfn P w K mg base CX0 n "_law_size" ["_law_value_here"] (spSize K n)
  | 0 => dfn_none h (fun _ _ _ _ _ _ us hl => match us, hl with | [_], _ => rfl) fun vs H Q E z => by
    obtain ⟨_, _, _, _, _, z, _⟩ := z
    omega
  | n + 1 => by
    have D_law_size := d_size h B n
    refine dfn0 h B scSize (fun _ _ _ _ _ _ us hl => match us, hl with | [_], _ => rfl) (fun vs H Q E h => ?_) (fun f cv A out s H vs Q E c h => ?_)
    · obtain ⟨v, d, rfl, _⟩ := h
      rfl
    obtain ⟨v, d, rfl, hd, val, dn, sz, q⟩ := h
    cases d with
    | none =>
      cases hd
      refine ⟨_, (pss_cons (ps_if (pt_val (pe_callB (call_isD (T := "list")) (by rfl) c.b.isinstance (by decide +kernel) (pa_cons (pv 0) (pa_cons (pe_bltn (v := .ty "list") (by rfl) c.b.list (by decide +kernel) rfl) pa_nil)))) (pss_one (ps_ret (pe_op op_add pe_int (pe_callB (cr_sum rfl) (by rfl) c.b.sum (by decide +kernel) (pa_cons (pe_lc (own := [("_law_one", 1)]) (g := (gName 1)) (tt := tYes) rfl scSize.nd (pi_list (pv 0)) (blkOk_by (own := [("_law_one", 1)]) (N := ["_law_value_here", "_law_one"]) (sc := defScope sSize) (by decide +kernel)) (fun _ _ _ _ _ => (pg_name (i := 1) scSize.nd rfl (Or.inl rfl))) (fun _ _ _ _ _ => pts_nil) (fun _ _ _ _ _ => (pe_d D_law_size c (by omega) (by rfl) (pa_cons (pv 1) pa_nil)))) pa_nil))))) pss_nil)
    (pss_one (ps_ret (pe_ifExp (pt_cmpR op_isN (pv 0) pe_non (nomark _)) pe_int (pe_op op_add pe_int (pe_callB call_len_str (by rfl) c.b.len PySem.boot_len (pa_cons (pv 0) pa_nil))))))), ?_⟩
      refine ⟨_, rfl, _, .none, _, rfl, .non, kit_list _, _, rfl, iteF ?_⟩
      exact ⟨_, rfl, rfl, _, rfl, iteT (q _ (Same.refl _))⟩
    | str x =>
      cases hd
      refine ⟨_, (pss_cons (ps_if (pt_val (pe_callB (call_isD (T := "list")) (by rfl) c.b.isinstance (by decide +kernel) (pa_cons (pv 0) (pa_cons (pe_bltn (v := .ty "list") (by rfl) c.b.list (by decide +kernel) rfl) pa_nil)))) (pss_one (ps_ret (pe_op op_add pe_int (pe_callB (cr_sum rfl) (by rfl) c.b.sum (by decide +kernel) (pa_cons (pe_lc (own := [("_law_one", 1)]) (g := (gName 1)) (tt := tYes) rfl scSize.nd (pi_list (pv 0)) (blkOk_by (own := [("_law_one", 1)]) (N := ["_law_value_here", "_law_one"]) (sc := defScope sSize) (by decide +kernel)) (fun _ _ _ _ _ => (pg_name (i := 1) scSize.nd rfl (Or.inl rfl))) (fun _ _ _ _ _ => pts_nil) (fun _ _ _ _ _ => (pe_d D_law_size c (by omega) (by rfl) (pa_cons (pv 1) pa_nil)))) pa_nil))))) pss_nil)
    (pss_one (ps_ret (pe_ifExp (pt_cmpR op_isN (pv 0) pe_non (nomark _)) pe_int (pe_op op_add pe_int (pe_callB call_len_str (by rfl) c.b.len PySem.boot_len (pa_cons (pv 0) pa_nil))))))), ?_⟩
      refine ⟨_, rfl, _, .str x, _, rfl, .str x, kit_list _, _, rfl, iteF ?_⟩
      refine ⟨_, rfl, rfl, _, rfl, iteF ?_⟩
      have sx : szD (.str x) = 1 + x.length := by simp [szD]
      refine ⟨_, rfl, x, rfl, (by rw [sizeLine_eq]; omega), _, _, rfl, rfl, ?_⟩
      have := q _ (Same.refl _)
      rw [sx] at this
      simpa using this
    | list ds =>
      cases hd with
      | @lst a xs _ hs ha =>
      refine ⟨_, (pss_cons (ps_if (pt_val (pe_callB (call_isD (T := "list")) (by rfl) c.b.isinstance (by decide +kernel) (pa_cons (pv 0) (pa_cons (pe_bltn (v := .ty "list") (by rfl) c.b.list (by decide +kernel) rfl) pa_nil)))) (pss_one (ps_ret (pe_op op_add pe_int (pe_callB (cr_sum rfl) (by rfl) c.b.sum (by decide +kernel) (pa_cons (pe_lc (own := [("_law_one", 1)]) (g := (gName 1)) (tt := tYes) rfl scSize.nd (pi_list (pv 0)) (blkOk_by (own := [("_law_one", 1)]) (N := ["_law_value_here", "_law_one"]) (sc := defScope sSize) (by decide +kernel)) (fun _ _ _ _ _ => (pg_name (i := 1) scSize.nd rfl (Or.inl rfl))) (fun _ _ _ _ _ => pts_nil) (fun _ _ _ _ _ => (pe_d D_law_size c (by omega) (by rfl) (pa_cons (pv 1) pa_nil)))) pa_nil))))) pss_nil)
    (pss_one (ps_ret (pe_ifExp (pt_cmpR op_isN (pv 0) pe_non (nomark _)) pe_int (pe_op op_add pe_int (pe_callB call_len_str (by rfl) c.b.len PySem.boot_len (pa_cons (pv 0) pa_nil))))))), ?_⟩
      refine ⟨_, rfl, _, .list ds, _, rfl, .lst hs ha, kit_list _, _, rfl, iteT ?_⟩
      have sx : szD (.list ds) = 1 + szAll ds := by simp [szD]
      have hlen := DpAll.length ha
      have hle := len_le_szAll ds
      simp only [PyData.depth] at dn
      simp only [isVal] at val
      refine ⟨_, rfl, a, rfl, ⟨_, hs⟩, fun L hL => ?_⟩
      refine lc_list (K := K) (a := a) (xs := xs) (fun i H' => Same H H' ∧ H' L = some (.lst ((ds.take i).map fun d => V.int (szD d))))
        ⟨same_new hL _, upd_same⟩ (fun i H' _ z => z.1.seq hs) ?_ ?_
      · rintro i x H1 hx ⟨sm, hL1⟩
        obtain ⟨d, e1, e2⟩ := DpAll.get ha hx
        have hm := List.mem_of_getElem? e1
        have hi : i < ds.length := (List.getElem?_eq_some_iff.mp e1).1
        refine ⟨rfl, _, rfl, _, d, rfl, dp_mono sm d _ e2, isValAll_iff.mp val d hm, ?_, ?_, fun H2 sm2 => ?_⟩
        · have := depth_mem hm
          omega
        · have := szD_mem hm
          omega
        refine ⟨_, sm2 _ _ hL1, ?_, (fun b o e => ?_), ?_⟩
        · rw [List.length_map, List.length_take, sizeLine_eq]
          omega
        · rw [upd_ne (ne_of_none e hL)]
          exact sm2 _ _ (sm _ _ e)
        · rw [upd_same, List.take_add_one, e1, List.map_append]
          rfl
      · rintro H1 ⟨sm, hL1⟩
        rw [hlen, List.take_length] at hL1
        refine ⟨L, ds.map fun d => (szD d : Int), rfl, SqL.of ?_, _, _, rfl, rfl, ?_⟩
        · rw [hL1, List.map_map]
          rfl
        · have := q _ sm
          rw [sx, szAll_eq] at this
          have es := sum_int ds
          have e2 : (1 : Int) + (ds.map fun d => (szD d : Int)).sum = ((1 + (ds.map szD).sum : Nat) : Int) := by omega
          show Q (.int (1 + (ds.map fun d => (szD d : Int)).sum)) H1
          rw [e2]
          exact this
    | bool _ => simp [isVal] at val
    | int _ => simp [isVal] at val
    | tuple _ => simp [isVal] at val
    | dict _ => simp [isVal] at val
end
end Tx

namespace Tx
open PySem PySem.Spec PyProof.Rows L2
abbrev sValue : Stmt := top 15
theorem scValue : FnScope ["_law_bag_here", "_law_deep", "_law_room", "_law_pick", "_law_turn", "_law_made", "_law_left"] ["_law_bag_here", "_law_deep", "_law_room"] (defScope sValue) := ⟨rfl, rfl, rfl, by decide +kernel, rfl, by decide +kernel, by decide +kernel⟩
/-- value(bag, deep, room), deep below n -/
def spValue (K : PySem.W.Frag) (n : Nat) : Sp := fun vs H Q _ => ∃ (b : Addr) (J : Hp) (deep room : Int), vs = [.ref b, .int deep, .int room] ∧ Bag H b ∧ J b = none ∧ Same J H ∧ 0 ≤ deep ∧ deep < n ∧ 1 ≤ room ∧ room ≤ 1000 ∧
  ∀ (v : V) (d : PyData) (J' H' : Hp), Gro b J H J' H' → Dp K J' v d → Val deep.toNat room.toNat d → Q v H'
section
variable {P : Program} {w : World} {K : PySem.W.Frag} {mg : Str → Option Value} {base : Heap}
theorem d_value (h : Has K mg "_law_value" sValue) (B : Bi mg) (D_law_take : Dfn P w K mg base CX0 1 "_law_take" ["_law_bag_here", "_law_many"] spTake) (D_law_text : Dfn P w K mg base CX0 2 "_law_text" ["_law_bag_here", "_law_most"] spText)
    (D_law_size : Dfn P w K mg base CX0 20 "_law_size" ["_law_value_here"] (spSize K 20)) : ∀ n, n ≤ 19 → Dfn P w K mg base CX0 (n + 20) "_law_value" ["_law_bag_here", "_law_deep", "_law_room"] (spValue K n)
  | 0, _ => (dfn_none h (fun _ _ _ _ _ _ us hl => match us, hl with | [_, _, _], _ => rfl) fun vs H Q E z => by
    obtain ⟨_, _, _, _, _, _, _, _, z1, z2, _⟩ := z
    omega).mono (by omega)
  | n + 1, hn => by
    have D_law_value := d_value h B D_law_take D_law_text D_law_size n (by omega)
    refine dfn0 (k := n + 20) h B scValue (fun _ _ _ _ _ _ us hl => match us, hl with | [_, _, _], _ => rfl) (fun vs H Q E h => ?_) (fun f cv A out s H vs Q E c h => ?_)
    · obtain ⟨b, J, deep, room, rfl, _⟩ := h
      rfl
    obtain ⟨b, J, deep, room, rfl, hB, jb, js, d0, dn, r1, r2, q⟩ := h
    refine ⟨_, (pss_cons (ps_set (i := 3) scValue.nd rfl (Or.inl rfl) (pe_d D_law_take c (by omega) (by rfl) (pa_cons (pv 0) (pa_cons pe_int pa_nil))))
    (pss_cons (ps_if (PW.pt (pw_or (pt_cmpR op_eq (pv 3) pe_int (nomark _)) (pw_or1 (pt_cmpR op_eq (pv 2) pe_int (nomark _))))) (pss_one (ps_ret (pe_ix ix_list (pe_lst (pa_cons pe_non (pa_cons pe_str (pa_cons (pe_lst pa_nil) pa_nil)))) (pe_d D_law_take c (by omega) (by rfl) (pa_cons (pv 0) (pa_cons (pe_ifExp (pt_cmpR op_gt (pv 1) pe_int (nomark _)) pe_int pe_int) pa_nil))) (fun _ _ => rfl)))) pss_nil)
    (pss_cons (ps_if (PW.pt (pw_or (pt_cmpR op_eq (pv 3) pe_int (nomark _)) (pw_or1 (pt_cmpR op_eq (pv 1) pe_int (nomark _))))) (pss_one (ps_ret (pe_d D_law_text c (by omega) (by rfl) (pa_cons (pv 0) (pa_cons (pe_callB (call_min2 rfl) (by rfl) c.b.min (by decide +kernel) (pa_cons pe_int (pa_cons (pe_op op_sub (pv 2) pe_int) pa_nil))) pa_nil))))) pss_nil)
    (pss_cons (ps_par (i := 5) (j := 6) rfl scValue.nd rfl rfl (by decide) rfl rfl (pa_cons (pe_lst pa_nil) (pa_cons (pe_op op_sub (pv 2) pe_int) pa_nil)) (by rfl))
    (pss_cons (ps_for PassesOwn.never rfl (pi_range1 (by rfl) c.b.range (pa_cons (pe_d D_law_take c (by omega) (by rfl) (pa_cons (pv 0) (pa_cons pe_int pa_nil))) pa_nil)) (pg_name (i := 4) scValue.nd rfl (Or.inl rfl))
    (pss_one (ps_if (pt_cmpR op_gt (pv 6) pe_int (nomark _)) (pss_cons (ps_expr (pe_bm PySem.F.plainAttrs_list PySem.F.slot_list_append PySem.F.type_list_append mt_append (pv 5) (pa_cons (pe_d D_law_value c (by omega) (by rfl) (pa_cons (pv 0) (pa_cons (pe_op op_sub (pv 1) pe_int) (pa_cons (pv 6) pa_nil)))) pa_nil)))
    (pss_one (ps_set (i := 6) scValue.nd rfl (Or.inl rfl) (pe_op op_sub (pv 6) (pe_d D_law_size c (by omega) (by rfl) (pa_cons (pe_ix ix_list (pv 5) (pe_un un_neg pe_int) (fun _ _ => rfl)) pa_nil)))))) pss_nil)))
    (pss_one (ps_ret (pv 5)))))))), ?_⟩
    refine ⟨_, rfl, b, 5, rfl, hB, by decide, by decide, fun pick H1 p0 p1 st1 => ?_⟩
    have g1 : Gro b J H J H1 := st1.gro jb js
    refine ⟨_, rfl, rfl, _, rfl, ?_⟩
    refine ite2 (fun _ => ?ret) (fun n0 => ⟨_, rfl, rfl, _, rfl, ite2 (fun _ => ?ret') (fun n1 => ?go)⟩)
    case go =>
      refine ⟨_, rfl, rfl, _, rfl, ite2 (fun _ => ?txt) (fun _ => ⟨_, rfl, rfl, _, rfl, ite2 (fun _ => ?txt') (fun m1 => ?lst)⟩)⟩
      case lst =>
        have deep1 : deep ≠ 0 := fun z => m1 (by rw [z]; rfl)
        refine ⟨(by show 0 ≤ sizeLine; decide), fun r hr => ⟨_, rfl, _, _, rfl, rfl, _, _, rfl, ?_⟩⟩
        have hrH : H r = none := st1.free hB hr
        have rb : r ≠ b := st1.ne hr
        have g2 := g1.new hr (.lst [])
        refine ⟨_, rfl, b, 5, rfl, g2.st.bag, by decide, by decide, fun t H2 t0 t1 st2 => ⟨t, rfl, by omega, by omega, ?_⟩⟩
        have g3 := g2.step st2 hB jb
        have hjr : J r = none := js.free hrH
        refine for_range (lo := 0) (n := t.toNat) (fun i σ H' => ∃ (u : Option V) (left : Int) (Ji : Hp) (vs : List V) (ds : List PyData),
            σ = [some (.ref b), some (.int deep), some (.int room), some (.int pick), u, some (.ref r), some (.int left)] ∧ Gro b J H Ji H' ∧ H' r = some (.lst vs) ∧ Ji r = none ∧
            DpAll K Ji vs ds ∧ isValAll ds = true ∧ PyData.depthAll ds ≤ (deep - 1).toNat ∧ 0 ≤ left ∧ (szAll ds : Int) + left = room - 1 ∧ vs.length ≤ i)
          ⟨none, room - 1, J, [], [], rfl, g3, st2.keep r _ rb upd_same, hjr, .nil, rfl, by simp [PyData.depthAll], by omega, by simp [szAll], Nat.le_refl _⟩ ?_ ?_
        · rintro i σ H3 hi ⟨u, left, Ji, vs, ds, rfl, g, hr3, jr, ha, val, dep, l0, ls, vl⟩
          refine ⟨_, rfl, _, _, rfl, rfl, _, rfl, ite2 (fun lp => ?_) (fun _ => ?_)⟩
          · have lp' : 0 < left := of_decide_eq_true lp
            have jib : Ji b = none := g.noBag hB jb
            refine ⟨_, rfl, .inl ⟨rfl, _, SqL.of hr3⟩, _, rfl, _, rfl, _, _, rfl, rfl, _, rfl, b, Ji, deep - 1, left, rfl, g.st.bag, jib, g.jh, by omega, by omega, by omega, by omega, fun v d J2 H4 g4 hd vd => ?_⟩
            have hr4 : H4 r = some (.lst vs) := g4.st.keep r _ rb hr3
            have jr2 : J2 r = none := g4.fr r (by rw [hr3]; simp) jr
            have vdz := vd.size
            have vdd := vd.deep
            refine ⟨r, vs, v, rfl, rfl, hr4, (by rw [sizeLine_eq]; omega), ?_⟩
            have g5 := (g.trans g4 hB).mut hrH jr2 rb (.lst (vs ++ [v]))
            refine ⟨_, rfl, _, rfl, _, rfl, r, _, _, v, rfl, rfl, SqL.of upd_same, atI_last _ _, v, d, rfl, dp_mono g5.jh d v hd, vd.val, by omega, by omega, fun H5 sm => ?_⟩
            refine ⟨_, _, rfl, rfl, some (.int (0 + i)), left - szD d, J2, vs ++ [v], ds ++ [d], rfl, g5.same sm, sm _ _ upd_same, jr2, DpAll.append (dpAll_mono g4.jj ds vs ha) (DpAll.one hd), ?_, ?_, by omega, ?_, ?_⟩
            · exact isValAll_iff.mpr fun x hx => (List.mem_append.mp hx).elim (isValAll_iff.mp val x) fun hx => by rw [List.mem_singleton.mp hx]; exact vd.val
            · refine depthAll_le fun x hx => (List.mem_append.mp hx).elim (fun hx => Nat.le_trans (depth_mem hx) dep) fun hx => by rw [List.mem_singleton.mp hx]; exact vdd
            · rw [szAll_append]
              simp only [szAll]
              omega
            · rw [List.length_append]
              show vs.length + 1 ≤ i + 1
              omega
          · exact ⟨_, left, Ji, vs, ds, rfl, g, hr3, jr, ha, val, dep, l0, ls, by omega⟩
        · rintro σ H3 ⟨u, left, Ji, vs, ds, rfl, g, hr3, jr, ha, val, dep, l0, ls, vl⟩
          refine ⟨_, rfl, q (.ref r) (.list ds) _ H3 (g.own hr3 hrH jr) (.lst (SqL.of upd_same) (dpAll_mono (same_new jr _) ds vs ha)) ⟨?_, ?_, ?_⟩⟩
          · simpa only [isVal] using val
          · simp only [PyData.depth]
            omega
          · simp only [szD]
            omega
      all_goals
        refine ⟨_, rfl, _, rfl, _, _, rfl, rfl, _, _, rfl, b, _, rfl, g1.st.bag, ?_, ?_, fun x H2 xl xn st2 => ?_⟩
        · split <;> omega
        · split <;> omega
        refine q (.str x) (.str x) J H2 (g1.step st2 hB jb) (.str x) ⟨?_, ?_, ?_⟩
        · simpa only [isVal] using xl
        · simp [PyData.depth]
        · simp only [szD]
          split at xn <;> omega
    all_goals
      refine ⟨(by show 0 ≤ sizeLine; decide), fun e he => ⟨(by show 3 ≤ sizeLine; decide), fun p hp => ⟨_, rfl, _, rfl, _, _, rfl, rfl, _, rfl, ?_⟩⟩⟩
      have g2 := (g1.add hB he (.lst [])).new hp (.lst [.non, .str "", .ref e])
      have pb : p ≠ b := (g1.add hB he (.lst [])).st.ne hp
      refine ite2 (fun dp => ?_) (fun dp => ?_)
      · have dp' : 0 < deep := of_decide_eq_true dp
        refine ⟨b, 3, rfl, g2.st.bag, by decide, by decide, fun r H2 r0 r1 st2 => ?_⟩
        obtain ⟨v, e1, e2⟩ := atI_of (xs := [V.non, V.str "", V.ref e]) r0 r1
        refine ⟨p, _, _, _, rfl, rfl, SqL.of (st2.keep p _ pb upd_same), e1, ?_⟩
        have g3 := g2.step st2 hB jb
        have h3 : r.toNat = 0 ∨ r.toNat = 1 ∨ r.toNat = 2 := by omega
        rcases h3 with z | z | z <;> rw [z] at e2 <;> cases e2
        · exact q _ .none _ H2 g3 .non ⟨rfl, by simp [PyData.depth], by simp only [szD]; omega⟩
        · exact q _ (.str "") _ H2 g3 (.str _) ⟨rfl, by simp [PyData.depth], by simp only [szD]; show 1 + 0 ≤ _; omega⟩
        · exact q _ (.list []) _ H2 g3 (.lst (SqL.of upd_same) .nil) ⟨rfl, by simp only [PyData.depth, PyData.depthAll]; omega, by simp only [szD, szAll]; omega⟩
      · refine ⟨b, 2, rfl, g2.st.bag, by decide, by decide, fun r H2 r0 r1 st2 => ?_⟩
        obtain ⟨v, e1, e2⟩ := atI_of (xs := [V.non, V.str "", V.ref e]) r0 (by show r < 3; omega)
        refine ⟨p, _, _, _, rfl, rfl, SqL.of (st2.keep p _ pb upd_same), e1, ?_⟩
        have g3 := g2.step st2 hB jb
        have h3 : r.toNat = 0 ∨ r.toNat = 1 := by omega
        rcases h3 with z | z <;> rw [z] at e2 <;> cases e2
        · exact q _ .none _ H2 g3 .non ⟨rfl, by simp [PyData.depth], by simp only [szD]; omega⟩
        · exact q _ (.str "") _ H2 g3 (.str _) ⟨rfl, by simp [PyData.depth], by simp only [szD]; show 1 + 0 ≤ _; omega⟩
end
end Tx

namespace Tx
open PySem PySem.Spec PyProof.Rows L2
/-- a text so often: its letters, and how many at most -/
theorem op_rep_str {X : Cx} : OpR X (binaryOp .Mult) (fun x y H Q => ∃ (z : Str) (n : Int), x = .str z ∧ y = .int n ∧ 1 ≤ n ∧ n ≤ 1000 ∧ z.length ≤ 1000 ∧
    ∀ u : Str, (∀ c ∈ u.cps.toList, c ∈ z.cps.toList) → u.length ≤ z.length * n.toNat → Q (.str u) H) := by
  intro pins s σ H x y v u Q I rx ry ask
  obtain ⟨z, n, rfl, rfl, n0, n1, z1, q⟩ := ask
  obtain ⟨t, rfl⟩ := rx
  obtain ⟨t', rfl⟩ := ry
  have le : z.length * n.toNat ≤ 1000 * 1000 := Nat.mul_le_mul z1 (by omega)
  have hok : MulOk z n := by
    refine ⟨?_, fun _ _ => ?_, fun _ _ => ?_⟩
    · simp only [Bool.or_eq_false_iff, decide_eq_false_iff_not]
      omega
    · have h1 : (9223372036854775 : Int) ≤ (2 ^ 63 - 1) / n := by
        rw [Int.le_ediv_iff_mul_le (by omega)]
        omega
      omega
    · unfold PySem.Builtin.Str.tooLong
      simp only [decide_eq_false_iff_not]
      rw [sizeLine_eq]
      omega
  have mem : ∀ (k : Nat) (acc : Array Nat), (∀ c ∈ acc.toList, c ∈ z.cps.toList) → (∀ c ∈ ((List.replicate k z.cps).foldl (· ++ ·) acc).toList, c ∈ z.cps.toList) ∧ ((List.replicate k z.cps).foldl (· ++ ·) acc).size = acc.size + z.cps.size * k := by
    intro k
    induction k with
    | zero => intro acc h; exact ⟨h, by simp⟩
    | succ k ih =>
      intro acc h
      rw [List.replicate_succ, List.foldl_cons]
      obtain ⟨i1, i2⟩ := ih (acc ++ z.cps) (fun c hc => by
        rw [Array.toList_append] at hc
        exact (List.mem_append.mp hc).elim (h c) id)
      refine ⟨i1, ?_⟩
      rw [i2, Array.size_append, Nat.mul_succ]
      omega
  have key : (∀ c ∈ (Txt.mul z n).cps.toList, c ∈ z.cps.toList) ∧ (Txt.mul z n).length ≤ z.length * n.toNat := by
    unfold Txt.mul
    rw [if_neg (by omega)]
    split
    · exact ⟨fun _ h => h, Nat.le_mul_of_pos_right _ (by omega)⟩
    · obtain ⟨m1, m2⟩ := mem n.toNat #[] (fun c hc => by simp at hc)
      exact ⟨m1, by show ((List.replicate n.toNat z.cps).foldl (· ++ ·) #[]).size ≤ _; rw [m2]; show 0 + z.cps.size * n.toNat ≤ z.cps.size * n.toNat; omega⟩
  refine SB.mul hok fun t2 k => ?_
  exact ⟨.str (Txt.mul z n), H, I.tok k, ⟨t2, rfl⟩, q _ key.1 key.2⟩
theorem cutV_to {xs : List V} {r : Int} (h : 0 ≤ r) : cutV xs none (some r) = xs.take r.toNat := by
  unfold cutV
  obtain ⟨k, rfl⟩ := Int.eq_ofNat_of_zero_le h
  rw [HT.sIx_none, HT.sIx_nat, List.drop_zero, Nat.sub_zero]
  rw [Int.toNat_natCast]
  by_cases hk : k ≤ xs.length
  · rw [Nat.min_eq_left hk]
  · rw [Nat.min_eq_right (by omega), List.take_length, List.take_of_length_le (by omega)]
theorem cutS_to {z : Str} {r : Int} (h : 0 ≤ r) : (∀ c ∈ (cutS z none (some r)).cps.toList, c ∈ z.cps.toList) ∧ ((cutS z none (some r)).length : Int) ≤ r := by
  obtain ⟨k, rfl⟩ := Int.eq_ofNat_of_zero_le h
  unfold cutS
  rw [HT.sIx_none, HT.sIx_nat, List.drop_zero, Nat.sub_zero]
  refine ⟨fun c hc => List.mem_of_mem_take (by simpa using hc), ?_⟩
  show (((z.cps.toList.take (min k z.length)).toArray.size : Nat) : Int) ≤ (k : Int)
  simp
  omega
theorem ltr_sub {x z : Str} (hz : ltr z = true) (h : ∀ c ∈ x.cps.toList, c ∈ z.cps.toList) : ltr x = true := by
  unfold ltr at *
  exact List.all_eq_true.mpr fun c hc => List.all_eq_true.mp hz c (h c hc)
theorem DpAll.rep {K : PySem.W.Frag} {H : Hp} {vs : List V} {ds : List PyData} (h : DpAll K H vs ds) : ∀ n : Nat, DpAll K H (List.replicate n vs).flatten (List.replicate n ds).flatten
  | 0 => .nil
  | n + 1 => by
    rw [List.replicate_succ, List.replicate_succ, List.flatten_cons, List.flatten_cons]
    exact DpAll.append h (DpAll.rep h n)
theorem mem_rep {α : Type} {x : α} {l : List α} {n : Nat} (h : x ∈ (List.replicate n l).flatten) : x ∈ l := by
  obtain ⟨m, hm, hx⟩ := List.mem_flatten.mp h
  rw [(List.mem_replicate.mp hm).2] at hx
  exact hx
/-- a list of values -/
theorem Val.list {n m : Nat} {ds : List PyData} (h1 : ∀ d ∈ ds, isVal d = true) (h2 : ∀ d ∈ ds, d.depth ≤ n) (h3 : szAll ds ≤ m) : Val (n + 1) (m + 1) (.list ds) :=
  ⟨by simpa only [isVal] using isValAll_iff.mpr h1, by simp only [PyData.depth]; have := depthAll_le h2; omega, by simp only [szD]; omega⟩
abbrev sGreat : Stmt := top 16
theorem scGreat : FnScope ["_law_bag_here", "_law_pick", "_law_made", "_law_turn", "_law_word", "_law_small", "_law_k"] ["_law_bag_here"] (defScope sGreat) := ⟨rfl, rfl, rfl, by decide +kernel, rfl, by decide +kernel, by decide +kernel⟩
/-- great(bag) -/
def spGreat (K : PySem.W.Frag) : Sp := fun vs H Q _ => ∃ (b : Addr) (J : Hp), vs = [.ref b] ∧ Bag H b ∧ J b = none ∧ Same J H ∧
  ∀ (v : V) (d : PyData) (J' H' : Hp), Gro b J H J' H' → Dp K J' v d → Val 12 400 d → Q v H'
section
variable {P : Program} {w : World} {K : PySem.W.Frag} {mg : Str → Option Value} {base : Heap}
theorem d_great (h : Has K mg "_law_great" sGreat) (B : Bi mg) (D_law_take : Dfn P w K mg base CX0 1 "_law_take" ["_law_bag_here", "_law_many"] spTake) (D_law_text : Dfn P w K mg base CX0 2 "_law_text" ["_law_bag_here", "_law_most"] spText)
    (D_law_value : Dfn P w K mg base CX0 26 "_law_value" ["_law_bag_here", "_law_deep", "_law_room"] (spValue K 6)) : Dfn P w K mg base CX0 27 "_law_great" ["_law_bag_here"] (spGreat K) := by
  refine dfn0 (k := 26) h B scGreat (fun _ _ _ _ _ _ us hl => match us, hl with | [_], _ => rfl) (fun vs H Q E h => ?_) (fun f cv A out s H vs Q E c h => ?_)
  · obtain ⟨b, J, rfl, _⟩ := h
    rfl
  obtain ⟨b, J, rfl, hB, jb, js, q⟩ := h
  refine ⟨_, (pss_cons (ps_set (i := 1) scGreat.nd rfl (Or.inl rfl) (pe_d D_law_take c (by omega) (by rfl) (pa_cons (pv 0) (pa_cons pe_int pa_nil))))
    (pss_cons (ps_if (pt_cmpR op_gt (pv 1) pe_int (nomark _)) (pss_one (ps_ret (pe_d D_law_value c (by omega) (by rfl) (pa_cons (pv 0) (pa_cons pe_int (pa_cons pe_int pa_nil)))))) pss_nil)
    (pss_cons (ps_if (pt_cmpR op_eq (pv 1) pe_int (nomark _)) (pss_cons (ps_set (i := 4) scGreat.nd rfl (Or.inl rfl) (pe_op op_add_str pe_str (pe_d D_law_text c (by omega) (by rfl) (pa_cons (pv 0) (pa_cons pe_int pa_nil)))))
    (pss_one (ps_ret (pe_slice sl_str (pe_op op_rep_str (pv 4) pe_int) po_none (po_some (pe_d D_law_take c (by omega) (by rfl) (pa_cons (pv 0) (pa_cons pe_int pa_nil)))))))) pss_nil)
    (pss_cons (ps_if (pt_cmpR op_eq (pv 1) pe_int (nomark _)) (pss_cons (ps_setLc (i := 5) (own := [("_law_turn", 3)]) (g := (gName 3)) (tt := tYes) rfl scGreat.nd rfl rfl (sw_true rfl rfl rfl (by decide +kernel)) (pi_range1 (by rfl) c.b.range (pa_cons (pe_op op_add pe_int (pe_d D_law_take c (by omega) (by rfl) (pa_cons (pv 0) (pa_cons pe_int pa_nil)))) pa_nil)) (blkOk_by (own := [("_law_turn", 3)]) (N := ["_law_bag_here", "_law_pick", "_law_made", "_law_turn", "_law_word", "_law_small", "_law_k"]) (sc := defScope sGreat) (by decide +kernel)) (fun _ _ _ _ _ => (pg_name (i := 3) scGreat.nd rfl (Or.inl rfl))) (fun _ _ _ _ _ => pts_nil) (fun _ _ _ _ _ => (pe_d D_law_value c (by omega) (by rfl) (pa_cons (pv 0) (pa_cons pe_int (pa_cons pe_int pa_nil))))))
    (pss_one (ps_ret (pe_slice sl_list (pe_op op_rep (pv 5) pe_int) po_none (po_some (pe_d D_law_take c (by omega) (by rfl) (pa_cons (pv 0) (pa_cons pe_int pa_nil)))))))) pss_nil)
    (pss_cons (ps_set (i := 2) scGreat.nd rfl (Or.inl rfl) (pe_d D_law_value c (by omega) (by rfl) (pa_cons (pv 0) (pa_cons pe_int (pa_cons pe_int pa_nil)))))
    (pss_cons (ps_for PassesOwn.never rfl (pi_range1 (by rfl) c.b.range (pa_cons (pe_d D_law_take c (by omega) (by rfl) (pa_cons (pv 0) (pa_cons pe_int pa_nil))) pa_nil)) (pg_name (i := 3) scGreat.nd rfl (Or.inl rfl))
    (pss_cons (ps_setLc (i := 5) (own := [("_law_k", 6)]) (g := (gName 6)) (tt := tYes) rfl scGreat.nd rfl rfl (sw_true rfl rfl rfl (by decide +kernel)) (pi_range1 (by rfl) c.b.range (pa_cons (pe_d D_law_take c (by omega) (by rfl) (pa_cons (pv 0) (pa_cons pe_int pa_nil))) pa_nil)) (blkOk_by (own := [("_law_k", 6)]) (N := ["_law_bag_here", "_law_pick", "_law_made", "_law_turn", "_law_word", "_law_small", "_law_k"]) (sc := defScope sGreat) (by decide +kernel)) (fun _ _ _ _ _ => (pg_name (i := 6) scGreat.nd rfl (Or.inl rfl))) (fun _ _ _ _ _ => pts_nil) (fun _ _ _ _ _ => (pe_d D_law_value c (by omega) (by rfl) (pa_cons (pv 0) (pa_cons pe_int (pa_cons pe_int pa_nil))))))
    (pss_one (ps_set (i := 2) scGreat.nd rfl (Or.inl rfl) (pe_ifExp (pt_cmpR op_eq (pe_d D_law_take c (by omega) (by rfl) (pa_cons (pv 0) (pa_cons pe_int pa_nil))) pe_int (nomark _)) (pe_op op_cat (pv 5) (pe_lst (pa_cons (pv 2) pa_nil))) (pe_op op_cat (pe_lst (pa_cons (pv 2) pa_nil)) (pv 5)))))))
    (pss_one (ps_ret (pv 2))))))))), ?_⟩
  refine ⟨_, rfl, b, 6, rfl, hB, by decide, by decide, fun pick H1 p0 p1 st1 => ?_⟩
  have g1 : Gro b J H J H1 := st1.gro jb js
  refine ⟨_, rfl, _, _, rfl, rfl, _, rfl, ite2 (fun _ => ?_) (fun _ => ?_)⟩
  · refine ⟨_, rfl, b, J, 4, 60, rfl, g1.st.bag, jb, g1.jh, by decide, by decide, by decide, by decide, fun v d J2 H2 g2 hd vd => ?_⟩
    exact q v d J2 H2 (g1.trans g2 hB) hd (vd.mono (by decide) (by decide))
  refine ⟨_, rfl, rfl, _, rfl, ite2 (fun _ => ?_) (fun _ => ?_)⟩
  · refine ⟨_, rfl, b, 5, rfl, g1.st.bag, by decide, by decide, fun x H2 xl xn st2 => ?_⟩
    have g2 := g1.step st2 hB jb
    refine ⟨_, _, rfl, rfl, (by show 1 + x.length ≤ sizeLine; rw [sizeLine_eq]; omega), ?_⟩
    have ql : ltr (("q" : Str) ++ x) = true := ltr_append (by decide) xl
    have qn : (("q" : Str) ++ x).length = 1 + x.length := by
      rw [strLen_append]; rfl
    refine ⟨_, rfl, _, _, rfl, rfl, by decide, by decide, by omega, fun u um un => ?_⟩
    refine ⟨_, rfl, b, 400, rfl, g2.st.bag, by decide, by decide, fun r H3 r0 r1 st3 => ⟨r, rfl, u, rfl, ?_, ?_⟩⟩
    · have : u.length ≤ 1000 * 399 := Nat.le_trans un (Nat.mul_le_mul (by omega) (by decide))
      rw [sizeLine_eq]; omega
    obtain ⟨c1, c2⟩ := cutS_to (z := u) r0
    refine q (.str _) (.str _) J H3 (g2.step st3 hB jb) (.str _) ⟨?_, by simp [PyData.depth], ?_⟩
    · simpa only [isVal] using ltr_sub (ltr_sub ql um) c1
    · simp only [szD]; omega
  refine ⟨_, rfl, rfl, _, rfl, ite2 (fun _ => ?_) (fun _ => ?_)⟩
  · -- many small ones
    refine ⟨_, rfl, b, 3, rfl, g1.st.bag, by decide, by decide, fun r H2 r0 r1 st2 => ?_⟩
    have g2 := g1.step st2 hB jb
    refine ⟨_, _, rfl, rfl, _, rfl, by omega, by omega, fun L hL => ?_⟩
    have hLH : H L = none := g2.st.free hB hL
    have Lb : L ≠ b := g2.st.ne hL
    refine lc_range (lo := 0) (n := (1 + r).toNat) (fun i H' => ∃ (Ji : Hp) (vs : List V) (ds : List PyData), Gro b J H Ji H' ∧ H' L = some (.lst vs) ∧ Ji L = none ∧ DpAll K Ji vs ds ∧ (∀ d ∈ ds, Val 1 2 d) ∧ vs.length = i)
      ⟨J, [], [], g2.new hL _, upd_same, js.free hLH, .nil, (fun _ h => nomatch h), rfl⟩ ?_ ?_
    · rintro i H3 hi ⟨Ji, vs, ds, g, hL3, jL, ha, va, vl⟩
      refine ⟨rfl, _, rfl, b, Ji, 1, 2, rfl, g.st.bag, g.noBag hB jb, g.jh, by decide, by decide, by decide, by decide, fun v d J2 H4 g4 hd vd => ?_⟩
      have jL2 : J2 L = none := g4.fr L (by rw [hL3]; simp) jL
      refine ⟨vs, g4.st.keep L _ Lb hL3, (by rw [sizeLine_eq]; omega), J2, vs ++ [v], ds ++ [d], (g.trans g4 hB).mut hLH jL2 Lb _, upd_same, jL2, DpAll.append (dpAll_mono g4.jj ds vs ha) (DpAll.one hd), ?_, by rw [List.length_append, vl]; rfl⟩
      exact fun x hx => (List.mem_append.mp hx).elim (va x) fun hx => by rw [List.mem_singleton.mp hx]; exact vd
    · rintro H3 ⟨Ji, vs, ds, g, hL3, jL, ha, va, vl⟩
      refine ⟨_, rfl, L, _, vs, rfl, rfl, hL3, by decide, by decide, ?_, fun p hp => ?_⟩
      · have : vs.length * 199 ≤ 4 * 199 := Nat.mul_le_mul_right _ (by omega)
        show vs.length * 199 ≤ sizeLine
        rw [sizeLine_eq]; omega
      have g3 := g.new hp (.lst (List.replicate (199 : Int).toNat vs).flatten)
      refine ⟨_, rfl, b, 200, rfl, g3.st.bag, by decide, by decide, fun k H4 k0 k1 st4 => ⟨k, rfl, p, _, rfl, SqL.of (st4.keep p _ (g.st.ne hp) upd_same), fun p2 hp2 => ?_⟩⟩
      have g4 := g3.step st4 hB jb
      have hj2 : Ji p2 = none := g4.jh.free hp2
      rw [cutV_to k0]
      refine q (.ref p2) (.list (((List.replicate (199 : Int).toNat ds).flatten).take k.toNat)) _ _ (g4.add hB hp2 _) (.lst (SqL.of upd_same) (dpAll_mono (same_new hj2 _) _ _ (DpAll.take k.toNat (DpAll.rep ha _)))) ?_
      have mem : ∀ d ∈ ((List.replicate (199 : Int).toNat ds).flatten).take k.toNat, Val 1 2 d := fun d hd => va d (mem_rep (List.mem_of_mem_take hd))
      refine (Val.list (n := 1) (m := 398) (fun d hd => (mem d hd).val) (fun d hd => (mem d hd).deep) ?_).mono (by decide) (by decide)
      have := szAll_le (B := 2) fun d hd => (mem d hd).size
      have h2 : (((List.replicate (199 : Int).toNat ds).flatten).take k.toNat).length ≤ k.toNat := List.length_take_le _ _
      omega
  · -- a deep one
    refine ⟨_, rfl, b, J, 3, 20, rfl, g1.st.bag, jb, g1.jh, by decide, by decide, by decide, by decide, fun v d J2 H2 g2 hd vd => ?_⟩
    have g3 := g1.trans g2 hB
    refine ⟨_, rfl, b, 10, rfl, g3.st.bag, by decide, by decide, fun t H3 t0 t1 st3 => ⟨t, rfl, by omega, by omega, ?_⟩⟩
    have g4 := g3.step st3 hB jb
    refine for_range (lo := 0) (n := t.toNat) (fun i σ H' => ∃ (u m : Option V) (mv : V) (md : PyData) (Ji : Hp), σ = [some (.ref b), some (.int pick), some mv, u, none, m, none] ∧ Gro b J H Ji H' ∧ Dp K Ji mv md ∧ Val (3 + i) (20 + 4 * i) md)
      ⟨none, none, v, d, J2, rfl, g4, hd, vd⟩ ?_ ?_
    · rintro i σ H4 hi ⟨u, m, mv, md, Ji, rfl, g, hmd, vmd⟩
      refine ⟨_, rfl, b, 2, rfl, g.st.bag, by decide, by decide, fun r H5 r0 r1 st5 => ⟨r, rfl, by omega, by omega, fun L hL => ?_⟩⟩
      have g5 := g.step st5 hB jb
      have hLH : H L = none := g5.st.free hB hL
      have Lb : L ≠ b := g5.st.ne hL
      refine lc_range (lo := 0) (n := r.toNat) (fun i H' => ∃ (Jk : Hp) (vs : List V) (ds : List PyData), Gro b J H Jk H' ∧ H' L = some (.lst vs) ∧ Jk L = none ∧ DpAll K Jk vs ds ∧ (∀ d ∈ ds, Val 1 3 d) ∧ vs.length = i ∧ Dp K Jk mv md)
        ⟨Ji, [], [], g5.new hL _, upd_same, g5.jh.free hL, .nil, (fun _ h => nomatch h), rfl, hmd⟩ ?_ ?_
      · rintro i H3 hi ⟨Jk, vs, ds, gk, hL3, jL, ha, va, vl, hm⟩
        refine ⟨rfl, _, rfl, b, Jk, 1, 3, rfl, gk.st.bag, gk.noBag hB jb, gk.jh, by decide, by decide, by decide, by decide, fun v d J3 H6 g6 hd vd => ?_⟩
        have jL2 : J3 L = none := g6.fr L (by rw [hL3]; simp) jL
        refine ⟨vs, g6.st.keep L _ Lb hL3, (by rw [sizeLine_eq]; omega), J3, vs ++ [v], ds ++ [d], (gk.trans g6 hB).mut hLH jL2 Lb _, upd_same, jL2, DpAll.append (dpAll_mono g6.jj ds vs ha) (DpAll.one hd), ?_, by rw [List.length_append, vl]; rfl, dp_mono g6.jj md mv hm⟩
        exact fun x hx => (List.mem_append.mp hx).elim (va x) fun hx => by rw [List.mem_singleton.mp hx]; exact vd
      · rintro H6 ⟨Jk, vs, ds, gk, hL6, jL, ha, va, vl, hm⟩
        have dl : vs.length = ds.length := DpAll.length ha
        have vmv := vmd.val
        have vmn := vmd.deep
        have vms := vmd.size
        have s3 := szAll_le (B := 3) fun d hd => (va d hd).size
        have done : ∀ (es : List PyData), (∀ d ∈ es, d = md ∨ d ∈ ds) → szAll es = szAll ds + szD md → Val (3 + (i + 1)) (20 + 4 * (i + 1)) (.list es) := by
          intro es he hs
          refine (Val.list (n := 3 + i) (m := 23 + 4 * i) (fun d hd => (he d hd).elim (fun z => by rw [z]; exact vmv) fun z => (va d z).val) (fun d hd => (he d hd).elim (fun z => by rw [z]; exact vmn) fun z => Nat.le_trans (va d z).deep (by omega)) (by omega)).mono (by omega) (by omega)
        refine ⟨_, rfl, b, 2, rfl, gk.st.bag, by decide, by decide, fun k H7 k0 k1 st7 => ⟨rfl, _, rfl, ?_⟩⟩
        have g7 := gk.step st7 hB jb
        have hL7 := st7.keep L _ Lb hL6
        refine ite2 (fun _ => ?_) (fun _ => ?_)
        · refine ⟨_, rfl, _, rfl, (by show 1 ≤ sizeLine; decide), fun p hp => ?_⟩
          refine ⟨L, p, vs, _, rfl, rfl, (by rw [upd_ne (ne_of_none hL7 hp)]; exact hL7), upd_same, (by show vs.length + 1 ≤ sizeLine; rw [sizeLine_eq]; omega), fun p2 hp2 => ?_⟩
          have g8 := (g7.new hp (.lst [mv])).add hB hp2 (.lst (vs ++ [mv]))
          have hj : Jk p2 = none := (g7.new hp (.lst [mv])).jh.free hp2
          refine ⟨_, _, _, .list (ds ++ [md]), _, rfl, g8, .lst (SqL.of upd_same) (dpAll_mono (same_new hj _) _ _ (DpAll.append ha (DpAll.one hm))), done _ (fun d hd => (List.mem_append.mp hd).elim .inr fun z => .inl (List.mem_singleton.mp z)) ?_⟩
          rw [szAll_append]; simp only [szAll]; omega
        · refine ⟨_, rfl, (by show 1 ≤ sizeLine; decide), fun p hp => ⟨_, rfl, ?_⟩⟩
          refine ⟨p, L, _, vs, rfl, rfl, upd_same, (by rw [upd_ne (ne_of_none hL7 hp)]; exact hL7), (by show 1 + vs.length ≤ sizeLine; rw [sizeLine_eq]; omega), fun p2 hp2 => ?_⟩
          have g8 := (g7.new hp (.lst [mv])).add hB hp2 (.lst ([mv] ++ vs))
          have hj : Jk p2 = none := (g7.new hp (.lst [mv])).jh.free hp2
          refine ⟨_, _, _, .list ([md] ++ ds), _, rfl, g8, .lst (SqL.of upd_same) (dpAll_mono (same_new hj _) _ _ (DpAll.append (DpAll.one hm) ha)), done _ (fun d hd => (List.mem_append.mp hd).elim (fun z => .inl (List.mem_singleton.mp z)) .inr) ?_⟩
          rw [szAll_append]; simp only [szAll]; omega
    · rintro σ H4 ⟨u, m, mv, md, Ji, rfl, g, hmd, vmd⟩
      exact ⟨_, rfl, q mv md Ji H4 g hmd (vmd.mono (by omega) (by omega))⟩
end
end Tx

namespace Tx
open PySem PySem.Spec PyProof.Rows L2
/-! ## Further rules: list(text); errors with a field of their own -/
theorem vals_of : ∀ (xs : List V) (us : List Value), xs.length = us.length → (∀ (j : Nat) (x : V) (u : Value), xs[j]? = some x → us[j]? = some u → RelV x u) → Vals xs us
  | [], [], _, _ => .nil
  | [], _ :: _, e, _ => by simp at e
  | _ :: _, [], e, _ => by simp at e
  | x :: xs, u :: us, e, h => .cons (h 0 x u rfl rfl) (vals_of xs us (by simpa using e) fun j y w h1 h2 => h (j + 1) y w (by simpa using h1) (by simpa using h2))
/-- the letters of a text, as texts -/
def sgn (z : Str) : List V := z.cps.toList.map fun c => V.str ⟨#[c]⟩
theorem call_listS {X : Cx} (hc : X.calm = true) : CallR X (.type "list") (fun xs H Q => ∃ z : Str, xs = [.str z] ∧ z.length ≤ sizeLine ∧ ∀ l, H l = none → Q (.ref l) (upd H l (.lst (sgn z)))) := by
  intro pins s σ H xs us Q I rel ask
  obtain ⟨z, rfl, hz, q⟩ := ask
  obtain ⟨u, rfl, r1⟩ := vals1 rel
  obtain ⟨t, rfl⟩ := r1
  refine call_list_str (I.ok.hd hc) z t (hn := hz) fun h' tk acc n keep new its => ?_
  have hl : acc.toList.length = z.cps.toList.length := by rw [Array.length_toList, Array.length_toList]; exact its.1
  refine ⟨.ref s.heap.objs.size, _, I.laid (t' := tk) (o := .lst (sgn z)) keep (Nat.le_refl _) ⟨?_, acc.toList, n, vals_of _ _ ?_ ?_, ?_⟩, rfl, q _ (I.hok.fresh (Nat.le_refl _))⟩
  · rw [sgn, List.length_map, Array.length_toList]; exact hz
  · rw [sgn, List.length_map, hl]
  · intro j x u hx hu
    obtain ⟨c, w, hc, rfl⟩ := its.2 j u (by simpa using hu)
    rw [sgn, List.getElem?_map, Array.getElem?_toList, hc] at hx
    cases hx
    exact ⟨w, rfl⟩
  · simpa using new
/-- isinstance(e, c), e the error that the suite holds, with or without fields -/
def rIsX (K : PySem.W.Frag) (D a : Addr) (cls : Value) (d : Option Addr) : List V → Hp → VK → Prop := fun xs H Q => ∃ (c : V) (cv : Value) (b : Bool), xs = [.ref a, c] ∧ cls = .ref D ∧ ClsV c cv ∧
  PySem.W.kitOne K (.ref D) cv = some b ∧ (∀ dd, d = some dd → ∃ fs, H dd = some (.xd fs)) ∧ Q (.bl b) H
def rIsXT (K : PySem.W.Frag) (D a : Addr) (cls : Value) (d : Option Addr) : List V → Hp → VK → Prop := fun xs H Q => ∃ (tp : Addr) (cs : List V) (us : List Value) (b : Bool), xs = [.ref a, .ref tp] ∧ cls = .ref D ∧ H tp = some (.tup cs) ∧
  Paired ClsV cs us ∧ PySem.W.kitAny K (.ref D) us = some b ∧ (∀ dd, d = some dd → ∃ fs, H dd = some (.xd fs)) ∧ Q (.bl b) H
section
variable {X : Cx} {a D : Addr} {oe : Obj} {cls : Value} {d : Option Addr} {pn : List (Addr × Obj)}
theorem inst_of {pins : List (Addr × Obj)} {σ : L2.St} {H : Hp} {s : Shared} (hz : Zc cls d oe) (hf : ∃ vs, oe.data = .fields vs) (I : Inv (X.suite a ((a, oe) :: pn)) pins σ H s) (ec : cls = .ref D)
    (hd : ∀ dd, d = some dd → ∃ fs, H dd = some (.xd fs)) : ∃ od, PySem.W.InstAt s.heap a oe D od := by
  obtain ⟨hg, _⟩ := I.pin (a, oe) (List.mem_append.mpr (.inl List.mem_cons_self))
  obtain ⟨vs, hv⟩ := hf
  have no : PySem.W.notCls oe = true := by unfold PySem.W.notCls; rw [hv] <;> rfl
  cases d with
  | none => exact ⟨none, ⟨hg, hz.1.trans ec, no, by rw [hz.2]; trivial⟩⟩
  | some dd =>
    obtain ⟨fs, e⟩ := hd dd rfl
    have ok : ObjOk X.prog X.w H s.heap dd (.xd fs) := I.hok dd _ e
    obtain ⟨mA, ⟨o, es, ep, ho, _⟩, _⟩ := ok
    exact ⟨some o, ⟨hg, hz.1.trans ec, no, by rw [hz.2]; exact ho⟩⟩
theorem kit_exc (C : ExcC X.K D) {od : Option Obj} : PySem.W.KitX X.K (.ref a) (.ref D) (fun h => PySem.W.InstAt h a oe D od) := by
  have hc : (PySem.W.clsIn X.K D).isSome = true := by
    obtain ⟨cd, e, _⟩ := PySem.W.any_some C.hd
    rw [e]; rfl
  exact PySem.W.kitx_exc hc C.hg C.hk C.hs C.ha C.hn C.ht C.hm
theorem call_isX (C : ExcC X.K D) (hz : Zc cls d oe) (hf : ∃ vs, oe.data = .fields vs) : CallR (X.suite a ((a, oe) :: pn)) (.builtin "isinstance") (rIsX X.K D a cls d) := by
  intro pins s σ H xs us Q I rel ask
  obtain ⟨c, cv, b, rfl, ec, kc, e, hd, q⟩ := ask
  obtain ⟨u1, u2, rfl, r1, r2⟩ := vals2 rel
  cases r1
  have e2 := kc.eq r2
  subst e2
  obtain ⟨od, J⟩ := inst_of hz hf I ec hd
  exact PySem.W.kia_one (kit_exc C) I.kIn J e (fun z => nomatch z) fun tk => ⟨.bl b, H, I.tok tk, rfl, q⟩
theorem call_isXT (C : ExcC X.K D) (hz : Zc cls d oe) (hf : ∃ vs, oe.data = .fields vs) : CallR (X.suite a ((a, oe) :: pn)) (.builtin "isinstance") (rIsXT X.K D a cls d) := by
  intro pins s σ H xs us Q I rel ask
  obtain ⟨tp, cs, ws, b, rfl, ec, hT, kc, e, hd, q⟩ := ask
  obtain ⟨u1, u2, rfl, r1, r2⟩ := vals2 rel
  cases r1
  cases (show u2 = Value.ref tp from r2)
  obtain ⟨_, its, rv, o, h1, h2, n, h3⟩ := (show ObjOk X.prog X.w H s.heap tp (.tup cs) from I.hok tp _ hT)
  have e3 := ClsV.all kc rv
  subst e3
  obtain ⟨oc, od, dt, sl⟩ := o
  simp only at h2 h3
  subst h2 h3
  obtain ⟨od, J⟩ := inst_of hz hf I ec hd
  exact PySem.W.kia_tup (kit_exc C) I.kIn J h1 e (fun z => nomatch z) fun tk => ⟨.bl b, H, I.tok tk, rfl, q⟩
end
/-- self.f = f, of a new error of the class at C -/
def spInit1 (C : Addr) (f : Str) : Sp := fun vs H Q _ => ∃ (a : Addr) (v : V), vs = [.ref a, v] ∧ H a = some (exo a C none) ∧
  ∀ dx, H dx = none → dx ≠ a → Q .non (upd (upd H dx (exd dx [(f, v)])) a (exo a C (some dx)))
/-- an error class with one field f: what the written part says of it -/
structure Err1 (P : Program) (w : World) (K : PySem.W.Frag) (mg : Str → Option Value) (base : Heap) (x f : Str) (C : Addr) : Prop where
  oex : OexC K C
  exc : ExcC K C
  gC : mg x = some (.ref C)
  noF : PySem.W.findIn K (.ref C) f = some none
  self : PySem.W.exmOne K (.ref C) (.ref C) = some true
  ini : ∃ (fI : Addr) (fd : FuncData), PySem.W.findIn K (.ref C) "__init__" = some (some (.ref fI)) ∧ PySem.W.typeIn K (.ref fI) = some (.type "function") ∧
    FnOk P w K mg base CX0 1 fI fd ["self", f] (spInit1 C f) ∧ Binds K fd ["self", f] []
theorem Err1.xf {P : Program} {w : World} {K : PySem.W.Frag} {mg : Str → Option Value} {base : Heap} {x f : Str} {C : Addr} (T : Err1 P w K mg base x f C) : XfC K C := ⟨T.exc.hg, T.exc.hk, T.exc.hs, T.exc.hd⟩
section
variable {X : Cx} {x f : Str} {C : Addr} {k : Nat} {W : WX} {e : Expr} {ta : TA} {p pos pos2 : Pos}
/-- raise x(e) -/
def tErr1 (C : Addr) (f : Str) (W : WX) (ta : TA) : TS := fun _ σ H => tMkO C (spInit1 C f) [] ta σ H fun cls d H' => W cls d σ H'
theorem ps_err1 (T : Err1 X.prog X.w X.K X.mg X.base x f C) (calm : X.calm = true) (room : Room (k + 2) X.A) (tk : Takes X W) (args : PA X [e] ta) (gl : Gl X x)
    (nd : (x == ("__debug__" : Str)) = false := by decide) (plain : starEach (e :: []) X.env = (false, eval e X.env) :: starEach [] X.env := by rfl) (bare : (backTo pos (starEach [] X.env)).any (·.1) = false := by rfl) :
    PS X (.Raise (some (.Call (.Name x p) [e] [] pos)) none pos2) (tErr1 C f W ta) := by
  obtain ⟨fI, fd, iC, tI, F, bd⟩ := T.ini
  exact ps_raise calm tk (pmk_oex T.oex iC tI F (room.mono (by omega)) bd .nil (fun _ _ _ _ _ _ _ h => False.elim h) gl T.gC args nd plain bare)
/-- what is left to show once the field is known -/
theorem err1 {v : V} {H : Hp} {Q : XK} (h : ∀ d, H d = none → Q (.ref C) (some d) (upd H d (.xd [(f, v)]))) : ([v] : List V).length ≤ 1000 ∧ ∀ a, H a = none → spInit1 C f (.ref a :: ([v] ++ [])) (upd H a (exo a C none))
    (fun u H2 => u = .non ∧ ∃ (d : Addr) (fs : List (Str × V)), H2 a = some (exo a C (some d)) ∧ H2 d = some (exd d fs) ∧ H d = none ∧ Q (.ref C) (some d) (upd (del H2 a) d (.xd fs))) (fun _ _ _ => False) := by
  refine ⟨(by show 1 ≤ 1000; decide), fun a ha => ⟨a, v, rfl, upd_same, fun dx hx ne => ⟨rfl, dx, [(f, v)], upd_same, ?_, ?_, ?_⟩⟩⟩
  · rw [upd_ne ne, upd_same]
  · rw [upd_ne ne] at hx
    exact hx
  · rw [upd_ne ne] at hx
    have e : upd (del (upd (upd (upd H a (exo a C none)) dx (exd dx [(f, v)])) a (exo a C (some dx))) a) dx (.xd [(f, v)]) = upd H dx (.xd [(f, v)]) := by
      funext b
      by_cases h1 : b = dx
      · rw [h1, upd_same, upd_same]
      · rw [upd_ne h1, upd_ne h1]
        by_cases h2 : b = a
        · rw [h2, del_same, ha]
        · rw [del_ne h2, upd_ne h2, upd_ne h1, upd_ne h2]
    rw [e]
    exact h dx hx
/-- f(e, ..), f a def of the module that may raise, where W wishes of what is raised -/
theorem pe_dS {j : Nat} {ps : List Str} {sp : Sp} {E : L2.St → XK} {es : List Expr} {t : TA} (D : Dfn X.prog X.w X.K X.mg X.base (L2.CX X.prog X.w) j x ps sp) (c : Ct X.mg X.A k) (h : j ≤ k) (gl : Gl X x)
    (out : ∀ σ, PassesAt (L2.CX X.prog X.w) X σ (E σ)) (args : PA X (e :: es) t) (nd : (x == ("__debug__" : Str)) = false := by decide)
    (plain : starEach (e :: es) X.env = (false, eval e X.env) :: starEach es X.env := by rfl) (bare : (backTo pos (starEach es X.env)).any (·.1) = false := by rfl) :
    PE X (.Call (.Name x p) (e :: es) [] pos) (tCallS sp E t) := by
  obtain ⟨f, fd, F, m, kp, bd⟩ := D
  constructor
  intro pins s σ H Q I ask
  refine wpAny_Call_Name_kw (ld_glob I gl m ?_ nd)
  refine PySem.W.callWith_K (h₀ := X.base) I.ok.mod.kin kp (thn (args.run pos pins s σ H _ I ask) ?_) plain bare
  rintro us s1 ⟨vs, H1, J, rel, q⟩
  refine ⟨J.kIn, ?_⟩
  have full : (us ++ []).length = ps.length := by rw [List.append_nil, ← rel.length]; exact F.len _ _ _ _ q
  have b2 := bd s1 us J.kIn full
  rw [List.append_nil] at b2
  refine wpAny_call (codeAny_mono (F.run X.A X.stack s1 H1 ⟨us, []⟩ us vs Q (E σ) (c.r.mono h) c.g J.env0 b2 rel q) ?_)
  intro r s2 got
  match r, got with
  | .ok (.ret u), got => exact J.after got
  | .ok .next, got => exact False.elim got
  | .ok .brk, got => exact False.elim got
  | .ok .cont, got => exact False.elim got
  | .error er, got => exact out σ pins H1 s1 er s2 J got
end
/-- from what the top has written to an error class with a field -/
theorem err1_of {P : Program} {w : World} {K : PySem.W.Frag} {mg : Str → Option Value} {base h : Heap} {x f : Str} {C fI N : Addr} {fd : FuncData} {nm q : Str} {bs bm sub : List Value} {sn : List Str} {ab : Bool} {col : Option Bool} {dd : Option Addr} {m0 m1 m2 m3 m5 : Option Value}
    (X : K.In h) (G : h.Ns mainGlobals mg) (aC : PySem.W.nsIn K mainGlobals x = some (some (.ref C)))
    (xL : K.lookup C = some (excClassObj nm q C N bs bm true sn sub ab col dd m0 m1 m2 m3 m5 "ValueError.__new__")) (vb : PySem.HandSPX.refsVE bm = true)
    (sa : PySem.W.findIn K (.ref C) "__setattr__" = some (some (.builtin "object.__setattr__"))) (ga : PySem.W.findIn K (.ref C) "__getattribute__" = some (some (.builtin "BaseException.__getattribute__")))
    (gg : PySem.W.findIn K (.ref C) "__getattr__" = some none) (nf : PySem.W.findIn K (.ref C) f = some none) (ai : PySem.W.findIn K (.ref C) "__init__" = some (some (.ref fI))) (ti : PySem.W.typeIn K (.ref fI) = some (.type "function"))
    (kC : PySem.W.keepIn K (.ref C) = true) (eC : PySem.W.subIn K (.ref C) (.type "BaseException") = some true) (tC : PySem.W.typeIn K (.ref C) = some (.type "type")) (hC : PySem.W.hasDictIn K C = true)
    (cC : PySem.W.findIn K (.ref C) "__class__" = some (some (.builtin "object.__class__"))) (gC : PySem.W.specialIn K (.builtin "object.__class__") "__get__" = some (some (.builtin "getset_descriptor.__get__")))
    (uC : PySem.W.takesIn K (.builtin "object.__class__") = some true) (oC : PySem.W.mroIn K C (.type "object") = some true) (sC : PySem.W.subIn K (.ref C) (.ref C) = some true)
    (ini : OexC K C → FnOk P w K mg base CX0 1 fI fd ["self", f] (spInit1 C f) ∧ Binds K fd ["self", f] []) : Err1 P w K mg base x f C := by
  have oex : OexC K C := ⟨⟨nm, q, N, bs, bm, sn, sub, ab, col, dd, m0, m1, m2, m3, m5, xL, vb⟩, sa, eC, tC, kC⟩
  exact ⟨oex, ⟨ga, gg, eC, hC, cC, gC, uC, oC⟩, PySem.W.mg_of X G aC, nf, PySem.W.exm_ref eC hC tC sC, fI, fd, ai, ti, (ini oex).1, (ini oex).2⟩
/-- a class of the module -/
structure Cls0 (mg : Str → Option Value) (x : Str) (C : Addr) : Prop where
  gC : mg x = some (.ref C)
theorem cls0_of {K : PySem.W.Frag} {mg : Str → Option Value} {h : Heap} {x : Str} {C : Addr} (X : K.In h) (G : h.Ns mainGlobals mg) (a : PySem.W.nsIn K mainGlobals x = some (some (.ref C))) : Cls0 mg x C := ⟨PySem.W.mg_of X G a⟩
theorem const_of {K : PySem.W.Frag} {mg : Str → Option Value} {h : Heap} {x z : Str} {t : Tok} (X : K.In h) (G : h.Ns mainGlobals mg) (a : PySem.W.nsIn K mainGlobals x = some (some (.str z t))) : ∃ t, mg x = some (.str z t) := ⟨t, PySem.W.mg_of X G a⟩
theorem pe_gcl {X : Cx} {x : Str} {C : Addr} {pos : Pos} (h : X.mg x = some (.ref C)) (gl : Gl X x) (hd : (x == ("__debug__" : Str)) = false := by decide) : PE X (.Name x pos) (tC (.ref C)) := pe_glob gl h rfl hd
theorem pe_gs {X : Cx} {x z : Str} {pos : Pos} (h : ∃ t, X.mg x = some (.str z t)) (gl : Gl X x) (hd : (x == ("__debug__" : Str)) = false := by decide) : PE X (.Name x pos) (tC (.str z)) := by
  obtain ⟨t, e⟩ := h
  exact pe_glob gl e ⟨t, rfl⟩ hd
end Tx

namespace Tx
open PySem PySem.Spec PyProof.Rows L2
/-! ## The first place at which something is no value -/
/-- a place, as a tuple of numbers -/
def plD (p : List Nat) : PyData := .tuple (p.map fun (n : Nat) => PyData.int (n : Int))
mutual
def wrongP : PyData → Option (List Nat)
  | .none => none
  | .str x => if ltr x = true then none else some []
  | .list xs => wrongAll 0 xs
  | _ => some []
def wrongAll (i : Nat) : List PyData → Option (List Nat)
  | [] => none
  | x :: xs => match wrongP x with
    | some p => some (i :: p)
    | none => wrongAll (i + 1) xs
end
def isTxt : PyData → Bool
  | .str x => ltr x
  | _ => false
theorem wrongAll_drop {ds : List PyData} {i : Nat} {d : PyData} (h : ds[i]? = some d) (n : wrongP d = none) (e : wrongAll 0 ds = wrongAll i (ds.drop i)) : wrongAll 0 ds = wrongAll (i + 1) (ds.drop (i + 1)) := by
  have hi : i < ds.length := (List.getElem?_eq_some_iff.mp h).1
  rw [e, List.drop_eq_getElem_cons hi]
  have hd : ds[i] = d := by rw [List.getElem?_eq_getElem hi] at h; exact Option.some.inj h
  rw [hd]
  simp only [wrongAll, n]
theorem wrongAll_at {ds : List PyData} {i : Nat} {d : PyData} {p : List Nat} (h : ds[i]? = some d) (n : wrongP d = some p) (e : wrongAll 0 ds = wrongAll i (ds.drop i)) : wrongAll 0 ds = some (i :: p) := by
  have hi : i < ds.length := (List.getElem?_eq_some_iff.mp h).1
  rw [e, List.drop_eq_getElem_cons hi]
  have hd : ds[i] = d := by rw [List.getElem?_eq_getElem hi] at h; exact Option.some.inj h
  rw [hd]
  simp only [wrongAll, n]
mutual
theorem wrong_len : ∀ (d : PyData) (p : List Nat), wrongP d = some p → p.length ≤ d.depth
  | .none, p, h => by simp [wrongP] at h
  | .bool _, p, h => by simp only [wrongP] at h; cases h; simp
  | .int _, p, h => by simp only [wrongP] at h; cases h; simp
  | .tuple _, p, h => by simp only [wrongP] at h; cases h; simp
  | .dict _, p, h => by simp only [wrongP] at h; cases h; simp
  | .str x, p, h => by
    simp only [wrongP] at h
    split at h
    · cases h
    · cases h; simp
  | .list xs, p, h => by
    simp only [wrongP] at h
    have := wrongAll_len xs 0 p h
    simpa only [PyData.depth] using this
theorem wrongAll_len : ∀ (xs : List PyData) (i : Nat) (p : List Nat), wrongAll i xs = some p → p.length ≤ PyData.depthAll xs + 1
  | [], i, p, h => by simp [wrongAll] at h
  | x :: xs, i, p, h => by
    simp only [wrongAll] at h
    simp only [PyData.depthAll]
    cases e : wrongP x with
    | some q =>
      rw [e] at h
      cases h
      have := wrong_len x q e
      simp only [List.length_cons]
      omega
    | none =>
      rw [e] at h
      have := wrongAll_len xs (i + 1) p h
      omega
end
theorem abc_mem (c : Nat) : decide (c ∈ (("abcdefghijklmnopqrstuvwxyz" : Str)).cps.toList) = decide (97 ≤ c ∧ c ≤ 122) := by
  have e : (("abcdefghijklmnopqrstuvwxyz" : Str)).cps.toList = List.range' 97 26 := by decide +kernel
  rw [e]
  by_cases h : 97 ≤ c ∧ c ≤ 122
  · rw [decide_eq_true h, decide_eq_true (List.mem_range'_1.mpr ⟨h.1, by omega⟩)]
  · rw [decide_eq_false h, decide_eq_false fun z => h (by have := List.mem_range'_1.mp z; omega)]
/-- a thing that the texts take: shown well, not too deep -/
structure Thing (n m : Nat) (d : PyData) : Prop where
  fine : fine d = true
  deep : d.depth ≤ n
  wt : wt d ≤ m
theorem Thing.mono {n m n' m' : Nat} {d : PyData} (h : Thing n m d) (h1 : n ≤ n') (h2 : m ≤ m') : Thing n' m' d := ⟨h.fine, Nat.le_trans h.deep h1, Nat.le_trans h.wt h2⟩
theorem Thing.ok {n m : Nat} {d : PyData} (h : Thing n m d) (h1 : n ≤ 60) (h2 : m ≤ 16000000) : Ok d := ⟨h.fine, Nat.le_trans h.deep h1, Nat.le_trans h.wt h2⟩
theorem Val.thing {n m : Nat} {d : PyData} (h : Val n m d) : Thing n (12 * m) d := ⟨val_fine d h.val, h.deep, by have := val_wt d h.val; have := h.size; omega⟩
theorem Thing.item {n m : Nat} {ds : List PyData} (h : Thing n m (.list ds)) {d : PyData} (hd : d ∈ ds) : Thing (n - 1) m d := by
  have h1 := h.fine
  have h2 := h.deep
  have h3 := h.wt
  simp only [Tx.fine] at h1
  simp only [PyData.depth] at h2
  simp only [Tx.wt] at h3
  have := depth_mem hd
  have := wt_mem hd
  exact ⟨fineAll_iff.mp h1 d hd, by omega, by omega⟩
mutual
theorem depth_wt : ∀ d : PyData, Tx.fine d = true → d.depth ≤ Tx.wt d
  | .none, _ => by simp [PyData.depth]
  | .bool _, _ => by simp [PyData.depth]
  | .int _, _ => by simp [PyData.depth]
  | .str _, _ => by simp [PyData.depth]
  | .list xs, h => by
    simp only [Tx.fine] at h
    have := depthAll_wt xs h
    simp only [PyData.depth, Tx.wt]
    omega
  | .tuple xs, h => by
    simp only [Tx.fine] at h
    have := depthAll_wt xs h
    simp only [PyData.depth, Tx.wt]
    omega
  | .dict _, h => by simp [Tx.fine] at h
theorem depthAll_wt : ∀ xs : List PyData, fineAll xs = true → PyData.depthAll xs ≤ wtAll xs
  | [], _ => by simp [PyData.depthAll]
  | x :: xs, h => by
    simp only [fineAll, Bool.and_eq_true] at h
    have := depth_wt x h.1
    have := depthAll_wt xs h.2
    simp only [PyData.depthAll, wtAll]
    omega
end
theorem len_le_wtAll : ∀ xs : List PyData, 2 * xs.length ≤ wtAll xs
  | [] => by simp [wtAll]
  | x :: xs => by
    have := len_le_wtAll xs
    simp only [wtAll, List.length_cons]
    omega
theorem Thing.len {n m : Nat} {ds : List PyData} (h : Thing n m (.list ds)) : 2 * ds.length ≤ m := by
  have h3 := h.wt
  simp only [Tx.wt] at h3
  have := len_le_wtAll ds
  omega
end Tx

namespace Tx
open PySem PySem.Spec PyProof.Rows L2
/-! ## Rules of the kit with the written part named (within a comprehension it must be) -/
section
variable {X : Cx} {K : PySem.W.Frag}
theorem op_catTK (h : X.K = K) : OpR X (binaryOp .Add) (rCatT K) := h ▸ op_catT
theorem op_eqDK (h : X.K = K) (u : X.A.units + 64 < cLine) : OpR X (compareOp .Eq) (rEqD K) := h ▸ op_eqD u
theorem op_neDK (h : X.K = K) (u : X.A.units + 64 < cLine) : OpR X (compareOp .NotEq) (rNeD K) := h ▸ op_neD u
theorem ix_listK (h : X.K = K) : IxR X (rIxL K) := h ▸ ix_list
theorem ix_tupK (h : X.K = K) : IxR X (rIxT K) := h ▸ ix_tup
theorem sl_listK (h : X.K = K) : SlR X (rSlL K) := h ▸ sl_list
theorem sl_tupK (h : X.K = K) : SlR X (rSlT K) := h ▸ sl_tup
theorem call_len_seqK (h : X.K = K) : CallR X (.builtin "len") (fun xs H Q => ∃ p ys, xs = [.ref p] ∧ (SqL K H p ys ∨ SqT K H p ys) ∧ Q (.int ys.length) H) := h ▸ call_len_seq
theorem call_isDK {T : String} (h : X.K = K) : CallR X (.builtin "isinstance") (rIsD K T) := h ▸ call_isD
theorem call_reprK (h : X.K = K) (gd : X.A.guards = some []) (hu : X.A.units + 64 < cLine) : CallR X (.builtin "repr") (rRepr K) := h ▸ call_repr gd hu
theorem op_in_seqK (h : X.K = K) : OpR X (compareOp .In) (rIn K false) := h ▸ op_in_seq
end
/-! ## Data that stays while the things at F are changed -/
def hide (F : List Addr) (H : Hp) : Hp := fun a => if a ∈ F then none else H a
def Dq (K : PySem.W.Frag) (F : List Addr) (H : Hp) (v : V) (d : PyData) : Prop := Dp K (hide F H) v d
def DqAll (K : PySem.W.Frag) (F : List Addr) (H : Hp) (vs : List V) (ds : List PyData) : Prop := DpAll K (hide F H) vs ds
/-- the things at F are there -/
def There (F : List Addr) (H : Hp) : Prop := ∀ a ∈ F, H a ≠ none
section
variable {K : PySem.W.Frag} {F : List Addr} {H H' : Hp} {p : Addr} {o : HO} {v : V} {d : PyData} {vs : List V} {ds : List PyData}
theorem hide_in (h : p ∈ F) : hide F H p = none := if_pos h
theorem hide_out (h : p ∉ F) : hide F H p = H p := if_neg h
theorem hide_le : Same (hide F H) H := fun a o e => by
  unfold hide at e
  split at e
  · cases e
  · exact e
theorem hide_same (s : Same H H') : Same (hide F H) (hide F H') := fun a o e => by
  unfold hide at e ⊢
  split at e
  · cases e
  · rename_i h; rw [if_neg h]; exact s a o e
theorem hide_cons : Same (hide (p :: F) H) (hide F H) := fun a o e => by
  unfold hide at e ⊢
  split at e
  · cases e
  · rename_i h; rw [if_neg fun z => h (List.mem_cons_of_mem _ z)]; exact e
theorem hide_sub {F' : List Addr} (h : ∀ a ∈ F, a ∈ F') : Same (hide F' H) (hide F H) := fun a o e => by
  unfold hide at e ⊢
  split at e
  · cases e
  · rename_i z; rw [if_neg fun y => z (h a y)]; exact e
theorem There.fresh (t : There F H) (h : H p = none) : p ∉ F := fun z => t p z h
theorem There.same (t : There F H) (s : Same H H') : There F H' := fun a h => by
  cases q : H a with
  | none => exact absurd q (t a h)
  | some o => rw [s a o q]; simp
theorem There.upd (t : There F H) : There F (upd H p o) := fun a h => by
  by_cases z : a = p
  · rw [z, upd_same]; simp
  · rw [upd_ne z]; exact t a h
theorem There.cons (t : There F H) (h : H p = some o) : There (p :: F) H := fun a z => by
  cases z with
  | head => rw [h]; simp
  | tail _ z => exact t a z
theorem There.one (h : H p = some o) : There [p] H := fun a z => by rw [List.mem_singleton.mp z, h]; simp
theorem hide_upd (h : p ∉ F) : hide F (upd H p o) = upd (hide F H) p o := by
  funext a
  by_cases z : a = p
  · subst z; rw [hide_out h, upd_same, upd_same]
  · rw [upd_ne z]
    unfold hide
    rw [upd_ne z]
theorem hide_upd_in (h : p ∈ F) : hide F (upd H p o) = hide F H := by
  funext a
  unfold hide
  split
  · rfl
  · rename_i z; rw [upd_ne fun y => z (by rw [y]; exact h)]
theorem hide_mut (h : p ∈ F) : Same (hide F H) (hide F (upd H p o)) := by rw [hide_upd_in h]; exact Same.refl _
theorem Dq.dp (h : Dq K F H v d) : Dp K H v d := dp_mono hide_le d v h
theorem DqAll.dp (h : DqAll K F H vs ds) : DpAll K H vs ds := dpAll_mono hide_le ds vs h
theorem Dq.to (h : Dq K F H v d) (s : Same (hide F H) (hide F H')) : Dq K F H' v d := dp_mono s d v h
theorem DqAll.to (h : DqAll K F H vs ds) (s : Same (hide F H) (hide F H')) : DqAll K F H' vs ds := dpAll_mono s ds vs h
theorem Dq.same (h : Dq K F H v d) (s : Same H H') : Dq K F H' v d := h.to (hide_same s)
theorem DqAll.same (h : DqAll K F H vs ds) (s : Same H H') : DqAll K F H' vs ds := h.to (hide_same s)
theorem Dq.less (h : Dq K (p :: F) H v d) : Dq K F H v d := dp_mono hide_cons d v h
theorem DqAll.less (h : DqAll K (p :: F) H vs ds) : DqAll K F H vs ds := dpAll_mono hide_cons ds vs h
/-- a further thing is guarded that is new -/
theorem Dq.more (h : Dq K F H v d) (n : H p = none) : Dq K (p :: F) H v d := dp_mono (fun a o e => by
  have z : a ≠ p := fun z => by rw [z] at e; have := hide_le p o e; rw [n] at this; cases this
  unfold hide at e ⊢
  split at e
  · cases e
  · rename_i y; rw [if_neg fun q => by cases q with | head => exact z rfl | tail _ q => exact y q]; exact e) d v h
theorem DqAll.more (h : DqAll K F H vs ds) (n : H p = none) : DqAll K (p :: F) H vs ds := dpAll_mono (fun a o e => by
  have z : a ≠ p := fun z => by rw [z] at e; have := hide_le p o e; rw [n] at this; cases this
  unfold hide at e ⊢
  split at e
  · cases e
  · rename_i y; rw [if_neg fun q => by cases q with | head => exact z rfl | tail _ q => exact y q]; exact e) ds vs h
/-- a list (a tuple) of one's own -/
theorem Dq.lst (n : p ∉ F) (e : H p = some (.lst vs)) (h : DqAll K (p :: F) H vs ds) : Dq K F H (.ref p) (.list ds) := L2.Dp.lst (SqL.of (by rw [hide_out n]; exact e)) h.less
theorem Dq.tup (n : p ∉ F) (e : H p = some (.tup vs)) (h : DqAll K F H vs ds) : Dq K F H (.ref p) (.tuple ds) := L2.Dp.tup (SqT.of (by rw [hide_out n]; exact e)) h
theorem Dq.newL (n : H p = none) (t : There F H) (h : DqAll K F H vs ds) : Dq K F (upd H p (.lst vs)) (.ref p) (.list ds) :=
  L2.Dp.lst (SqL.of (by rw [hide_out (t.fresh n), upd_same])) (h.same (same_new n _))
theorem Dq.newT (n : H p = none) (t : There F H) (h : DqAll K F H vs ds) : Dq K F (upd H p (.tup vs)) (.ref p) (.tuple ds) :=
  L2.Dp.tup (SqT.of (by rw [hide_out (t.fresh n), upd_same])) (h.same (same_new n _))
/-- a place: numbers alone -/
theorem place_q {b : Addr} {q : List Nat} (hb : ∀ ys, H b ≠ some (.tup ys)) (hf : ∀ o ys, H b ≠ some (.frz o (.tup ys))) (h : Dp K H v (plD q)) : Dq K [b] H v (plD q) := by
  cases h with
  | @tup a xs _ hs ha =>
  have ha' : ∀ (q : List Nat) (xs : List V), DpAll K H xs (q.map fun (n : Nat) => PyData.int (n : Int)) → DpAll K (hide [b] H) xs (q.map fun (n : Nat) => PyData.int (n : Int)) := by
    intro q
    induction q with
    | nil => intro xs h; cases h; exact .nil
    | cons n q ih =>
      intro xs h
      cases h with
      | cons h1 h2 => cases h1; exact .cons (.int _) (ih _ h2)
  refine L2.Dp.tup ?_ (ha' q xs ha)
  rcases hs with (e | ⟨o, e⟩) | e
  · exact .inl (.inl (by rw [hide_out fun z => hb xs (by rw [← List.mem_singleton.mp z]; exact e)]; exact e))
  · exact .inl (.inr ⟨o, by rw [hide_out fun z => hf o xs (by rw [← List.mem_singleton.mp z]; exact e)]; exact e⟩)
  · exact .inr e
end
section
variable {K : PySem.W.Frag} {b : Addr} {F : List Addr} {H H' J' : Hp} {v : V} {d : PyData}
theorem Stp.hide (s : Stp b H H') (h : b ∈ F) : Same (hide F H) (hide F H') := fun a o e => by
  unfold Tx.hide at e ⊢
  split at e
  · cases e
  · rename_i z; rw [if_neg z]; exact s.keep a o (fun y => z (by rw [y]; exact h)) e
theorem Stp.thereF (s : Stp b H H') (hB : Bag H b) (t : There F H) : There F H' := fun a h => s.there hB (t a h)
theorem Gro.hide (g : Gro b (hide F H) H J' H') (t : There F H) : Same J' (Tx.hide F H') := fun a o e => by
  have n : a ∉ F := fun z => by rw [g.fr a (t a z) (hide_in z)] at e; cases e
  rw [hide_out n]
  exact g.jh a o e
theorem Gro.dq (g : Gro b (Tx.hide F H) H J' H') (t : There F H) (h : Dp K J' v d) : Dq K F H' v d := dp_mono (g.hide t) d v h
theorem Bag.there (h : Bag H b) : There [b] H := by
  obtain ⟨c, m, e⟩ := h
  exact There.one e
theorem Bag.same (h : Bag H b) (s : Same H H') : Bag H' b := by
  obtain ⟨c, m, e⟩ := h
  exact ⟨c, m, s _ _ e⟩
theorem Stp.ofSame (h : Bag H b) (s : Same H H') : Stp b H H' := ⟨h.same s, SameBut.of s⟩
end
end Tx

namespace Tx
open PySem PySem.Spec PyProof.Rows L2
/-! ## More about errors: without fields, with two; of which class is told by the reading -/
/-- an error class without a field -/
structure Err0 (K : PySem.W.Frag) (mg : Str → Option Value) (x : Str) (C : Addr) : Prop where
  q : PySem.W.excIn K C [.type "ValueError", .type "Exception", .type "BaseException", .type "object"] "ValueError.__new__" = true
  gC : mg x = some (.ref C)
  kC : PySem.W.keepIn K (.ref C) = true
  exC : PySem.W.subIn K (.ref C) (.type "BaseException") = some true
  tyC : PySem.W.typeIn K (.ref C) = some (.type "type")
  exc : ExcC K C
  self : PySem.W.exmOne K (.ref C) (.ref C) = some true
section
variable {X : Cx} {x : Str} {C : Addr} {k : Nat} {W : WX} {p pos pos2 : Pos}
theorem ps_err0 (T : Err0 X.K X.mg x C) (calm : X.calm = true) (room : Room (k + 2) X.A) (tk : Takes X W) (_ : PA X [] tNil) (gl : Gl X x) (nd : (x == ("__debug__" : Str)) = false := by decide) :
    PS X (.Raise (some (.Call (.Name x p) [] [] pos)) none pos2) (fun _ σ H => W (.ref C) none σ H) := by
  refine ps_raise (t := fun _ H Q => Q (.ref C) none H) calm tk ?_
  intro pins s σ H Q I ask
  refine wpAny_Call_Name_kw (ld_glob I gl T.gC ?_ nd)
  refine PySem.W.callWith_K0 I.kIn T.kC ?_
  show wpAny _ _ (call (.ref C) []) _ _ _
  obtain ⟨bm, N, nm, qn, bs, hdct, sn, sub, ab, col, dd, k0, k1, k2, k3, k5, mN, hC, hN, hni, tail⟩ := exc_obj I.kIn T.q
  refine wpAny_call_exc_subT F.excBase_ValueError tail hC hN hni (fun h' e made => ?_) (by decide)
  exact mk_of I made (raises_own T.exC T.tyC) ask (I.hok.gone made.new)
end
/-- self.f = f; self.g = g -/
def spInit2 (C : Addr) (f g : Str) : Sp := fun vs H Q _ => ∃ (a : Addr) (v u : V), vs = [.ref a, v, u] ∧ H a = some (exo a C none) ∧
  ∀ dx, H dx = none → dx ≠ a → Q .non (upd (upd (upd H dx (exd dx [(f, v)])) a (exo a C (some dx))) dx (exd dx [(g, u), (f, v)]))
structure Err2 (P : Program) (w : World) (K : PySem.W.Frag) (mg : Str → Option Value) (base : Heap) (x f g : Str) (C : Addr) : Prop where
  oex : OexC K C
  exc : ExcC K C
  gC : mg x = some (.ref C)
  noF : PySem.W.findIn K (.ref C) f = some none
  noG : PySem.W.findIn K (.ref C) g = some none
  ini : ∃ (fI : Addr) (fd : FuncData), PySem.W.findIn K (.ref C) "__init__" = some (some (.ref fI)) ∧ PySem.W.typeIn K (.ref fI) = some (.type "function") ∧
    FnOk P w K mg base CX0 1 fI fd ["self", f, g] (spInit2 C f g) ∧ Binds K fd ["self", f, g] []
section
variable {X : Cx} {x f g : Str} {C : Addr} {k : Nat} {W : WX} {e e' : Expr} {ta : TA} {p pos pos2 : Pos}
def tErr2 (C : Addr) (f g : Str) (W : WX) (ta : TA) : TS := fun _ σ H => tMkO C (spInit2 C f g) [] ta σ H fun cls d H' => W cls d σ H'
theorem ps_err2 (T : Err2 X.prog X.w X.K X.mg X.base x f g C) (calm : X.calm = true) (room : Room (k + 2) X.A) (tk : Takes X W) (args : PA X [e, e'] ta) (gl : Gl X x)
    (nd : (x == ("__debug__" : Str)) = false := by decide) (plain : starEach (e :: [e']) X.env = (false, eval e X.env) :: starEach [e'] X.env := by rfl) (bare : (backTo pos (starEach [e'] X.env)).any (·.1) = false := by rfl) :
    PS X (.Raise (some (.Call (.Name x p) [e, e'] [] pos)) none pos2) (tErr2 C f g W ta) := by
  obtain ⟨fI, fd, iC, tI, F, bd⟩ := T.ini
  exact ps_raise calm tk (pmk_oex T.oex iC tI F (room.mono (by omega)) bd .nil (fun _ _ _ _ _ _ _ h => False.elim h) gl T.gC args nd plain bare)
theorem err2 {v u : V} {H : Hp} {Q : XK} (h : ∀ d, H d = none → Q (.ref C) (some d) (upd H d (.xd [(g, u), (f, v)]))) : ([v, u] : List V).length ≤ 1000 ∧ ∀ a, H a = none → spInit2 C f g (.ref a :: ([v, u] ++ [])) (upd H a (exo a C none))
    (fun z H2 => z = .non ∧ ∃ (d : Addr) (fs : List (Str × V)), H2 a = some (exo a C (some d)) ∧ H2 d = some (exd d fs) ∧ H d = none ∧ Q (.ref C) (some d) (upd (del H2 a) d (.xd fs))) (fun _ _ _ => False) := by
  refine ⟨(by show 2 ≤ 1000; decide), fun a ha => ⟨a, v, u, rfl, upd_same, fun dx hx ne => ⟨rfl, dx, [(g, u), (f, v)], ?_, upd_same, ?_, ?_⟩⟩⟩
  · rw [upd_ne (Ne.symm ne), upd_same]
  · rw [upd_ne ne] at hx
    exact hx
  · rw [upd_ne ne] at hx
    have e : upd (del (upd (upd (upd (upd H a (exo a C none)) dx (exd dx [(f, v)])) a (exo a C (some dx))) dx (exd dx [(g, u), (f, v)])) a) dx (.xd [(g, u), (f, v)]) = upd H dx (.xd [(g, u), (f, v)]) := by
      funext b
      by_cases h1 : b = dx
      · rw [h1, upd_same, upd_same]
      · rw [upd_ne h1, upd_ne h1]
        by_cases h2 : b = a
        · rw [h2, del_same, ha]
        · rw [del_ne h2, upd_ne h1, upd_ne h2, upd_ne h1, upd_ne h2]
    rw [e]
    exact h dx hx
end
section
variable {X : Cx} {a : Addr} {oe : Obj} {cls : Value} {d : Option Addr} {pn : List (Addr × Obj)} {K : PySem.W.Frag}
theorem call_isXg (hK : X.K = K) (hz : Zc cls d oe) (hf : ∃ vs, oe.data = .fields vs) : CallR (X.suite a ((a, oe) :: pn)) (.builtin "isinstance") (fun xs H Q => ∃ D, ExcC K D ∧ rIsX K D a cls d xs H Q) := by
  subst hK
  intro pins s σ H xs us Q I rel ask
  obtain ⟨D, C, h⟩ := ask
  exact call_isX C hz hf pins s σ H xs us Q I rel h
theorem pe_xg {e : Expr} {te : TE} {pos : Pos} {n : Str} (hK : X.K = K) (hz : Zc cls d oe) (hf : ∃ vs, oe.data = .fields vs) (he : PE (X.suite a ((a, oe) :: pn)) e te) (hb : attributeBase e n X.env (eval e X.env) = eval e X.env := by rfl) :
    PE (X.suite a ((a, oe) :: pn)) (.Attribute e n pos) (fun σ H Q => ∃ C, XfC K C ∧ PySem.W.findIn K (.ref C) n = some none ∧ tXf a cls d C n te σ H Q) := by
  subst hK
  refine ⟨fun pins s σ H Q I ask => ?_⟩
  obtain ⟨C, T, no, h⟩ := ask
  exact (pe_xf T no hz hf he hb).run pins s σ H Q I h
end
/-- two numbers compared -/
theorem ifI {i j : Int} {A B : Prop} (h1 : i = j → A) (h2 : i ≠ j → B) : if decide (V.int i = V.int j) = true then A else B := by
  by_cases h : i = j
  · rw [decide_eq_true (by rw [h])]
    exact iteT (h1 h)
  · rw [decide_eq_false fun z => h (by injection z)]
    exact iteF (h2 h)
/-- a class directly over the package's own base T -/
def MroT (K : PySem.W.Frag) (C T : Addr) : Prop := ∃ cd, PySem.W.clsIn K C = some cd ∧ cd.mro = [.ref C, .ref T, .type "ValueError", .type "Exception", .type "BaseException", .type "object"]
theorem mroT_of {K : PySem.W.Frag} {C T N : Addr} {nm q : Str} {bs sub : List Value} {sn : List Str} {hd ab : Bool} {col : Option Bool} {dd : Option Addr} {m0 m1 m2 m3 m5 : Option Value}
    (xL : K.lookup C = some (excClassObj nm q C N bs [.ref T, .type "ValueError", .type "Exception", .type "BaseException", .type "object"] hd sn sub ab col dd m0 m1 m2 m3 m5 "ValueError.__new__")) : MroT K C T := by
  unfold MroT PySem.W.clsIn
  rw [xL]
  exact ⟨_, rfl, rfl⟩
section
variable {K : PySem.W.Frag} {C D T : Addr}
theorem MroT.sub (m : MroT K C T) (v : Value) : PySem.W.subIn K (.ref C) v = some ([Value.ref C, .ref T, .type "ValueError", .type "Exception", .type "BaseException", .type "object"].contains v) := by
  obtain ⟨cd, e, hm⟩ := m
  show PySem.W.mroIn K C v = _
  unfold PySem.W.mroIn
  rw [e, Option.bind_some, hm]
  rfl
theorem MroT.kit (m : MroT K C T) (hc : (PySem.W.clsIn K D).isSome = true) (ht : PySem.W.typeIn K (.ref D) = some (.type "type")) (ne : D ≠ T) : PySem.W.kitOne K (.ref C) (.ref D) = some (decide (C = D)) := by
  unfold PySem.W.kitOne
  by_cases h : C = D
  · rw [if_pos (by rw [h]; exact beq_self_eq_true _), decide_eq_true h]
  · rw [if_neg (by intro z; exact h (Value.ref.inj (beq_iff_eq.mp z))), decide_eq_false h]
    show (if ((PySem.W.clsIn K D).isSome && PySem.W.typeIn K (.ref D) == some (.type "type")) = true then PySem.W.subIn K (.ref C) (.ref D) else none) = some false
    rw [if_pos (by rw [hc, ht]; decide), m.sub]
    refine congrArg some ?_
    have h1 : (Value.ref D == Value.ref C) = false := beq_eq_false_iff_ne.mpr fun z => h (Value.ref.inj z).symm
    have h2 : (Value.ref D == Value.ref T) = false := beq_eq_false_iff_ne.mpr fun z => ne (Value.ref.inj z)
    simp only [List.contains, List.elem, h1, h2]
    rfl
theorem MroT.kitT (m : MroT K C T) (hc : (PySem.W.clsIn K T).isSome = true) (ht : PySem.W.typeIn K (.ref T) = some (.type "type")) : PySem.W.kitOne K (.ref C) (.ref T) = some true := by
  unfold PySem.W.kitOne
  by_cases h : C = T
  · rw [if_pos (by rw [h]; exact beq_self_eq_true _)]
  · rw [if_neg (by intro z; exact h (Value.ref.inj (beq_iff_eq.mp z)))]
    show (if ((PySem.W.clsIn K T).isSome && PySem.W.typeIn K (.ref T) == some (.type "type")) = true then PySem.W.subIn K (.ref C) (.ref T) else none) = some true
    rw [if_pos (by rw [hc, ht]; decide), m.sub]
    simp
theorem MroT.kitV (m : MroT K C T) : PySem.W.kitOne K (.ref C) (.type "ValueError") = some true := by
  unfold PySem.W.kitOne
  rw [if_neg (by intro z; cases (beq_iff_eq.mp z))]
  show (if PySem.W.kitMeta "ValueError" = true then PySem.W.subIn K (.ref C) (.type "ValueError") else none) = some true
  rw [if_pos (by decide +kernel), m.sub]
  simp
theorem MroT.exm (m : MroT K C T) (hd : PySem.W.hasDictIn K T = true) (hb : PySem.W.subIn K (.ref T) (.type "BaseException") = some true) (ht : PySem.W.typeIn K (.ref T) = some (.type "type")) : PySem.W.exmOne K (.ref C) (.ref T) = some true :=
  PySem.W.exm_ref hb hd ht (by rw [m.sub]; simp)
theorem MroT.some (m : MroT K C T) : (PySem.W.clsIn K C).isSome = true := by
  obtain ⟨cd, e, _⟩ := m
  rw [e]
  rfl
end
theorem err0_of {K : PySem.W.Frag} {mg : Str → Option Value} {h : Heap} {x : Str} {C : Addr} (X : K.In h) (G : h.Ns mainGlobals mg) (aC : PySem.W.nsIn K mainGlobals x = some (some (.ref C)))
    (q : PySem.W.excIn K C [.type "ValueError", .type "Exception", .type "BaseException", .type "object"] "ValueError.__new__" = true)
    (ga : PySem.W.findIn K (.ref C) "__getattribute__" = some (some (.builtin "BaseException.__getattribute__"))) (gg : PySem.W.findIn K (.ref C) "__getattr__" = some none)
    (kC : PySem.W.keepIn K (.ref C) = true) (eC : PySem.W.subIn K (.ref C) (.type "BaseException") = some true) (tC : PySem.W.typeIn K (.ref C) = some (.type "type")) (hC : PySem.W.hasDictIn K C = true)
    (cC : PySem.W.findIn K (.ref C) "__class__" = some (some (.builtin "object.__class__"))) (gC : PySem.W.specialIn K (.builtin "object.__class__") "__get__" = some (some (.builtin "getset_descriptor.__get__")))
    (uC : PySem.W.takesIn K (.builtin "object.__class__") = some true) (oC : PySem.W.mroIn K C (.type "object") = some true) (sC : PySem.W.subIn K (.ref C) (.ref C) = some true) : Err0 K mg x C :=
  ⟨q, PySem.W.mg_of X G aC, kC, eC, tC, ⟨ga, gg, eC, hC, cC, gC, uC, oC⟩, PySem.W.exm_ref eC hC tC sC⟩
theorem err2_of {P : Program} {w : World} {K : PySem.W.Frag} {mg : Str → Option Value} {base h : Heap} {x f g : Str} {C fI N : Addr} {fd : FuncData} {nm q : Str} {bs bm sub : List Value} {sn : List Str} {ab : Bool} {col : Option Bool} {dd : Option Addr} {m0 m1 m2 m3 m5 : Option Value}
    (X : K.In h) (G : h.Ns mainGlobals mg) (aC : PySem.W.nsIn K mainGlobals x = some (some (.ref C)))
    (xL : K.lookup C = some (excClassObj nm q C N bs bm true sn sub ab col dd m0 m1 m2 m3 m5 "ValueError.__new__")) (vb : PySem.HandSPX.refsVE bm = true)
    (sa : PySem.W.findIn K (.ref C) "__setattr__" = some (some (.builtin "object.__setattr__"))) (ga : PySem.W.findIn K (.ref C) "__getattribute__" = some (some (.builtin "BaseException.__getattribute__")))
    (gg : PySem.W.findIn K (.ref C) "__getattr__" = some none) (nf : PySem.W.findIn K (.ref C) f = some none) (ng : PySem.W.findIn K (.ref C) g = some none) (ai : PySem.W.findIn K (.ref C) "__init__" = some (some (.ref fI))) (ti : PySem.W.typeIn K (.ref fI) = some (.type "function"))
    (kC : PySem.W.keepIn K (.ref C) = true) (eC : PySem.W.subIn K (.ref C) (.type "BaseException") = some true) (tC : PySem.W.typeIn K (.ref C) = some (.type "type")) (hC : PySem.W.hasDictIn K C = true)
    (cC : PySem.W.findIn K (.ref C) "__class__" = some (some (.builtin "object.__class__"))) (gC : PySem.W.specialIn K (.builtin "object.__class__") "__get__" = some (some (.builtin "getset_descriptor.__get__")))
    (uC : PySem.W.takesIn K (.builtin "object.__class__") = some true) (oC : PySem.W.mroIn K C (.type "object") = some true)
    (ini : OexC K C → FnOk P w K mg base CX0 1 fI fd ["self", f, g] (spInit2 C f g) ∧ Binds K fd ["self", f, g] []) : Err2 P w K mg base x f g C := by
  have oex : OexC K C := ⟨⟨nm, q, N, bs, bm, sn, sub, ab, col, dd, m0, m1, m2, m3, m5, xL, vb⟩, sa, eC, tC, kC⟩
  exact ⟨oex, ⟨ga, gg, eC, hC, cC, gC, uC, oC⟩, PySem.W.mg_of X G aC, nf, ng, fI, fd, ai, ti, (ini oex).1, (ini oex).2⟩
end Tx

namespace Tx
open PySem PySem.Spec PyProof.Rows L2
/-! ## More rules: max with a default; a def that cannot raise here -/
/-- the greatest, or z -/
def maxOr (z : Int) : List Int → Int
  | [] => z
  | n :: r => r.foldl max n
def rMaxDf (K : PySem.W.Frag) : List V → List V → Hp → VK → Prop := fun vs zs H Q => ∃ (a : Addr) (ns : List Int) (z : Int), vs = [.ref a] ∧ zs = [.int z] ∧ SqL K H a (ns.map V.int) ∧ Q (.int (maxOr z ns)) H
theorem dp_ints {K : PySem.W.Frag} {H : Hp} : ∀ ns : List Int, DpAll K H (ns.map V.int) (ns.map PyData.int)
  | [] => .nil
  | n :: ns => .cons (.int n) (dp_ints ns)
theorem depth_ints : ∀ ns : List Int, PyData.depthAll (ns.map PyData.int) = 0
  | [] => rfl
  | n :: ns => by simp [PyData.depthAll, PyData.depth, depth_ints ns]
theorem cr_maxDf {X : Cx} (hc : X.calm = true) (hu : X.A.units + 64 < cLine) : CallRK X (.builtin "max") [Str.ofString "default"] (rMaxDf X.K) := by
  intro pins s σ H vs zs us ws Q I r rz h
  obtain ⟨a, ns, z, rfl, rfl, hs, q⟩ := h
  obtain ⟨its, rv, hl, _⟩ := I.list hs
  rw [Vals.ref1 r]
  obtain ⟨w1, rfl, t, rfl⟩ := vals1 rz
  obtain ⟨as, rd⟩ := Dp.readsAll I _ _ _ (dp_ints ns) rv
  have al : PySem.W.AlikeAll (ns.map PyData.int) := by
    refine ⟨fun x hx y hy => ?_, fun x hx => ?_⟩
    · obtain ⟨i, _, rfl⟩ := List.mem_map.mp hx
      obtain ⟨j, _, rfl⟩ := List.mem_map.mp hy
      rfl
    · obtain ⟨i, _, rfl⟩ := List.mem_map.mp hx
      exact fun z => nomatch z
  refine PySem.W.max_list_default (d := .int z t) (I.ok.hd hc) hl.isList (by simpa using rd) al (by rw [depth_ints]; omega) (fun e h' tk hk => ?_) (fun y ys i v h' tk bs e hv rd' hk => ?_)
  · obtain rfl : ns = [] := by cases ns with | nil => rfl | cons n r => cases e
    exact ⟨.int z, H, I.kept hk, ⟨t, rfl⟩, q⟩
  · cases ns with
    | nil => cases e
    | cons n r =>
      rw [List.map_cons] at e
      injection e with e1 e2
      subst e1 e2
      rw [PySem.W.maxD_ints] at rd'
      cases rd'
      exact ⟨.int _, H, I.kept hk, ⟨_, rfl⟩, q⟩
theorem foldl_max (ds : List PyData) : ∀ n : Nat, (ds.map fun d => (d.depth : Int)).foldl max (n : Int) = ((max n (PyData.depthAll ds) : Nat) : Int) := by
  induction ds with
  | nil => intro n; simp [PyData.depthAll]
  | cons d ds ih =>
    intro n
    rw [List.map_cons, List.foldl_cons]
    have : max (n : Int) (d.depth : Int) = ((max n d.depth : Nat) : Int) := by omega
    rw [this, ih]
    simp only [PyData.depthAll]
    omega
theorem maxOr_depth (ds : List PyData) : maxOr 0 (ds.map fun d => (d.depth : Int)) = (PyData.depthAll ds : Int) := by
  cases ds with
  | nil => rfl
  | cons d ds =>
    show (ds.map fun d => (d.depth : Int)).foldl max (d.depth : Int) = _
    rw [foldl_max]
    rfl
theorem Dfn.calm {P : Program} {w : World} {K : PySem.W.Frag} {mg : Str → Option Value} {base : Heap} {k : Nat} {x : Str} {ps : List Str} {sp sp' : Sp} (D : Dfn P w K mg base (L2.CX P w) k x ps sp) (h : ∀ vs H Q E, sp' vs H Q E → sp vs H Q fun _ _ _ => False) : Dfn P w K mg base CX0 k x ps sp' := by
  obtain ⟨f, fd, F, m, kp, bd⟩ := D
  refine ⟨f, fd, ⟨fun vs H Q E z => F.len _ _ _ _ (h _ _ _ _ z), fun A out s H ar us vs Q E r g e b v z => ?_⟩, m, kp, bd⟩
  refine codeAny_mono (F.run A out s H ar us vs Q _ r g e b v (h _ _ _ _ z)) fun r s' got => ?_
  match r, got with
  | .ok (.ret u), got => exact got
  | .ok .next, got => exact False.elim got
  | .ok .brk, got => exact False.elim got
  | .ok .cont, got => exact False.elim got
  | .error er, ⟨_, _, _, _, _, _, _, _, _, _, _, _, no⟩ => exact False.elim no
/-! ## New things made of new things; what may be done to them -/
mutual
/-- v stands for d, all its lists are outside B, each below another, and have at most M 'x' behind -/
def Nw (M : Nat) (H : Hp) : PyData → (Addr → Prop) → V → Prop
  | .none, _, v => v = .non
  | .str x, _, v => v = .str x
  | .list ds, B, v => ∃ (a : Addr) (vs : List V) (k : Nat), v = .ref a ∧ ¬ B a ∧ H a = some (.lst (vs ++ List.replicate k (.str "x"))) ∧ k ≤ M ∧ NwAll M H ds (fun x => B x ∨ x = a) vs
  | .bool _, _, _ => False
  | .int _, _, _ => False
  | .tuple _, _, _ => False
  | .dict _, _, _ => False
def NwAll (M : Nat) (H : Hp) : List PyData → (Addr → Prop) → List V → Prop
  | [], _, vs => vs = []
  | d :: ds, B, vs => ∃ (v : V) (ws : List V), vs = v :: ws ∧ Nw M H d B v ∧ NwAll M H ds B ws
end
mutual
theorem Nw.to {M M' : Nat} {H H' : Hp} (hM : M ≤ M') : ∀ (d : PyData) (B B' : Addr → Prop) (v : V), (∀ a, B' a → B a) → (∀ a o, ¬ B a → H a = some o → H' a = some o) → Nw M H d B v → Nw M' H' d B' v
  | .none, _, _, _, _, _, h => by simpa only [Nw] using h
  | .str _, _, _, _, _, _, h => by simpa only [Nw] using h
  | .list ds, B, B', v, hB, hH, h => by
    simp only [Nw] at h ⊢
    obtain ⟨a, vs, k, e, n, ha, hk, hA⟩ := h
    exact ⟨a, vs, k, e, fun z => n (hB a z), hH a _ n ha, by omega, NwAll.to hM ds _ _ vs (fun x hx => hx.imp (hB x) id) (fun x o nx hx => hH x o (fun z => nx (.inl z)) hx) hA⟩
  | .bool _, _, _, _, _, _, h => by simp only [Nw] at h
  | .int _, _, _, _, _, _, h => by simp only [Nw] at h
  | .tuple _, _, _, _, _, _, h => by simp only [Nw] at h
  | .dict _, _, _, _, _, _, h => by simp only [Nw] at h
theorem NwAll.to {M M' : Nat} {H H' : Hp} (hM : M ≤ M') : ∀ (ds : List PyData) (B B' : Addr → Prop) (vs : List V), (∀ a, B' a → B a) → (∀ a o, ¬ B a → H a = some o → H' a = some o) → NwAll M H ds B vs → NwAll M' H' ds B' vs
  | [], _, _, _, _, _, h => by simpa only [NwAll] using h
  | d :: ds, B, B', vs, hB, hH, h => by
    simp only [NwAll] at h ⊢
    obtain ⟨v, ws, e, h1, h2⟩ := h
    exact ⟨v, ws, e, Nw.to hM d B B' v hB hH h1, NwAll.to hM ds B B' ws hB hH h2⟩
end
theorem dp_xs {K : PySem.W.Frag} {H : Hp} : ∀ k : Nat, DpAll K H (List.replicate k (.str "x")) (List.replicate k (.str "x"))
  | 0 => .nil
  | k + 1 => .cons (.str _) (dp_xs k)
mutual
theorem Nw.some {K : PySem.W.Frag} {M : Nat} {H : Hp} : ∀ (d : PyData) (B : Addr → Prop) (v : V), Nw M H d B v → ∃ e, Dp K H v e ∧ isL e = isL d
  | .none, _, v, h => by simp only [Nw] at h; subst h; exact ⟨.none, .non, rfl⟩
  | .str x, _, v, h => by simp only [Nw] at h; subst h; exact ⟨.str x, .str x, rfl⟩
  | .list ds, B, v, h => by
    simp only [Nw] at h
    obtain ⟨a, vs, k, rfl, n, ha, hk, hA⟩ := h
    obtain ⟨es, he⟩ := NwAll.some ds _ vs hA
    exact ⟨.list (es ++ List.replicate k (.str "x")), .lst (SqL.of ha) (DpAll.append he (dp_xs k)), rfl⟩
  | .bool _, _, _, h => by simp only [Nw] at h
  | .int _, _, _, h => by simp only [Nw] at h
  | .tuple _, _, _, h => by simp only [Nw] at h
  | .dict _, _, _, h => by simp only [Nw] at h
theorem NwAll.some {K : PySem.W.Frag} {M : Nat} {H : Hp} : ∀ (ds : List PyData) (B : Addr → Prop) (vs : List V), NwAll M H ds B vs → ∃ es, DpAll K H vs es
  | [], _, vs, h => by simp only [NwAll] at h; subst h; exact ⟨[], .nil⟩
  | d :: ds, B, vs, h => by
    simp only [NwAll] at h
    obtain ⟨v, ws, rfl, h1, h2⟩ := h
    obtain ⟨e, he, _⟩ := Nw.some (K := K) d B v h1
    obtain ⟨es, hes⟩ := NwAll.some (K := K) ds B ws h2
    exact ⟨e :: es, .cons he hes⟩
end
mutual
theorem Nw.dp {K : PySem.W.Frag} {H : Hp} : ∀ (d : PyData) (B : Addr → Prop) (v : V), Nw 0 H d B v → Dp K H v d
  | .none, _, v, h => by simp only [Nw] at h; subst h; exact .non
  | .str x, _, v, h => by simp only [Nw] at h; subst h; exact .str x
  | .list ds, B, v, h => by
    simp only [Nw] at h
    obtain ⟨a, vs, k, rfl, n, ha, hk, hA⟩ := h
    obtain rfl : k = 0 := by omega
    rw [List.replicate_zero, List.append_nil] at ha
    exact .lst (SqL.of ha) (NwAll.dp ds _ vs hA)
  | .bool _, _, _, h => by simp only [Nw] at h
  | .int _, _, _, h => by simp only [Nw] at h
  | .tuple _, _, _, h => by simp only [Nw] at h
  | .dict _, _, _, h => by simp only [Nw] at h
theorem NwAll.dp {K : PySem.W.Frag} {H : Hp} : ∀ (ds : List PyData) (B : Addr → Prop) (vs : List V), NwAll 0 H ds B vs → DpAll K H vs ds
  | [], _, vs, h => by simp only [NwAll] at h; subst h; exact .nil
  | d :: ds, B, vs, h => by
    simp only [NwAll] at h
    obtain ⟨v, ws, rfl, h1, h2⟩ := h
    exact .cons (Nw.dp d B v h1) (NwAll.dp ds B ws h2)
end
section
variable {M : Nat} {H H' : Hp} {B : Addr → Prop}
theorem NwAll.len : ∀ {ds : List PyData} {vs : List V}, NwAll M H ds B vs → vs.length = ds.length
  | [], vs, h => by simp only [NwAll] at h; rw [h]; rfl
  | d :: ds, vs, h => by
    simp only [NwAll] at h
    obtain ⟨v, ws, rfl, h1, h2⟩ := h
    simp only [List.length_cons, NwAll.len h2]
theorem NwAll.get : ∀ {ds : List PyData} {vs : List V} {i : Nat} {v : V}, NwAll M H ds B vs → vs[i]? = Option.some v → ∃ d, ds[i]? = Option.some d ∧ Nw M H d B v
  | [], vs, i, v, h, e => by simp only [NwAll] at h; rw [h] at e; simp at e
  | d :: ds, vs, 0, v, h, e => by
    simp only [NwAll] at h
    obtain ⟨u, ws, rfl, h1, h2⟩ := h
    simp at e
    subst e
    exact ⟨d, rfl, h1⟩
  | d :: ds, vs, i + 1, v, h, e => by
    simp only [NwAll] at h
    obtain ⟨u, ws, rfl, h1, h2⟩ := h
    obtain ⟨c, e1, e2⟩ := NwAll.get (i := i) (v := v) h2 (by simpa using e)
    exact ⟨c, by simpa using e1, e2⟩
theorem NwAll.append : ∀ {ds es : List PyData} {vs ws : List V}, NwAll M H ds B vs → NwAll M H es B ws → NwAll M H (ds ++ es) B (vs ++ ws)
  | [], es, vs, ws, h, g => by simp only [NwAll] at h; rw [h]; exact g
  | d :: ds, es, vs, ws, h, g => by
    simp only [NwAll] at h
    obtain ⟨v, us, rfl, h1, h2⟩ := h
    show NwAll M H (d :: (ds ++ es)) B (v :: (us ++ ws))
    simp only [NwAll]
    exact ⟨v, us ++ ws, rfl, h1, NwAll.append h2 g⟩
theorem NwAll.one {d : PyData} {v : V} (h : Nw M H d B v) : NwAll M H [d] B [v] := by
  simp only [NwAll]
  exact ⟨v, [], rfl, h, rfl⟩
theorem NwAll.xs : ∀ k : Nat, NwAll M H (List.replicate k (.str "x")) B (List.replicate k (.str "x"))
  | 0 => by rw [List.replicate_zero, List.replicate_zero]; simp only [NwAll]
  | k + 1 => by
    rw [List.replicate_succ, List.replicate_succ]
    simp only [NwAll]
    exact ⟨_, _, rfl, by simp only [Nw], NwAll.xs k⟩
end
/-- from H to H' some lists outside C have got up to k 'x' more -/
def Evo (C : Addr → Prop) (k : Nat) (H H' : Hp) : Prop := ∀ a o, H a = Option.some o → H' a = Option.some o ∨ (¬ C a ∧ ∃ vs j, o = .lst vs ∧ j ≤ k ∧ H' a = Option.some (.lst (vs ++ List.replicate j (.str "x"))))
section
variable {C C' : Addr → Prop} {k j : Nat} {H H1 H2 : Hp}
theorem Evo.same (s : Same H H1) : Evo C k H H1 := fun a o e => .inl (s a o e)
theorem Evo.trans (x : Evo C k H H1) (y : Evo C j H1 H2) : Evo C (k + j) H H2 := by
  intro a o e
  rcases x a o e with e1 | ⟨n, vs, i, rfl, hi, e1⟩
  · rcases y a o e1 with e2 | ⟨n, vs, i, rfl, hi, e2⟩
    · exact .inl e2
    · exact .inr ⟨n, vs, i, rfl, by omega, e2⟩
  · rcases y a _ e1 with e2 | ⟨_, vs2, i2, e0, hi2, e2⟩
    · exact .inr ⟨n, vs, i, rfl, by omega, e2⟩
    · injection e0 with e0
      subst e0
      refine .inr ⟨n, vs, i + i2, rfl, by omega, ?_⟩
      rw [e2, List.append_assoc, List.replicate_append_replicate]
theorem Evo.weak (x : Evo C k H H1) (hC : ∀ a, C' a → C a) (hk : k ≤ j) : Evo C' j H H1 := fun a o e =>
  (x a o e).imp id fun ⟨n, vs, i, e1, hi, e2⟩ => ⟨fun z => n (hC a z), vs, i, e1, by omega, e2⟩
theorem Evo.keep (x : Evo C k H H1) {a : Addr} {o : HO} (hC : C a) (e : H a = Option.some o) : H1 a = Option.some o := (x a o e).elim id fun z => absurd hC z.1
theorem Evo.old {H0 : Hp} (x : Evo (fun a => H0 a ≠ none) k H H1) (s : Same H0 H) : Same H0 H1 := fun a o e => x.keep (by rw [e]; simp) (s a o e)
end
mutual
theorem Nw.evo {M k : Nat} {C : Addr → Prop} {H H' : Hp} (x : Evo C k H H') : ∀ (d : PyData) (B : Addr → Prop) (v : V), Nw M H d B v → Nw (M + k) H' d B v
  | .none, _, _, h => by simpa only [Nw] using h
  | .str _, _, _, h => by simpa only [Nw] using h
  | .list ds, B, v, h => by
    simp only [Nw] at h ⊢
    obtain ⟨a, vs, i, e, n, ha, hk, hA⟩ := h
    have hA' := NwAll.evo x ds _ vs hA
    rcases x a _ ha with e1 | ⟨_, ws, j, e0, hj, e1⟩
    · exact ⟨a, vs, i, e, n, e1, by omega, hA'⟩
    · injection e0 with e0
      subst e0
      refine ⟨a, vs, i + j, e, n, ?_, by omega, hA'⟩
      rw [e1, List.append_assoc, List.replicate_append_replicate]
  | .bool _, _, _, h => by simp only [Nw] at h
  | .int _, _, _, h => by simp only [Nw] at h
  | .tuple _, _, _, h => by simp only [Nw] at h
  | .dict _, _, _, h => by simp only [Nw] at h
theorem NwAll.evo {M k : Nat} {C : Addr → Prop} {H H' : Hp} (x : Evo C k H H') : ∀ (ds : List PyData) (B : Addr → Prop) (vs : List V), NwAll M H ds B vs → NwAll (M + k) H' ds B vs
  | [], _, _, h => by simpa only [NwAll] using h
  | d :: ds, B, vs, h => by
    simp only [NwAll] at h ⊢
    obtain ⟨v, ws, e, h1, h2⟩ := h
    exact ⟨v, ws, e, Nw.evo x d B v h1, NwAll.evo x ds B ws h2⟩
end
mutual
/-- how many lists -/
def nl : PyData → Nat
  | .list ds => 1 + nlAll ds
  | _ => 0
def nlAll : List PyData → Nat
  | [] => 0
  | d :: ds => nl d + nlAll ds
end
theorem nlAll_append : ∀ (xs ys : List PyData), nlAll (xs ++ ys) = nlAll xs + nlAll ys
  | [], ys => by simp [nlAll]
  | x :: xs, ys => by simp only [List.cons_append, nlAll, nlAll_append xs ys]; omega
theorem nlAll_xs : ∀ k : Nat, nlAll (List.replicate k (.str "x")) = 0
  | 0 => rfl
  | k + 1 => by rw [List.replicate_succ]; simp [nlAll, nl, nlAll_xs k]
theorem nl_take {xs : List PyData} {i : Nat} {d : PyData} (h : xs[i]? = Option.some d) : nlAll (xs.take (i + 1)) = nlAll (xs.take i) + nl d := by
  rw [List.take_add_one, h, nlAll_append]
  simp [nlAll]
theorem nl_take_le (xs : List PyData) (i : Nat) : nlAll (xs.take i) ≤ nlAll xs := by
  have h := nlAll_append (xs.take i) (xs.drop i)
  rw [List.take_append_drop] at h
  omega
mutual
theorem nl_le : ∀ d : PyData, nl d ≤ szD d
  | .list ds => by have := nlAll_le ds; simp only [nl, szD]; omega
  | .none => by simp [nl]
  | .str _ => by simp [nl]
  | .bool _ => by simp [nl]
  | .int _ => by simp [nl]
  | .tuple _ => by simp [nl]
  | .dict _ => by simp [nl]
theorem nlAll_le : ∀ ds : List PyData, nlAll ds ≤ szAll ds
  | [] => by simp [nlAll]
  | d :: ds => by have := nl_le d; have := nlAll_le ds; simp only [nlAll, szAll]; omega
end
end Tx

namespace Tx
open PySem PySem.Spec PyProof.Rows L2
/-! ## The program's values: copied, kind_of, size_of, depth_of -/
abbrev sCopied : Stmt := top 5
theorem scCopied : FnScope ["value", "one"] ["value"] (defScope sCopied) := ⟨rfl, rfl, rfl, by decide +kernel, rfl, by decide +kernel, by decide +kernel⟩
abbrev sSizeOf : Stmt := top 7
theorem scSizeOf : FnScope ["value", "one"] ["value"] (defScope sSizeOf) := ⟨rfl, rfl, rfl, by decide +kernel, rfl, by decide +kernel, by decide +kernel⟩
abbrev sDepthOf : Stmt := top 8
theorem scDepthOf : FnScope ["value", "one"] ["value"] (defScope sDepthOf) := ⟨rfl, rfl, rfl, by decide +kernel, rfl, by decide +kernel, by decide +kernel⟩
abbrev sKindOf : Stmt := top 6
theorem scKindOf : FnScope ["value"] ["value"] (defScope sKindOf) := ⟨rfl, rfl, rfl, by decide +kernel, rfl, by decide +kernel, by decide +kernel⟩
/-- copied(v): a new thing of new lists -/
def spCopied (K : PySem.W.Frag) (n : Nat) : Sp := fun vs H Q _ => ∃ (v : V) (d : PyData), vs = [v] ∧ Dp K H v d ∧ isVal d = true ∧ d.depth < n ∧ szD d ≤ 1000000 ∧
  ∀ u H', Same H H' → Nw 0 H' d (fun a => H a ≠ none) u → Q u H'
/-- depth_of(v) -/
def spDepth (K : PySem.W.Frag) (n : Nat) : Sp := fun vs H Q _ => ∃ (v : V) (d : PyData), vs = [v] ∧ Dp K H v d ∧ isVal d = true ∧ d.depth < n ∧ szD d ≤ 1000000 ∧
  ∀ H', Same H H' → Q (.int d.depth) H'
def knd : PyData → Str
  | .none => "nothing"
  | .str _ => "text"
  | _ => "list"
def spKind (K : PySem.W.Frag) : Sp := fun vs H Q _ => ∃ (v : V) (d : PyData), vs = [v] ∧ Dp K H v d ∧ isVal d = true ∧ Q (.str (knd d)) H
section
variable {P : Program} {w : World} {K : PySem.W.Frag} {mg : Str → Option Value} {base : Heap}
theorem d_copied (h : Has K mg "copied" sCopied) (B : Bi mg) : ∀ n, Dfn P w K mg base CX0 n "copied" ["value"] (spCopied K n)
  | 0 => dfn_none h (fun _ _ _ _ _ _ us hl => match us, hl with | [_], _ => rfl) fun vs H Q E z => by
    obtain ⟨_, _, _, _, _, z, _⟩ := z
    omega
  | n + 1 => by
    have D_copied := d_copied h B n
    refine dfn0 h B scCopied (fun _ _ _ _ _ _ us hl => match us, hl with | [_], _ => rfl) (fun vs H Q E h => ?_) (fun f cv A out s H vs Q E c h => ?_)
    · obtain ⟨v, d, rfl, _⟩ := h
      rfl
    obtain ⟨v, d, rfl, hd, val, dn, sz, q⟩ := h
    refine ⟨_, (pss_cons (ps_if (pt_val (pe_callB (call_isD (T := "list")) (by rfl) c.b.isinstance (by decide +kernel) (pa_cons (pv 0) (pa_cons (pe_bltn (v := .ty "list") (by rfl) c.b.list (by decide +kernel) rfl) pa_nil)))) (pss_one (ps_ret (pe_lc (own := [("one", 1)]) (g := (gName 1)) (tt := tYes) rfl scCopied.nd (pi_list (pv 0)) (blkOk_by (own := [("one", 1)]) (N := ["value", "one"]) (sc := defScope sCopied) (by decide +kernel)) (fun _ _ _ _ _ => (pg_name (i := 1) scCopied.nd rfl (Or.inl rfl))) (fun _ _ _ _ _ => pts_nil) (fun _ _ _ _ _ => (pe_d D_copied c (by omega) (by rfl) (pa_cons (pv 1) pa_nil)))))) pss_nil)
    (pss_one (ps_ret (pv 0)))), ?_⟩
    refine ⟨_, rfl, _, d, _, rfl, hd, kit_list _, _, rfl, ?_⟩
    cases d with
    | none =>
      cases hd
      exact iteF ⟨_, rfl, q _ _ (Same.refl _) (by simp only [Nw])⟩
    | str x =>
      cases hd
      exact iteF ⟨_, rfl, q _ _ (Same.refl _) (by simp only [Nw])⟩
    | list ds =>
      refine iteT ?_
      cases hd with
      | @lst a xs _ hs ha =>
      have sx : szD (.list ds) = 1 + szAll ds := by simp [szD]
      have hlen := DpAll.length ha
      have hle := len_le_szAll ds
      simp only [PyData.depth] at dn
      simp only [isVal] at val
      refine ⟨_, rfl, a, rfl, ⟨_, hs⟩, fun L hL => ?_⟩
      refine lc_list (K := K) (a := a) (xs := xs) (fun i H' => Same H H' ∧ ∃ us, H' L = some (.lst us) ∧ NwAll 0 H' (ds.take i) (fun x => H x ≠ none ∨ x = L) us)
        ⟨same_new hL _, [], upd_same, by rw [List.take_zero]; simp only [NwAll]⟩ (fun i H' _ z => z.1.seq hs) ?_ ?_
      · rintro i x H1 hx ⟨sm, us, hL1, hN⟩
        obtain ⟨d, e1, e2⟩ := DpAll.get ha hx
        have hm := List.mem_of_getElem? e1
        have hi : i < ds.length := (List.getElem?_eq_some_iff.mp e1).1
        have hul := hN.len
        rw [List.length_take] at hul
        refine ⟨rfl, _, rfl, _, d, rfl, dp_mono sm d _ e2, isValAll_iff.mp val d hm, ?_, ?_, fun u H2 sm2 hu => ?_⟩
        · have := depth_mem hm
          omega
        · have := szD_mem hm
          omega
        have up : ∀ (a : Addr) (o : HO), ¬ (H a ≠ none ∨ a = L) → H2 a = some o → upd H2 L (.lst (us ++ [u])) a = some o := fun a o n e => by
          rw [upd_ne fun z => n (.inr z)]; exact e
        refine ⟨us, sm2 _ _ hL1, ?_, (fun b o e => ?_), us ++ [u], upd_same, ?_⟩
        · rw [sizeLine_eq]
          omega
        · rw [upd_ne (ne_of_none e hL)]
          exact sm2 _ _ (sm _ _ e)
        · rw [List.take_add_one, e1]
          refine NwAll.append (NwAll.to (Nat.le_refl _) _ _ _ _ (fun _ z => z) (fun a o n e => up a o n (sm2 _ _ e)) hN) (NwAll.one (Nw.to (Nat.le_refl _) d _ _ u (fun a z => ?_) (fun a o n e => ?_) hu))
          · rcases z with z | z
            · cases q : H a with
              | none => exact absurd q z
              | some o => rw [sm _ _ q]; simp
            · rw [z, hL1]; simp
          · rw [upd_ne fun z => n (by rw [z, hL1]; simp)]; exact e
      · rintro H1 ⟨sm, us, hL1, hN⟩
        rw [hlen, List.take_length] at hN
        refine q _ _ sm ?_
        simp only [Nw]
        exact ⟨L, us, 0, rfl, fun z => z hL, by rw [List.replicate_zero, List.append_nil]; exact hL1, Nat.le_refl _, hN⟩
    | bool _ => simp [isVal] at val
    | int _ => simp [isVal] at val
    | tuple _ => simp [isVal] at val
    | dict _ => simp [isVal] at val
theorem d_size_of (h : Has K mg "size_of" sSizeOf) (B : Bi mg) : ∀ n, Dfn P w K mg base CX0 n "size_of" ["value"] (spSize K n)
  | 0 => dfn_none h (fun _ _ _ _ _ _ us hl => match us, hl with | [_], _ => rfl) fun vs H Q E z => by
    obtain ⟨_, _, _, _, _, z, _⟩ := z
    omega
  | n + 1 => by
    have D_size_of := d_size_of h B n
    refine dfn0 h B scSizeOf (fun _ _ _ _ _ _ us hl => match us, hl with | [_], _ => rfl) (fun vs H Q E h => ?_) (fun f cv A out s H vs Q E c h => ?_)
    · obtain ⟨v, d, rfl, _⟩ := h
      rfl
    obtain ⟨v, d, rfl, hd, val, dn, sz, q⟩ := h
    refine ⟨_, (pss_cons (ps_if (pt_cmpR op_isN (pv 0) pe_non (nomark _)) (pss_one (ps_ret pe_int)) pss_nil)
    (pss_cons (ps_if (pt_val (pe_callB (call_isD (T := "str")) (by rfl) c.b.isinstance (by decide +kernel) (pa_cons (pv 0) (pa_cons (pe_bltn (v := .ty "str") (by rfl) c.b.str (by decide +kernel) rfl) pa_nil)))) (pss_one (ps_ret (pe_op op_add pe_int (pe_callB call_len_str (by rfl) c.b.len PySem.boot_len (pa_cons (pv 0) pa_nil))))) pss_nil)
    (pss_one (ps_ret (pe_op op_add pe_int (pe_callB (cr_sum rfl) (by rfl) c.b.sum (by decide +kernel) (pa_cons (pe_lc (own := [("one", 1)]) (g := (gName 1)) (tt := tYes) rfl scSizeOf.nd (pi_list (pv 0)) (blkOk_by (own := [("one", 1)]) (N := ["value", "one"]) (sc := defScope sSizeOf) (by decide +kernel)) (fun _ _ _ _ _ => (pg_name (i := 1) scSizeOf.nd rfl (Or.inl rfl))) (fun _ _ _ _ _ => pts_nil) (fun _ _ _ _ _ => (pe_d D_size_of c (by omega) (by rfl) (pa_cons (pv 1) pa_nil)))) pa_nil))))))), ?_⟩
    cases d with
    | none =>
      cases hd
      refine ⟨_, rfl, rfl, _, rfl, iteT (q _ (Same.refl _))⟩
    | str x =>
      cases hd
      refine ⟨_, rfl, rfl, _, rfl, iteF ⟨_, rfl, _, .str x, _, rfl, .str x, kit_str _, _, rfl, iteT ?_⟩⟩
      have sx : szD (.str x) = 1 + x.length := by simp [szD]
      refine ⟨_, rfl, x, rfl, (by rw [sizeLine_eq]; omega), _, _, rfl, rfl, ?_⟩
      have := q _ (Same.refl _)
      rw [sx] at this
      simpa using this
    | list ds =>
      cases hd with
      | @lst a xs _ hs ha =>
      refine ⟨_, rfl, rfl, _, rfl, iteF ⟨_, rfl, _, .list ds, _, rfl, .lst hs ha, kit_str _, _, rfl, iteF ?_⟩⟩
      have sx : szD (.list ds) = 1 + szAll ds := by simp [szD]
      have hlen := DpAll.length ha
      have hle := len_le_szAll ds
      simp only [PyData.depth] at dn
      simp only [isVal] at val
      refine ⟨_, rfl, a, rfl, ⟨_, hs⟩, fun L hL => ?_⟩
      refine lc_list (K := K) (a := a) (xs := xs) (fun i H' => Same H H' ∧ H' L = some (.lst ((ds.take i).map fun d => V.int (szD d))))
        ⟨same_new hL _, upd_same⟩ (fun i H' _ z => z.1.seq hs) ?_ ?_
      · rintro i x H1 hx ⟨sm, hL1⟩
        obtain ⟨d, e1, e2⟩ := DpAll.get ha hx
        have hm := List.mem_of_getElem? e1
        have hi : i < ds.length := (List.getElem?_eq_some_iff.mp e1).1
        refine ⟨rfl, _, rfl, _, d, rfl, dp_mono sm d _ e2, isValAll_iff.mp val d hm, ?_, ?_, fun H2 sm2 => ?_⟩
        · have := depth_mem hm
          omega
        · have := szD_mem hm
          omega
        refine ⟨_, sm2 _ _ hL1, ?_, (fun b o e => ?_), ?_⟩
        · rw [List.length_map, List.length_take, sizeLine_eq]
          omega
        · rw [upd_ne (ne_of_none e hL)]
          exact sm2 _ _ (sm _ _ e)
        · rw [upd_same, List.take_add_one, e1, List.map_append]
          rfl
      · rintro H1 ⟨sm, hL1⟩
        rw [hlen, List.take_length] at hL1
        refine ⟨L, ds.map fun d => (szD d : Int), rfl, SqL.of ?_, _, _, rfl, rfl, ?_⟩
        · rw [hL1, List.map_map]
          rfl
        · have := q _ sm
          rw [sx, szAll_eq] at this
          have es := sum_int ds
          have e2 : (1 : Int) + (ds.map fun d => (szD d : Int)).sum = ((1 + (ds.map szD).sum : Nat) : Int) := by omega
          show Q (.int (1 + (ds.map fun d => (szD d : Int)).sum)) H1
          rw [e2]
          exact this
    | bool _ => simp [isVal] at val
    | int _ => simp [isVal] at val
    | tuple _ => simp [isVal] at val
    | dict _ => simp [isVal] at val
theorem d_depth_of (h : Has K mg "depth_of" sDepthOf) (B : Bi mg) : ∀ n, Dfn P w K mg base CX0 n "depth_of" ["value"] (spDepth K n)
  | 0 => dfn_none h (fun _ _ _ _ _ _ us hl => match us, hl with | [_], _ => rfl) fun vs H Q E z => by
    obtain ⟨_, _, _, _, _, z, _⟩ := z
    omega
  | n + 1 => by
    have D_depth_of := d_depth_of h B n
    refine dfn0 h B scDepthOf (fun _ _ _ _ _ _ us hl => match us, hl with | [_], _ => rfl) (fun vs H Q E h => ?_) (fun f cv A out s H vs Q E c h => ?_)
    · obtain ⟨v, d, rfl, _⟩ := h
      rfl
    obtain ⟨v, d, rfl, hd, val, dn, sz, q⟩ := h
    refine ⟨_, (pss_cons (ps_if (pt_not (pt_val (pe_callB (call_isD (T := "list")) (by rfl) c.b.isinstance (by decide +kernel) (pa_cons (pv 0) (pa_cons (pe_bltn (v := .ty "list") (by rfl) c.b.list (by decide +kernel) rfl) pa_nil))))) (pss_one (ps_ret pe_int)) pss_nil)
    (pss_one (ps_ret (pe_op op_add pe_int (pe_callBK (cr_maxDf rfl c.r.units) (by rfl) c.b.max (by decide +kernel) (pa_cons (pe_lc (own := [("one", 1)]) (g := (gName 1)) (tt := tYes) rfl scDepthOf.nd (pi_list (pv 0)) (blkOk_by (own := [("one", 1)]) (N := ["value", "one"]) (sc := defScope sDepthOf) (by decide +kernel)) (fun _ _ _ _ _ => (pg_name (i := 1) scDepthOf.nd rfl (Or.inl rfl))) (fun _ _ _ _ _ => pts_nil) (fun _ _ _ _ _ => (pe_d D_depth_of c (by omega) (by rfl) (pa_cons (pv 1) pa_nil)))) pa_nil) (pk_cons pe_int pk_nil)))))), ?_⟩
    refine ⟨_, rfl, _, d, _, rfl, hd, kit_list _, _, rfl, ?_⟩
    cases d with
    | none => exact iteT (q _ (Same.refl _))
    | str x => exact iteT (q _ (Same.refl _))
    | list ds =>
      refine iteF ?_
      cases hd with
      | @lst a xs _ hs ha =>
      have sx : szD (.list ds) = 1 + szAll ds := by simp [szD]
      have hlen := DpAll.length ha
      have hle := len_le_szAll ds
      simp only [PyData.depth] at dn q
      simp only [isVal] at val
      refine ⟨_, rfl, a, rfl, ⟨_, hs⟩, fun L hL => ?_⟩
      refine lc_list (K := K) (a := a) (xs := xs) (fun i H' => Same H H' ∧ H' L = some (.lst ((ds.take i).map fun d => V.int (d.depth : Int))))
        ⟨same_new hL _, upd_same⟩ (fun i H' _ z => z.1.seq hs) ?_ ?_
      · rintro i x H1 hx ⟨sm, hL1⟩
        obtain ⟨d, e1, e2⟩ := DpAll.get ha hx
        have hm := List.mem_of_getElem? e1
        have hi : i < ds.length := (List.getElem?_eq_some_iff.mp e1).1
        refine ⟨rfl, _, rfl, _, d, rfl, dp_mono sm d _ e2, isValAll_iff.mp val d hm, ?_, ?_, fun H2 sm2 => ?_⟩
        · have := depth_mem hm
          omega
        · have := szD_mem hm
          omega
        refine ⟨_, sm2 _ _ hL1, ?_, (fun b o e => ?_), ?_⟩
        · rw [List.length_map, List.length_take, sizeLine_eq]
          omega
        · rw [upd_ne (ne_of_none e hL)]
          exact sm2 _ _ (sm _ _ e)
        · rw [upd_same, List.take_add_one, e1, List.map_append]
          rfl
      · rintro H1 ⟨sm, hL1⟩
        rw [hlen, List.take_length] at hL1
        refine ⟨L, ds.map fun d => (d.depth : Int), 0, rfl, rfl, SqL.of ?_, _, _, rfl, rfl, ?_⟩
        · rw [hL1, List.map_map]
          rfl
        · rw [maxOr_depth]
          have := q _ sm
          have e : ((PyData.depthAll ds + 1 : Nat) : Int) = 1 + (PyData.depthAll ds : Int) := by omega
          rw [e] at this
          exact this
    | bool _ => simp [isVal] at val
    | int _ => simp [isVal] at val
    | tuple _ => simp [isVal] at val
    | dict _ => simp [isVal] at val
theorem d_kind_of (h : Has K mg "kind_of" sKindOf) (B : Bi mg) : Dfn P w K mg base CX0 1 "kind_of" ["value"] (spKind K) := by
  refine dfn0 h B scKindOf (fun _ _ _ _ _ _ us hl => match us, hl with | [_], _ => rfl) (fun vs H Q E h => ?_) (fun f cv A out s H vs Q E c h => ?_)
  · obtain ⟨v, d, rfl, _⟩ := h
    rfl
  obtain ⟨v, d, rfl, hd, val, q⟩ := h
  refine ⟨_, (pss_cons (ps_if (pt_cmpR op_isN (pv 0) pe_non (nomark _)) (pss_one (ps_ret pe_str)) pss_nil)
    (pss_one (ps_ret (pe_ifExp (pt_val (pe_callB (call_isD (T := "str")) (by rfl) c.b.isinstance (by decide +kernel) (pa_cons (pv 0) (pa_cons (pe_bltn (v := .ty "str") (by rfl) c.b.str (by decide +kernel) rfl) pa_nil)))) pe_str pe_str)))), ?_⟩
  cases d with
  | none =>
    cases hd
    exact ⟨_, rfl, rfl, _, rfl, iteT q⟩
  | str x =>
    cases hd
    exact ⟨_, rfl, rfl, _, rfl, iteF ⟨_, rfl, _, .str x, _, rfl, .str x, kit_str _, _, rfl, iteT q⟩⟩
  | list ds =>
    cases hd with
    | @lst a xs _ hs ha =>
    exact ⟨_, rfl, rfl, _, rfl, iteF ⟨_, rfl, _, .list ds, _, rfl, .lst hs ha, kit_str _, _, rfl, iteF q⟩⟩
  | bool _ => simp [isVal] at val
  | int _ => simp [isVal] at val
  | tuple _ => simp [isVal] at val
  | dict _ => simp [isVal] at val
end
end Tx

namespace Tx
open PySem PySem.Spec PyProof.Rows L2
/-! ## items_of, and what the law asks of it -/
abbrev sItemsL : Stmt := top 9
theorem scItemsL : FnScope ["value", "one"] ["value"] (defScope sItemsL) := ⟨rfl, rfl, rfl, by decide +kernel, rfl, by decide +kernel, by decide +kernel⟩
abbrev sItemsS : Stmt := top 9
theorem scItemsS : FnScope ["value", "one"] ["value"] (defScope sItemsS) := ⟨rfl, rfl, rfl, by decide +kernel, rfl, by decide +kernel, by decide +kernel⟩
abbrev sLawItems : Stmt := top 19
theorem scLawItems : FnScope ["_law_value_here", "e", "_law_found"] ["_law_value_here"] (defScope sLawItems) := ⟨rfl, rfl, rfl, by decide +kernel, rfl, by decide +kernel, by decide +kernel⟩
def sgD (z : Str) : List PyData := z.cps.toList.map fun c => PyData.str ⟨#[c]⟩
/-- the items of a value -/
def itD : PyData → List PyData
  | .list ds => ds
  | .str z => sgD z
  | _ => []
theorem ltr_sgD {z : Str} (h : ltr z = true) {d : PyData} (m : d ∈ sgD z) : Val 0 2 d := by
  obtain ⟨c, hc, rfl⟩ := List.mem_map.mp m
  obtain ⟨i, hi⟩ := List.getElem?_of_mem hc
  exact ⟨by simpa only [isVal] using ltr_get h hi, by simp [PyData.depth], by simp only [szD]; exact Nat.le_refl _⟩
theorem dp_sgn {K : PySem.W.Frag} {H : Hp} (z : Str) : DpAll K H (sgn z) (sgD z) := by
  unfold sgn sgD
  induction z.cps.toList with
  | nil => exact .nil
  | cons c l ih => exact .cons (.str _) ih
theorem Val.items {n m : Nat} {d : PyData} (h : Val n m d) (m2 : 2 ≤ m) {e : PyData} (he : e ∈ itD d) : Val n m e := by
  cases d with
  | list ds => exact (h.item he).mono (by omega) (by omega)
  | str z => exact (ltr_sgD (by simpa only [isVal] using h.val) he).mono (by omega) (by omega)
  | none => simp [itD] at he
  | bool _ => simp [itD] at he
  | int _ => simp [itD] at he
  | tuple _ => simp [itD] at he
  | dict _ => simp [itD] at he
theorem szAll_sgD (z : Str) : szAll (sgD z) = 2 * z.length := by
  show _ = 2 * z.cps.size
  rw [← Array.length_toList]
  unfold sgD
  induction z.cps.toList with
  | nil => rfl
  | cons c l ih =>
    simp only [List.map_cons, szAll, List.length_cons, ih, szD]
    show 1 + 1 + _ = _
    omega
theorem Val.itemsL {n m : Nat} {d : PyData} (h : Val n m d) (m2 : 2 ≤ m) : Val (n + 1) (2 * m + 1) (.list (itD d)) := by
  refine ⟨?_, ?_, ?_⟩
  · simp only [isVal]; exact isValAll_iff.mpr fun e he => (h.items m2 he).val
  · have := depthAll_le (n := n) (xs := itD d) fun e he => (h.items m2 he).deep
    simp only [PyData.depth]; omega
  · have hs := h.size
    simp only [szD]
    cases d with
    | list ds => simp only [szD] at hs; simp only [itD]; omega
    | str z => simp only [szD] at hs; simp only [itD, szAll_sgD]; omega
    | none => simp [itD, szAll]
    | bool _ => simp [itD, szAll]
    | int _ => simp [itD, szAll]
    | tuple _ => simp [itD, szAll]
    | dict _ => simp [itD, szAll]
/-- items_of(v) -/
def spItemsOf (K : PySem.W.Frag) (CI : Addr) : Sp := fun vs H Q E => ∃ (v : V) (d : PyData), vs = [v] ∧ Dp K H v d ∧ Val 20 100000 d ∧
  (d = .none → E (.ref CI) none H) ∧ (d ≠ .none → ∀ u H', Same H H' → Nw 0 H' (.list (itD d)) (fun a => H a ≠ none) u → Q u H')
def spLawItems (K : PySem.W.Frag) : Sp := fun vs H Q _ => ∃ (v : V) (d : PyData), vs = [v] ∧ Dp K H v d ∧ Val 20 100000 d ∧
  (d = .none → ∀ t H', Same H H' → H' t = some (.tup [.str "refused", .bl true]) → Q (.ref t) H') ∧ (d ≠ .none → ∀ u H', Same H H' → Nw 0 H' (.list (itD d)) (fun a => H a ≠ none) u → Q u H')
section
variable {P : Program} {w : World} {K : PySem.W.Frag} {mg : Str → Option Value} {base : Heap} {CI CT CE : Addr}
theorem d_items_of (h : Has K mg "items_of" sItemsL) (B : Bi mg) (D_copied : Dfn P w K mg base CX0 21 "copied" ["value"] (spCopied K 21)) (X_NoItems : Err0 K mg "NoItems" CI) :
    Dfn P w K mg base (L2.CX P w) 24 "items_of" ["value"] (spItemsOf K CI) := by
  refine dfnX (k := 23) h B scItemsL (fun _ _ _ _ _ _ us hl => match us, hl with | [_], _ => rfl) (fun vs H Q E h => ?_) (fun f cv A out s H vs Q E c h => ?_)
  · obtain ⟨v, d, rfl, _⟩ := h
    rfl
  obtain ⟨v, d, rfl, hd, ⟨val, dn, sz⟩, qe, q⟩ := h
  cases d with
  | none =>
    cases hd
    refine ⟨_, (pss_cons (ps_if (pt_cmpR op_isN (pv 0) pe_non (nomark _)) (pss_one (ps_err0 (k := 0) X_NoItems rfl (c.r.mono (by omega)) (takes_of rfl rfl rfl rfl) pa_nil (by rfl))) pss_nil)
    (pss_one (ps_ret (pe_lc (own := [("one", 1)]) (g := (gName 1)) (tt := tYes) rfl scItemsL.nd (pi_list (pv 0)) (blkOk_by (own := [("one", 1)]) (N := ["value", "one"]) (sc := defScope sItemsL) (by decide +kernel)) (fun _ _ _ _ _ => (pg_name (i := 1) scItemsL.nd rfl (Or.inl rfl))) (fun _ _ _ _ _ => pts_nil) (fun _ _ _ _ _ => (pe_d D_copied c (by omega) (by rfl) (pa_cons (pv 1) pa_nil))))))), ?_⟩
    exact ⟨_, rfl, rfl, _, rfl, iteT (qe rfl)⟩
  | str z =>
    cases hd
    refine ⟨_, (pss_cons (ps_if (pt_cmpR op_isN (pv 0) pe_non (nomark _)) (pss_one (ps_err0 (k := 0) X_NoItems rfl (c.r.mono (by omega)) (takes_of rfl rfl rfl rfl) pa_nil (by rfl))) pss_nil)
    (pss_one (ps_ret (pe_lc (own := [("one", 1)]) (g := (gName 1)) (tt := tYes) rfl scItemsS.nd (pi_str (pv 0)) (blkOk_by (own := [("one", 1)]) (N := ["value", "one"]) (sc := defScope sItemsS) (by decide +kernel)) (fun _ _ _ _ _ => (pg_name (i := 1) scItemsS.nd rfl (Or.inl rfl))) (fun _ _ _ _ _ => pts_nil) (fun _ _ _ _ _ => (pe_d D_copied c (by omega) (by rfl) (pa_cons (pv 1) pa_nil))))))), ?_⟩
    have sx : szD (.str z) = 1 + z.length := by simp [szD]
    have zl : z.cps.size = z.length := rfl
    have zt : (sgD z).length = z.length := by unfold sgD; rw [List.length_map, Array.length_toList]; rfl
    simp only [isVal] at val
    refine ⟨_, rfl, rfl, _, rfl, iteF ⟨_, rfl, z, rfl, fun L hL => ?_⟩⟩
    refine lc_it walk_str (fun i H' => Same H H' ∧ ∃ us, H' L = some (.lst us) ∧ NwAll 0 H' ((sgD z).take i) (fun x => H x ≠ none ∨ x = L) us)
      ⟨same_new hL _, [], upd_same, by rw [List.take_zero]; simp only [NwAll]⟩ (fun _ _ _ _ => trivial) ?_ ?_
    · rintro i x H1 _ hi ⟨sm, us, hL1, hN⟩ ⟨rfl, cc, hc, rfl⟩
      have e1 : (sgD z)[i]? = some (.str ⟨#[cc]⟩) := by
        unfold sgD
        rw [List.getElem?_map, Array.getElem?_toList, hc]
        rfl
      have hm := List.mem_of_getElem? e1
      have hul := hN.len
      rw [List.length_take] at hul
      have vd := ltr_sgD val hm
      refine ⟨rfl, _, rfl, _, .str ⟨#[cc]⟩, rfl, .str _, vd.val, Nat.lt_of_le_of_lt vd.deep (by decide), Nat.le_trans vd.size (by decide), fun u H2 sm2 hu => ?_⟩
      simp only [Nw] at hu
      subst hu
      refine ⟨us, sm2 _ _ hL1, ?_, (fun b o e => ?_), us ++ [_], upd_same, ?_⟩
      · rw [sizeLine_eq]
        omega
      · rw [upd_ne (ne_of_none e hL)]
        exact sm2 _ _ (sm _ _ e)
      · rw [List.take_add_one, e1]
        refine NwAll.append (NwAll.to (Nat.le_refl _) _ _ _ _ (fun _ z => z) (fun a o n e => ?_) hN) (NwAll.one (by simp only [Nw]))
        rw [upd_ne fun z => n (.inr z)]; exact sm2 _ _ e
    · rintro H1 ⟨sm, us, hL1, hN⟩
      rw [zl, ← zt, List.take_length] at hN
      refine q (fun z => nomatch z) _ _ sm ?_
      simp only [Nw, itD]
      exact ⟨L, us, 0, rfl, fun z => z hL, by rw [List.replicate_zero, List.append_nil]; exact hL1, Nat.le_refl _, hN⟩
  | list ds =>
    cases hd with
    | @lst a xs _ hs ha =>
    refine ⟨_, (pss_cons (ps_if (pt_cmpR op_isN (pv 0) pe_non (nomark _)) (pss_one (ps_err0 (k := 0) X_NoItems rfl (c.r.mono (by omega)) (takes_of rfl rfl rfl rfl) pa_nil (by rfl))) pss_nil)
    (pss_one (ps_ret (pe_lc (own := [("one", 1)]) (g := (gName 1)) (tt := tYes) rfl scItemsL.nd (pi_list (pv 0)) (blkOk_by (own := [("one", 1)]) (N := ["value", "one"]) (sc := defScope sItemsL) (by decide +kernel)) (fun _ _ _ _ _ => (pg_name (i := 1) scItemsL.nd rfl (Or.inl rfl))) (fun _ _ _ _ _ => pts_nil) (fun _ _ _ _ _ => (pe_d D_copied c (by omega) (by rfl) (pa_cons (pv 1) pa_nil))))))), ?_⟩
    refine ⟨_, rfl, rfl, _, rfl, iteF ?_⟩
    have sx : szD (.list ds) = 1 + szAll ds := by simp [szD]
    have hlen := DpAll.length ha
    have hle := len_le_szAll ds
    simp only [PyData.depth] at dn
    simp only [isVal] at val
    refine ⟨_, rfl, a, rfl, ⟨_, hs⟩, fun L hL => ?_⟩
    refine lc_list (K := K) (a := a) (xs := xs) (fun i H' => Same H H' ∧ ∃ us, H' L = some (.lst us) ∧ NwAll 0 H' (ds.take i) (fun x => H x ≠ none ∨ x = L) us)
      ⟨same_new hL _, [], upd_same, by rw [List.take_zero]; simp only [NwAll]⟩ (fun i H' _ z => z.1.seq hs) ?_ ?_
    · rintro i x H1 hx ⟨sm, us, hL1, hN⟩
      obtain ⟨d, e1, e2⟩ := DpAll.get ha hx
      have hm := List.mem_of_getElem? e1
      have hi : i < ds.length := (List.getElem?_eq_some_iff.mp e1).1
      have hul := hN.len
      rw [List.length_take] at hul
      refine ⟨rfl, _, rfl, _, d, rfl, dp_mono sm d _ e2, isValAll_iff.mp val d hm, ?_, ?_, fun u H2 sm2 hu => ?_⟩
      · have := depth_mem hm
        omega
      · have := szD_mem hm
        omega
      have up : ∀ (a : Addr) (o : HO), ¬ (H a ≠ none ∨ a = L) → H2 a = some o → upd H2 L (.lst (us ++ [u])) a = some o := fun a o n e => by
        rw [upd_ne fun z => n (.inr z)]; exact e
      refine ⟨us, sm2 _ _ hL1, ?_, (fun b o e => ?_), us ++ [u], upd_same, ?_⟩
      · rw [sizeLine_eq]
        omega
      · rw [upd_ne (ne_of_none e hL)]
        exact sm2 _ _ (sm _ _ e)
      · rw [List.take_add_one, e1]
        refine NwAll.append (NwAll.to (Nat.le_refl _) _ _ _ _ (fun _ z => z) (fun a o n e => up a o n (sm2 _ _ e)) hN) (NwAll.one (Nw.to (Nat.le_refl _) d _ _ u (fun a z => ?_) (fun a o n e => ?_) hu))
        · rcases z with z | z
          · cases q : H a with
            | none => exact absurd q z
            | some o => rw [sm _ _ q]; simp
          · rw [z, hL1]; simp
        · rw [upd_ne fun z => n (by rw [z, hL1]; simp)]; exact e
    · rintro H1 ⟨sm, us, hL1, hN⟩
      rw [hlen, List.take_length] at hN
      refine q (fun z => nomatch z) _ _ sm ?_
      simp only [Nw, itD]
      exact ⟨L, us, 0, rfl, fun z => z hL, by rw [List.replicate_zero, List.append_nil]; exact hL1, Nat.le_refl _, hN⟩
  | bool _ => simp [isVal] at val
  | int _ => simp [isVal] at val
  | tuple _ => simp [isVal] at val
  | dict _ => simp [isVal] at val
theorem d_law_items (h : Has K mg "_law_items" sLawItems) (B : Bi mg) (D_items_of : Dfn P w K mg base (L2.CX P w) 24 "items_of" ["value"] (spItemsOf K CI)) (X_NoItems : Err0 K mg "NoItems" CI)
    (X_TextorlistError : Cls0 mg "TextorlistError" CT) (X_NoEntry : Cls0 mg "NoEntry" CE) (k1 : PySem.W.kitOne K (.ref CI) (.ref CT) = some true) (k2 : PySem.W.kitOne K (.ref CI) (.ref CE) = some false) :
    Dfn P w K mg base CX0 25 "_law_items" ["_law_value_here"] (spLawItems K) := by
  refine dfn0 (k := 24) h B scLawItems (fun _ _ _ _ _ _ us hl => match us, hl with | [_], _ => rfl) (fun vs H Q E h => ?_) (fun f cv A out s H vs Q E c h => ?_)
  · obtain ⟨v, d, rfl, _⟩ := h
    rfl
  obtain ⟨v, d, rfl, hd, vd, q1, q2⟩ := h
  refine ⟨_, (pss_cons (ps_try_as (i := 1) (Wout := fun _ _ _ _ => False) rfl rfl scLawItems.nd rfl rfl ⟨rfl, by decide, Or.inl X_NoItems.gC⟩ takes0
    (fun W pn xe tk _ => (pss_one (ps_set (i := 2) scLawItems.nd rfl (Or.inl rfl) (pe_dS D_items_of c (by omega) (by rfl) (fun σ => passAt tk σ) (pa_cons (pv 0) pa_nil)))))
    (fun a oe cls d pn hz hf => (pss_one (ps_ret (pe_tup (pa_cons pe_str (pa_cons (pe_and (pe_callB (call_isX X_NoItems.exc hz hf) (by rfl) c.b.isinstance (by decide +kernel) (pa_cons (pv 1) (pa_cons (pe_gcl X_TextorlistError.gC (by rfl)) pa_nil))) (pe_one (pe_not (pe_callB (call_isX X_NoItems.exc hz hf) (by rfl) c.b.isinstance (by decide +kernel) (pa_cons (pv 1) (pa_cons (pe_gcl X_NoEntry.gC (by rfl)) pa_nil)))))) pa_nil)))))))
    (pss_one (ps_ret (pv 2)))), ?_⟩
  refine ⟨_, rfl, v, d, rfl, hd, vd, fun e => ⟨true, X_NoItems.self, fun _ a0 ha0 => ?_, fun z => Bool.noConfusion z⟩, fun e u H' sm hu => ⟨_, rfl, q2 e u H' sm hu⟩⟩
  have xd : ∀ d2, (none : Option Addr) = some d2 → ∃ fs, H d2 = some (.xd fs) := fun d2 z => nomatch z
  refine ⟨_, rfl, _, _, _, rfl, rfl, .own CT, k1, xd, _, rfl, iteT ⟨_, rfl, _, _, _, rfl, rfl, .own CE, k2, xd, _, rfl, ?_⟩⟩
  exact ⟨(by show 2 ≤ sizeLine; decide), fun t ht => q1 e t _ (same_new ht _) upd_same⟩
end
end Tx

namespace Tx
open PySem PySem.Spec PyProof.Rows L2
abbrev sLawDepth : Stmt := top 17
theorem scLawDepth : FnScope ["_law_value_here", "_law_one"] ["_law_value_here"] (defScope sLawDepth) := ⟨rfl, rfl, rfl, by decide +kernel, rfl, by decide +kernel, by decide +kernel⟩
abbrev sLawKind : Stmt := top 18
theorem scLawKind : FnScope ["_law_value_here"] ["_law_value_here"] (defScope sLawKind) := ⟨rfl, rfl, rfl, by decide +kernel, rfl, by decide +kernel, by decide +kernel⟩
abbrev sSpoil : Stmt := top 20
theorem scSpoil : FnScope ["_law_value_here", "_law_one"] ["_law_value_here"] (defScope sSpoil) := ⟨rfl, rfl, rfl, by decide +kernel, rfl, by decide +kernel, by decide +kernel⟩
abbrev sIsTold : Stmt := top 21
theorem scIsTold : FnScope ["_law_value_here", "_law_told"] ["_law_value_here"] (defScope sIsTold) := ⟨rfl, rfl, rfl, by decide +kernel, rfl, by decide +kernel, by decide +kernel⟩
def spSpoil (n : Nat) : Sp := fun vs H Q _ => ∃ (v : V) (d : PyData) (C : Addr → Prop) (M : Nat), vs = [v] ∧ Nw M H d C v ∧ d.depth < n ∧ szD d ≤ 1000000 ∧ M + nl d ≤ 1000000 ∧
  ∀ H', Evo C (nl d) H H' → Q .non H'
def spIsTold (K : PySem.W.Frag) : Sp := fun vs H Q _ => ∃ (v : V) (d : PyData), vs = [v] ∧ Dp K H v d ∧ Val 20 100000 d ∧ ∀ H', Same H H' → Q (.bl true) H'
section
variable {P : Program} {w : World} {K : PySem.W.Frag} {mg : Str → Option Value} {base : Heap}
theorem d_law_depth (h : Has K mg "_law_depth" sLawDepth) (B : Bi mg) : ∀ n, Dfn P w K mg base CX0 n "_law_depth" ["_law_value_here"] (spDepth K n)
  | 0 => dfn_none h (fun _ _ _ _ _ _ us hl => match us, hl with | [_], _ => rfl) fun vs H Q E z => by
    obtain ⟨_, _, _, _, _, z, _⟩ := z
    omega
  | n + 1 => by
    have D_law_depth := d_law_depth h B n
    refine dfn0 h B scLawDepth (fun _ _ _ _ _ _ us hl => match us, hl with | [_], _ => rfl) (fun vs H Q E h => ?_) (fun f cv A out s H vs Q E c h => ?_)
    · obtain ⟨v, d, rfl, _⟩ := h
      rfl
    obtain ⟨v, d, rfl, hd, val, dn, sz, q⟩ := h
    refine ⟨_, (pss_cons (ps_if (pt_not (pt_val (pe_callB (call_isD (T := "list")) (by rfl) c.b.isinstance (by decide +kernel) (pa_cons (pv 0) (pa_cons (pe_bltn (v := .ty "list") (by rfl) c.b.list (by decide +kernel) rfl) pa_nil))))) (pss_one (ps_ret pe_int)) pss_nil)
    (pss_one (ps_ret (pe_op op_add pe_int (pe_callB (cr_max rfl) (by rfl) c.b.max (by decide +kernel) (pa_cons (pe_op op_cat (pe_lst (pa_cons pe_int pa_nil)) (pe_lc (own := [("_law_one", 1)]) (g := (gName 1)) (tt := tYes) rfl scLawDepth.nd (pi_list (pv 0)) (blkOk_by (own := [("_law_one", 1)]) (N := ["_law_value_here", "_law_one"]) (sc := defScope sLawDepth) (by decide +kernel)) (fun _ _ _ _ _ => (pg_name (i := 1) scLawDepth.nd rfl (Or.inl rfl))) (fun _ _ _ _ _ => pts_nil) (fun _ _ _ _ _ => (pe_d D_law_depth c (by omega) (by rfl) (pa_cons (pv 1) pa_nil))))) pa_nil)))))), ?_⟩
    refine ⟨_, rfl, _, d, _, rfl, hd, kit_list _, _, rfl, ?_⟩
    cases d with
    | none => exact iteT (q _ (Same.refl _))
    | str x => exact iteT (q _ (Same.refl _))
    | list ds =>
      refine iteF ?_
      cases hd with
      | @lst a xs _ hs ha =>
      have sx : szD (.list ds) = 1 + szAll ds := by simp [szD]
      have hlen := DpAll.length ha
      have hle := len_le_szAll ds
      simp only [PyData.depth] at dn q
      simp only [isVal] at val
      refine ⟨(by show 1 ≤ sizeLine; decide), fun p hp => ⟨_, rfl, a, rfl, ⟨_, (same_new hp _).seq hs⟩, fun L hL => ?_⟩⟩
      have hL0 : H L = none := (same_new hp _).free hL
      refine lc_list (K := K) (a := a) (xs := xs) (fun i H' => Same (upd H p (.lst [.int 0])) H' ∧ H' L = some (.lst ((ds.take i).map fun d => V.int (d.depth : Int))))
        ⟨same_new hL _, upd_same⟩ (fun i H' _ z => z.1.seq ((same_new hp _).seq hs)) ?_ ?_
      · rintro i x H1 hx ⟨sm, hL1⟩
        obtain ⟨d, e1, e2⟩ := DpAll.get ha hx
        have hm := List.mem_of_getElem? e1
        have hi : i < ds.length := (List.getElem?_eq_some_iff.mp e1).1
        refine ⟨rfl, _, rfl, _, d, rfl, dp_mono ((same_new hp _).trans sm) d _ e2, isValAll_iff.mp val d hm, ?_, ?_, fun H2 sm2 => ?_⟩
        · have := depth_mem hm
          omega
        · have := szD_mem hm
          omega
        refine ⟨_, sm2 _ _ hL1, ?_, (fun b o e => ?_), ?_⟩
        · rw [List.length_map, List.length_take, sizeLine_eq]
          omega
        · rw [upd_ne (ne_of_none e hL)]
          exact sm2 _ _ (sm _ _ e)
        · rw [upd_same, List.take_add_one, e1, List.map_append]
          rfl
      · rintro H1 ⟨sm, hL1⟩
        rw [hlen, List.take_length] at hL1
        refine ⟨p, L, _, _, rfl, rfl, sm _ _ upd_same, hL1, (by rw [List.length_map, sizeLine_eq]; show 1 + ds.length ≤ _; omega), fun p2 hp2 => ?_⟩
        refine ⟨p2, 0 :: ds.map fun d => (d.depth : Int), rfl, SqL.of ?_, (by simp), fun m hm hle => ⟨_, _, rfl, rfl, ?_⟩⟩
        · rw [upd_same, List.map_cons, List.map_map]
          rfl
        · have em : m = (PyData.depthAll ds : Int) := by
            have h1 : m ≤ (PyData.depthAll ds : Int) := by
              cases hm with
              | head => omega
              | tail _ hm =>
                obtain ⟨d, hd, rfl⟩ := List.mem_map.mp hm
                have := depth_mem hd
                omega
            have h2 : PyData.depthAll ds ≤ m.toNat := depthAll_le fun d hd => by
              have := hle (d.depth : Int) (List.mem_cons_of_mem _ (List.mem_map.mpr ⟨d, hd, rfl⟩))
              omega
            have h0 := hle 0 List.mem_cons_self
            omega
          have e : 1 + m = ((PyData.depthAll ds + 1 : Nat) : Int) := by omega
          show Q (.int (1 + m)) _
          rw [e]
          exact q _ (((same_new hp _).trans sm).trans (same_new hp2 _))
    | bool _ => simp [isVal] at val
    | int _ => simp [isVal] at val
    | tuple _ => simp [isVal] at val
    | dict _ => simp [isVal] at val
theorem d_law_kind (h : Has K mg "_law_kind" sLawKind) (B : Bi mg) : Dfn P w K mg base CX0 1 "_law_kind" ["_law_value_here"] (fun vs H Q _ => ∃ (v : V) (d : PyData), vs = [v] ∧ Dp K H v d ∧ isVal d = true ∧ ∀ H', Same H H' → Q (.str (knd d)) H') := by
  refine dfn0 h B scLawKind (fun _ _ _ _ _ _ us hl => match us, hl with | [_], _ => rfl) (fun vs H Q E h => ?_) (fun f cv A out s H vs Q E c h => ?_)
  · obtain ⟨v, d, rfl, _⟩ := h
    rfl
  obtain ⟨v, d, rfl, hd, val, q⟩ := h
  refine ⟨_, (pss_one (ps_ret (pe_ifExp (pt_cmpR op_isN (pv 0) pe_non (nomark _)) pe_str (pe_ix ix_list (pe_lst (pa_cons pe_str (pa_cons pe_str pa_nil))) (pe_callTy call_int1 (by rfl) c.b.int (by decide +kernel) (pa_cons (pe_callB (call_isD (T := "str")) (by rfl) c.b.isinstance (by decide +kernel) (pa_cons (pv 0) (pa_cons (pe_bltn (v := .ty "str") (by rfl) c.b.str (by decide +kernel) rfl) pa_nil))) pa_nil)) (fun _ _ => rfl))))), ?_⟩
  cases d with
  | none =>
    cases hd
    exact ⟨_, rfl, rfl, _, rfl, iteT (q _ (Same.refl _))⟩
  | str x =>
    cases hd
    refine ⟨_, rfl, rfl, _, rfl, iteF ⟨(by show 2 ≤ sizeLine; decide), fun p hp => ⟨_, rfl, _, .str x, _, rfl, .str x, kit_str _, .inr ⟨_, rfl, ?_⟩⟩⟩⟩
    exact ⟨p, _, 1, _, rfl, rfl, SqL.of upd_same, atI_nat rfl, q _ (same_new hp _)⟩
  | list ds =>
    refine ⟨_, rfl, ?_, _, ?_, iteF ⟨(by show 2 ≤ sizeLine; decide), fun p hp => ⟨_, rfl, _, .list ds, _, rfl, dp_mono (same_new hp _) _ _ hd, kit_str _, .inr ⟨_, rfl, ?_⟩⟩⟩⟩
    all_goals cases hd with
      | @lst a xs _ hs ha =>
      first
        | exact ⟨p, _, 0, _, rfl, rfl, SqL.of upd_same, atI_nat rfl, q _ (same_new hp _)⟩
        | rfl
  | bool _ => simp [isVal] at val
  | int _ => simp [isVal] at val
  | tuple _ => simp [isVal] at val
  | dict _ => simp [isVal] at val
theorem d_spoil (h : Has K mg "_law_spoil" sSpoil) (B : Bi mg) : ∀ n, Dfn P w K mg base CX0 n "_law_spoil" ["_law_value_here"] (spSpoil n)
  | 0 => dfn_none h (fun _ _ _ _ _ _ us hl => match us, hl with | [_], _ => rfl) fun vs H Q E z => by
    obtain ⟨_, _, _, _, _, _, z, _⟩ := z
    omega
  | n + 1 => by
    have D_law_spoil := d_spoil h B n
    refine dfn0 h B scSpoil (fun _ _ _ _ _ _ us hl => match us, hl with | [_], _ => rfl) (fun vs H Q E h => ?_) (fun f cv A out s H vs Q E c h => ?_)
    · obtain ⟨v, d, C, M, rfl, _⟩ := h
      rfl
    obtain ⟨v, d, C, M, rfl, hN, dn, sz, hM, q⟩ := h
    refine ⟨_, (pss_one (ps_if (pt_val (pe_callB (call_isD (T := "list")) (by rfl) c.b.isinstance (by decide +kernel) (pa_cons (pv 0) (pa_cons (pe_bltn (v := .ty "list") (by rfl) c.b.list (by decide +kernel) rfl) pa_nil)))) (pss_cons (ps_for PassesOwn.never rfl (pi_list (pv 0)) (pg_name (i := 1) scSpoil.nd rfl (Or.inl rfl))
    (pss_one (ps_expr (pe_d D_law_spoil c (by omega) (by rfl) (pa_cons (pv 1) pa_nil)))))
    (pss_one (ps_expr (pe_bm PySem.F.plainAttrs_list PySem.F.slot_list_append PySem.F.type_list_append mt_append (pv 0) (pa_cons pe_str pa_nil))))) pss_nil)), ?_⟩
    obtain ⟨e, he, el⟩ := Nw.some (K := K) d C v hN
    refine ⟨_, rfl, _, e, _, rfl, he, kit_list _, _, rfl, ?_⟩
    rw [el]
    cases d with
    | none => exact iteF (q _ (Evo.same (Same.refl _)))
    | str x => exact iteF (q _ (Evo.same (Same.refl _)))
    | list ds =>
      refine iteT ?_
      simp only [Nw] at hN
      obtain ⟨a, vs, k, rfl, nC, ha, hk, hA⟩ := hN
      simp only [nl] at hM q
      simp only [szD] at sz
      simp only [PyData.depth] at dn
      have hle := len_le_szAll ds
      have hvl := hA.len
      have hAll := NwAll.append hA (NwAll.xs (M := M) (H := H) (B := fun x => C x ∨ x = a) k)
      have nE : nlAll (ds ++ List.replicate k (.str "x")) = nlAll ds := by rw [nlAll_append, nlAll_xs]; rfl
      have sqa : ∀ H', Evo (fun x => C x ∨ x = a) (nlAll ds) H H' → H' a = some (.lst (vs ++ List.replicate k (.str "x"))) := fun H' ev => ev.keep (.inr rfl) ha
      have lenE : (vs ++ List.replicate k (V.str "x")).length = (ds ++ List.replicate k (PyData.str "x")).length := hAll.len
      have up : ∀ {H' : Hp} (i : Nat), Evo (fun x => C x ∨ x = a) (nlAll ((ds ++ List.replicate k (PyData.str "x")).take i)) H H' → Evo (fun x => C x ∨ x = a) (nlAll ds) H H' := fun i ev =>
        ev.weak (fun _ z => z) (by rw [← nE]; exact nl_take_le _ _)
      refine ⟨_, rfl, a, rfl, ⟨_, SqL.of ha⟩, ?_⟩
      refine for_list (K := K) (a := a) (xs := vs ++ List.replicate k (V.str "x")) (fun i σ H' => ∃ u : Option V, σ = [some (.ref a), u] ∧ Evo (fun x => C x ∨ x = a) (nlAll ((ds ++ List.replicate k (PyData.str "x")).take i)) H H')
        ⟨none, rfl, Evo.same (Same.refl _)⟩ (fun i σ H' _ ⟨_, _, ev⟩ => SqL.of (sqa H' (up i ev))) ?_ ?_
      · rintro i x σ H1 hx ⟨u, rfl, ev⟩
        obtain ⟨d, e1, e2⟩ := hAll.get hx
        have hm := List.mem_of_getElem? e1
        have ht := nl_take e1
        have hl := nl_take_le (ds ++ List.replicate k (PyData.str "x")) (i + 1)
        rw [nE] at hl
        refine ⟨_, rfl, x, d, _, _, rfl, Nw.evo ev d _ x e2, ?_, ?_, by omega, fun H2 ev2 => ⟨_, rfl, ?_⟩⟩
        · rcases List.mem_append.mp hm with hm | hm
          · have := depth_mem hm
            omega
          · rw [List.eq_of_mem_replicate hm]
            simp only [PyData.depth]
            omega
        · rcases List.mem_append.mp hm with hm | hm
          · have := szD_mem hm
            omega
          · rw [List.eq_of_mem_replicate hm]
            decide
        · rw [ht]
          exact ev.trans ev2
      · rintro σ H1 ⟨u, rfl, ev⟩
        rw [lenE, List.take_length, nE] at ev
        have hs1 := sqa H1 ev
        refine ⟨_, rfl, .inl ⟨rfl, _, SqL.of hs1⟩, a, _, _, rfl, rfl, hs1, ?_, ?_⟩
        · rw [List.length_append, List.length_replicate, hvl, sizeLine_eq]
          omega
        refine q _ ?_
        have e1 : Evo C 1 H1 (upd H1 a (.lst (vs ++ List.replicate k (.str "x") ++ [.str "x"]))) := by
          intro b o e
          by_cases z : b = a
          · subst z
            rw [hs1] at e
            cases e
            exact .inr ⟨nC, _, 1, rfl, Nat.le_refl _, upd_same⟩
          · exact .inl (by rw [upd_ne z]; exact e)
        exact ((ev.weak (fun _ z => .inl z) (Nat.le_refl _)).trans e1).weak (fun _ z => z) (by omega)
    | bool _ => simp only [Nw] at hN
    | int _ => simp only [Nw] at hN
    | tuple _ => simp only [Nw] at hN
    | dict _ => simp only [Nw] at hN
end
end Tx

namespace Tx
open PySem PySem.Spec PyProof.Rows L2
abbrev sLaw : Stmt := top 22
theorem scLaw : FnScope ["_law_script", "_law_at", "_law_bag_here", "_law_value_here", "_law_before", "_law_due", "_law_turn", "_law_found", "_law_one"] ["_law_script"] (defScope sLaw) := ⟨rfl, rfl, rfl, by decide +kernel, rfl, by decide +kernel, by decide +kernel⟩
def spLaw (K : PySem.W.Frag) : Sp := fun vs H Q _ => ∃ (a : Addr) (ns : List Int), vs = [.ref a] ∧ SqL K H a (ns.map V.int) ∧ ns.length ≤ 63 ∧ ∀ H', Q (.bl true) H'
theorem nat_small {n : Nat} (h : n ≤ 1000000) : fine (.int (n : Int)) = true := by
  simp only [fine, decide_eq_true_eq]
  show n.log2 < 1920
  by_cases z : n = 0
  · rw [z]; decide
  · have e : (1000000 : Nat) < 2 ^ 20 := by decide
    have := (Nat.log2_lt z).mpr (show n < 2 ^ 20 by omega)
    omega
theorem knd_ok (d : PyData) : fine (.str (knd d)) = true ∧ wt (.str (knd d)) ≤ 100 := by
  unfold knd
  split <;> exact ⟨by decide +kernel, by decide +kernel⟩
theorem told_ok {d : PyData} (h : Val 20 100000 d) : Ok (.list [.str (knd d), .int (szD d : Int), .int (d.depth : Int)]) := by
  obtain ⟨k1, k2⟩ := knd_ok d
  have h1 := nat_small (Nat.le_trans h.size (by decide : 100000 ≤ 1000000))
  have h2 := nat_small (Nat.le_trans h.deep (by decide : 20 ≤ 1000000))
  refine ⟨?_, ?_, ?_⟩
  · simp only [fine, fineAll] at k1 h1 h2 ⊢
    rw [k1, h1, h2]
    rfl
  · simp only [PyData.depth, PyData.depthAll]; decide
  · simp only [wt, wtAll] at k2 ⊢
    omega
/-- what items_of is to give, or that it refuses -/
def dueD : PyData → PyData
  | .none => .tuple [.str "refused", .bool true]
  | d => .list (itD d)
theorem dueD_ne {d : PyData} (h : d ≠ .none) : dueD d = .list (itD d) := by
  cases d <;> first | exact absurd rfl h | rfl
theorem due_ok {d : PyData} (h : Val 12 400 d) : Ok (dueD d) := by
  by_cases e : d = .none
  · subst e
    exact ⟨by decide +kernel, by decide +kernel, by decide +kernel⟩
  · rw [dueD_ne e]
    exact (h.itemsL (by decide)).ok (by decide) (by decide)
theorem dp_non {K : PySem.W.Frag} {H : Hp} {x : V} {d : PyData} (h : Dp K H x d) : x = .non ↔ d = .none := by
  cases h <;> simp
theorem list_of {K : PySem.W.Frag} {H : Hp} {x : V} {d : PyData} (hd : Dp K H x d) (vd : Val 20 100000 d) (ne : d ≠ .none) :
    (∃ p ys, x = V.ref p ∧ SqL K H p ys ∧ DpAll K H ys (itD d)) ∨ (∃ z : Str, x = V.str z ∧ z.length ≤ sizeLine ∧ DpAll K H (sgn z) (itD d)) := by
  have val := vd.val
  have sz := vd.size
  cases hd with
  | non => exact absurd rfl ne
  | bl _ => simp [isVal] at val
  | int _ => simp [isVal] at val
  | str z =>
    simp only [szD] at sz
    exact .inr ⟨z, rfl, by rw [sizeLine_eq]; omega, dp_sgn z⟩
  | lst hs ha => exact .inl ⟨_, _, rfl, hs, ha⟩
  | tup _ _ => simp [isVal] at val
section
variable {P : Program} {w : World} {K : PySem.W.Frag} {mg : Str → Option Value} {base : Heap}
theorem d_is_told (h : Has K mg "_law_is_told" sIsTold) (B : Bi mg) (D_kind_of : Dfn P w K mg base CX0 1 "kind_of" ["value"] (spKind K)) (D_size_of : Dfn P w K mg base CX0 21 "size_of" ["value"] (spSize K 21)) (D_depth_of : Dfn P w K mg base CX0 21 "depth_of" ["value"] (spDepth K 21))
    (D_law_kind : Dfn P w K mg base CX0 1 "_law_kind" ["_law_value_here"] (fun vs H Q _ => ∃ (v : V) (d : PyData), vs = [v] ∧ Dp K H v d ∧ isVal d = true ∧ ∀ H', Same H H' → Q (.str (knd d)) H')) (D_law_size : Dfn P w K mg base CX0 21 "_law_size" ["_law_value_here"] (spSize K 21)) (D_law_depth : Dfn P w K mg base CX0 21 "_law_depth" ["_law_value_here"] (spDepth K 21)) :
    Dfn P w K mg base CX0 22 "_law_is_told" ["_law_value_here"] (spIsTold K) := by
  refine dfn0 (k := 21) h B scIsTold (fun _ _ _ _ _ _ us hl => match us, hl with | [_], _ => rfl) (fun vs H Q E h => ?_) (fun f cv A out s H vs Q E c h => ?_)
  · obtain ⟨v, d, rfl, _⟩ := h
    rfl
  obtain ⟨v, d, rfl, hd, vd, q⟩ := h
  have val := vd.val
  have dn : d.depth < 21 := Nat.lt_succ_of_le vd.deep
  have sz : szD d ≤ 1000000 := Nat.le_trans vd.size (by decide)
  have ok := told_ok vd
  refine ⟨_, (pss_cons (ps_set (i := 1) scIsTold.nd rfl (Or.inl rfl) (pe_lst (pa_cons (pe_d D_kind_of c (by omega) (by rfl) (pa_cons (pv 0) pa_nil)) (pa_cons (pe_d D_size_of c (by omega) (by rfl) (pa_cons (pv 0) pa_nil)) (pa_cons (pe_d D_depth_of c (by omega) (by rfl) (pa_cons (pv 0) pa_nil)) pa_nil)))))
    (pss_one (ps_ret (pe_cmpR op_eq (pe_callB (call_repr c.g c.r.units) (by rfl) c.b.repr (by decide +kernel) (pa_cons (pv 1) pa_nil)) (pe_callB (call_repr c.g c.r.units) (by rfl) c.b.repr (by decide +kernel) (pa_cons (pe_lst (pa_cons (pe_d D_law_kind c (by omega) (by rfl) (pa_cons (pv 0) pa_nil)) (pa_cons (pe_d D_law_size c (by omega) (by rfl) (pa_cons (pv 0) pa_nil)) (pa_cons (pe_d D_law_depth c (by omega) (by rfl) (pa_cons (pv 0) pa_nil)) pa_nil)))) pa_nil)) (nomark _))))), ?_⟩
  refine ⟨_, rfl, v, d, rfl, hd, val, ⟨_, rfl, v, d, rfl, hd, val, dn, sz, fun H1 s1 => ⟨_, rfl, v, d, rfl, dp_mono s1 _ _ hd, val, dn, sz, fun H2 s2 => ?_⟩⟩⟩
  refine ⟨(by show 3 ≤ sizeLine; decide), fun p hp => ⟨_, rfl, _, _, rfl, .lst (SqL.of upd_same) (.cons (.str _) (.cons (.int _) (.cons (.int _) .nil))), ok, ?_⟩⟩
  have s3 := (s1.trans s2).trans (same_new hp (.lst [.str (knd d), .int (szD d : Int), .int (d.depth : Int)]))
  refine ⟨_, rfl, v, d, rfl, dp_mono s3 _ _ hd, val, fun H4 s4 => ⟨_, rfl, v, d, rfl, dp_mono (s3.trans s4) _ _ hd, val, dn, sz, fun H5 s5 => ⟨_, rfl, v, d, rfl, dp_mono ((s3.trans s4).trans s5) _ _ hd, val, dn, sz, fun H6 s6 => ?_⟩⟩⟩
  refine ⟨(by show 3 ≤ sizeLine; decide), fun p2 hp2 => ⟨_, _, rfl, .lst (SqL.of upd_same) (.cons (.str _) (.cons (.int _) (.cons (.int _) .nil))), ok, rfl, ?_⟩⟩
  have := q _ ((((s3.trans s4).trans s5).trans s6).trans (same_new hp2 (.lst [.str (knd d), .int (szD d : Int), .int (d.depth : Int)])))
  simpa using this
theorem d_law (h : Has K mg "law" sLaw) (B : Bi mg) (D_law_bag : Dfn P w K mg base CX0 1 "_law_bag" ["_law_script", "_law_at"] (spBag K)) (D_law_great : Dfn P w K mg base CX0 27 "_law_great" ["_law_bag_here"] (spGreat K)) (D_law_is_told : Dfn P w K mg base CX0 22 "_law_is_told" ["_law_value_here"] (spIsTold K))
    (D_law_items : Dfn P w K mg base CX0 25 "_law_items" ["_law_value_here"] (spLawItems K)) (D_law_spoil : Dfn P w K mg base CX0 22 "_law_spoil" ["_law_value_here"] (spSpoil 22))
    (D_items_of : Dfn P w K mg base CX0 24 "items_of" ["value"] (fun vs H Q _ => ∃ (v : V) (d : PyData), vs = [v] ∧ Dp K H v d ∧ Val 20 100000 d ∧ d ≠ .none ∧ ∀ u H', Same H H' → Nw 0 H' (.list (itD d)) (fun a => H a ≠ none) u → Q u H')) :
    Dfn P w K mg base CX0 28 "law" ["_law_script"] (spLaw K) := by
  refine dfn0 (k := 27) h B scLaw (fun _ _ _ _ _ _ us hl => match us, hl with | [_], _ => rfl) (fun vs H Q E h => ?_) (fun f cv A out s H vs Q E c h => ?_)
  · obtain ⟨a, ns, rfl, _⟩ := h
    rfl
  obtain ⟨a, ns, rfl, hS, h63, q⟩ := h
  refine ⟨_, (pss_cons (ps_for PassesOwn.never rfl (pi_range1 (by rfl) c.b.range (pa_cons (pe_callB (call_max2 rfl) (by rfl) c.b.max (by decide +kernel) (pa_cons pe_int (pa_cons (pe_callB (call_min2 rfl) (by rfl) c.b.min (by decide +kernel) (pa_cons pe_int (pa_cons (pe_callB call_len_seq (by rfl) c.b.len PySem.boot_len (pa_cons (pv 0) pa_nil)) pa_nil))) pa_nil))) pa_nil)) (pg_name (i := 1) scLaw.nd rfl (Or.inl rfl))
    (pss_cons (ps_set (i := 2) scLaw.nd rfl (Or.inl rfl) (pe_d D_law_bag c (by omega) (by rfl) (pa_cons (pv 0) (pa_cons (pv 1) pa_nil))))
    (pss_cons (ps_set (i := 3) scLaw.nd rfl (Or.inl rfl) (pe_d D_law_great c (by omega) (by rfl) (pa_cons (pv 2) pa_nil)))
    (pss_cons (ps_set (i := 4) scLaw.nd rfl (Or.inl rfl) (pe_callB (call_repr c.g c.r.units) (by rfl) c.b.repr (by decide +kernel) (pa_cons (pv 3) pa_nil)))
    (pss_cons (ps_if (pt_not (pt_val (pe_d D_law_is_told c (by omega) (by rfl) (pa_cons (pv 3) pa_nil)))) (pss_one (ps_ret pe_bl)) pss_nil)
    (pss_cons (ps_set (i := 5) scLaw.nd rfl (Or.inl rfl) (pe_callB (call_repr c.g c.r.units) (by rfl) c.b.repr (by decide +kernel) (pa_cons (pe_ifExp (pt_cmpR op_isN (pv 3) pe_non (nomark _)) (pe_tup (pa_cons pe_str (pa_cons pe_bl pa_nil))) (pe_callTy (CallR.or call_list_of (call_listS rfl)) (by rfl) c.b.list (by decide +kernel) (pa_cons (pv 3) pa_nil))) pa_nil)))
    (pss_one (ps_for PassesOwn.never rfl (pi_range1 (by rfl) c.b.range (pa_cons pe_int pa_nil)) (pg_name (i := 6) scLaw.nd rfl (Or.inl rfl))
    (pss_cons (ps_set (i := 7) scLaw.nd rfl (Or.inl rfl) (pe_d D_law_items c (by omega) (by rfl) (pa_cons (pv 3) pa_nil)))
    (pss_cons (ps_if (PW.pt (pw_or (pt_cmpR op_ne (pe_callB (call_repr c.g c.r.units) (by rfl) c.b.repr (by decide +kernel) (pa_cons (pv 7) pa_nil)) (pv 5) (nomark _)) (pw_or1 (pt_cmpR op_ne (pe_callB (call_repr c.g c.r.units) (by rfl) c.b.repr (by decide +kernel) (pa_cons (pv 3) pa_nil)) (pv 4) (nomark _))))) (pss_one (ps_ret pe_bl)) pss_nil)
    (pss_one (ps_if (pt_cmpR op_notN (pv 3) pe_non (nomark _)) (pss_cons (ps_if (pt_not (pt_val (pe_callB (cr_all rfl) (by rfl) c.b.all (by decide +kernel) (pa_cons (pe_lc (own := [("_law_one", 8)]) (g := (gName 8)) (tt := tYes) rfl scLaw.nd (pi_list (pv 7)) (blkOk_by (own := [("_law_one", 8)]) (N := ["_law_script", "_law_at", "_law_bag_here", "_law_value_here", "_law_before", "_law_due", "_law_turn", "_law_found", "_law_one"]) (sc := defScope sLaw) (by decide +kernel)) (fun _ _ _ _ _ => (pg_name (i := 8) scLaw.nd rfl (Or.inl rfl))) (fun _ _ _ _ _ => pts_nil) (fun _ _ _ _ _ => (pe_d D_law_is_told c (by omega) (by rfl) (pa_cons (pv 8) pa_nil)))) pa_nil)))) (pss_one (ps_ret pe_bl)) pss_nil)
    (pss_one (ps_expr (pe_d D_law_spoil c (by omega) (by rfl) (pa_cons (pv 7) pa_nil))))) pss_nil))))))))))))
    (pss_one (ps_ret (pe_and (pe_cmpR (op_eqD c.r.units) (pe_d D_law_items c (by omega) (by rfl) (pa_cons pe_non pa_nil)) (pe_tup (pa_cons pe_str (pa_cons pe_bl pa_nil))) (nomark _)) (pe_and (pe_cmpR (op_eqD c.r.units) (pe_d D_items_of c (by omega) (by rfl) (pa_cons pe_str pa_nil)) (pe_lst (pa_cons pe_str pa_nil)) (nomark _)) (pe_one (pe_cmpR (op_eqD c.r.units) (pe_d D_items_of c (by omega) (by rfl) (pa_cons pe_str pa_nil)) (pe_lst pa_nil) (nomark _)))))))), ?_⟩
  have hl : (ns.map V.int).length = ns.length := List.length_map _
  refine ⟨_, rfl, a, _, rfl, .inl hS, _, _, rfl, _, _, rfl, _, rfl, ?_, ?_, ?_⟩
  · split <;> (try split) <;> omega
  · split <;> (try split) <;> omega
  refine for_range (lo := 0) (fun i σ H' => ∃ u1 u2 u3 u4 u5 u6 u7 u8 : Option V, σ = [some (.ref a), u1, u2, u3, u4, u5, u6, u7, u8] ∧ Same H H') ⟨none, none, none, none, none, none, none, none, rfl, Same.refl _⟩ ?_ ?_
  · rintro i σ H0 hi ⟨u1, u2, u3, u4, u5, u6, u7, u8, rfl, s0⟩
    have i9 : i < 9 := by
      rw [hl] at hi
      split at hi <;> (try split at hi) <;> omega
    refine ⟨_, rfl, _, rfl, a, ns, _, rfl, s0.seq hS, by omega, by omega, fun b H1 s1 hb0 hB => ?_⟩
    refine ⟨_, rfl, b, hide [b] H1, rfl, hB, hide_in (by simp), hide_le, fun x d J2 H2 g2 hd0 vd => ?_⟩
    have hb : H b = none := s0.free hb0
    have s2 : Same H H2 := fun a o e => g2.st.keep a o (ne_of_none e hb) ((s0.trans s1) a o e)
    have hd : Dp K H2 x d := dp_mono g2.jh _ _ hd0
    have ok : Ok d := vd.ok (by decide) (by decide)
    have vd' : Val 20 100000 d := vd.mono (by decide) (by decide)
    have oku := due_ok vd
    refine ⟨_, rfl, x, d, rfl, hd, ok, ?_⟩
    refine ⟨_, rfl, x, d, rfl, hd, vd', fun H3 s3 => ⟨_, rfl, iteF ?_⟩⟩
    have isN := dp_non hd
    refine ⟨_, rfl, rfl, _, rfl, ite2 (fun z => ?nothing) (fun z => ?thing)⟩
    case' nothing =>
      have en : d = .none := isN.mp (of_decide_eq_true z)
      refine ⟨(by show 2 ≤ sizeLine; decide), fun t ht => ⟨_, .tuple [.str "refused", .bool true], rfl, .tup (SqT.of upd_same) (.cons (.str _) (.cons (.bl _) .nil)), (by rw [en] at oku; exact oku), ?_⟩⟩
      have s4 : Same H2 (upd H3 t (.tup [.str "refused", .bl true])) := s3.trans (same_new ht _)
      have ed : PyData.tuple [.str "refused", .bool true] = dueD d := by rw [en]; rfl
      rw [ed]
    case' thing =>
      have en : d ≠ .none := fun y => z (decide_eq_true (isN.mpr y))
      have okl : Ok (.list (itD d)) := by rw [dueD_ne en] at oku; exact oku
      have ed : PyData.list (itD d) = dueD d := (dueD_ne en).symm
      rcases list_of (dp_mono s3 _ _ hd) vd' en with ⟨p, vs, ex, hs4, hvs⟩ | ⟨z4, ex, hz4, hvs⟩
      refine ⟨_, rfl, .inl ⟨p, vs, (by rw [ex]), .inl hs4, fun l hl4 => ⟨_, .list (itD d), rfl, .lst (SqL.of upd_same) (dpAll_mono (same_new hl4 _) _ _ hvs), okl, ?_⟩⟩⟩
      have s4 : Same H2 (upd H3 l (.lst vs)) := s3.trans (same_new hl4 _)
      rotate_left
      refine ⟨_, rfl, .inr ⟨z4, (by rw [ex]), hz4, fun l hl4 => ⟨_, .list (itD d), rfl, .lst (SqL.of upd_same) (dpAll_mono (same_new hl4 _) _ _ hvs), okl, ?_⟩⟩⟩
      have s4 : Same H2 (upd H3 l (.lst (sgn z4))) := s3.trans (same_new hl4 _)
      all_goals rw [ed]
    all_goals
      refine ⟨2, rfl, by decide, by decide, ?_⟩
      refine for_range (lo := 0) (n := 2) (fun i σ H' => ∃ u1 u2 u6 u7 u8 : Option V, σ = [some (.ref a), u1, u2, some x, some (.str d.shown), some (.str (dueD d).shown), u6, u7, u8] ∧ Same H2 H') ⟨_, _, _, _, _, rfl, s4⟩ ?_ ?_
      · rintro t σ H5 ht ⟨u1, u2, u6, u7, u8, rfl, s5⟩
        refine ⟨_, rfl, x, d, rfl, dp_mono s5 _ _ hd, vd', fun en2 t6 H6 s6 h6 => ?_, fun en2 u H6 s6 hu => ?_⟩
        · refine ⟨_, rfl, _, .tuple [.str "refused", .bool true], rfl, .tup (SqT.of h6) (.cons (.str _) (.cons (.bl _) .nil)), (by rw [en2] at oku; exact oku), ?_⟩
          refine ⟨_, rfl, rfl, _, rfl, iteNS (by rw [en2]; rfl) ⟨_, rfl, x, d, rfl, dp_mono (s5.trans s6) _ _ hd, ok, _, rfl, rfl, _, rfl, iteNS rfl ?_⟩⟩
          refine ⟨_, rfl, rfl, _, rfl, iteNS (isN.mpr en2) ?_⟩
          exact ⟨_, _, _, _, _, rfl, s5.trans s6⟩
        · have okl : Ok (.list (itD d)) := by rw [dueD_ne en2] at oku; exact oku
          have vL := vd.itemsL (by decide)
          refine ⟨_, rfl, _, .list (itD d), rfl, Nw.dp _ _ _ hu, okl, ?_⟩
          refine ⟨_, rfl, rfl, _, rfl, iteNS (by rw [dueD_ne en2]) ⟨_, rfl, x, d, rfl, dp_mono (s5.trans s6) _ _ hd, ok, _, rfl, rfl, _, rfl, iteNS rfl ?_⟩⟩
          refine ⟨_, rfl, rfl, _, rfl, ite2 (fun _ => ?_) (fun y => absurd (by rw [decide_eq_false fun w => en2 (isN.mp w)]; rfl) y)⟩
          have hu2 := hu
          simp only [Nw] at hu2
          obtain ⟨L, vs7, k7, rfl, nL, hL6, hk7, hA⟩ := hu2
          obtain rfl : k7 = 0 := by omega
          rw [List.replicate_zero, List.append_nil] at hL6
          have hlen := hA.len
          have hsz := vL.size
          simp only [szD] at hsz
          have hle := len_le_szAll (itD d)
          refine ⟨_, rfl, L, rfl, ⟨_, SqL.of hL6⟩, fun R hR => ?_⟩
          refine lc_list (K := K) (a := L) (xs := vs7) (fun i H' => Same H6 H' ∧ H' R = some (.lst ((List.replicate i true).map V.bl)))
            ⟨same_new hR _, upd_same⟩ (fun i H' _ z => SqL.of (z.1 _ _ hL6)) ?_ ?_
          · rintro j y H7 hy ⟨s7, hR7⟩
            obtain ⟨e, e1, e2⟩ := DpAll.get (NwAll.dp (K := K) _ _ _ hA) hy
            have hj : j < (itD d).length := (List.getElem?_eq_some_iff.mp e1).1
            refine ⟨rfl, _, rfl, _, e, rfl, dp_mono s7 _ _ e2, (vd.items (by decide) (List.mem_of_getElem? e1)).mono (by decide) (by decide), fun H8 s8 => ⟨_, s8 _ _ hR7, ?_, (fun b o e => ?_), ?_⟩⟩
            · rw [List.length_map, List.length_replicate, sizeLine_eq]
              omega
            · rw [upd_ne (ne_of_none e hR)]
              exact s8 _ _ (s7 _ _ e)
            · rw [upd_same, List.replicate_succ', List.map_append]
              rfl
          · rintro H7 ⟨s7, hR7⟩
            refine ⟨R, _, rfl, SqL.of hR7, _, rfl, ?_⟩
            have ea : (List.replicate vs7.length true).all id = true := List.all_eq_true.mpr fun b hb => List.eq_of_mem_replicate hb
            rw [ea]
            refine iteF ⟨_, rfl, .ref L, .list (itD d), _, 0, rfl, Nw.to (Nat.le_refl _) _ _ _ _ (fun _ z => z) (fun a o _ e => s7 _ _ e) hu, ?_, ?_, ?_, fun H8 ev => ?_⟩
            · exact Nat.lt_of_le_of_lt vL.deep (by decide)
            · exact Nat.le_trans vL.size (by decide)
            · have := nl_le (.list (itD d))
              have := vL.size
              omega
            · exact ⟨_, _, _, _, _, rfl, s5.trans (ev.old (s6.trans s7))⟩
      · rintro σ H5 ⟨u1, u2, u6, u7, u8, rfl, s5⟩
        exact ⟨_, _, _, _, _, _, _, _, rfl, s2.trans s5⟩
  · rintro σ H0 ⟨u1, u2, u3, u4, u5, u6, u7, u8, rfl, s0⟩
    refine ⟨_, .none, rfl, .non, ⟨rfl, by decide, by decide⟩, fun _ t H1 s1 ht => ?_, fun z => absurd rfl z⟩
    refine ⟨(by show 2 ≤ sizeLine; decide), fun t2 ht2 => ⟨.tuple [.str "refused", .bool true], .tuple [.str "refused", .bool true], .tup (SqT.of (same_new ht2 _ _ _ ht)) (.cons (.str _) (.cons (.bl _) .nil)), .tup (SqT.of upd_same) (.cons (.str _) (.cons (.bl _) .nil)), by decide +kernel, by decide +kernel, ?_⟩⟩
    refine ⟨_, rfl, ?_⟩
    rw [show PyData.eqv (.tuple [.str "refused", .bool true]) (.tuple [.str "refused", .bool true]) = true by decide +kernel]
    refine iteT ⟨.str "a", .str "a", rfl, .str _, ⟨by decide +kernel, by decide, by decide +kernel⟩, (fun z => nomatch z), fun u H2 s2 hu => ?_⟩
    refine ⟨(by show 1 ≤ sizeLine; decide), fun l hl1 => ⟨.list (itD (.str "a")), .list [.str "a"], dp_mono (same_new hl1 _) _ _ (Nw.dp _ _ _ hu), .lst (SqL.of upd_same) (.cons (.str _) .nil), by decide +kernel, by decide +kernel, _, rfl, ?_⟩⟩
    rw [show PyData.eqv (.list (itD (.str "a"))) (.list [.str "a"]) = true by decide +kernel]
    refine iteT ⟨.str "", .str "", rfl, .str _, ⟨by decide +kernel, by decide, by decide +kernel⟩, (fun z => nomatch z), fun u2 H3 s3 hu2 => ?_⟩
    refine ⟨(by show 0 ≤ sizeLine; decide), fun l2 hl2 => ⟨.list (itD (.str "")), .list [], dp_mono (same_new hl2 _) _ _ (Nw.dp _ _ _ hu2), .lst (SqL.of upd_same) .nil, by decide +kernel, by decide +kernel, ?_⟩⟩
    rw [show PyData.eqv (.list (itD (.str ""))) (.list []) = true by decide +kernel]
    exact q _
end
end Tx

namespace Tx
open PySem PySem.Spec PyProof.Rows L2
theorem main {P : Program} {w : World} {K : PySem.W.Frag} {mg : Str → Option Value} {base : Heap} {CI CT CE : Addr} (B : Bi mg) (hTake : Has K mg "_law_take" sTake) (hBag : Has K mg "_law_bag" sBag) (hText : Has K mg "_law_text" sText) (hSize : Has K mg "_law_size" sSize)
    (hValue : Has K mg "_law_value" sValue) (hGreat : Has K mg "_law_great" sGreat) (hCopied : Has K mg "copied" sCopied) (hKindOf : Has K mg "kind_of" sKindOf) (hSizeOf : Has K mg "size_of" sSizeOf) (hDepthOf : Has K mg "depth_of" sDepthOf) (hItems : Has K mg "items_of" sItemsL)
    (hDepth : Has K mg "_law_depth" sLawDepth) (hKind : Has K mg "_law_kind" sLawKind) (hLawItems : Has K mg "_law_items" sLawItems) (hSpoil : Has K mg "_law_spoil" sSpoil) (hTold : Has K mg "_law_is_told" sIsTold) (hLaw : Has K mg "law" sLaw)
    (XI : Err0 K mg "NoItems" CI) (XT : Cls0 mg "TextorlistError" CT) (XE : Cls0 mg "NoEntry" CE)
    (k1 : PySem.W.kitOne K (.ref CI) (.ref CT) = some true) (k2 : PySem.W.kitOne K (.ref CI) (.ref CE) = some false) :
    Dfn P w K mg base CX0 28 "law" ["_law_script"] (spLaw K) := by
  have DT := d_take (P := P) (w := w) (base := base) hTake B
  have DX := d_text hText B DT
  have DV := d_value hValue B DT DX (d_size hSize B 20) 6 (by decide)
  have DI := d_items_of (P := P) (w := w) (base := base) hItems B (d_copied hCopied B 21) XI
  exact d_law hLaw B (d_bag hBag B) (d_great hGreat B DT DX DV) (d_is_told hTold B (d_kind_of hKindOf B) (d_size_of hSizeOf B 21) (d_depth_of hDepthOf B 21) (d_law_kind hKind B) (d_size hSize B 21) (d_law_depth hDepth B 21))
    (d_law_items hLawItems B DI XI XT XE k1 k2) (d_spoil hSpoil B 22) (DI.calm fun vs H Q E h => by
      obtain ⟨v, d, e, hd, vd, ne, q⟩ := h
      exact ⟨v, d, e, hd, vd, fun z => absurd z ne, fun _ => q⟩)
end Tx

open PySem PySem.W PyProof.Rows
set_option maxRecDepth 100000 in
set_option maxHeartbeats 0 in
theorem PySem.Challenge.cw_textorlist_k02_kinds_sizes_depths_holds : PySem.Challenge.rw_textorlist_k02_kinds_sizes_depths.Holds := by
  w_on; o_law; k_head; (case hw => w_witness2)
  k_fill
  refine Tx.walkG (l := PySem.Challenge.rw_textorlist_k02_kinds_sizes_depths) (k := 28) (x := "_law_script") (sp := Tx.spLaw) rfl rfl ⟨rfl, by decide, by decide⟩ (fun w h Y => PySem.W.kIn_of Y) ?F (fun K H a ns h1 h2 => ⟨a, ns, rfl, h2, h1, fun _ => rfl⟩)
  case F =>
    intro w mg fa h KX G hmg base b1 b2
    refine' Tx.to_law hmg (Tx.main (base := base) (Tx.bi_of KX G ?b0 ?b1 ?b2 ?b3 ?b4 ?b5 ?b6 ?b7 ?b8 ?b9 ?b10 ?b11 ?b12 ?b13 ?b14 ?b15 ?b16 ?b17) (Tx.has_of (st := Tx.sTake) KX G ?ha0 ?hl0 ?hc0 ?hk0) (Tx.has_of (st := Tx.sBag) KX G ?ha1 ?hl1 ?hc1 ?hk1) (Tx.has_of (st := Tx.sText) KX G ?ha2 ?hl2 ?hc2 ?hk2) (Tx.has_of (st := Tx.sSize) KX G ?ha3 ?hl3 ?hc3 ?hk3) (Tx.has_of (st := Tx.sValue) KX G ?ha4 ?hl4 ?hc4 ?hk4) (Tx.has_of (st := Tx.sGreat) KX G ?ha5 ?hl5 ?hc5 ?hk5) (Tx.has_of (st := Tx.sCopied) KX G ?ha6 ?hl6 ?hc6 ?hk6) (Tx.has_of (st := Tx.sKindOf) KX G ?ha7 ?hl7 ?hc7 ?hk7) (Tx.has_of (st := Tx.sSizeOf) KX G ?ha8 ?hl8 ?hc8 ?hk8) (Tx.has_of (st := Tx.sDepthOf) KX G ?ha9 ?hl9 ?hc9 ?hk9) (Tx.has_of (st := Tx.sItemsL) KX G ?ha10 ?hl10 ?hc10 ?hk10) (Tx.has_of (st := Tx.sLawDepth) KX G ?ha11 ?hl11 ?hc11 ?hk11) (Tx.has_of (st := Tx.sLawKind) KX G ?ha12 ?hl12 ?hc12 ?hk12) (Tx.has_of (st := Tx.sLawItems) KX G ?ha13 ?hl13 ?hc13 ?hk13) (Tx.has_of (st := Tx.sSpoil) KX G ?ha14 ?hl14 ?hc14 ?hk14) (Tx.has_of (st := Tx.sIsTold) KX G ?ha15 ?hl15 ?hc15 ?hk15) (Tx.has_of (st := Tx.sLaw) KX G ?ha16 ?hl16 ?hc16 ?hk16) (Tx.err0_of KX G ?f0aC ?f0q ?f0ga ?f0gg ?f0kC ?f0eC ?f0tC ?f0hC ?f0cC ?f0gC ?f0uC ?f0oC ?f0sC) (Tx.cls0_of KX G ?cl0) (Tx.cls0_of KX G ?cl1) ?mo0 ?mo1)
    (case b0 => first | k_is | kit_is | k_exc | decide +kernel | rfl)
    (case b1 => first | k_is | kit_is | k_exc | decide +kernel | rfl)
    (case b2 => first | k_is | kit_is | k_exc | decide +kernel | rfl)
    (case b3 => first | k_is | kit_is | k_exc | decide +kernel | rfl)
    (case b4 => first | k_is | kit_is | k_exc | decide +kernel | rfl)
    (case b5 => first | k_is | kit_is | k_exc | decide +kernel | rfl)
    (case b6 => first | k_is | kit_is | k_exc | decide +kernel | rfl)
    (case b7 => first | k_is | kit_is | k_exc | decide +kernel | rfl)
    (case b8 => first | k_is | kit_is | k_exc | decide +kernel | rfl)
    (case b9 => first | k_is | kit_is | k_exc | decide +kernel | rfl)
    (case b10 => first | k_is | kit_is | k_exc | decide +kernel | rfl)
    (case b11 => first | k_is | kit_is | k_exc | decide +kernel | rfl)
    (case b12 => first | k_is | kit_is | k_exc | decide +kernel | rfl)
    (case b13 => first | k_is | kit_is | k_exc | decide +kernel | rfl)
    (case b14 => first | k_is | kit_is | k_exc | decide +kernel | rfl)
    (case b15 => first | k_is | kit_is | k_exc | decide +kernel | rfl)
    (case b16 => first | k_is | kit_is | k_exc | decide +kernel | rfl)
    (case b17 => first | k_is | kit_is | k_exc | decide +kernel | rfl)
    (case ha0 => first | k_is | kit_is | k_exc | decide +kernel | rfl)
    (case hl0 => first | k_is | kit_is | k_exc | decide +kernel | rfl)
    (case hc0 => first | k_is | kit_is | k_exc | decide +kernel | rfl)
    (case hk0 => first | k_is | kit_is | k_exc | decide +kernel | rfl)
    (case ha1 => first | k_is | kit_is | k_exc | decide +kernel | rfl)
    (case hl1 => first | k_is | kit_is | k_exc | decide +kernel | rfl)
    (case hc1 => first | k_is | kit_is | k_exc | decide +kernel | rfl)
    (case hk1 => first | k_is | kit_is | k_exc | decide +kernel | rfl)
    (case ha2 => first | k_is | kit_is | k_exc | decide +kernel | rfl)
    (case hl2 => first | k_is | kit_is | k_exc | decide +kernel | rfl)
    (case hc2 => first | k_is | kit_is | k_exc | decide +kernel | rfl)
    (case hk2 => first | k_is | kit_is | k_exc | decide +kernel | rfl)
    (case ha3 => first | k_is | kit_is | k_exc | decide +kernel | rfl)
    (case hl3 => first | k_is | kit_is | k_exc | decide +kernel | rfl)
    (case hc3 => first | k_is | kit_is | k_exc | decide +kernel | rfl)
    (case hk3 => first | k_is | kit_is | k_exc | decide +kernel | rfl)
    (case ha4 => first | k_is | kit_is | k_exc | decide +kernel | rfl)
    (case hl4 => first | k_is | kit_is | k_exc | decide +kernel | rfl)
    (case hc4 => first | k_is | kit_is | k_exc | decide +kernel | rfl)
    (case hk4 => first | k_is | kit_is | k_exc | decide +kernel | rfl)
    (case ha5 => first | k_is | kit_is | k_exc | decide +kernel | rfl)
    (case hl5 => first | k_is | kit_is | k_exc | decide +kernel | rfl)
    (case hc5 => first | k_is | kit_is | k_exc | decide +kernel | rfl)
    (case hk5 => first | k_is | kit_is | k_exc | decide +kernel | rfl)
    (case ha6 => first | k_is | kit_is | k_exc | decide +kernel | rfl)
    (case hl6 => first | k_is | kit_is | k_exc | decide +kernel | rfl)
    (case hc6 => first | k_is | kit_is | k_exc | decide +kernel | rfl)
    (case hk6 => first | k_is | kit_is | k_exc | decide +kernel | rfl)
    (case ha7 => first | k_is | kit_is | k_exc | decide +kernel | rfl)
    (case hl7 => first | k_is | kit_is | k_exc | decide +kernel | rfl)
    (case hc7 => first | k_is | kit_is | k_exc | decide +kernel | rfl)
    (case hk7 => first | k_is | kit_is | k_exc | decide +kernel | rfl)
    (case ha8 => first | k_is | kit_is | k_exc | decide +kernel | rfl)
    (case hl8 => first | k_is | kit_is | k_exc | decide +kernel | rfl)
    (case hc8 => first | k_is | kit_is | k_exc | decide +kernel | rfl)
    (case hk8 => first | k_is | kit_is | k_exc | decide +kernel | rfl)
    (case ha9 => first | k_is | kit_is | k_exc | decide +kernel | rfl)
    (case hl9 => first | k_is | kit_is | k_exc | decide +kernel | rfl)
    (case hc9 => first | k_is | kit_is | k_exc | decide +kernel | rfl)
    (case hk9 => first | k_is | kit_is | k_exc | decide +kernel | rfl)
    (case ha10 => first | k_is | kit_is | k_exc | decide +kernel | rfl)
    (case hl10 => first | k_is | kit_is | k_exc | decide +kernel | rfl)
    (case hc10 => first | k_is | kit_is | k_exc | decide +kernel | rfl)
    (case hk10 => first | k_is | kit_is | k_exc | decide +kernel | rfl)
    (case ha11 => first | k_is | kit_is | k_exc | decide +kernel | rfl)
    (case hl11 => first | k_is | kit_is | k_exc | decide +kernel | rfl)
    (case hc11 => first | k_is | kit_is | k_exc | decide +kernel | rfl)
    (case hk11 => first | k_is | kit_is | k_exc | decide +kernel | rfl)
    (case ha12 => first | k_is | kit_is | k_exc | decide +kernel | rfl)
    (case hl12 => first | k_is | kit_is | k_exc | decide +kernel | rfl)
    (case hc12 => first | k_is | kit_is | k_exc | decide +kernel | rfl)
    (case hk12 => first | k_is | kit_is | k_exc | decide +kernel | rfl)
    (case ha13 => first | k_is | kit_is | k_exc | decide +kernel | rfl)
    (case hl13 => first | k_is | kit_is | k_exc | decide +kernel | rfl)
    (case hc13 => first | k_is | kit_is | k_exc | decide +kernel | rfl)
    (case hk13 => first | k_is | kit_is | k_exc | decide +kernel | rfl)
    (case ha14 => first | k_is | kit_is | k_exc | decide +kernel | rfl)
    (case hl14 => first | k_is | kit_is | k_exc | decide +kernel | rfl)
    (case hc14 => first | k_is | kit_is | k_exc | decide +kernel | rfl)
    (case hk14 => first | k_is | kit_is | k_exc | decide +kernel | rfl)
    (case ha15 => first | k_is | kit_is | k_exc | decide +kernel | rfl)
    (case hl15 => first | k_is | kit_is | k_exc | decide +kernel | rfl)
    (case hc15 => first | k_is | kit_is | k_exc | decide +kernel | rfl)
    (case hk15 => first | k_is | kit_is | k_exc | decide +kernel | rfl)
    (case ha16 => first | k_is | kit_is | k_exc | decide +kernel | rfl)
    (case hl16 => first | k_is | kit_is | k_exc | decide +kernel | rfl)
    (case hc16 => first | k_is | kit_is | k_exc | decide +kernel | rfl)
    (case hk16 => first | k_is | kit_is | k_exc | decide +kernel | rfl)
    (case f0aC => first | k_is | kit_is | k_exc | decide +kernel | rfl)
    (case f0q => first | k_is | kit_is | k_exc | decide +kernel | rfl)
    (case f0ga => first | k_is | kit_is | k_exc | decide +kernel | rfl)
    (case f0gg => first | k_is | kit_is | k_exc | decide +kernel | rfl)
    (case f0kC => first | k_is | kit_is | k_exc | decide +kernel | rfl)
    (case f0eC => first | k_is | kit_is | k_exc | decide +kernel | rfl)
    (case f0tC => first | k_is | kit_is | k_exc | decide +kernel | rfl)
    (case f0hC => first | k_is | kit_is | k_exc | decide +kernel | rfl)
    (case f0cC => first | k_is | kit_is | k_exc | decide +kernel | rfl)
    (case f0gC => first | k_is | kit_is | k_exc | decide +kernel | rfl)
    (case f0uC => first | k_is | kit_is | k_exc | decide +kernel | rfl)
    (case f0oC => first | k_is | kit_is | k_exc | decide +kernel | rfl)
    (case f0sC => first | k_is | kit_is | k_exc | decide +kernel | rfl)
    (case cl0 => first | k_is | kit_is | k_exc | decide +kernel | rfl)
    (case cl1 => first | k_is | kit_is | k_exc | decide +kernel | rfl)
    (case mo0 => first | k_is | kit_is | k_exc | decide +kernel | rfl)
    (case mo1 => first | k_is | kit_is | k_exc | decide +kernel | rfl)
#print axioms PySem.Challenge.cw_textorlist_k02_kinds_sizes_depths_holds
